import PyProof.Rows.All
import Wide.All
import OpenK.AllK
import Wide.FinOn
import HandS.Words
import HandS.HeadHook4
import HandS.HeadWalk
import HandS.EndTab
import HandS.ExcIs
import HandS.Codes
import HandS.ForMost
import HandS.TupSets
import HandS.TupAny
import HandS.More
import HandS.SortInts
import HandS.SetFor
import HandS.Strs
import HandS.Zip
import KE.GoesEnum
import HandS.TupMul
import HandS.Base
import HandS.Call
import HandS.List
import HandS.Comp
import HandS.Ends
import HandS.Dict
import HandS.Iter
import HandS.Exc
import HandS.Lambda
import KE.KeyNested
import PyProof.DictRoadsH
import HandS.Walk
import HandS.TryOnly
import HandS.ExcOwn
import HandS.WordsExc
import HandS.IsInst
import HandS.Deep
import HandS.Style
import HandS.Defaults
import HandS.Head0
import HandS.Head1
import HandS.Head2
import HandS.HeadEnd
import HandS.HeadHook1
import HandS.HeadHook2
import HandS.HotCalls
import HandS.CallRecv
import HandS.Flow
import HandS.DeepEq
import HandS.OwnEq
import HandS.SortRule
import KE.KSortTupAny
import HandS.Small
import HandS.Conv
import PyProof.SliceList
import KE.DataMinMax
import KE.SortData
import KE.KDictDisplayH
import PySem.Challenge.RW_hangrooms_k97_edges_by_hand
set_option Elab.async false
set_option linter.all false
set_option maxRecDepth 100000
set_option maxHeartbeats 1000000
namespace Hr
open PySem PySem.Spec PyProof.Rows L2
/-! what the head of the run looks at -/
def excN : List Str := ["NoHouse", "NoPicture", "NoRoom", "NoWall", "NoName", "NoDays", "Taken", "NoHanging", "TooBright", "NoWay", "Elsewhere", "NoSpace", "TooHeavy", "NoBack", "NoText"]
def clA (K : PySem.W.Frag) (c : Nat) : Addr := He.ga K (excN.getD c "ShowError")
def oneB (K : PySem.W.Frag) (D : Addr) : Bool :=
  He.eqO (PySem.W.findIn K (.ref D) "__getattribute__") (some (some (.builtin "BaseException.__getattribute__"))) && He.eqO (PySem.W.findIn K (.ref D) "__getattr__") (some none) &&
  decide (PySem.W.subIn K (.ref D) (.type "BaseException") = some true) && PySem.W.hasDictIn K D && He.eqO (PySem.W.findIn K (.ref D) "__class__") (some (some (.builtin "object.__class__"))) &&
  He.eqO (PySem.W.specialIn K (.builtin "object.__class__") "__get__") (some (some (.builtin "getset_descriptor.__get__"))) && decide (PySem.W.takesIn K (.builtin "object.__class__") = some true) && decide (PySem.W.mroIn K D (.type "object") = some true)
def excB (K : PySem.W.Frag) : Bool := (List.range 15).all fun c => oneB K (clA K c) && decide (PySem.W.kitOne K (.ref (clA K c)) (.type "ValueError") = some true) && decide (PySem.W.exmOne K (.ref (clA K c)) (.ref (He.ga K "ShowError")) = some true) &&
  (List.range 15).all fun k => decide (PySem.W.kitOne K (.ref (clA K c)) (.ref (clA K k)) = some (c == k))
def excS (K : PySem.W.Frag) : Bool := (List.range 15).all fun c => decide (PySem.W.exmOne K (.ref (clA K c)) (.ref (He.ga K "ShowError")) = some true)
def ndB (tf : List He.Defn) (K : PySem.W.Frag) : Bool := decide ((tf.map fun p => (He.cT K p).2).Nodup) && tf.all fun p => p.2.isNone
end Hr

set_option maxHeartbeats 4000000
namespace Law
open PySem PySem.Spec PyProof.Rows L2 Hr
def top (i : Nat) : Stmt := PySem.Challenge.pw_hangrooms_k97_edges_by_hand.main.body.getD i (.Pass ⟨0, 0, 0, 0⟩)
abbrev s_is_whole : Stmt := top 22
abbrev s_are_numbers : Stmt := top 23
abbrev s_is_wall : Stmt := top 24
abbrev s_is_room : Stmt := top 25
abbrev s_are_doors : Stmt := top 26
abbrev s_is_house : Stmt := top 27
abbrev s_is_picture : Stmt := top 28
abbrev s_look_house : Stmt := top 29
abbrev s_look_picture : Stmt := top 30
abbrev s_look_room : Stmt := top 31
abbrev s_look_wall : Stmt := top 32
abbrev s_walls_in : Stmt := top 33
abbrev s_doors_by : Stmt := top 36
abbrev s_side_of : Stmt := top 37
abbrev s_nexts : Stmt := top 38
abbrev s_steps_from : Stmt := top 39
abbrev s_shortest : Stmt := top 40
abbrev s_way : Stmt := top 41
abbrev s_rooms_for : Stmt := top 42
abbrev s_highest : Stmt := top 43
abbrev s_is_name : Stmt := top 48
abbrev s_is_day : Stmt := top 49
abbrev s_look_day : Stmt := top 50
abbrev s_look_days : Stmt := top 51
abbrev s_do_meet : Stmt := top 52
abbrev s_Show___init__ : Stmt := (C8.clsBody (top 53)).getD 0 (.Pass ⟨0, 0, 0, 0⟩)
abbrev s_Show_house : Stmt := (C8.clsBody (top 53)).getD 1 (.Pass ⟨0, 0, 0, 0⟩)
abbrev s_Show_step : Stmt := (C8.clsBody (top 53)).getD 2 (.Pass ⟨0, 0, 0, 0⟩)
abbrev s_Show_look : Stmt := (C8.clsBody (top 53)).getD 3 (.Pass ⟨0, 0, 0, 0⟩)
abbrev s_Show_with_hung : Stmt := (C8.clsBody (top 53)).getD 4 (.Pass ⟨0, 0, 0, 0⟩)
abbrev s_Show_lend : Stmt := (C8.clsBody (top 53)).getD 5 (.Pass ⟨0, 0, 0, 0⟩)
abbrev s_Show_loan : Stmt := (C8.clsBody (top 53)).getD 6 (.Pass ⟨0, 0, 0, 0⟩)
abbrev s_Show_names : Stmt := (C8.clsBody (top 53)).getD 7 (.Pass ⟨0, 0, 0, 0⟩)
abbrev s_Show_look_loan : Stmt := (C8.clsBody (top 53)).getD 11 (.Pass ⟨0, 0, 0, 0⟩)
abbrev s_Show_look_place : Stmt := (C8.clsBody (top 53)).getD 12 (.Pass ⟨0, 0, 0, 0⟩)
abbrev s_Show_look_hanging : Stmt := (C8.clsBody (top 53)).getD 13 (.Pass ⟨0, 0, 0, 0⟩)
abbrev s_Show_hang : Stmt := (C8.clsBody (top 53)).getD 14 (.Pass ⟨0, 0, 0, 0⟩)
abbrev s_Show_hangings : Stmt := (C8.clsBody (top 53)).getD 15 (.Pass ⟨0, 0, 0, 0⟩)
abbrev s_Show_hanging_on : Stmt := (C8.clsBody (top 53)).getD 16 (.Pass ⟨0, 0, 0, 0⟩)
abbrev s_Show_where : Stmt := (C8.clsBody (top 53)).getD 17 (.Pass ⟨0, 0, 0, 0⟩)
abbrev s_Show_twin : Stmt := (C8.clsBody (top 53)).getD 25 (.Pass ⟨0, 0, 0, 0⟩)
abbrev s_hung_on : Stmt := top 55
abbrev s_rows_on : Stmt := top 56
abbrev s_stretches : Stmt := top 57
abbrev s_free : Stmt := top 58
abbrev s_bare : Stmt := top 59
abbrev s_days_hung : Stmt := top 61
abbrev s_idle_days : Stmt := top 62
abbrev s_dues : Stmt := top 63
abbrev s_covered_on : Stmt := top 64
abbrev s_covered : Stmt := top 65
abbrev s_fullest : Stmt := top 66
abbrev s_place_ahead : Stmt := top 68
abbrev s_carried : Stmt := top 69
abbrev s_room_of : Stmt := top 70
abbrev s_doors_passed : Stmt := top 71
abbrev s_days_of : Stmt := top 72
abbrev s_can_hang : Stmt := top 74
abbrev s_places_for : Stmt := top 75
abbrev s_longest_stay : Stmt := top 76
abbrev s_seen : Stmt := top 78
abbrev s_tour : Stmt := top 79
abbrev s__law_cell : Stmt := top 81
abbrev s__law_pick : Stmt := top 82
abbrev s__law_class : Stmt := top 83
abbrev s__law_told : Stmt := top 84
abbrev s_law : Stmt := top 85
def q_is_whole : He.DefD := ⟨("is_whole", none), "is_whole", "is_whole", defArgs s_is_whole, defBody s_is_whole, defScope s_is_whole, [], []⟩
def q_are_numbers : He.DefD := ⟨("are_numbers", none), "are_numbers", "are_numbers", defArgs s_are_numbers, defBody s_are_numbers, defScope s_are_numbers, [], []⟩
def q_is_wall : He.DefD := ⟨("is_wall", none), "is_wall", "is_wall", defArgs s_is_wall, defBody s_is_wall, defScope s_is_wall, [], []⟩
def q_is_room : He.DefD := ⟨("is_room", none), "is_room", "is_room", defArgs s_is_room, defBody s_is_room, defScope s_is_room, [], []⟩
def q_are_doors : He.DefD := ⟨("are_doors", none), "are_doors", "are_doors", defArgs s_are_doors, defBody s_are_doors, defScope s_are_doors, [], []⟩
def q_is_house : He.DefD := ⟨("is_house", none), "is_house", "is_house", defArgs s_is_house, defBody s_is_house, defScope s_is_house, [], []⟩
def q_is_picture : He.DefD := ⟨("is_picture", none), "is_picture", "is_picture", defArgs s_is_picture, defBody s_is_picture, defScope s_is_picture, [], []⟩
def q_look_house : He.DefD := ⟨("look_house", none), "look_house", "look_house", defArgs s_look_house, defBody s_look_house, defScope s_look_house, [], []⟩
def q_look_picture : He.DefD := ⟨("look_picture", none), "look_picture", "look_picture", defArgs s_look_picture, defBody s_look_picture, defScope s_look_picture, [], []⟩
def q_look_room : He.DefD := ⟨("look_room", none), "look_room", "look_room", defArgs s_look_room, defBody s_look_room, defScope s_look_room, [], []⟩
def q_look_wall : He.DefD := ⟨("look_wall", none), "look_wall", "look_wall", defArgs s_look_wall, defBody s_look_wall, defScope s_look_wall, [], []⟩
def q_walls_in : He.DefD := ⟨("walls_in", none), "walls_in", "walls_in", defArgs s_walls_in, defBody s_walls_in, defScope s_walls_in, [], []⟩
def q_doors_by : He.DefD := ⟨("doors_by", none), "doors_by", "doors_by", defArgs s_doors_by, defBody s_doors_by, defScope s_doors_by, [], []⟩
def q_side_of : He.DefD := ⟨("side_of", none), "side_of", "side_of", defArgs s_side_of, defBody s_side_of, defScope s_side_of, [], []⟩
def q_nexts : He.DefD := ⟨("nexts", none), "nexts", "nexts", defArgs s_nexts, defBody s_nexts, defScope s_nexts, [], []⟩
def q_steps_from : He.DefD := ⟨("steps_from", none), "steps_from", "steps_from", defArgs s_steps_from, defBody s_steps_from, defScope s_steps_from, [], []⟩
def q_shortest : He.DefD := ⟨("shortest", none), "shortest", "shortest", defArgs s_shortest, defBody s_shortest, defScope s_shortest, [], []⟩
def q_way : He.DefD := ⟨("way", none), "way", "way", defArgs s_way, defBody s_way, defScope s_way, [], []⟩
def q_rooms_for : He.DefD := ⟨("rooms_for", none), "rooms_for", "rooms_for", defArgs s_rooms_for, defBody s_rooms_for, defScope s_rooms_for, [], []⟩
def q_highest : He.DefD := ⟨("highest", none), "highest", "highest", defArgs s_highest, defBody s_highest, defScope s_highest, [], []⟩
def q_is_name : He.DefD := ⟨("is_name", none), "is_name", "is_name", defArgs s_is_name, defBody s_is_name, defScope s_is_name, [], []⟩
def q_is_day : He.DefD := ⟨("is_day", none), "is_day", "is_day", defArgs s_is_day, defBody s_is_day, defScope s_is_day, [], []⟩
def q_look_day : He.DefD := ⟨("look_day", none), "look_day", "look_day", defArgs s_look_day, defBody s_look_day, defScope s_look_day, [], []⟩
def q_look_days : He.DefD := ⟨("look_days", none), "look_days", "look_days", defArgs s_look_days, defBody s_look_days, defScope s_look_days, [], []⟩
def q_do_meet : He.DefD := ⟨("do_meet", none), "do_meet", "do_meet", defArgs s_do_meet, defBody s_do_meet, defScope s_do_meet, [], []⟩
def q_Show___init__ : He.DefD := ⟨("Show", some "__init__"), "__init__", "Show.__init__", defArgs s_Show___init__, defBody s_Show___init__, defScope s_Show___init__, [], []⟩
def q_Show_house : He.DefD := ⟨("Show", some "house"), "house", "Show.house", defArgs s_Show_house, defBody s_Show_house, defScope s_Show_house, [], []⟩
def q_Show_step : He.DefD := ⟨("Show", some "step"), "step", "Show.step", defArgs s_Show_step, defBody s_Show_step, defScope s_Show_step, [], []⟩
def q_Show_look : He.DefD := ⟨("Show", some "look"), "look", "Show.look", defArgs s_Show_look, defBody s_Show_look, defScope s_Show_look, [], []⟩
def q_Show_with_hung : He.DefD := ⟨("Show", some "with_hung"), "with_hung", "Show.with_hung", defArgs s_Show_with_hung, defBody s_Show_with_hung, defScope s_Show_with_hung, [], []⟩
def q_Show_lend : He.DefD := ⟨("Show", some "lend"), "lend", "Show.lend", defArgs s_Show_lend, defBody s_Show_lend, defScope s_Show_lend, [], []⟩
def q_Show_loan : He.DefD := ⟨("Show", some "loan"), "loan", "Show.loan", defArgs s_Show_loan, defBody s_Show_loan, defScope s_Show_loan, [], []⟩
def q_Show_names : He.DefD := ⟨("Show", some "names"), "names", "Show.names", defArgs s_Show_names, defBody s_Show_names, defScope s_Show_names, [], []⟩
def q_Show_look_loan : He.DefD := ⟨("Show", some "look_loan"), "look_loan", "Show.look_loan", defArgs s_Show_look_loan, defBody s_Show_look_loan, defScope s_Show_look_loan, [], []⟩
def q_Show_look_place : He.DefD := ⟨("Show", some "look_place"), "look_place", "Show.look_place", defArgs s_Show_look_place, defBody s_Show_look_place, defScope s_Show_look_place, [], []⟩
def q_Show_look_hanging : He.DefD := ⟨("Show", some "look_hanging"), "look_hanging", "Show.look_hanging", defArgs s_Show_look_hanging, defBody s_Show_look_hanging, defScope s_Show_look_hanging, [], []⟩
def q_Show_hang : He.DefD := ⟨("Show", some "hang"), "hang", "Show.hang", defArgs s_Show_hang, defBody s_Show_hang, defScope s_Show_hang, [], []⟩
def q_Show_hangings : He.DefD := ⟨("Show", some "hangings"), "hangings", "Show.hangings", defArgs s_Show_hangings, defBody s_Show_hangings, defScope s_Show_hangings, [], []⟩
def q_Show_hanging_on : He.DefD := ⟨("Show", some "hanging_on"), "hanging_on", "Show.hanging_on", defArgs s_Show_hanging_on, defBody s_Show_hanging_on, defScope s_Show_hanging_on, [], []⟩
def q_Show_where : He.DefD := ⟨("Show", some "where"), "where", "Show.where", defArgs s_Show_where, defBody s_Show_where, defScope s_Show_where, [], []⟩
def q_Show_twin : He.DefD := ⟨("Show", some "twin"), "twin", "Show.twin", defArgs s_Show_twin, defBody s_Show_twin, defScope s_Show_twin, [], []⟩
def q_hung_on : He.DefD := ⟨("hung_on", none), "hung_on", "hung_on", defArgs s_hung_on, defBody s_hung_on, defScope s_hung_on, [], []⟩
def q_rows_on : He.DefD := ⟨("rows_on", none), "rows_on", "rows_on", defArgs s_rows_on, defBody s_rows_on, defScope s_rows_on, [], []⟩
def q_stretches : He.DefD := ⟨("stretches", none), "stretches", "stretches", defArgs s_stretches, defBody s_stretches, defScope s_stretches, [], []⟩
def q_free : He.DefD := ⟨("free", none), "free", "free", defArgs s_free, defBody s_free, defScope s_free, [], []⟩
def q_bare : He.DefD := ⟨("bare", none), "bare", "bare", defArgs s_bare, defBody s_bare, defScope s_bare, [], []⟩
def q_days_hung : He.DefD := ⟨("days_hung", none), "days_hung", "days_hung", defArgs s_days_hung, defBody s_days_hung, defScope s_days_hung, [], []⟩
def q_idle_days : He.DefD := ⟨("idle_days", none), "idle_days", "idle_days", defArgs s_idle_days, defBody s_idle_days, defScope s_idle_days, [], []⟩
def q_dues : He.DefD := ⟨("dues", none), "dues", "dues", defArgs s_dues, defBody s_dues, defScope s_dues, [], []⟩
def q_covered_on : He.DefD := ⟨("covered_on", none), "covered_on", "covered_on", defArgs s_covered_on, defBody s_covered_on, defScope s_covered_on, [], []⟩
def q_covered : He.DefD := ⟨("covered", none), "covered", "covered", defArgs s_covered, defBody s_covered, defScope s_covered, [], []⟩
def q_fullest : He.DefD := ⟨("fullest", none), "fullest", "fullest", defArgs s_fullest, defBody s_fullest, defScope s_fullest, [], []⟩
def q_place_ahead : He.DefD := ⟨("place_ahead", none), "place_ahead", "place_ahead", defArgs s_place_ahead, defBody s_place_ahead, defScope s_place_ahead, [], []⟩
def q_carried : He.DefD := ⟨("carried", none), "carried", "carried", defArgs s_carried, defBody s_carried, defScope s_carried, [], []⟩
def q_room_of : He.DefD := ⟨("room_of", none), "room_of", "room_of", defArgs s_room_of, defBody s_room_of, defScope s_room_of, [], []⟩
def q_doors_passed : He.DefD := ⟨("doors_passed", none), "doors_passed", "doors_passed", defArgs s_doors_passed, defBody s_doors_passed, defScope s_doors_passed, [], []⟩
def q_days_of : He.DefD := ⟨("days_of", none), "days_of", "days_of", defArgs s_days_of, defBody s_days_of, defScope s_days_of, [], []⟩
def q_can_hang : He.DefD := ⟨("can_hang", none), "can_hang", "can_hang", defArgs s_can_hang, defBody s_can_hang, defScope s_can_hang, [], []⟩
def q_places_for : He.DefD := ⟨("places_for", none), "places_for", "places_for", defArgs s_places_for, defBody s_places_for, defScope s_places_for, [], []⟩
def q_longest_stay : He.DefD := ⟨("longest_stay", none), "longest_stay", "longest_stay", defArgs s_longest_stay, defBody s_longest_stay, defScope s_longest_stay, [], []⟩
def q_seen : He.DefD := ⟨("seen", none), "seen", "seen", defArgs s_seen, defBody s_seen, defScope s_seen, [], []⟩
def q_tour : He.DefD := ⟨("tour", none), "tour", "tour", defArgs s_tour, defBody s_tour, defScope s_tour, [], []⟩
def q__law_cell : He.DefD := ⟨("_law_cell", none), "_law_cell", "_law_cell", defArgs s__law_cell, defBody s__law_cell, defScope s__law_cell, [], []⟩
def q__law_pick : He.DefD := ⟨("_law_pick", none), "_law_pick", "_law_pick", defArgs s__law_pick, defBody s__law_pick, defScope s__law_pick, [], []⟩
def q__law_class : He.DefD := ⟨("_law_class", none), "_law_class", "_law_class", defArgs s__law_class, defBody s__law_class, defScope s__law_class, [], []⟩
def q__law_told : He.DefD := ⟨("_law_told", none), "_law_told", "_law_told", defArgs s__law_told, defBody s__law_told, defScope s__law_told, [], []⟩
def q_law : He.DefD := ⟨("law", none), "law", "law", defArgs s_law, defBody s_law, defScope s_law, [], []⟩
def fn : List He.DefD := [q_is_whole, q_are_numbers, q_is_wall, q_is_room, q_are_doors, q_is_house, q_is_picture, q_look_house, q_look_picture, q_look_room, q_look_wall, q_walls_in, q_doors_by, q_side_of, q_nexts, q_steps_from, q_shortest, q_way, q_rooms_for, q_highest, q_is_name, q_is_day, q_look_day, q_look_days, q_do_meet, q_Show___init__, q_Show_house, q_Show_step, q_Show_look, q_Show_with_hung, q_Show_lend, q_Show_loan, q_Show_names, q_Show_look_loan, q_Show_look_place, q_Show_look_hanging, q_Show_hang, q_Show_hangings, q_Show_hanging_on, q_Show_where, q_Show_twin, q_hung_on, q_rows_on, q_stretches, q_free, q_bare, q_days_hung, q_idle_days, q_dues, q_covered_on, q_covered, q_fullest, q_place_ahead, q_carried, q_room_of, q_doors_passed, q_days_of, q_can_hang, q_places_for, q_longest_stay, q_seen, q_tour, q__law_cell, q__law_pick, q__law_class, q__law_told, q_law]
def fa : List He.Fa := [.glo "is_whole", .glo "are_numbers", .glo "is_wall", .glo "is_room", .glo "are_doors", .glo "is_house", .glo "is_picture", .glo "look_house", .glo "look_picture", .glo "look_room", .glo "look_wall", .glo "walls_in", .glo "doors_by", .glo "side_of", .glo "nexts", .glo "steps_from", .glo "shortest", .glo "way", .glo "rooms_for", .glo "highest", .glo "is_name", .glo "is_day", .glo "look_day", .glo "look_days", .glo "do_meet", .meth "Show" "__init__", .meth "Show" "house", .meth "Show" "step", .meth "Show" "look", .meth "Show" "with_hung", .meth "Show" "lend", .meth "Show" "loan", .meth "Show" "names", .meth "Show" "look_loan", .meth "Show" "look_place", .meth "Show" "look_hanging", .meth "Show" "hang", .meth "Show" "hangings", .meth "Show" "hanging_on", .meth "Show" "where", .meth "Show" "twin", .glo "hung_on", .glo "rows_on", .glo "stretches", .glo "free", .glo "bare", .glo "days_hung", .glo "idle_days", .glo "dues", .glo "covered_on", .glo "covered", .glo "fullest", .glo "place_ahead", .glo "carried", .glo "room_of", .glo "doors_passed", .glo "days_of", .glo "can_hang", .glo "places_for", .glo "longest_stay", .glo "seen", .glo "tour", .glo "_law_cell", .glo "_law_pick", .glo "_law_class", .glo "_law_told", .glo "law", .free "ValueError", .free "all", .free "any", .free "bool", .free "dict", .free "enumerate", .free "int", .free "isinstance", .free "len", .free "list", .free "max", .free "min", .free "range", .free "set", .free "sorted", .free "str", .free "sum", .free "tuple", .free "zip", .int "HIGHEST" 9, .int "LAST" 99, .int "LONGEST" 4, .int "MOST_DOORS" 8, .int "MOST_ROOMS" 5, .int "MOST_WALLS" 3, .str "SMALL" "abcdefghijklmnopqrstuvwxyz", .glo "Elsewhere", .exc "Elsewhere", .glo "NoBack", .exc "NoBack", .glo "NoDays", .exc "NoDays", .glo "NoHanging", .exc "NoHanging", .glo "NoHouse", .exc "NoHouse", .glo "NoName", .exc "NoName", .glo "NoPicture", .exc "NoPicture", .glo "NoRoom", .exc "NoRoom", .glo "NoSpace", .exc "NoSpace", .glo "NoText", .exc "NoText", .glo "NoWall", .exc "NoWall", .glo "NoWay", .exc "NoWay", .glo "ShowError", .glo "Taken", .exc "Taken", .glo "TooBright", .exc "TooBright", .glo "TooHeavy", .exc "TooHeavy", .glo "Show", .mkr "Show", .cls "Show", .noat "Show" "own", .noat "Show" "state", .noat "Show" "past", .noat "Show" "later"]
def tf : List He.Defn := [("law", none)]
def ex (K : PySem.W.Frag) : Bool := excB K && ndB tf K
abbrev R : PySem.W.OpenRow := PySem.W.OpenLaw.row PySem.Challenge.rw_hangrooms_k97_edges_by_hand
abbrev hk : PySem.W.Hook := He.hookX 4 fa fn [] tf ex
def ob (s : PySem.W.SharedT) : He.AlX := He.obsX 4 fa fn [] tf ex (HandSHeadRun.getT s)
theorem ob_eq (s : PySem.W.SharedT) : ob s = hk.obs s.abs := He.obsX_eq (HandSHeadRun.getT_eq s)
def loose0 : List Str := ["is_whole", "are_numbers", "is_wall", "is_room", "are_doors", "is_house", "is_picture", "look_house", "look_picture", "look_room", "look_wall", "walls_in", "doors_by", "side_of", "nexts"]
def loose1 : List Str := ["steps_from", "shortest", "way", "rooms_for", "highest", "is_name", "is_day", "look_day", "look_days", "do_meet", "hung_on", "rows_on", "stretches", "free", "bare"]
def loose2 : List Str := ["days_hung", "idle_days", "dues", "covered_on", "covered", "fullest", "place_ahead", "carried", "room_of", "doors_passed", "days_of", "can_hang", "places_for", "longest_stay", "seen"]
def loose3 : List Str := ["tour", "_law_cell", "_law_pick", "_law_class", "_law_told", "_wall", "MOST_ROOMS", "MOST_WALLS", "MOST_DOORS", "HIGHEST", "LAST", "LONGEST", "SMALL", "ShowError", "NoHouse"]
def loose4 : List Str := ["NoPicture", "NoName", "NoRoom", "NoWall", "NoDays", "Taken", "TooBright", "NoWay", "Elsewhere", "NoSpace", "TooHeavy", "NoHanging", "NoBack", "NoText", "Show"]
abbrev loose : List Str := loose0 ++ loose1 ++ loose2 ++ loose3 ++ loose4
theorem run (w : World) : HandSHeadRun.RunEq R (PySem.W.view R.prog [85]) hk ob 20000 loose w := by
  intro os
  kernel_rfl
end Law
set_option Elab.async false
set_option linter.all false
set_option maxRecDepth 100000
set_option maxHeartbeats 3200000
namespace Hr
open PySem PySem.Spec PyProof.Rows L2
section
variable {P : Program} {w : World} {A : Around} {E : Value → Shared → Prop} {s : Shared}
theorem set_of_tuple {l : Addr} {iz : Array Value} (kz : List (Addr × List Int)) {Q : Value → Shared → Prop} (hq0 : A.handled = none) (hlx : s.heap.IsTuple l iz) (hit : iz.toList = kz.map fun p => Value.ref p.1)
    (hkx : ∀ p ∈ kz, IsT P w s.heap p.2 p.1) (hfw : kz.length < 64) (hu : A.units + 3 < cLine)
    (h : ∀ (h' : Heap) (tk : Nat) L es ep t, SetTR P w h' s.heap.objs.size L es ep t → Got kz kz.length L → (∀ b o, s.heap.get? b = some o → h'.get? b = some o) → Q (.ref s.heap.objs.size) { s with heap := h', toks := tk }) :
    wpAny (model P w) A (call (.type "set") [.ref l]) Q E s := by
  have hsz0 : iz.size = kz.length := by
    have q := congrArg List.length hit
    rw [Array.length_toList, List.length_map] at q
    exact q
  obtain ⟨c, tl, hm0⟩ := F.called_set.mro
  have hmd := F.called_set.made
  have hsb0 := F.called_set.sub
  refine wpAny_call (codeAny_of_tree ?_)
  show wpAny _ _ (callAny (.type "set") _) _ _ _
  refine wpAny_pure ⟨Code.quiet_builtin _ (by decide +kernel), codeAny_builtin F.entry_type_call ?_⟩
  rw [Around.under_plain (weight_type_call_type "set" [.ref l] []) rfl]
  have h1 := F.called_set.notType
  have h2 := F.called_set.canCreate
  have hct0 := F.typeCall_set_1 (.ref l)
  repeat (any_goals (first | assumption | wp_step))

  refine codeAny_mono (code_set_led1 (.ref l) (E := E) (Q₁ := fun obj s₁ => obj = .ref s.heap.objs.size ∧ s₁ = { s with heap := s.heap.push { cls := .type "set", dict := none, data := .set #[] 0 (.fresh 0 0 (!w.params.followText "set-order")) } }) ⟨rfl, rfl⟩) fun r s₁ hr => ?_
  cases r with
  | error e => exact hr
  | ok fl =>
    cases fl with
    | ret obj =>
      obtain ⟨rfl, rfl⟩ := hr
      have hW : (s.heap.push { cls := .type "set", dict := none, data := .set #[] 0 (.fresh 0 0 (!w.params.followText "set-order")) }).get? s.heap.objs.size = some { cls := .type "set", dict := none, data := .set #[] 0 (.fresh 0 0 (!w.params.followText "set-order")) } := Heap.get?_push_size _ rfl
      have hTy : Shared.TypeIs { s with heap := s.heap.push { cls := .type "set", dict := none, data := .set #[] 0 (.fresh 0 0 (!w.params.followText "set-order")) } } (.ref s.heap.objs.size) "set" := ⟨_, hW, rfl⟩
      have hli0 := F.called_set.init.lookup
      have hbi0 := F.called_set.init.bind (.ref s.heap.objs.size)
      repeat (any_goals (first | assumption | wp_step))

      refine codeAny_mono (codeAny_call_builtin (R := wants (fun r s₂ => r = .none ∧ ∃ h' tk L es ep t, s₂ = { s with heap := h', toks := tk } ∧ SetTR P w h' s.heap.objs.size L es ep t ∧ Got kz kz.length L ∧
          (∀ b o, s.heap.get? b = some o → h'.get? b = some o)) E) F.called_set.init.plain F.entry_set_init (check_set_init_1 hTy ?_)) fun r₂ s₂ hr₂ => ?_
      · obtain ⟨ol, hox, hcl, nl, hdl⟩ := hlx
        obtain ⟨ocls, odict, odata, oslots⟩ := ol
        simp only at hcl hdl
        subst hcl; subst hdl
        have hox' : (s.heap.push { cls := .type "set", dict := none, data := .set #[] 0 (.fresh 0 0 (!w.params.followText "set-order")) }).get? l = some { cls := .type "tuple", dict := odict, data := .seq iz nl, slots := oslots } := Heap.get?_push_of_some _ hox
        have hss := F.sub_tuple_set
        have hsf0 := F.sub_tuple_frozenset
        have hne0 : (Value.type "tuple" == Value.type "dict") = false := by decide
        have hl0 : (s.heap.push { cls := .type "set", dict := none, data := .set #[] 0 (.fresh 0 0 (!w.params.followText "set-order")) }).IsTuple l iz := ⟨_, hox', rfl, nl, rfl⟩
        unfold Builtin.«set.__init__» noKeywords Builtin.Frozenset.updateFrom
        generalize hPI : pyIter = PI
        wp_walk
        subst hPI

        refine wpAny_pyIter_tuple hl0 ?_
        refine wpAny_bind (wpAny_runValue ?_)
        have hlW : l < s.heap.objs.size := Heap.lt_size hox
        have hh3 : A.in1.in1.in1.handled = none := by simp [hq0]
        have hz0 : (s.heap.push { cls := .type "set", dict := none, data := .set #[] 0 (.fresh 0 0 (!w.params.followText "set-order")) }).objs.size = s.heap.objs.size + 1 := Heap.size_push ..
        have hnI : l ≠ (s.heap.push { cls := .type "set", dict := none, data := .set #[] 0 (.fresh 0 0 (!w.params.followText "set-order")) }).objs.size := by
          rw [Heap.size_push]; exact Nat.ne_of_lt (Nat.lt_succ_of_lt hlW)
        have hWf : s.heap.objs.size ∉ [(s.heap.push { cls := .type "set", dict := none, data := .set #[] 0 (.fresh 0 0 (!w.params.followText "set-order")) }).objs.size, l] := by
          rw [Heap.size_push]; simp only [List.mem_cons, List.mem_singleton, List.not_mem_nil, or_false, not_or]
          exact ⟨Nat.ne_of_lt (Nat.lt_succ_self _), Nat.ne_of_gt hlW⟩
        have hvl : ∀ (i : Nat) (v : Value), iz[i]? = some v → ∃ p, kz[i]? = some p ∧ v = .ref p.1 := fun i v hv => by
          have q : iz.toList[i]? = some v := by rw [Array.getElem?_toList]; exact hv
          rw [hit, List.getElem?_map] at q
          cases hq : kz[i]? with
          | none => rw [hq] at q; cases q
          | some p =>
            rw [hq] at q
            exact ⟨p, rfl, (Option.some.inj q).symm⟩
        have nonof : ∀ b, s.heap.objs.size ≤ b → s.heap.get? b = none := fun b hb => by
          cases q : s.heap.get? b with
          | none => rfl
          | some o => exact absurd (Nat.lt_of_lt_of_le (Heap.lt_size q) hb) (Nat.lt_irrefl _)
        refine set_update_tups ((PySem.Walks.tuple hh3 _ l hnI iz).toS) s.heap.objs.size
          hWf kz hsz0 hfw hvl s.heap hkx (nonof _ (Nat.le_refl _)) (fun b hb => nonof b (by
            rw [List.mem_singleton.mp hb, Heap.size_push]
            exact Nat.le_succ _)) hu (iz.size - 0) 0 _ (by omega) (Nat.zero_le _)
          ⟨⟨_, Heap.get?_push_size _ rfl, rfl, rfl⟩, (hl0.push _)⟩ (fun b o e => Heap.get?_push_of_some _ (Heap.get?_push_of_some _ e)) ?hS0 ?hR
        case hS0 =>
          have hgt : ((s.heap.push { cls := .type "set", dict := none, data := .set #[] 0 (.fresh 0 0 (!w.params.followText "set-order")) }).push { cls := .type "tuple_iterator", data := .fields #[.ref l, .int 0 0] }).get? s.heap.objs.size
              = some { cls := .type "set", dict := none, data := .set #[] 0 (.fresh 0 0 (!w.params.followText "set-order")) } := Heap.get?_push_of_some _ hW
          exact ⟨[], #[], 0, _, setTR_fresh hgt, Got.zero kz⟩
        case hR =>
          intro s' L es ep t hm hS' g' hkp
          obtain ⟨h', g2, d', tk', os'⟩ := s'
          have eg : g2 = s.gens := hm.gens
          have ed : d' = s.drawn := hm.drawn
          have eo : os' = s.os := hm.os
          subst eg; subst ed; subst eo
          show wpAny _ _ _ _ _ _
          refine wpAny_pure ?_
          show wpAny _ _ (ret Value.none) _ _ _
          rw [hsz0] at g'
          exact wpAny_pure ⟨rfl, h', tk', L, es, ep, t, rfl, hS', g', hkp⟩

      · cases r₂ with
        | error e => exact hr₂
        | ok fl₂ =>
          cases fl₂ with
          | ret r =>
            obtain ⟨rfl, h', tk, L, es, ep, t, rfl, hS', g', hk'⟩ := hr₂
            repeat (any_goals (first | assumption | wp_step))
            exact h _ _ _ _ _ _ hS' g' hk'
          | _ => exact hr₂.elim
    | _ => exact hr.elim

end
end Hr

set_option Elab.async false
set_option linter.all false
set_option maxRecDepth 100000
set_option maxHeartbeats 3200000
namespace Hr
open PySem PySem.Spec PyProof.Rows L2
section
variable {P : Program} {w : World} {A : Around} {E : Value → Shared → Prop} {s : Shared}
theorem set_of_listI {l : Addr} {iz : Array Value} (ns : List Int) {Q : Value → Shared → Prop} (hq0 : A.handled = none) (hlx : s.heap.IsList l iz) (hit : IntsAre iz.toList ns) (hb0 : ns.length + 1 < scanBound)
    (h : ∀ (h' : Heap) (tk c : Nat), SetR w h' s.heap.objs.size (fun j => decide (j ∈ ns)) c → c ≤ ns.length → (∀ b o, s.heap.get? b = some o → h'.get? b = some o) → Q (.ref s.heap.objs.size) { s with heap := h', toks := tk }) :
    wpAny (model P w) A (call (.type "set") [.ref l]) Q E s := by
  have hisz : iz.size = ns.length := by
    have q := IntsAre.length hit
    rw [Array.length_toList] at q
    exact q
  obtain ⟨c, tl, hm0⟩ := F.called_set.mro
  have hmd := F.called_set.made
  have hsb0 := F.called_set.sub
  refine wpAny_call (codeAny_of_tree ?_)
  show wpAny _ _ (callAny (.type "set") _) _ _ _
  refine wpAny_pure ⟨Code.quiet_builtin _ (by decide +kernel), codeAny_builtin F.entry_type_call ?_⟩
  rw [Around.under_plain (weight_type_call_type "set" [.ref l] []) rfl]
  have h1 := F.called_set.notType
  have h2 := F.called_set.canCreate
  have hct0 := F.typeCall_set_1 (.ref l)
  repeat (any_goals (first | assumption | wp_step))

  refine codeAny_mono (code_set_led1 (.ref l) (E := E) (Q₁ := fun obj s₁ => obj = .ref s.heap.objs.size ∧ s₁ = { s with heap := s.heap.push { cls := .type "set", dict := none, data := .set #[] 0 (.fresh 0 0 (!w.params.followText "set-order")) } }) ⟨rfl, rfl⟩) fun r s₁ hr => ?_
  cases r with
  | error e => exact hr
  | ok fl =>
    cases fl with
    | ret obj =>
      obtain ⟨rfl, rfl⟩ := hr
      have hW : (s.heap.push { cls := .type "set", dict := none, data := .set #[] 0 (.fresh 0 0 (!w.params.followText "set-order")) }).get? s.heap.objs.size = some { cls := .type "set", dict := none, data := .set #[] 0 (.fresh 0 0 (!w.params.followText "set-order")) } := Heap.get?_push_size _ rfl
      have hTy : Shared.TypeIs { s with heap := s.heap.push { cls := .type "set", dict := none, data := .set #[] 0 (.fresh 0 0 (!w.params.followText "set-order")) } } (.ref s.heap.objs.size) "set" := ⟨_, hW, rfl⟩
      have hli0 := F.called_set.init.lookup
      have hbi0 := F.called_set.init.bind (.ref s.heap.objs.size)
      repeat (any_goals (first | assumption | wp_step))

      refine codeAny_mono (codeAny_call_builtin (R := wants (fun r s₂ => r = .none ∧ ∃ h' tk c, s₂ = { s with heap := h', toks := tk } ∧ SetR w h' s.heap.objs.size (fun j => decide (j ∈ ns)) c ∧ c ≤ ns.length ∧
          (∀ b o, s.heap.get? b = some o → h'.get? b = some o)) E) F.called_set.init.plain F.entry_set_init (check_set_init_1 hTy ?_)) fun r₂ s₂ hr₂ => ?_
      · obtain ⟨ol, hox, hcl, nl, hdl⟩ := hlx
        obtain ⟨ocls, odict, odata, oslots⟩ := ol
        simp only at hcl hdl
        subst hcl; subst hdl
        have hox' : (s.heap.push { cls := .type "set", dict := none, data := .set #[] 0 (.fresh 0 0 (!w.params.followText "set-order")) }).get? l = some { cls := .type "list", dict := odict, data := .seq iz nl, slots := oslots } := Heap.get?_push_of_some _ hox
        have hss := F.sub_list_set
        have hsf0 := F.sub_list_frozenset
        have hne0 : (Value.type "list" == Value.type "dict") = false := by decide
        have hl0 : (s.heap.push { cls := .type "set", dict := none, data := .set #[] 0 (.fresh 0 0 (!w.params.followText "set-order")) }).IsList l iz := ⟨_, hox', rfl, nl, rfl⟩
        unfold Builtin.«set.__init__» noKeywords Builtin.Frozenset.updateFrom
        generalize hPI : pyIter = PI
        wp_walk
        subst hPI

        refine wpAny_pyIter_list hl0 ?_
        refine wpAny_bind (wpAny_runValue ?_)
        have hlW : l < s.heap.objs.size := Heap.lt_size hox
        have hh3 : A.in1.in1.in1.handled = none := by simp [hq0]
        have hz0 : (s.heap.push { cls := .type "set", dict := none, data := .set #[] 0 (.fresh 0 0 (!w.params.followText "set-order")) }).objs.size = s.heap.objs.size + 1 := Heap.size_push ..
        have hnI : l ≠ (s.heap.push { cls := .type "set", dict := none, data := .set #[] 0 (.fresh 0 0 (!w.params.followText "set-order")) }).objs.size := by
          rw [Heap.size_push]; exact Nat.ne_of_lt (Nat.lt_succ_of_lt hlW)
        have hWf : s.heap.objs.size ∉ [(s.heap.push { cls := .type "set", dict := none, data := .set #[] 0 (.fresh 0 0 (!w.params.followText "set-order")) }).objs.size, l] := by
          rw [Heap.size_push]; simp only [List.mem_cons, List.mem_singleton, List.not_mem_nil, or_false, not_or]
          exact ⟨Nat.ne_of_lt (Nat.lt_succ_self _), Nat.ne_of_gt hlW⟩
        have hvl : ∀ (i : Nat) (v : Value), iz[i]? = some v → ∃ k t, ns[i]? = some k ∧ v = .int k t := fun i v hv => by
          have hi0 : i < ns.length := by rw [← hisz]; exact (Array.getElem?_eq_some_iff.mp hv).1
          obtain ⟨t, e⟩ := PyProof.Rows.IntsAre.int_at hit i v (by rw [Array.getElem?_toList]; exact hv)
          refine ⟨ns[i], t, List.getElem?_eq_getElem hi0, ?_⟩
          rw [e, List.getD_eq_getElem?_getD, List.getElem?_eq_getElem hi0] <;> rfl
        refine set_update_ints ((Walks.list hh3 _ l hnI iz).toS) s.heap.objs.size
          hWf ns hisz hb0 hvl (iz.size - 0) 0 _ (by omega) (Nat.zero_le _)
          ⟨⟨_, Heap.get?_push_size _ rfl, rfl, rfl⟩, (hl0.push _)⟩ ?hS0 ?hR
        case hS0 =>
          have hgt : ((s.heap.push { cls := .type "set", dict := none, data := .set #[] 0 (.fresh 0 0 (!w.params.followText "set-order")) }).push { cls := .type "list_iterator", data := .fields #[.ref l, .int 0 0] }).get? s.heap.objs.size
              = some { cls := .type "set", dict := none, data := .set #[] 0 (.fresh 0 0 (!w.params.followText "set-order")) } := Heap.get?_push_of_some _ hW
          exact ⟨0, Nat.le_refl 0, setR_new_at hgt⟩
        case hR =>
          intro s' c' hm hc' hS'
          obtain ⟨h', g2, d', tk', os'⟩ := s'
          have eg : g2 = s.gens := hm.gens
          have ed : d' = s.drawn := hm.drawn
          have eo : os' = s.os := hm.os
          subst eg; subst ed; subst eo
          show wpAny _ _ _ _ _ _
          refine wpAny_pure ?_
          show wpAny _ _ (ret Value.none) _ _ _
          rw [hisz] at hc'
          refine wpAny_pure ⟨rfl, h', tk', c', rfl, hS', hc', fun b o e => ?_⟩
          have hb0 : b < s.heap.objs.size := Heap.lt_size e
          have hb1 : b ≠ s.heap.objs.size := Nat.ne_of_lt hb0
          have hb2 : b ≠ (s.heap.push { cls := .type "set", dict := none, data := .set #[] 0 (.fresh 0 0 (!w.params.followText "set-order")) }).objs.size := by
            rw [Heap.size_push]; exact Nat.ne_of_lt (Nat.lt_succ_of_lt hb0)
          exact hm.heap b o (by simp only [List.mem_cons, List.mem_singleton, List.not_mem_nil, or_false, not_or]; exact ⟨hb1, hb2⟩) (Heap.get?_push_of_some _ (Heap.get?_push_of_some _ e))

      · cases r₂ with
        | error e => exact hr₂
        | ok fl₂ =>
          cases fl₂ with
          | ret r =>
            obtain ⟨rfl, h', tk, c', rfl, hS', hc', hk'⟩ := hr₂
            repeat (any_goals (first | assumption | wp_step))
            exact h _ _ _ hS' hc' hk'
          | _ => exact hr₂.elim
    | _ => exact hr.elim

end
end Hr

set_option Elab.async false
set_option linter.all false
set_option maxRecDepth 100000
set_option maxHeartbeats 1000000
namespace Hr
open PySem PySem.Spec PyProof.Rows L2
open AutoSeq1 (wpAny_loadPart')
theorem meets_enum_newT (l : Addr) (iz : Array Value) (n : Nat) (dc : Option Addr) (sl : Array (Option Value)) :
    Meets (Builtin.«enumerate.__new__» ⟨[.type "enumerate", .ref l], []⟩) (fun _ R s => s.heap.get? l = some { cls := .type "tuple", dict := dc, data := .seq iz n, slots := sl } ∧
      R (.ok (.ret (.ref (s.heap.push { cls := .type "tuple_iterator", data := .fields #[.ref l, .int 0 0] }).objs.size)))
        { s with heap := (s.heap.push { cls := .type "tuple_iterator", data := .fields #[.ref l, .int 0 0] }).push { cls := .type "enumerate", data := .fields #[.none, .bool false, .ref s.heap.objs.size, rawInt 0, .none, .none] } }) :=
  .of_wp fun prog w A R s h => by
    obtain ⟨hp, g, d, tk, os⟩ := s; obtain ⟨hl0, h⟩ := h
    have hsb := sub_enumerate
    have hLt : Heap.IsTuple (Shared.heap ⟨hp, g, d, tk, os⟩) l iz := ⟨_, hl0, rfl, n, rfl⟩
    wp_walk using wpAny_loadPart' hl0
    refine wpAny_stack_any fun st => wpAny_pure ?_
    split
    · rename_i c _ _ _ _ _
      cases (c == Value.type "enumerate")
      · wp_walk using wpAny_loadPart' hl0, wpAny_pyIter_tuple hLt
        exact ⟨_, rfl, h⟩
      · wp_walk using wpAny_loadPart' hl0, wpAny_pyIter_tuple hLt
        exact ⟨_, rfl, h⟩
    · wp_walk using wpAny_loadPart' hl0, wpAny_pyIter_tuple hLt
      exact ⟨_, rfl, h⟩

section
variable {prog : Program} {w : World} {A : Around} {E : Value → Shared → Prop} {s : Shared}
theorem call_enum_tuple {l : Addr} {iz : Array Value} {Q : Value → Shared → Prop} (hLt : s.heap.IsTuple l iz)
    (h : ∀ h', IsEnum h' (s.heap.objs.size + 1) s.heap.objs.size 0 .none → h'.IsTupleIter s.heap.objs.size l 0 → h'.objs.size = s.heap.objs.size + 2 →
      (∀ b o, s.heap.get? b = some o → h'.get? b = some o) → Q (.ref (s.heap.objs.size + 1)) { s with heap := h' }) :
    wpAny (model prog w) A (call (.type "enumerate") [.ref l]) Q E s := by
  obtain ⟨⟨c, dc, dt, sl⟩, hl0, hc0, n, hd0⟩ := hLt
  replace hc0 : c = .type "tuple" := hc0
  replace hd0 : dt = .seq iz n := hd0
  subst hc0 hd0
  refine callType_new F.called_enumerate (by decide) (F.typeCall_enumerate_1 _) (F.newCall_enumerate_1 _) (fun obj => F.args_object_init_2 obj _) F.entry_enumerate_new
    (meets_enum_newT l iz n dc sl) ⟨hl0, ?_⟩
  have hz0 : (s.heap.push { cls := .type "tuple_iterator", data := .fields #[.ref l, .int 0 0] }).objs.size = s.heap.objs.size + 1 := Heap.size_push ..
  show _ ∧ _
  rw [hz0]
  have heE : IsEnum ((s.heap.push { cls := .type "tuple_iterator", data := .fields #[.ref l, .int 0 0] }).push
      { cls := .type "enumerate", data := .fields #[.none, .bool false, .ref s.heap.objs.size, rawInt 0, .none, .none] }) (s.heap.objs.size + 1) s.heap.objs.size 0 .none := by
    have := Heap.get?_push_size (s.heap.push { cls := .type "tuple_iterator", data := .fields #[.ref l, .int 0 0] })
      (o := { cls := .type "enumerate", data := .fields #[.none, .bool false, .ref s.heap.objs.size, rawInt 0, .none, .none] }) rfl
    rw [hz0] at this; exact this
  refine ⟨⟨_, heE, rfl⟩, h _ heE ⟨_, Heap.get?_push_of_some _ (Heap.get?_push_size _ rfl), rfl, rfl⟩ (by rw [Heap.size_push, hz0]) fun b o x => Heap.get?_push_of_some _ (Heap.get?_push_of_some _ x)⟩

end
def IteT (K : PySem.W.Frag) (a : Addr) : It :=
  ⟨fun i H => ∃ (xs : List V) (x : V), SqT K H a xs ∧ xs[i]? = some x, fun i H v H' => ∃ T x, v = .ref T ∧ H T = none ∧ H' = upd H T (.tup [.int (i : Nat), x]) ∧ ∀ xs, SqT K H a xs → xs[i]? = some x, fun i H => ∃ xs : List V, SqT K H a xs ∧ xs.length = i⟩
theorem turn_enumT {P : Program} {w : World} {K : PySem.W.Frag} {elts : List Expr} {kk : Nat} {tpos : Pos} (a e it : Addr) :
    Turn P w K (.Tuple elts kk tpos) (IteT K a) [e, it] e (fun i h => (∃ od, IsEnum h e it ((i : Nat) : Int) od) ∧ h.IsTupleIter it a i ∧ e ≠ it) where
  mem := by simp
  obj := fun i h st b hb => by
    obtain ⟨⟨od, heE⟩, ⟨o, ho, hc0, hd0⟩, _⟩ := st
    have e' : b = e ∨ b = it := by simpa using hb
    rcases e' with z | z
    · rw [z]; exact ⟨_, heE, fun v q => nomatch q⟩
    · rw [z]; exact ⟨o, ho, fun v q => by rw [hd0] at q; cases q⟩
  keep := fun i h h' st k => let ⟨⟨od, heE⟩, hi, hn0⟩ := st; ⟨⟨od, k e (by simp) _ heE⟩, hi.at fun o q => k it (by simp) o q, hn0⟩
  item := by
    intro X hP hw hK hc0 i pins s σ H E I hf st hg
    subst hP hw hK
    obtain ⟨⟨od, heE⟩, hiT, hn0⟩ := st
    obtain ⟨xs, x, hq, hx⟩ := hg
    obtain ⟨its, rv0, p, hz0⟩ := I.tuple hq
    obtain ⟨u, hu0, ru0⟩ := rv0.get hx
    have he0 : e < s.heap.objs.size := Heap.lt_size heE
    have hi0 : it < s.heap.objs.size := by obtain ⟨_, q, _⟩ := hiT; exact Heap.lt_size q
    have hai : a ≠ it := fun z => by
      obtain ⟨o1, q1, q2, _⟩ := hiT
      obtain ⟨o2, q3, q4, _⟩ := p
      rw [z, q1] at q3
      cases q3
      rw [q2] at q4
      exact absurd q4 (by decide)
    have hea : e ≠ a := fun z => by
      obtain ⟨o2, q3, q4, _⟩ := p
      rw [← z, show s.heap.get? e = _ from heE] at q3
      cases q3
      exact absurd (show Value.type "enumerate" = Value.type "tuple" from q4) (by decide)
    have hh1 : X.A.in1.handled = none := by simp [I.ok.hd hc0]
    have hsi : i < its.toArray.size := by
      obtain ⟨q, _⟩ := List.getElem?_eq_some_iff.mp hu0
      simpa using q
    refine wpAny_pyNext_enum_itemD (Draws.tuple (prog := X.prog) (w := X.w) hh1 it a hai its.toArray) heE ⟨hiT, p⟩ hsi hn0 (by simp [hn0, hea]) fun u' h' tk hu' ho hst' hT hsZ hk => ?_
    have eu : u' = u := by
      have q1 : its[i]? = some u' := by simpa using hu'
      rw [hu0] at q1
      cases q1
      rfl
    rw [eu] at ho hT
    have hit' := hst'.1
    refine ⟨_, rfl, wpAny_letOwnedTupleGo_enum (s := { s with heap := h', toks := tk + 1 }) ho fun h'' he' sb => ?_⟩
    have hTt : h''.get? s.heap.objs.size = some { cls := .type "tuple", data := .seq #[.int i tk, u] } := (sb.2 _ (Nat.ne_of_gt he0)).trans hT
    have nw0 : ObjOk X.prog X.w (upd H s.heap.objs.size (.tup [.int (i : Nat), x])) h'' s.heap.objs.size (.tup [.int (i : Nat), x]) :=
      ⟨by show 2 ≤ sizeLine; decide, [.int i tk, u], .cons ⟨_, rfl⟩ (.cons ru0 .nil), ⟨_, hTt, rfl, _, rfl⟩⟩
    have I1 : Inv X pins σ (upd H s.heap.objs.size (.tup [.int (i : Nat), x])) { s with heap := h'', toks := tk + 1 } :=
      I.turnedNew (ch := [e, it]) (fun b ob hb q => (sb.2 b (fun z => hb (by simp [z]))).trans (hk b ob (fun z => hb (by simp [z])) (fun z => hb (by simp [z])) q)) hf (Nat.le_refl _) nw0
    refine ⟨.ref s.heap.objs.size, _, I1, rfl, ⟨_, x, rfl, I.hok.fresh (Nat.le_refl _), rfl, fun ys hy => by rw [I.tuple_inj hy hq]; exact hx⟩, ⟨⟨u, ?_⟩, hit'.at fun o q => (sb.2 it (Ne.symm hn0)).trans q, hn0⟩, fun b hb => ?_⟩
    · have e1 : ((i + 1 : Nat) : Int) = (i : Int) + 1 := by omega
      rw [e1]; exact he'
    · have hb' : b < s.heap.objs.size := by
        have e' : b = e ∨ b = it := by simpa using hb
        rcases e' with z | z
        · rw [z]; exact he0
        · rw [z]; exact hi0
      rw [upd_ne (Nat.ne_of_lt hb')]
      exact (hf b hb).1
  done := by
    intro X hP hw hK hc0 i pins s σ H E I hf st hg
    subst hP hw hK
    obtain ⟨⟨od, heE⟩, hiT, hn0⟩ := st
    obtain ⟨xs, hq, hx⟩ := hg
    obtain ⟨its, rv0, p, hz0⟩ := I.tuple hq
    obtain ⟨f0, f1, f2, f3, f4, f5⟩ := hf it (by simp)
    have hl0 := rv0.length
    have hai : a ≠ it := fun z => by
      obtain ⟨o1, q1, q2, _⟩ := hiT
      obtain ⟨o2, q3, q4, _⟩ := p
      rw [z, q1] at q3
      cases q3
      rw [q2] at q4
      exact absurd q4 (by decide)
    have hh1 : X.A.in1.handled = none := by simp [I.ok.hd hc0]
    have ei : i = its.toArray.size := by rw [List.size_toArray, ← hl0, hx]
    subst ei
    exact wpAny_pyNext_enum_endD (Draws.tuple (prog := X.prog) (w := X.w) hh1 it a hai its.toArray) heE ⟨hiT, p⟩ fun h' eb => ⟨rfl, I.turned (t' := s.toks) (fun b o hb q => eb b o hb q) f0 f1 f3 f4 f5⟩
  self := fun A i s Q E st h => let ⟨⟨_, heE⟩, _⟩ := st; wpAny_pyIter_enum heE h
def iEnumT (K : PySem.W.Frag) (ta : TA) : TI := fun σ H R => ta σ H fun vs H1 => ∃ a xs, vs = [.ref a] ∧ SqT K H1 a xs ∧ R (IteT K a) H1
theorem pi_enumT {X : Cx} {e : Expr} {ta : TA} {p pos tpos : Pos} {elts : List Expr} {kk : Nat} (hg : Gl X "enumerate") (hm : X.mg "enumerate" = none) (ha : PA X [e] ta) (hs : starEach [e] X.env = [(false, eval e X.env)] := by rfl) :
    PI X (.Tuple elts kk tpos) (.Call (.Name "enumerate" p) [e] [] pos) (iEnumT X.K ta) := by
  refine ⟨fun pins s σ H R I h => ?_⟩
  refine Call_ (ld_blt I hg hm boot_enumerate (PyProof.Rows.callWith_type1 (thn (ha.run pos pins s σ H _ I h) fun us s1 ⟨vs, H1, I1, r1, q1⟩ => ?_) hs rfl))
  obtain ⟨a, xs, ex, hq, q⟩ := q1
  subst ex
  cases r1 with
  | cons r rr =>
    cases rr
    cases r
    obtain ⟨its, rv0, p', hz0⟩ := I1.tuple hq
    refine call_enum_tuple p' fun h' heE hiT hsZ hk => wpAny_pyIter_enum heE ?_
    have I2 : Inv X pins σ H1 { s1 with heap := h' } := I1.kept (t' := s1.toks) hk
    refine ⟨s1.heap.objs.size + 1, [s1.heap.objs.size + 1, s1.heap.objs.size], _, _, H1, rfl, I2, turn_enumT a (s1.heap.objs.size + 1) s1.heap.objs.size, ⟨⟨.none, heE⟩, hiT, Nat.succ_ne_self _⟩, fun b hb => ?_, q⟩
    have e' : b = s1.heap.objs.size + 1 ∨ b = s1.heap.objs.size := by simpa using hb
    have hle : s1.heap.objs.size ≤ b := by
      rcases e' with z | z
      · rw [z]; exact Nat.le_add_right _ _
      · rw [z]; exact Nat.le_refl _
    exact I1.fpOk hle (I1.hok.fresh hle)
end Hr

set_option Elab.async false
set_option linter.all false
set_option maxRecDepth 100000
set_option maxHeartbeats 1000000
namespace Hr
open PySem PySem.Spec PyProof.Rows L2

/-! ### t * 1 -/
theorem tuple_mul1 (l : Addr) (items : Array Value) (n : Nat) (dd : Option Addr) (sl : Array (Option Value)) (u : Tok) :
    Meets (Builtin.«tuple.__mul__» ⟨[.ref l, .int 1 u], []⟩) (fun _ R s => s.heap.get? l = some { cls := .type "tuple", dict := dd, data := .seq items n, slots := sl } ∧ R (.ok (.ret (Value.ref l))) s) :=
  .of_wp fun prog w A R s h => by
    obtain ⟨hp, g, d, tk, os⟩ := s
    obtain ⟨hl, h⟩ := h
    have f1 := AutoSeq1.idx_int
    wp_walk using wpAny_loadPart' hl
    repeat (first
      | (refine wpAny_ite_false (decide_eq_false (by decide)) ?_; wp_walk using wpAny_loadPart' hl)
      | (refine wpAny_ite_true (decide_eq_true (by simp)) ?_; wp_walk using wpAny_loadPart' hl))
    exact ⟨_, rfl, h⟩
end Hr

set_option Elab.async false
set_option linter.all false
set_option maxRecDepth 100000
namespace Hr
open PySem PySem.Spec PyProof.Rows L2

/-! ### data -/
inductive D where
  | non | bl (b : Bool) | int (i : Int) | str (s : Str)
  | tup (l : List D) | lst (l : List D)
  | dK (l : List (Key × D)) | dT (l : List (List Key × D))
  | obj (n : Nat) | scr (l : List Int) | exn (a : Addr)
  | dN (l : List (Int × List Int))

structure Ob where
  own : Option D := none
  state : Option D := none
  past : Option (List D) := none
  later : Option (List D) := none

abbrev Sto := List Ob

inductive Out (α : Type) where
  | ok (a : α) (S : Sto) | exc (c : Nat) (S : Sto) | bad

def Out.bind {α β : Type} (r : Out α) (k : α → Sto → Out β) : Out β := match r with
  | .ok a S => k a S
  | .exc c S => .exc c S
  | .bad => .bad
@[simp] theorem Out.bind_ok {α β : Type} (a : α) (S : Sto) (k : α → Sto → Out β) : (Out.ok a S).bind k = k a S := rfl
@[simp] theorem Out.bind_exc {α β : Type} (c : Nat) (S : Sto) (k : α → Sto → Out β) : (Out.exc c S).bind k = .exc c S := rfl
@[simp] theorem Out.bind_bad {α β : Type} (k : α → Sto → Out β) : (Out.bad).bind k = .bad := rfl

abbrev Rho := List (Option D)
abbrev Ev (α : Type) := Rho → Sto → Out α

structure Wd where
  Fr : Hp
  ad : Nat → Option Addr
  tg : Addr → Option (Nat × Nat)
  K : PySem.W.Frag
  lk : Addr → Option Obj
  pu : Bool := false
/-- a list of the module's own -/
def KL (K : PySem.W.Frag) (a : Addr) (xs : List V) : Prop := ∃ (o : Obj) (its : Array Value) (n : Nat), K.lookup a = some o ∧ o.cls = .type "list" ∧ o.dict = none ∧ o.data = .seq its n ∧ its.size ≤ sizeLine ∧ Vals xs its.toList

/-! ### a dict whose keys are pairs of an int and a tuple of ints, its values True -/
def nkH (k : Int × List Int) : Int := reduceHash (Builtin.Tuple.tupleHashOf [hashInt k.1, reduceHash (Builtin.Tuple.tupleHashOf (k.2.map hashInt))])
def nkE (x : (Int × List Int) × Addr) : DictEntry := ⟨nkH x.1, .ref x.2, .bool true⟩
def NObj (a : Addr) (xs : List ((Int × List Int) × Addr)) : HO := .ext fun h => ∃ (o : Obj) (es : Array DictEntry) (ep : Nat), h.get? a = some o ∧ o.ExactDict ∧ o.data = .dict es ep ∧ es.toList = xs.map nkE
def KeyAt (W : Wd) (k : Int × List Int) (b : Addr) : Prop := ∃ c, W.Fr b = some (.tup [.int k.1, .ref c]) ∧ W.Fr c = some (.tup (k.2.map V.int))
structure DenN (W : Wd) (ks : List (Int × List Int)) (xs : List ((Int × List Int) × Addr)) : Prop where
  ke : xs.map (·.1) = ks
  dn : ∀ x ∈ xs, KeyAt W x.1 x.2
  nd : ks.Nodup
theorem DenN.mono {W W' : Wd} (hf : ∀ a o, W.Fr a = some o → W'.Fr a = some o) {ks : List (Int × List Int)} {xs : List ((Int × List Int) × Addr)} (h : DenN W ks xs) : DenN W' ks xs := ⟨h.ke, fun x m => let ⟨c, h1, h2⟩ := h.dn x m; ⟨c, hf _ _ h1, hf _ _ h2⟩, h.nd⟩
mutual
def Den (W : Wd) : D → V → Prop
  | .non, v => v = .non
  | .bl b, v => v = .bl b
  | .int i, v => v = .int i
  | .str s, v => v = .str s
  | .tup l, v => ∃ a vs, v = .ref a ∧ W.Fr a = some (.tup vs) ∧ Dens W l vs
  | .lst l, v => ∃ a vs, v = .ref a ∧ W.Fr a = some (.lst vs) ∧ Dens W l vs
  | .dK l, v => ∃ a kvs, v = .ref a ∧ W.Fr a = some (.dK kvs) ∧ DenK W l kvs
  | .dT l, v => ∃ a kvs, v = .ref a ∧ W.Fr a = some (.dT kvs) ∧ DenT W l kvs
  | .obj n, v => ∃ a, v = .ref a ∧ W.ad n = some a
  | .scr l, v => ∃ a, v = .ref a ∧ ((W.Fr a = some (.lst (l.map V.int)) ∨ ∃ o, W.Fr a = some (.frz o (.lst (l.map V.int)))) ∨ KL W.K a (l.map V.int))
  | .exn a, v => v = .ref a
  | .dN l, v => ∃ a xs, v = .ref a ∧ W.Fr a = some (NObj a xs) ∧ DenN W l xs ∧ (a == sysModules) = false
def Dens (W : Wd) : List D → List V → Prop
  | [], vs => vs = []
  | d :: l, vs => ∃ v r, vs = v :: r ∧ Den W d v ∧ Dens W l r
def DenK (W : Wd) : List (Key × D) → List (Key × V) → Prop
  | [], vs => vs = []
  | (k, d) :: l, vs => ∃ v r, vs = (k, v) :: r ∧ Den W d v ∧ DenK W l r
def DenT (W : Wd) : List (List Key × D) → List (List Key × V) → Prop
  | [], vs => vs = []
  | (k, d) :: l, vs => ∃ v r, vs = (k, v) :: r ∧ Den W d v ∧ DenT W l r
end

/-! ### growing worlds -/
def tblB : HO → Bool
  | .tbl _ => true
  | _ => false
/-- new there, or a table of code objects -/
def Nw (H : Hp) (a : Addr) : Prop := ∀ o, H a = some o → tblB o = true
theorem nw_of {H : Hp} {a : Addr} (h : H a = none) : Nw H a := fun o e => by rw [h] at e; exact nomatch e
theorem Nw.no {H : Hp} {a : Addr} {o : HO} (n : Nw H a) (h : H a = some o) (q : tblB o = false) : False := by
  have := n o h
  rw [q] at this
  exact nomatch this
structure Step (W : Wd) (H : Hp) (W' : Wd) (H' : Hp) : Prop where
  fr : ∀ a o, W.Fr a = some o → W'.Fr a = some o
  ad : ∀ n a, W.ad n = some a → W'.ad n = some a
  nf : ∀ a o, W'.Fr a = some o → W.Fr a = some o ∨ Nw H a
  nt : ∀ a t, W'.tg a = some t → W.tg a = some t ∨ Nw H a
  fm' : ∀ a o, H a = some o → W.tg a = none → W.Fr a = none → tblB o = false → H' a = some o
  mn : ∀ a, Nw H' a → Nw H a
  kk : W'.K = W.K
  lk : ∀ a o, W.lk a = some o → W'.lk a = some o
  tp : ∀ a t, W.tg a = some t → W'.tg a = some t
  pe : W'.pu = W.pu
  pp : W.pu = true → ∀ a t o, W.tg a = some t → H a = some o → tblB o = false → H' a = some o

theorem Step.refl {W : Wd} {H : Hp} : Step W H W H :=
  ⟨fun _ _ h => h, fun _ _ h => h, fun _ _ h => .inl h, fun _ _ h => .inl h, fun _ _ h _ _ _ => h, fun _ h => h, rfl, fun _ _ h => h, fun _ _ h => h, rfl, fun _ _ _ _ _ h _ => h⟩
theorem Step.fm {W W' : Wd} {H H' : Hp} (s : Step W H W' H') (a : Addr) (o : HO) (h : H a = some o) (t : W.tg a = none) (f : W.Fr a = none) (n : tblB o = false := by rfl) : H' a = some o := s.fm' a o h t f n

theorem none_of_ne {α : Type} {o : Option α} (h : ∀ x, o = some x → False) : o = none := by
  cases o with
  | none => rfl
  | some x => exact (h x rfl).elim

theorem Step.tgn {W W' : Wd} {H H' : Hp} (s : Step W H W' H') {a : Addr} {o : HO} (h : H a = some o) (t : W.tg a = none) (n : tblB o = false := by rfl) : W'.tg a = none :=
  none_of_ne fun x e => by
    rcases s.nt a x e with q | q
    · rw [t] at q; exact nomatch q
    · exact q.no h n
theorem Step.frn {W W' : Wd} {H H' : Hp} (s : Step W H W' H') {a : Addr} {o : HO} (h : H a = some o) (t : W.Fr a = none) (n : tblB o = false := by rfl) : W'.Fr a = none :=
  none_of_ne fun x e => by
    rcases s.nf a x e with q | q
    · rw [t] at q; exact nomatch q
    · exact q.no h n

theorem Step.trans {W W1 W2 : Wd} {H H1 H2 : Hp} (a : Step W H W1 H1) (b : Step W1 H1 W2 H2) : Step W H W2 H2 where
  fr := fun x o h => b.fr x o (a.fr x o h)
  ad := fun n x h => b.ad n x (a.ad n x h)
  nf := fun x o h => by
    rcases b.nf x o h with q | q
    · exact a.nf x o q
    · exact .inr (a.mn x q)
  nt := fun x t h => by
    rcases b.nt x t h with q | q
    · exact a.nt x t q
    · exact .inr (a.mn x q)
  fm' := fun x o h t f n => b.fm' x o (a.fm' x o h t f n) (a.tgn h t n) (a.frn h f n) n
  mn := fun x h => a.mn x (b.mn x h)
  kk := b.kk.trans a.kk
  lk := fun x o h => b.lk x o (a.lk x o h)
  tp := fun x t h => b.tp x t (a.tp x t h)
  pe := b.pe.trans a.pe
  pp := fun e x t o h1 h2 n => b.pp (a.pe.trans e) x t o (a.tp x t h1) (a.pp e x t o h1 h2 n) n

mutual
theorem Den.mono {W W' : Wd} (hf : ∀ a o, W.Fr a = some o → W'.Fr a = some o) (ha : ∀ n a, W.ad n = some a → W'.ad n = some a) (hk : W'.K = W.K) : ∀ (d : D) (v : V), Den W d v → Den W' d v
  | .non, _, h => h
  | .bl _, _, h => h
  | .int _, _, h => h
  | .str _, _, h => h
  | .tup l, _, ⟨a, vs, e, f, h⟩ => ⟨a, vs, e, hf _ _ f, Dens.mono hf ha hk l vs h⟩
  | .lst l, _, ⟨a, vs, e, f, h⟩ => ⟨a, vs, e, hf _ _ f, Dens.mono hf ha hk l vs h⟩
  | .dK l, _, ⟨a, vs, e, f, h⟩ => ⟨a, vs, e, hf _ _ f, DenK.mono hf ha hk l vs h⟩
  | .dT l, _, ⟨a, vs, e, f, h⟩ => ⟨a, vs, e, hf _ _ f, DenT.mono hf ha hk l vs h⟩
  | .obj n, _, ⟨a, e, f⟩ => ⟨a, e, ha _ _ f⟩
  | .scr l, _, ⟨a, e, f⟩ => ⟨a, e, by
      rcases f with (f | ⟨o, f⟩) | f
      · exact .inl (.inl (hf _ _ f))
      · exact .inl (.inr ⟨o, hf _ _ f⟩)
      · exact .inr (hk ▸ f)⟩
  | .exn _, _, h => h
  | .dN _, _, ⟨a, xs, e, f, n, z⟩ => ⟨a, xs, e, hf _ _ f, n.mono hf, z⟩
theorem Dens.mono {W W' : Wd} (hf : ∀ a o, W.Fr a = some o → W'.Fr a = some o) (ha : ∀ n a, W.ad n = some a → W'.ad n = some a) (hk : W'.K = W.K) : ∀ (l : List D) (vs : List V), Dens W l vs → Dens W' l vs
  | [], _, h => h
  | d :: l, _, ⟨v, r, e, h1, h2⟩ => ⟨v, r, e, Den.mono hf ha hk d v h1, Dens.mono hf ha hk l r h2⟩
theorem DenK.mono {W W' : Wd} (hf : ∀ a o, W.Fr a = some o → W'.Fr a = some o) (ha : ∀ n a, W.ad n = some a → W'.ad n = some a) (hk : W'.K = W.K) : ∀ (l : List (Key × D)) (vs : List (Key × V)), DenK W l vs → DenK W' l vs
  | [], _, h => h
  | (k, d) :: l, _, ⟨v, r, e, h1, h2⟩ => ⟨v, r, e, Den.mono hf ha hk d v h1, DenK.mono hf ha hk l r h2⟩
theorem DenT.mono {W W' : Wd} (hf : ∀ a o, W.Fr a = some o → W'.Fr a = some o) (ha : ∀ n a, W.ad n = some a → W'.ad n = some a) (hk : W'.K = W.K) : ∀ (l : List (List Key × D)) (vs : List (List Key × V)), DenT W l vs → DenT W' l vs
  | [], _, h => h
  | (k, d) :: l, _, ⟨v, r, e, h1, h2⟩ => ⟨v, r, e, Den.mono hf ha hk d v h1, DenT.mono hf ha hk l r h2⟩
end
theorem Den.step {W W' : Wd} {H H' : Hp} {d : D} {v : V} (h : Den W d v) (s : Step W H W' H') : Den W' d v := Den.mono s.fr s.ad s.kk d v h
theorem Dens.step {W W' : Wd} {H H' : Hp} {d : List D} {v : List V} (h : Dens W d v) (s : Step W H W' H') : Dens W' d v := Dens.mono s.fr s.ad s.kk d v h
theorem DenK.step {W W' : Wd} {H H' : Hp} {d : List (Key × D)} {v : List (Key × V)} (h : DenK W d v) (s : Step W H W' H') : DenK W' d v := DenK.mono s.fr s.ad s.kk d v h
theorem DenT.step {W W' : Wd} {H H' : Hp} {d : List (List Key × D)} {v : List (List Key × V)} (h : DenT W d v) (s : Step W H W' H') : DenT W' d v := DenT.mono s.fr s.ad s.kk d v h

theorem Dens.length {W : Wd} : ∀ {l : List D} {vs : List V}, Dens W l vs → vs.length = l.length
  | [], _, h => by cases h; rfl
  | d :: l, _, ⟨v, r, e, _, h2⟩ => by cases e; simp [Dens.length h2]
theorem DenK.length {W : Wd} : ∀ {l : List (Key × D)} {vs : List (Key × V)}, DenK W l vs → vs.length = l.length
  | [], _, h => by cases h; rfl
  | (k, d) :: l, _, ⟨v, r, e, _, h2⟩ => by cases e; simp [DenK.length h2]
theorem DenT.length {W : Wd} : ∀ {l : List (List Key × D)} {vs : List (List Key × V)}, DenT W l vs → vs.length = l.length
  | [], _, h => by cases h; rfl
  | (k, d) :: l, _, ⟨v, r, e, _, h2⟩ => by cases e; simp [DenT.length h2]
theorem Dens.append {W : Wd} : ∀ {l m : List D} {vs us : List V}, Dens W l vs → Dens W m us → Dens W (l ++ m) (vs ++ us)
  | [], _, _, _, h, k => by cases h; exact k
  | d :: l, _, _, _, ⟨v, r, e, h1, h2⟩, k => by cases e; exact ⟨v, _, rfl, h1, Dens.append h2 k⟩
theorem Dens.one {W : Wd} {d : D} {v : V} (h : Den W d v) : Dens W [d] [v] := ⟨v, [], rfl, h, rfl⟩
theorem Dens.get {W : Wd} : ∀ {l : List D} {vs : List V} {i : Nat} {v : V}, Dens W l vs → vs[i]? = some v → ∃ d, l[i]? = some d ∧ Den W d v
  | [], _, _, _, h, e => by cases h; simp at e
  | d :: l, _, i, v, ⟨w, r, e, h1, h2⟩, q => by
    cases e
    cases i with
    | zero => simp at q; cases q; exact ⟨d, rfl, h1⟩
    | succ i => simp at q; simpa using Dens.get h2 q
theorem Dens.get' {W : Wd} : ∀ {l : List D} {vs : List V} {i : Nat} {d : D}, Dens W l vs → l[i]? = some d → ∃ v, vs[i]? = some v ∧ Den W d v
  | [], _, _, _, h, e => by simp at e
  | d :: l, _, i, v, ⟨w, r, e, h1, h2⟩, q => by
    cases e
    cases i with
    | zero => simp at q; cases q; exact ⟨w, rfl, h1⟩
    | succ i => simp at q; simpa using Dens.get' h2 q
theorem Dens.drop {W : Wd} : ∀ {l : List D} {vs : List V} (n : Nat), Dens W l vs → Dens W (l.drop n) (vs.drop n)
  | _, _, 0, h => h
  | [], _, n + 1, h => by cases h; exact rfl
  | d :: l, _, n + 1, ⟨w, r, e, h1, h2⟩ => by cases e; exact Dens.drop n h2
theorem Dens.take {W : Wd} : ∀ {l : List D} {vs : List V} (n : Nat), Dens W l vs → Dens W (l.take n) (vs.take n)
  | _, _, 0, h => by simp; exact rfl
  | [], _, n + 1, h => by cases h; exact rfl
  | d :: l, _, n + 1, ⟨w, r, e, h1, h2⟩ => by cases e; exact ⟨w, _, rfl, h1, Dens.take n h2⟩
theorem Dens.eraseIdx {W : Wd} : ∀ {l : List D} {vs : List V} (n : Nat), Dens W l vs → Dens W (l.eraseIdx n) (vs.eraseIdx n)
  | [], _, _, h => by cases h; exact rfl
  | d :: l, _, 0, ⟨w, r, e, h1, h2⟩ => by cases e; exact h2
  | d :: l, _, n + 1, ⟨w, r, e, h1, h2⟩ => by cases e; exact ⟨w, _, rfl, h1, Dens.eraseIdx n h2⟩
theorem Dens.flatRep {W : Wd} {l : List D} {vs : List V} (h : Dens W l vs) : ∀ k : Nat, Dens W (List.replicate k l).flatten (List.replicate k vs).flatten
  | 0 => rfl
  | k + 1 => by simp only [List.replicate_succ, List.flatten_cons]; exact h.append (Dens.flatRep h k)
theorem Dens.reverse {W : Wd} : ∀ {l : List D} {vs : List V}, Dens W l vs → Dens W l.reverse vs.reverse
  | [], _, h => by cases h; exact rfl
  | d :: l, _, ⟨w, r, e, h1, h2⟩ => by cases e; simp only [List.reverse_cons]; exact (Dens.reverse h2).append (Dens.one h1)
theorem Dens.set {W : Wd} {d : D} {v : V} (hd : Den W d v) : ∀ {l : List D} {vs : List V} (n : Nat), Dens W l vs → Dens W (l.set n d) (vs.set n v)
  | [], _, _, h => by cases h; exact rfl
  | d :: l, _, 0, ⟨w, r, e, h1, h2⟩ => by cases e; exact ⟨_, _, rfl, hd, h2⟩
  | d :: l, _, n + 1, ⟨w, r, e, h1, h2⟩ => by cases e; exact ⟨w, _, rfl, h1, Dens.set hd n h2⟩

/-! ### the state -/
structure Amb where
  K : PySem.W.Frag
  cS : Addr
  cl : Nat → Addr
  T : List (Addr × Str) := []
  pu : Bool := false

def Held (H : Hp) (a : Addr) (o : HO) : Prop := match o with
  | .dK k => Rd H a (.dK k)
  | .dT k => Rd H a (.dT k)
  | o => H a = some o
def szOk : HO → Prop
  | .lst vs => vs.length ≤ sizeLine
  | .tup vs => vs.length ≤ sizeLine
  | .dK vs => vs.length ≤ sizeLine
  | .dT vs => vs.length ≤ sizeLine
  | .tbl _ => False
  | _ => True

def FldD (W : Wd) (fs : List (Str × V)) (f : Str) (o : Option D) : Prop := match o with
  | none => fs.lookup f = none
  | some d => ∃ v, fs.lookup f = some v ∧ Den W d v
def FldL (W : Wd) (H : Hp) (n k : Nat) (fs : List (Str × V)) (f : Str) (o : Option (List D)) : Prop := match o with
  | none => fs.lookup f = none
  | some l => ∃ p vs, fs.lookup f = some (.ref p) ∧ H p = some (.lst vs) ∧ Dens W l vs ∧ vs.length ≤ sizeLine ∧ W.tg p = some (n, k)

def ObOk (A : Amb) (W : Wd) (H : Hp) (n : Nat) (ob : Ob) : Prop :=
  ∃ a dx fs, W.ad n = some a ∧ W.tg a = some (n, 0) ∧ H a = some (.ins A.cS dx fs) ∧ (fs.map (·.1)).Nodup ∧ (∀ f : Str, f ∈ fs.map (·.1) → f = "own" ∨ f = "state" ∨ f = "past" ∨ f = "later") ∧
    FldD W fs "own" ob.own ∧ FldD W fs "state" ob.state ∧ FldL W H n 1 fs "past" ob.past ∧ FldL W H n 2 fs "later" ob.later

def nkD (k : Int × List Int) : D := .tup [.int k.1, .tup (k.2.map .int)]
theorem DenN.step {W W' : Wd} {H H' : Hp} {ks : List (Int × List Int)} {xs : List ((Int × List Int) × Addr)} (h : DenN W ks xs) (s : Step W H W' H') : DenN W' ks xs := h.mono s.fr
theorem nobj_code (a : Addr) (xs : List ((Int × List Int) × Addr)) (c : Addr) (q : Str) : NObj a xs ≠ LamX.CodeO c q := fun e => by
  unfold NObj LamX.CodeO at e
  injection e with e
  let ob : Obj := { cls := .type "dict", data := .dict (xs.map nkE).toArray 0 }
  let h0 : Heap := { objs := Array.replicate (a + 1) ob }
  have g : ∀ b o, h0.get? b = some o → o = ob := fun b o hb => by
    unfold Heap.get? at hb
    cases hq : h0.objs[b]? with
    | none => rw [hq] at hb; exact nomatch hb
    | some z =>
      have ez : z = ob := by
        have := Array.getElem?_replicate (n := a + 1) (v := ob) (i := b)
        rw [show h0.objs = Array.replicate (a + 1) ob from rfl, this] at hq
        split at hq
        · exact (Option.some.inj hq).symm
        · exact nomatch hq
      subst ez
      rw [hq] at hb
      exact (Option.some.inj hb).symm
  have ga : h0.get? a = some ob := by
    unfold Heap.get?
    have hq : h0.objs[a]? = some ob := by
      rw [show h0.objs = Array.replicate (a + 1) ob from rfl, Array.getElem?_replicate, if_pos (by omega)]
    rw [hq]
  have := congrFun e h0
  have p1 : ∃ (o : Obj) (es : Array DictEntry) (ep : Nat), h0.get? a = some o ∧ o.ExactDict ∧ o.data = .dict es ep ∧ es.toList = xs.map nkE := ⟨ob, _, _, ga, ⟨rfl, rfl, rfl⟩, rfl, by simp⟩
  rw [this] at p1
  obtain ⟨oc, vs, t, h1, h2, _⟩ := p1
  have := g _ _ h1
  subst this
  exact nomatch h2
theorem ne_code {o : HO} (h : ∀ φ, o ≠ .ext φ) : ∀ c q, o ≠ LamX.CodeO c q := fun _ _ e => h _ e
def NoT (o : HO) : Prop := (∀ ps, o ≠ .tbl ps) ∧ ∀ c q, o ≠ LamX.CodeO c q
theorem Tabs.upd {T : List (Addr × Str)} {H : Hp} {p : Addr} {o u : HO} (t : LamX.Tabs T H) (h : H p = some u) (n : NoT u) : LamX.Tabs T (upd H p o) := fun q hq => by
  obtain ⟨ps, h1, h2, h3⟩ := t q hq
  refine ⟨ps, ?_, h2, fun pos cv hc => ?_⟩
  · rw [upd_ne (fun z => by rw [z, h] at h1; exact n.1 _ (Option.some.inj h1))]; exact h1
  · obtain ⟨c, e, h4⟩ := h3 pos cv hc
    refine ⟨c, e, ?_⟩
    rw [upd_ne (fun z => by rw [z, h] at h4; exact n.2 _ _ (Option.some.inj h4))]; exact h4
structure Wok (A : Amb) (W : Wd) (S : Sto) (H : Hp) : Prop where
  fr : ∀ a o, W.Fr a = some o → Held H a o
  sz : ∀ a o, W.Fr a = some o → szOk o
  ft : ∀ a o, W.Fr a = some o → W.tg a = none
  ob : ∀ n ob, S[n]? = some ob → ObOk A W H n ob
  al : ∀ n, S.length ≤ n → W.ad n = none
  tn : ∀ a t, W.tg a = some t → ∃ o, H a = some o ∧ tblB o = false
  kk : W.K = A.K
  tb : LamX.Tabs A.T H
  lk : ∀ a o, W.lk a = some o → ∃ k, W.Fr a = some (.dK k) ∧ H a = some (.frz o (.dK k))
  pu : W.pu = A.pu

def Top (W : Wd) (H : Hp) (a : Addr) : D → Prop
  | .lst l => ∃ vs, H a = some (.lst vs) ∧ Dens W l vs ∧ vs.length ≤ sizeLine
  | .dK l => ∃ vs, H a = some (.dK vs) ∧ DenK W l vs ∧ vs.length ≤ sizeLine
  | .dT l => ∃ vs, H a = some (.dT vs) ∧ DenT W l vs ∧ vs.length ≤ sizeLine
  | .dN l => ∃ xs, H a = some (NObj a xs) ∧ DenN W l xs ∧ (xs.length ≤ sizeLine ∧ (a == sysModules) = false)
  | _ => False
def Own (W : Wd) (H : Hp) (d : D) (v : V) : Prop := ∃ a, v = .ref a ∧ W.Fr a = none ∧ W.tg a = none ∧ Top W H a d
def New (W : Wd) (H0 H : Hp) (d : D) (v : V) : Prop := ∃ a, v = .ref a ∧ Nw H0 a ∧ W.Fr a = none ∧ W.tg a = none ∧ Top W H a d
def View (W : Wd) (H : Hp) (d : D) (v : V) : Prop := Den W d v ∨ Own W H d v

theorem Top.there {W : Wd} {H : Hp} {a : Addr} {d : D} (t : Top W H a d) : ∃ o, H a = some o := by
  cases d <;> first | exact t.elim | (obtain ⟨vs, h, _⟩ := t; exact ⟨_, h⟩)
theorem Top.noB {W : Wd} {H : Hp} {a : Addr} {d : D} (t : Top W H a d) : ∃ o, H a = some o ∧ tblB o = false := by
  cases d <;> first | exact t.elim | (obtain ⟨vs, h, _⟩ := t; exact ⟨_, h, rfl⟩)
theorem Top.noT {W : Wd} {H : Hp} {a : Addr} {d : D} (t : Top W H a d) : ∃ o, H a = some o ∧ NoT o := by
  cases d with
  | lst l => obtain ⟨vs, h, _⟩ := t; exact ⟨_, h, And.intro (fun _ h => nomatch h) (ne_code fun _ h => nomatch h)⟩
  | dK l => obtain ⟨vs, h, _⟩ := t; exact ⟨_, h, And.intro (fun _ h => nomatch h) (ne_code fun _ h => nomatch h)⟩
  | dT l => obtain ⟨vs, h, _⟩ := t; exact ⟨_, h, And.intro (fun _ h => nomatch h) (ne_code fun _ h => nomatch h)⟩
  | dN l =>
    obtain ⟨vs, h, _⟩ := t
    refine ⟨_, h, And.intro (fun _ h => ?_) (nobj_code _ _)⟩
    unfold NObj at h
    exact nomatch h
  | _ => exact t.elim
theorem Top.step {W W' : Wd} {H H' : Hp} {a : Addr} {d : D} (t : Top W H a d) (n : W.tg a = none) (f : W.Fr a = none) (s : Step W H W' H') : Top W' H' a d := by
  cases d <;> first | exact t.elim | (obtain ⟨vs, h, k, z⟩ := t; exact ⟨vs, s.fm _ _ h n f, k.step s, z⟩)
theorem Own.step {W W' : Wd} {H H' : Hp} {d : D} {v : V} (h : Own W H d v) (s : Step W H W' H') : Own W' H' d v := by
  obtain ⟨a, e, f, t, p⟩ := h
  obtain ⟨o, q, nb⟩ := p.noB
  exact ⟨a, e, s.frn q f nb, s.tgn q t nb, p.step t f s⟩
theorem View.step {W W' : Wd} {H H' : Hp} {d : D} {v : V} (h : View W H d v) (s : Step W H W' H') : View W' H' d v := by
  rcases h with h | h
  · exact .inl (h.step s)
  · exact .inr (h.step s)
theorem New.own {W : Wd} {H0 H : Hp} {d : D} {v : V} (h : New W H0 H d v) : Own W H d v := by
  obtain ⟨a, e, _, f, t, p⟩ := h
  exact ⟨a, e, f, t, p⟩

/-- slots: those of Γ are owned here alone -/
structure Sl (Γ : List Nat) (W : Wd) (H : Hp) (σ : L2.St) (ρ : Rho) : Prop where
  den : ∀ i d, ρ[i]? = some (some d) → i ∉ Γ → ∃ v, σ[i]? = some (some v) ∧ Den W d v
  own : ∀ i d, ρ[i]? = some (some d) → i ∈ Γ → ∃ v, σ[i]? = some (some v) ∧ Own W H d v
  dj : ∀ i j di dj v, i ∈ Γ → j ∈ Γ → i ≠ j → ρ[i]? = some (some di) → ρ[j]? = some (some dj) → σ[i]? = some (some v) → σ[j]? ≠ some (some v)
  len : σ.length = ρ.length
theorem Sl.step {Γ : List Nat} {W W' : Wd} {H H' : Hp} {σ : L2.St} {ρ : Rho} (h : Sl Γ W H σ ρ) (s : Step W H W' H') : Sl Γ W' H' σ ρ where
  den := fun i d e n => by
    obtain ⟨v, q, k⟩ := h.den i d e n
    exact ⟨v, q, k.step s⟩
  own := fun i d e n => by
    obtain ⟨v, q, k⟩ := h.own i d e n
    exact ⟨v, q, k.step s⟩
  dj := h.dj
  len := h.len
theorem Sl.view {Γ : List Nat} {W : Wd} {H : Hp} {σ : L2.St} {ρ : Rho} (h : Sl Γ W H σ ρ) {i : Nat} {d : D} (e : ρ[i]? = some (some d)) : ∃ v, σ[i]? = some (some v) ∧ View W H d v := by
  by_cases m : i ∈ Γ
  · obtain ⟨v, q, k⟩ := h.own i d e m
    exact ⟨v, q, .inr k⟩
  · obtain ⟨v, q, k⟩ := h.den i d e m
    exact ⟨v, q, .inl k⟩

/-! ### answers -/
abbrev RR (α β : Type) := Hp → Wd → Hp → α → β → Prop
def Ans {α β : Type} (A : Amb) (Ex : XK) (R : RR α β) (W : Wd) (H : Hp) (r : Out α) (Q : β → Hp → Prop) : Prop := match r with
  | .ok d S' => ∀ W' H' v, Step W H W' H' → Wok A W' S' H' → R H W' H' d v → Q v H'
  | .exc c S' => ∀ W' H', Step W H W' H' → Wok A W' S' H' → Ex (.ref (A.cl c)) none H'
  | .bad => False
def tR {α β : Type} (A : Amb) (Ex : XK) (Γ : List Nat) (R : RR α β) (f : Ev α) : L2.St → Hp → (β → Hp → Prop) → Prop := fun σ H Q =>
  ∃ W ρ S, Wok A W S H ∧ Sl Γ W H σ ρ ∧ Ans A Ex R W H (f ρ S) Q
def Shift {α β : Type} (R : RR α β) : Prop := ∀ W H W1 H1 W' H' d v, Step W H W1 H1 → R H1 W' H' d v → R H W' H' d v
def rD : RR D V := fun _ W _ d v => Den W d v
def rV : RR D V := fun _ W H d v => View W H d v
def rN : RR D V := fun H0 W H d v => New W H0 H d v
def rB : RR Bool Bool := fun _ _ _ b c => b = c
def rL : RR (List D) (List V) := fun _ W _ l vs => Dens W l vs
theorem shD : Shift rD := fun _ _ _ _ _ _ _ _ _ h => h
theorem shV : Shift rV := fun _ _ _ _ _ _ _ _ _ h => h
theorem shB : Shift rB := fun _ _ _ _ _ _ _ _ _ h => h
theorem shL : Shift rL := fun _ _ _ _ _ _ _ _ _ h => h
theorem shN : Shift rN := fun _ _ _ _ _ _ _ _ s h => by
  obtain ⟨a, e, z, f, t, p⟩ := h
  exact ⟨a, e, s.mn a z, f, t, p⟩

theorem Ans.shift {α β : Type} {A : Amb} {Ex : XK} {R : RR α β} {W W1 : Wd} {H H1 : Hp} {r : Out α} {Q : β → Hp → Prop} (hR : Shift R) (h : Ans A Ex R W H r Q) (s : Step W H W1 H1) : Ans A Ex R W1 H1 r Q := by
  cases r with
  | ok d S' => exact fun W' H' v s' wo k => h W' H' v (s.trans s') wo (hR _ _ _ _ _ _ _ _ s k)
  | exc c S' => exact fun W' H' s' wo => h W' H' (s.trans s') wo
  | bad => exact h

/-- the next part of a reading -/
theorem seqR {α β γ δ : Type} {A : Amb} {Ex : XK} {Γ : List Nat} {Ra : RR α β} {R : RR γ δ} {fa : Ev α} {k : α → Sto → Out γ} {W : Wd} {H : Hp} {S : Sto} {σ : L2.St} {ρ : Rho} {Q : δ → Hp → Prop} {K : β → Hp → Prop}
    (hR : Shift R) (wo : Wok A W S H) (sl : Sl Γ W H σ ρ) (h : Ans A Ex R W H ((fa ρ S).bind k) Q)
    (kk : ∀ d S1 W1 H1 v, Step W H W1 H1 → Wok A W1 S1 H1 → Ra H W1 H1 d v → Sl Γ W1 H1 σ ρ → Ans A Ex R W1 H1 (k d S1) Q → K v H1) : tR A Ex Γ Ra fa σ H K := by
  refine ⟨W, ρ, S, wo, sl, ?_⟩
  generalize fa ρ S = r at h
  cases r with
  | ok d S1 => exact fun W1 H1 v s wo1 r => kk d S1 W1 H1 v s wo1 r (sl.step s) (h.shift hR s)
  | exc c S1 => exact h
  | bad => exact h

/-- the end of a reading: the answer is here -/
theorem Ans.done {α β : Type} {A : Amb} {Ex : XK} {R : RR α β} {W : Wd} {H : Hp} {S : Sto} {d : α} {Q : β → Hp → Prop} {v : β} (h : Ans A Ex R W H (.ok d S) Q) (wo : Wok A W S H) (k : R H W H d v) : Q v H := h W H v Step.refl wo k

end Hr

set_option Elab.async false
set_option linter.all false
set_option maxRecDepth 100000
namespace Hr
open PySem PySem.Spec PyProof.Rows L2

/-! ### new objects -/
theorem ObOk.mono {A : Amb} {W W' : Wd} {H H' : Hp} {n : Nat} {ob : Ob} (h : ObOk A W H n ob) (hf : ∀ a o, W.Fr a = some o → W'.Fr a = some o) (ha : ∀ n a, W.ad n = some a → W'.ad n = some a)
    (hk : W'.K = W.K) (ht : ∀ a t, W.tg a = some t → W'.tg a = some t) (hh : ∀ a t o, W.tg a = some t → H a = some o → H' a = some o) : ObOk A W' H' n ob := by
  obtain ⟨a, dx, fs, h1, h2, h3, h4, h5, h6, h7, h8, h9⟩ := h
  have fd : ∀ f o, FldD W fs f o → FldD W' fs f o := fun f o q => by
    cases o with
    | none => exact q
    | some d =>
      obtain ⟨v, e, k⟩ := q
      exact ⟨v, e, Den.mono hf ha hk d v k⟩
  have fl : ∀ k f o, FldL W H n k fs f o → FldL W' H' n k fs f o := fun k f o q => by
    cases o with
    | none => exact q
    | some l =>
      obtain ⟨p, vs, e, e2, k1, k2, k3⟩ := q
      exact ⟨p, vs, e, hh _ _ _ k3 e2, Dens.mono hf ha hk l vs k1, k2, ht _ _ k3⟩
  exact ⟨a, dx, fs, ha _ _ h1, ht _ _ h2, hh _ _ _ h2 h3, h4, h5, fd _ _ h6, fd _ _ h7, fl _ _ _ h8, fl _ _ _ h9⟩

def Wd.frz (W : Wd) (a : Addr) (o : HO) : Wd := { W with Fr := upd W.Fr a o }
/-- the kinds of objects that are laid here -/
def plainO : HO → Prop
  | .lst _ => True | .tup _ => True | .dK _ => True | .dT _ => True | _ => False
theorem held_of {H : Hp} {a : Addr} {o : HO} (h : H a = some o) : Held H a o := by
  cases o <;> first | exact h | exact Rd.of h
theorem Held.there {H : Hp} {a : Addr} {o : HO} (h : Held H a o) : ∃ u, H a = some u := by
  cases o <;> first | exact ⟨_, h⟩ | (rcases h with h | ⟨u, h⟩; exact ⟨_, h⟩; exact ⟨_, h⟩)
theorem Held.keep {H H' : Hp} {a : Addr} {o : HO} (h : Held H a o) (k : ∀ u, H a = some u → H' a = some u) : Held H' a o := by
  cases o <;> first | exact k _ h | (rcases h with h | ⟨u, h⟩; exact .inl (k _ h); exact .inr ⟨u, k _ h⟩)
section
variable {A : Amb} {W : Wd} {S : Sto} {H : Hp} {p : Addr} {o : HO}
theorem Wok.frNone (wo : Wok A W S H) (n : H p = none) : W.Fr p = none := none_of_ne fun x e => by
  obtain ⟨u, q⟩ := Held.there (wo.fr p x e)
  rw [n] at q
  exact nomatch q
theorem Wok.tgNone (wo : Wok A W S H) (n : H p = none) : W.tg p = none := none_of_ne fun x e => by
  obtain ⟨o, q, _⟩ := wo.tn p x e
  rw [n] at q
  exact nomatch q
theorem keep_upd (n : H p = none) : ∀ a u, H a = some u → upd H p o a = some u := fun a u h => by
  rw [upd_ne (fun e => by rw [e, n] at h; exact nomatch h)]
  exact h
/-- a new object, not frozen -/
theorem Wok.lay (wo : Wok A W S H) (n : H p = none) : Wok A W S (upd H p o) where
  fr := fun a u e => Held.keep (wo.fr a u e) (keep_upd n a)
  sz := wo.sz
  ft := wo.ft
  ob := fun k b e => (wo.ob k b e).mono (fun _ _ h => h) (fun _ _ h => h) rfl (fun _ _ h => h) (fun a _ u _ h => keep_upd n a u h)
  al := wo.al
  kk := wo.kk
  tn := fun a t e => by
    obtain ⟨u, q, b⟩ := wo.tn a t e
    exact ⟨u, keep_upd n a u q, b⟩
  tb := wo.tb.ext fun b u h => keep_upd n b u h
  lk := fun a x e => by
    obtain ⟨k, q1, q2⟩ := wo.lk a x e
    exact ⟨k, q1, keep_upd n _ _ q2⟩
  pu := wo.pu
theorem Step.lay (wo : Wok A W S H) (n : H p = none) : Step W H W (upd H p o) where
  fr := fun _ _ h => h
  ad := fun _ _ h => h
  nf := fun _ _ h => .inl h
  nt := fun _ _ h => .inl h
  fm' := fun a u h _ _ _ => keep_upd n a u h
  mn := fun a h u q => h u (keep_upd n a u q)
  kk := rfl
  lk := fun _ _ h => h
  tp := fun _ _ h => h
  pe := rfl
  pp := fun _ a _ u _ h _ => keep_upd n a u h
/-- an object of ours is frozen -/
theorem Wok.freeze (wo : Wok A W S H) (h : H p = some o) (t : W.tg p = none) (z : szOk o) (f : W.Fr p = none) : Wok A (W.frz p o) S H where
  fr := fun a u e => by
    by_cases q : a = p
    · subst q
      rw [show (W.frz a o).Fr a = some o from upd_same] at e
      cases e
      exact held_of h
    · rw [show (W.frz p o).Fr a = W.Fr a from upd_ne q] at e
      exact wo.fr a u e
  sz := fun a u e => by
    by_cases q : a = p
    · subst q
      rw [show (W.frz a o).Fr a = some o from upd_same] at e
      cases e
      exact z
    · rw [show (W.frz p o).Fr a = W.Fr a from upd_ne q] at e
      exact wo.sz a u e
  ft := fun a u e => by
    by_cases q : a = p
    · subst q; exact t
    · rw [show (W.frz p o).Fr a = W.Fr a from upd_ne q] at e
      exact wo.ft a u e
  ob := fun k b e => (wo.ob k b e).mono (fun a u q => (show (W.frz p o).Fr a = some u by
      rw [show (W.frz p o).Fr a = W.Fr a from upd_ne (fun z => by rw [z, f] at q; exact nomatch q)]; exact q)) (fun _ _ h => h) rfl (fun _ _ h => h) (fun _ _ _ _ h => h)
  al := wo.al
  tn := wo.tn
  kk := wo.kk
  tb := wo.tb
  lk := fun a x e => by
    obtain ⟨k, q1, q2⟩ := wo.lk a x e
    exact ⟨k, by rw [show (W.frz p o).Fr a = W.Fr a from upd_ne (fun z => by rw [z, f] at q1; exact nomatch q1)]; exact q1, q2⟩
  pu := wo.pu
/-- frozen where it is new for H0 -/
theorem Step.freeze {W0 : Wd} {H0 : Hp} (s : Step W0 H0 W H) (n : Nw H0 p) (f : W.Fr p = none) : Step W0 H0 (W.frz p o) H where
  fr := fun a u q => by
    have k := s.fr a u q
    show upd W.Fr p o a = some u
    rw [upd_ne (fun z => by rw [z, f] at k; exact nomatch k)]
    exact k
  ad := s.ad
  nf := fun a u q => by
    by_cases e : a = p
    · exact .inr (e ▸ n)
    · exact s.nf a u (by rw [show (W.frz p o).Fr a = W.Fr a from upd_ne e] at q; exact q)
  nt := s.nt
  fm' := s.fm'
  mn := s.mn
  kk := s.kk
  lk := s.lk
  tp := s.tp
  pe := s.pe
  pp := s.pp
theorem frz_le (f : W.Fr p = none) : ∀ a u, W.Fr a = some u → (W.frz p o).Fr a = some u := fun a u q => by
  show upd W.Fr p o a = some u
  rw [upd_ne (fun z => by rw [z, f] at q; exact nomatch q)]
  exact q
theorem Dens.frz {l : List D} {vs : List V} (h : Dens W l vs) (f : W.Fr p = none) : Dens (W.frz p o) l vs := Dens.mono (frz_le f) (fun _ _ h => h) rfl l vs h
theorem DenK.frz {l : List (Key × D)} {vs : List (Key × V)} (h : DenK W l vs) (f : W.Fr p = none) : DenK (W.frz p o) l vs := DenK.mono (frz_le f) (fun _ _ h => h) rfl l vs h
theorem DenT.frz {l : List (List Key × D)} {vs : List (List Key × V)} (h : DenT W l vs) (f : W.Fr p = none) : DenT (W.frz p o) l vs := DenT.mono (frz_le f) (fun _ _ h => h) rfl l vs h
end
theorem DenN.frz {W : Wd} {p : Addr} {o : HO} {l : List (Int × List Int)} {vs : List ((Int × List Int) × Addr)} (h : DenN W l vs) (f : W.Fr p = none) : DenN (W.frz p o) l vs := h.mono (frz_le f)
/-- something new becomes something told -/
theorem New.freeze {A : Amb} {W0 W : Wd} {S : Sto} {H0 H : Hp} {d : D} {v : V} (s : Step W0 H0 W H) (wo : Wok A W S H) (n : New W H0 H d v) :
    ∃ W', Step W0 H0 W' H ∧ Wok A W' S H ∧ Den W' d v := by
  obtain ⟨a, e, z, f, t, p⟩ := n
  cases d with
  | lst l =>
    obtain ⟨vs, h, k, q⟩ := p
    exact ⟨_, s.freeze z f, wo.freeze h t q f, a, vs, e, upd_same, k.frz f⟩
  | dK l =>
    obtain ⟨vs, h, k, q⟩ := p
    exact ⟨_, s.freeze z f, wo.freeze h t q f, a, vs, e, upd_same, k.frz f⟩
  | dT l =>
    obtain ⟨vs, h, k, q⟩ := p
    exact ⟨_, s.freeze z f, wo.freeze h t q f, a, vs, e, upd_same, k.frz f⟩
  | dN l =>
    obtain ⟨vs, h, k, q⟩ := p
    exact ⟨_, s.freeze z f, wo.freeze h t True.intro f, a, vs, e, upd_same, k.frz f, q.2⟩
  | _ => exact p.elim
section
variable {A : Amb} {Ex : XK} {W : Wd} {S : Sto} {H : Hp} {Q : VK}
/-- the answer is a new list, or a new tuple -/
theorem Ans.newL {l : List D} {vs : List V} (h : Ans A Ex rN W H (.ok (.lst l) S) Q) (wo : Wok A W S H) (k : Dens W l vs) (z : vs.length ≤ sizeLine) : ∀ p, H p = none → Q (.ref p) (upd H p (.lst vs)) := fun p n =>
  h W _ _ (Step.lay wo n) (wo.lay n) ⟨p, rfl, nw_of n, wo.frNone n, wo.tgNone n, vs, upd_same, k, z⟩
theorem Ans.newLD {l : List D} {vs : List V} (h : Ans A Ex rD W H (.ok (.lst l) S) Q) (wo : Wok A W S H) (k : Dens W l vs) (z : vs.length ≤ sizeLine) : ∀ p, H p = none → Q (.ref p) (upd H p (.lst vs)) := fun p n =>
  h _ _ _ ((Step.lay wo n).freeze (nw_of n) (wo.frNone n)) ((wo.lay n).freeze upd_same (wo.tgNone n) z (wo.frNone n)) ⟨p, vs, rfl, upd_same, k.frz (wo.frNone n)⟩
theorem Ans.newT {l : List D} {vs : List V} (h : Ans A Ex rD W H (.ok (.tup l) S) Q) (wo : Wok A W S H) (k : Dens W l vs) (z : vs.length ≤ sizeLine) : ∀ p, H p = none → Q (.ref p) (upd H p (.tup vs)) := fun p n =>
  h _ _ _ ((Step.lay wo n).freeze (nw_of n) (wo.frNone n)) ((wo.lay n).freeze upd_same (wo.tgNone n) z (wo.frNone n)) ⟨p, vs, rfl, upd_same, k.frz (wo.frNone n)⟩
theorem Ans.newK {l : List (Key × D)} {vs : List (Key × V)} (h : Ans A Ex rN W H (.ok (.dK l) S) Q) (wo : Wok A W S H) (k : DenK W l vs) (z : vs.length ≤ sizeLine) : ∀ p, H p = none → Q (.ref p) (upd H p (.dK vs)) := fun p n =>
  h W _ _ (Step.lay wo n) (wo.lay n) ⟨p, rfl, nw_of n, wo.frNone n, wo.tgNone n, vs, upd_same, k, z⟩
end

/-! ### what is seen of a value -/
section
variable {A : Amb} {W : Wd} {S : Sto} {H : Hp} {v : V}
theorem View.lst {l : List D} (h : View W H (.lst l) v) (wo : Wok A W S H) : ∃ a vs, v = .ref a ∧ H a = some (.lst vs) ∧ Dens W l vs ∧ vs.length ≤ sizeLine := by
  rcases h with ⟨a, vs, e, f, k⟩ | ⟨a, e, _, _, vs, f, k, z⟩
  · exact ⟨a, vs, e, wo.fr a _ f, k, wo.sz a _ f⟩
  · exact ⟨a, vs, e, f, k, z⟩
theorem View.tup {l : List D} (h : View W H (.tup l) v) (wo : Wok A W S H) : ∃ a vs, v = .ref a ∧ H a = some (.tup vs) ∧ Dens W l vs ∧ vs.length ≤ sizeLine ∧ Den W (.tup l) v := by
  rcases h with ⟨a, vs, e, f, k⟩ | ⟨a, e, _, _, t⟩
  · exact ⟨a, vs, e, wo.fr a _ f, k, wo.sz a _ f, a, vs, e, f, k⟩
  · exact t.elim
theorem View.dK {l : List (Key × D)} (h : View W H (.dK l) v) (wo : Wok A W S H) : ∃ a vs, v = .ref a ∧ Rd H a (.dK vs) ∧ DenK W l vs ∧ vs.length ≤ sizeLine := by
  rcases h with ⟨a, vs, e, f, k⟩ | ⟨a, e, _, _, vs, f, k, z⟩
  · exact ⟨a, vs, e, wo.fr a _ f, k, wo.sz a _ f⟩
  · exact ⟨a, vs, e, .of f, k, z⟩
theorem View.dT {l : List (List Key × D)} (h : View W H (.dT l) v) (wo : Wok A W S H) : ∃ a vs, v = .ref a ∧ Rd H a (.dT vs) ∧ DenT W l vs ∧ vs.length ≤ sizeLine := by
  rcases h with ⟨a, vs, e, f, k⟩ | ⟨a, e, _, _, vs, f, k, z⟩
  · exact ⟨a, vs, e, wo.fr a _ f, k, wo.sz a _ f⟩
  · exact ⟨a, vs, e, .of f, k, z⟩
theorem View.scr {l : List Int} (h : View W H (.scr l) v) (wo : Wok A W S H) : ∃ a, v = .ref a ∧ SqL A.K H a (l.map V.int) := by
  rcases h with ⟨a, e, f⟩ | ⟨a, e, _, _, t⟩
  · refine ⟨a, e, ?_⟩
    rcases f with (f | ⟨o, f⟩) | f
    · exact .inl (.inl (wo.fr a _ f))
    · exact .inl (.inr ⟨o, wo.fr a _ f⟩)
    · rw [wo.kk] at f; exact .inr f
  · exact t.elim
theorem View.int {i : Int} (h : View W H (.int i) v) : v = .int i := by
  rcases h with h | ⟨a, e, _, _, t⟩
  · exact h
  · exact t.elim
theorem View.bl {i : Bool} (h : View W H (.bl i) v) : v = .bl i := by
  rcases h with h | ⟨a, e, _, _, t⟩
  · exact h
  · exact t.elim
theorem View.str {i : Str} (h : View W H (.str i) v) : v = .str i := by
  rcases h with h | ⟨a, e, _, _, t⟩
  · exact h
  · exact t.elim
theorem View.non (h : View W H .non v) : v = .non := by
  rcases h with h | ⟨a, e, _, _, t⟩
  · exact h
  · exact t.elim
end

/-! ### judgements -/
section
variable {X : Cx} {A : Amb} {Ex : XK} {Γ : List Nat}
theorem _root_.L2.PE.of {e : Expr} {t t' : TE} (h : PE X e t) (k : ∀ σ H Q, t' σ H Q → t σ H Q) : PE X e t' := ⟨fun pins s σ H Q I q => h.run pins s σ H Q I (k σ H Q q)⟩
theorem _root_.L2.PT.of {e : Expr} {t t' : TT} (h : PT X e t) (k : ∀ σ H Q, t' σ H Q → t σ H Q) : PT X e t' := ⟨fun pins s σ H Q I q => h.run pins s σ H Q I (k σ H Q q)⟩
theorem _root_.L2.PW.of {e : Expr} {t t' : TT} (h : PW X e t) (k : ∀ σ H Q, t' σ H Q → t σ H Q) : PW X e t' := ⟨fun wh pins s σ H Q I q => h.run wh pins s σ H Q I (k σ H Q q)⟩
theorem _root_.L2.PA.of {e : List Expr} {t t' : TA} (h : PA X e t) (k : ∀ σ H Q, t' σ H Q → t σ H Q) : PA X e t' := ⟨fun pos pins s σ H Q I q => h.run pos pins s σ H Q I (k σ H Q q)⟩
theorem _root_.L2.PO.of {e : Option Expr} {t t' : TO} (h : PO X e t) (k : ∀ σ H Q, t' σ H Q → t σ H Q) : PO X e t' := ⟨fun pins s σ H Q I q => h.run pins s σ H Q I (k σ H Q q)⟩

abbrev DE (X : Cx) (A : Amb) (Ex : XK) (Γ : List Nat) (e : Expr) (f : Ev D) : Prop := PE X e (tR A Ex Γ rD f)
abbrev DV (X : Cx) (A : Amb) (Ex : XK) (Γ : List Nat) (e : Expr) (f : Ev D) : Prop := PE X e (tR A Ex Γ rV f)
abbrev DN (X : Cx) (A : Amb) (Ex : XK) (Γ : List Nat) (e : Expr) (f : Ev D) : Prop := PE X e (tR A Ex Γ rN f)
abbrev DT (X : Cx) (A : Amb) (Ex : XK) (Γ : List Nat) (e : Expr) (f : Ev Bool) : Prop := PT X e (tR A Ex Γ rB f)
abbrev DW (X : Cx) (A : Amb) (Ex : XK) (Γ : List Nat) (e : Expr) (f : Ev Bool) : Prop := PW X e (tR A Ex Γ rB f)
def LenE (f : Ev (List D)) (n : Nat) : Prop := ∀ ρ S l S', f ρ S = .ok l S' → l.length = n
structure DA (X : Cx) (A : Amb) (Ex : XK) (Γ : List Nat) (es : List Expr) (f : Ev (List D)) : Prop where
  pa : PA X es (tR A Ex Γ rL f)
  le : LenE f es.length

theorem DE.v {e : Expr} {f : Ev D} (h : DE X A Ex Γ e f) : DV X A Ex Γ e f := h.of fun σ H Q ⟨W, ρ, S, wo, sl, an⟩ => ⟨W, ρ, S, wo, sl, by
  generalize f ρ S = r at an
  cases r with
  | ok d S1 => exact fun W1 H1 v s w k => an W1 H1 v s w (.inl k)
  | exc c S1 => exact an
  | bad => exact an⟩
theorem DN.v {e : Expr} {f : Ev D} (h : DN X A Ex Γ e f) : DV X A Ex Γ e f := h.of fun σ H Q ⟨W, ρ, S, wo, sl, an⟩ => ⟨W, ρ, S, wo, sl, by
  generalize f ρ S = r at an
  cases r with
  | ok d S1 => exact fun W1 H1 v s w k => an W1 H1 v s w (.inr k.own)
  | exc c S1 => exact an
  | bad => exact an⟩
theorem DN.d {e : Expr} {f : Ev D} (h : DN X A Ex Γ e f) : DE X A Ex Γ e f := h.of fun σ H Q ⟨W, ρ, S, wo, sl, an⟩ => ⟨W, ρ, S, wo, sl, by
  generalize f ρ S = r at an
  cases r with
  | ok d S1 =>
    intro W1 H1 v s w k
    obtain ⟨W2, s2, w2, k2⟩ := New.freeze s w k
    exact an W2 H1 v s2 w2 k2
  | exc c S1 => exact an
  | bad => exact an⟩

/-! ### names, constants -/
def var (i : Nat) : Ev D := fun ρ S => match ρ[i]? with
  | some (some d) => .ok d S
  | _ => .bad
def cst (d : D) : Ev D := fun _ S => .ok d S
def b1 {α γ : Type} (fa : Ev α) (g : α → Sto → Out γ) : Ev γ := fun ρ S => (fa ρ S).bind g
def b2 {α β γ : Type} (fa : Ev α) (fb : Ev β) (g : α → β → Sto → Out γ) : Ev γ := fun ρ S => (fa ρ S).bind fun x S1 => (fb ρ S1).bind fun y S2 => g x y S2
def b3 {α β β' γ : Type} (fa : Ev α) (fb : Ev β) (fc : Ev β') (g : α → β → β' → Sto → Out γ) : Ev γ := fun ρ S => (fa ρ S).bind fun x S1 => (fb ρ S1).bind fun y S2 => (fc ρ S2).bind fun z S3 => g x y z S3

theorem var_cases {i : Nat} {ρ : Rho} {S : Sto} : (∃ d, ρ[i]? = some (some d) ∧ var i ρ S = .ok d S) ∨ var i ρ S = .bad := by
  unfold var
  cases ρ[i]? with
  | none => exact .inr rfl
  | some o => cases o with
    | none => exact .inr rfl
    | some d => exact .inl ⟨d, rfl, rfl⟩
theorem de_var {i : Nat} {x : Str} {pos : Pos} (h : PE X (.Name x pos) (tVar i)) (hi : i ∉ Γ) : DE X A Ex Γ (.Name x pos) (var i) := h.of fun σ H Q ⟨W, ρ, S, wo, sl, an⟩ => by
  rcases @var_cases i ρ S with ⟨d, e, q⟩ | q
  · rw [q] at an
    obtain ⟨v, e1, k⟩ := sl.den i d e hi
    exact ⟨v, e1, an.done wo k⟩
  · rw [q] at an
    exact an.elim
theorem dv_var {i : Nat} {x : Str} {pos : Pos} (h : PE X (.Name x pos) (tVar i)) : DV X A Ex Γ (.Name x pos) (var i) := h.of fun σ H Q ⟨W, ρ, S, wo, sl, an⟩ => by
  rcases @var_cases i ρ S with ⟨d, e, q⟩ | q
  · rw [q] at an
    obtain ⟨v, e1, k⟩ := sl.view e
    exact ⟨v, e1, an.done wo k⟩
  · rw [q] at an
    exact an.elim
theorem de_c {e : Expr} {v : V} {d : D} (h : PE X e (tC v)) (k : ∀ W, Den W d v) : DE X A Ex Γ e (cst d) := h.of fun σ H Q ⟨W, ρ, S, wo, sl, an⟩ => an.done wo (k W)
theorem de_int {i : Int} {j : Nat} {pos : Pos} : DE X A Ex Γ (.Constant (.int i) j pos) (cst (.int i)) := de_c pe_int fun _ => rfl
theorem de_bl {i : Bool} {j : Nat} {pos : Pos} : DE X A Ex Γ (.Constant (.bool i) j pos) (cst (.bl i)) := de_c pe_bl fun _ => rfl
theorem de_str {i : Str} {j : Nat} {pos : Pos} : DE X A Ex Γ (.Constant (.str i) j pos) (cst (.str i)) := de_c pe_str fun _ => rfl
theorem de_non {j : Nat} {pos : Pos} : DE X A Ex Γ (.Constant .none j pos) (cst .non) := de_c pe_non fun _ => rfl

/-! ### argument lists, displays -/
def aNil : Ev (List D) := fun _ S => .ok [] S
def aCons (fa : Ev D) (fr : Ev (List D)) : Ev (List D) := b2 fa fr fun d l S => .ok (d :: l) S
theorem da_nil : DA X A Ex Γ [] aNil where
  pa := pa_nil.of fun σ H Q ⟨W, ρ, S, wo, sl, an⟩ => an.done wo (show Dens W [] [] from rfl)
  le := fun ρ S l S' e => by cases e; rfl
theorem da_cons {e : Expr} {es : List Expr} {fa : Ev D} {fr : Ev (List D)} (ha : DE X A Ex Γ e fa) (hr : DA X A Ex Γ es fr) (hs : starEach (e :: es) X.env = (false, eval e X.env) :: starEach es X.env := by rfl) : DA X A Ex Γ (e :: es) (aCons fa fr) where
  pa := (pa_cons ha hr.pa hs).of fun σ H Q ⟨W, ρ, S, wo, sl, an⟩ =>
    seqR shL wo sl an fun d S1 W1 H1 v s1 wo1 k1 sl1 an1 => seqR shL wo1 sl1 an1 fun l S2 W2 H2 vs s2 wo2 k2 sl2 an2 =>
      an2.done wo2 (show Dens W2 (d :: l) (v :: vs) from ⟨v, vs, rfl, Den.step k1 s2, k2⟩)
  le := fun ρ S l S' e => by
    unfold aCons b2 at e
    cases h1 : fa ρ S with
    | ok d S1 =>
      rw [h1] at e
      simp only [Out.bind_ok] at e
      cases h2 : fr ρ S1 with
      | ok m S2 =>
        rw [h2] at e
        simp only [Out.bind_ok] at e
        cases e
        simp [hr.le _ _ _ _ h2]
      | exc c S2 => rw [h2] at e; exact nomatch e
      | bad => rw [h2] at e; exact nomatch e
    | exc c S1 => rw [h1] at e; exact nomatch e
    | bad => rw [h1] at e; exact nomatch e
def mkT (fas : Ev (List D)) : Ev D := b1 fas fun l S => .ok (.tup l) S
def mkL (fas : Ev (List D)) : Ev D := b1 fas fun l S => .ok (.lst l) S
theorem b1_len {n : Nat} {fas : Ev (List D)} (h : LenE fas n) {γ : Type} {g : List D → Sto → Out γ} : b1 fas g = b1 fas fun l S => if l.length = n then g l S else .bad := by
  funext ρ S
  unfold b1
  cases e : fas ρ S with
  | ok l S1 => simp only [Out.bind_ok]; rw [if_pos (h _ _ _ _ e)]
  | exc c S1 => rfl
  | bad => rfl
theorem de_tup {es : List Expr} {x1 : Nat} {pos : Pos} {fas : Ev (List D)} (h : DA X A Ex Γ es fas) (z : es.length ≤ sizeLine) : DE X A Ex Γ (.Tuple es x1 pos) (mkT fas) := by
  unfold mkT DE
  rw [b1_len h.le]
  exact (pe_tup h.pa).of fun σ H Q ⟨W, ρ, S, wo, sl, an⟩ => seqR shD wo sl an fun l S1 W1 H1 vs s1 wo1 k1 sl1 an1 => by
    by_cases q : l.length = es.length
    · rw [if_pos q] at an1
      have zz : vs.length ≤ sizeLine := by rw [Dens.length k1, q]; exact z
      exact ⟨zz, an1.newT wo1 k1 zz⟩
    · rw [if_neg q] at an1
      exact an1.elim
theorem dn_lst {es : List Expr} {pos : Pos} {fas : Ev (List D)} (h : DA X A Ex Γ es fas) (z : es.length ≤ sizeLine) : DN X A Ex Γ (.List es pos) (mkL fas) := by
  unfold mkL DN
  rw [b1_len h.le]
  exact (pe_lst h.pa).of fun σ H Q ⟨W, ρ, S, wo, sl, an⟩ => seqR shN wo sl an fun l S1 W1 H1 vs s1 wo1 k1 sl1 an1 => by
    by_cases q : l.length = es.length
    · rw [if_pos q] at an1
      have zz : vs.length ≤ sizeLine := by rw [Dens.length k1, q]; exact z
      exact ⟨zz, an1.newL wo1 k1 zz⟩
    · rw [if_neg q] at an1
      exact an1.elim

/-! ### operators -/
variable {a b c : Expr} {fa fb fc : Ev D} {pos : Pos}
theorem d_op {op : Operator} {r : R2} {R : RR D V} {g : D → D → Sto → Out D} (hR : Shift R) (ho : OpR X (binaryOp op) r) (ha : DV X A Ex Γ a fa) (hb : DV X A Ex Γ b fb)
    (hg : ∀ W S H x y dx dy Q, Wok A W S H → View W H dx x → View W H dy y → Ans A Ex R W H (g dx dy S) Q → r x y H Q) : PE X (.BinOp a op b pos) (tR A Ex Γ R (b2 fa fb g)) :=
  (pe_op ho ha hb).of fun σ H Q ⟨W, ρ, S, wo, sl, an⟩ => seqR hR wo sl an fun dx S1 W1 H1 x s1 wo1 vx sl1 an1 => seqR hR wo1 sl1 an1 fun dy S2 W2 H2 y s2 wo2 vy sl2 an2 =>
    hg W2 S2 H2 x y dx dy Q wo2 (View.step vx s2) vy an2
/-- a comparison by its meaning -/
structure Ck (X : Cx) (A : Amb) (Ex : XK) (op : CmpOp) (b : Expr) (g : D → D → Sto → Out D) : Prop where
  ex : ∃ r, OpR X (compareOp op) r ∧ ∀ W S H x y dx dy Q, Wok A W S H → View W H dx x → View W H dy y → Ans A Ex rD W H (g dx dy S) Q → r x y H Q
  hm : behindInMarks op b = false
theorem d_cmp {op : CmpOp} {r : R2} {g : D → D → Sto → Out D} (ho : OpR X (compareOp op) r) (hm : behindInMarks op b = false)
    (hg : ∀ W S H x y dx dy Q, Wok A W S H → View W H dx x → View W H dy y → Ans A Ex rD W H (g dx dy S) Q → r x y H Q) : Ck X A Ex op b g := ⟨⟨r, ho, hg⟩, hm⟩
theorem k_cmp {r : R2} {g : D → D → Sto → Out D} (hg : ∀ W S H x y dx dy Q, Wok A W S H → View W H dx x → View W H dy y → Ans A Ex rD W H (g dx dy S) Q → r x y H Q) :
    ∀ σ H Q, tR A Ex Γ rD (b2 fa fb g) σ H Q → tOp r (tR A Ex Γ rV fa) (tR A Ex Γ rV fb) σ H Q :=
  fun σ H Q ⟨W, ρ, S, wo, sl, an⟩ => seqR shD wo sl an fun dx S1 W1 H1 x s1 wo1 vx sl1 an1 => seqR shD wo1 sl1 an1 fun dy S2 W2 H2 y s2 wo2 vy sl2 an2 =>
    hg W2 S2 H2 x y dx dy Q wo2 (View.step vx s2) vy an2
theorem Ck.de {op : CmpOp} {g : D → D → Sto → Out D} (c : Ck X A Ex op b g) (ha : DV X A Ex Γ a fa) (hb : DV X A Ex Γ b fb) : DE X A Ex Γ (.Compare a [op] [b] pos) (b2 fa fb g) := by
  obtain ⟨⟨r, ho, hg⟩, hm⟩ := c
  exact (pe_cmpR ho ha hb hm).of (k_cmp hg)
def tst (f : Ev D) : Ev Bool := b1 f fun d S => match d with
  | .bl b => .ok b S
  | _ => .bad
/-- a value's reading as a test's -/
theorem dt_of {e : Expr} {t : TE} {f : Ev D} (h : PT X e (tB t)) (k : ∀ σ H Q, tR A Ex Γ rD f σ H Q → t σ H Q) : DT X A Ex Γ e (tst f) :=
  h.of fun σ H Q ⟨W, ρ, S, wo, sl, an⟩ => k σ H _ ⟨W, ρ, S, wo, sl, by
    unfold tst b1 at an
    generalize f ρ S = r at an
    cases r with
    | ok d S1 =>
      intro W1 H1 v s w kd
      cases d with
      | bl b => exact ⟨b, kd, an W1 H1 b s w rfl⟩
      | _ => exact an.elim
    | exc c S1 => exact an
    | bad => exact an⟩
theorem Ck.dt {op : CmpOp} {g : D → D → Sto → Out D} (c : Ck X A Ex op b g) (ha : DV X A Ex Γ a fa) (hb : DV X A Ex Γ b fb) : DT X A Ex Γ (.Compare a [op] [b] pos) (tst (b2 fa fb g)) := by
  obtain ⟨⟨r, ho, hg⟩, hm⟩ := c
  exact dt_of (pt_cmpR ho ha hb hm) (k_cmp hg)

def dAdd : D → D → Sto → Out D
  | .int i, .int j, S => .ok (.int (i + j)) S
  | .lst l, .lst m, S => if l.length + m.length ≤ sizeLine then .ok (.lst (l ++ m)) S else .bad
  | .tup l, .tup m, S => if l.length + m.length ≤ sizeLine then .ok (.tup (l ++ m)) S else .bad
  | .str l, .str m, S => if l.length + m.length ≤ sizeLine then .ok (.str (l ++ m)) S else .bad
  | _, _, _ => .bad
end
end Hr

set_option Elab.async false
set_option linter.all false
set_option maxRecDepth 100000
namespace Hr
open PySem PySem.Spec PyProof.Rows L2

theorem Dens.nil_of {W : Wd} {l : List D} (h : Dens W l []) : l = [] := by
  cases l with
  | nil => rfl
  | cons d l => obtain ⟨v, r, e, _⟩ := h; exact nomatch e
theorem Dens.ne {W : Wd} {l : List D} {vs : List V} (h : Dens W l vs) (z : l.isEmpty = false) : vs ≠ [] := fun e => by
  subst e
  rw [h.nil_of] at z
  exact nomatch z

/-! ### equality of data -/
mutual
def D.eqv : D → D → Bool
  | .non, .non => true
  | .bl a, .bl b => a == b
  | .bl a, .int b => (if a then 1 else 0) == b
  | .int a, .bl b => a == (if b then 1 else 0)
  | .int a, .int b => a == b
  | .str a, .str b => a == b
  | .tup l, .tup m => D.eqvs l m
  | .lst l, .lst m => D.eqvs l m
  | .scr l, .lst m => l.isEmpty && m.isEmpty
  | _, _ => false
def D.eqvs : List D → List D → Bool
  | [], [] => true
  | a :: l, b :: m => D.eqv a b && D.eqvs l m
  | _, _ => false
end
mutual
def D.py : D → PyData
  | .non => .none
  | .bl b => .bool b
  | .int i => .int i
  | .str s => .str s
  | .tup l => .tuple (D.pys l)
  | .lst l => .list (D.pys l)
  | .scr l => .list (l.map PyData.int)
  | _ => .none
def D.pys : List D → List PyData
  | [] => []
  | d :: l => D.py d :: D.pys l
end
mutual
/-- data of depth at most n -/
def okE : D → Nat → Bool
  | .non, _ => true
  | .bl _, _ => true
  | .int _, _ => true
  | .str x, _ => PyData.strOk x
  | .tup l, n + 1 => okEs l n
  | .lst l, n + 1 => okEs l n
  | _, _ => false
def okEs : List D → Nat → Bool
  | [], _ => true
  | d :: l, n => okE d n && okEs l n
end
mutual
theorem okE.lay : ∀ (d : D) (n : Nat), okE d n = true → (D.py d).canLay0 = true ∧ (D.py d).depth ≤ n
  | .non, _, _ => by simp [D.py, PyData.canLay0, PyData.depth]
  | .bl _, _, _ => by simp [D.py, PyData.canLay0, PyData.depth]
  | .int _, _, _ => by simp [D.py, PyData.canLay0, PyData.depth]
  | .str _, _, h => by simp [okE] at h; simp [D.py, PyData.canLay0, PyData.depth, h]
  | .tup l, 0, h => by simp [okE] at h
  | .lst l, 0, h => by simp [okE] at h
  | .tup l, n + 1, h => by
    obtain ⟨a, b⟩ := okEs.lay l n (by simpa [okE] using h)
    refine ⟨by simpa [D.py, PyData.canLay0] using a, ?_⟩
    simp only [D.py, PyData.depth]; omega
  | .lst l, n + 1, h => by
    obtain ⟨a, b⟩ := okEs.lay l n (by simpa [okE] using h)
    refine ⟨by simpa [D.py, PyData.canLay0] using a, ?_⟩
    simp only [D.py, PyData.depth]; omega
  | .dK l, _, h => by simp [okE] at h
  | .dT l, _, h => by simp [okE] at h
  | .obj l, _, h => by simp [okE] at h
  | .scr l, _, h => by simp [okE] at h
theorem okEs.lay : ∀ (l : List D) (n : Nat), okEs l n = true → PyData.canLayAll0 (D.pys l) = true ∧ PyData.depthAll (D.pys l) ≤ n
  | [], _, _ => by simp [D.pys, PyData.canLayAll0, PyData.depthAll]
  | d :: l, n, h => by
    have h' : okE d n = true ∧ okEs l n = true := by simpa [okEs] using h
    obtain ⟨a, b⟩ := okE.lay d n h'.1
    obtain ⟨a', b'⟩ := okEs.lay l n h'.2
    refine ⟨by simp [D.pys, PyData.canLayAll0, a, a'], ?_⟩
    simp only [D.pys, PyData.depthAll]; omega
end
theorem okE.shaped {d : D} (h : okE d 60 = true) : SeqAt.shaped (D.py d) = true := by
  obtain ⟨a, b⟩ := okE.lay d 60 h
  show ((D.py d).canLay0 && decide ((D.py d).depth ≤ 64)) = true
  rw [a, decide_eq_true (by omega)]; rfl
theorem scr_shaped (l : List Int) : SeqAt.shaped (D.py (.scr l)) = true := by
  have h1 : ∀ m : List Int, PyData.canLayAll0 (m.map PyData.int) = true ∧ PyData.depthAll (m.map PyData.int) ≤ 1 := fun m => by
    induction m with
    | nil => simp [PyData.canLayAll0, PyData.depthAll]
    | cons a m ih =>
      refine ⟨by simp [PyData.canLayAll0, PyData.canLay0]; exact by simpa using ih.1, ?_⟩
      have := ih.2
      simp only [List.map_cons, PyData.depthAll, PyData.depth]; omega
  show ((D.py (.scr l)).canLay0 && decide ((D.py (.scr l)).depth ≤ 64)) = true
  have h2 := h1 l
  have h3 : (D.py (.scr l)).depth ≤ 64 := by
    have := h2.2
    simp only [D.py, PyData.depth]; omega
  rw [decide_eq_true h3]
  simpa [D.py, PyData.canLay0] using h2.1
mutual
theorem eqv_py : ∀ (a b : D) (n m : Nat), okE a n = true → okE b m = true → PyData.eqv (D.py a) (D.py b) = D.eqv a b
  | .non, b, n, m, _, hb => by cases b <;> simp [okE] at hb <;> simp [D.py, PyData.eqv, D.eqv]
  | .bl x, b, n, m, _, hb => by cases b <;> simp [okE] at hb <;> simp [D.py, PyData.eqv, D.eqv]
  | .int x, b, n, m, _, hb => by cases b <;> simp [okE] at hb <;> simp [D.py, PyData.eqv, D.eqv]
  | .str x, b, n, m, _, hb => by cases b <;> simp [okE] at hb <;> simp [D.py, PyData.eqv, D.eqv]
  | .tup l, b, 0, m, ha, hb => by simp [okE] at ha
  | .lst l, b, 0, m, ha, hb => by simp [okE] at ha
  | .tup l, .tup k, n + 1, m + 1, ha, hb => by
    simp only [D.py, PyData.eqv, D.eqv]
    exact eqvs_py l k n m (by simpa [okE] using ha) (by simpa [okE] using hb)
  | .lst l, .lst k, n + 1, m + 1, ha, hb => by
    simp only [D.py, PyData.eqv, D.eqv]
    exact eqvs_py l k n m (by simpa [okE] using ha) (by simpa [okE] using hb)
  | .tup l, .non, n + 1, m, _, _ => by simp [D.py, PyData.eqv, D.eqv]
  | .tup l, .bl _, n + 1, m, _, _ => by simp [D.py, PyData.eqv, D.eqv]
  | .tup l, .int _, n + 1, m, _, _ => by simp [D.py, PyData.eqv, D.eqv]
  | .tup l, .str _, n + 1, m, _, _ => by simp [D.py, PyData.eqv, D.eqv]
  | .tup l, .lst _, n + 1, m, _, _ => by simp [D.py, PyData.eqv, D.eqv]
  | .tup l, .tup _, n + 1, 0, _, hb => by simp [okE] at hb
  | .tup l, .dK _, n + 1, m, _, hb => by simp [okE] at hb
  | .tup l, .dT _, n + 1, m, _, hb => by simp [okE] at hb
  | .tup l, .obj _, n + 1, m, _, hb => by simp [okE] at hb
  | .tup l, .scr _, n + 1, m, _, hb => by simp [okE] at hb
  | .lst l, .non, n + 1, m, _, _ => by simp [D.py, PyData.eqv, D.eqv]
  | .lst l, .bl _, n + 1, m, _, _ => by simp [D.py, PyData.eqv, D.eqv]
  | .lst l, .int _, n + 1, m, _, _ => by simp [D.py, PyData.eqv, D.eqv]
  | .lst l, .str _, n + 1, m, _, _ => by simp [D.py, PyData.eqv, D.eqv]
  | .lst l, .tup _, n + 1, m, _, _ => by simp [D.py, PyData.eqv, D.eqv]
  | .lst l, .lst _, n + 1, 0, _, hb => by simp [okE] at hb
  | .lst l, .dK _, n + 1, m, _, hb => by simp [okE] at hb
  | .lst l, .dT _, n + 1, m, _, hb => by simp [okE] at hb
  | .lst l, .obj _, n + 1, m, _, hb => by simp [okE] at hb
  | .lst l, .scr _, n + 1, m, _, hb => by simp [okE] at hb
  | .dK l, _, _, _, h, _ => by simp [okE] at h
  | .dT l, _, _, _, h, _ => by simp [okE] at h
  | .obj l, _, _, _, h, _ => by simp [okE] at h
  | .scr l, _, _, _, h, _ => by simp [okE] at h
theorem eqvs_py : ∀ (a b : List D) (n m : Nat), okEs a n = true → okEs b m = true → PyData.eqvAll (D.pys a) (D.pys b) = D.eqvs a b
  | [], [], _, _, _, _ => by simp [D.pys, PyData.eqvAll, D.eqvs]
  | [], _ :: _, _, _, _, _ => by simp [D.pys, PyData.eqvAll, D.eqvs]
  | _ :: _, [], _, _, _, _ => by simp [D.pys, PyData.eqvAll, D.eqvs]
  | x :: l, y :: k, n, m, ha, hb => by
    have h1 : okE x n = true ∧ okEs l n = true := by simpa [okEs] using ha
    have h2 : okE y m = true ∧ okEs k m = true := by simpa [okEs] using hb
    simp only [D.pys, PyData.eqvAll, D.eqvs]
    rw [eqv_py x y n m h1.1 h2.1, eqvs_py l k n m h1.2 h2.2]
end
section
variable {A : Amb} {W : Wd} {S : Sto} {H : Hp} {K : PySem.W.Frag}
mutual
theorem Den.dp (wo : Wok A W S H) : ∀ (d : D) (n : Nat) (v : V), okE d n = true → Den W d v → Dp K H v (D.py d)
  | .non, _, _, _, h => by cases h; exact .non
  | .bl _, _, _, _, h => by cases h; exact .bl _
  | .int _, _, _, _, h => by cases h; exact .int _
  | .str _, _, _, _, h => by cases h; exact .str _
  | .tup l, 0, _, h, _ => by simp [okE] at h
  | .lst l, 0, _, h, _ => by simp [okE] at h
  | .tup l, n + 1, v, h, ⟨a, vs, e, f, k⟩ => by
    subst e
    exact .tup (SqT.of (wo.fr a _ f)) (Dens.dp wo l n vs (by simpa [okE] using h) k)
  | .lst l, n + 1, v, h, ⟨a, vs, e, f, k⟩ => by
    subst e
    exact .lst (SqL.of (wo.fr a _ f)) (Dens.dp wo l n vs (by simpa [okE] using h) k)
  | .dK l, _, _, h, _ => by simp [okE] at h
  | .dT l, _, _, h, _ => by simp [okE] at h
  | .obj l, _, _, h, _ => by simp [okE] at h
  | .scr l, _, _, h, _ => by simp [okE] at h
theorem Dens.dp (wo : Wok A W S H) : ∀ (l : List D) (n : Nat) (vs : List V), okEs l n = true → Dens W l vs → DpAll K H vs (D.pys l)
  | [], _, _, _, h => by cases h; exact .nil
  | d :: l, n, _, h, ⟨v, r, e, k1, k2⟩ => by
    subst e
    have h1 : okE d n = true ∧ okEs l n = true := by simpa [okEs] using h
    exact .cons (Den.dp wo d n v h1.1 k1) (Dens.dp wo l n r h1.2 k2)
end
theorem View.dp (wo : Wok A W S H) {d : D} {n : Nat} {v : V} (o : okE d n = true) (h : View W H d v) : Dp K H v (D.py d) := by
  rcases h with h | ⟨a, e, f, t, p⟩
  · exact Den.dp wo d n v o h
  · cases d with
    | lst l =>
      obtain ⟨vs, q, k, z⟩ := p
      subst e
      cases n with
      | zero => simp [okE] at o
      | succ n => exact .lst (SqL.of q) (Dens.dp wo l n vs (by simpa [okE] using o) k)
    | dK l => simp [okE] at o
    | dT l => simp [okE] at o
    | dN l => simp [okE] at o
    | _ => exact p.elim
theorem View.dpS (wo : Wok A W S H) (hK : A.K = K) {l : List Int} {v : V} (h : View W H (.scr l) v) : Dp K H v (D.py (.scr l)) := by
  obtain ⟨a, rfl, q⟩ := h.scr wo
  rw [hK] at q
  have al : ∀ m : List Int, DpAll K H (m.map V.int) (m.map PyData.int) := fun m => by
    induction m with
    | nil => exact .nil
    | cons x m ih => exact .cons (.int x) ih
  exact .lst q (al l)
end

def dEq : D → D → Sto → Out D
  | .scr l, .lst m, S => if m.isEmpty then .ok (.bl l.isEmpty) S else .bad
  | x, y, S => if okE x 60 && okE y 60 then .ok (.bl (D.eqv x y)) S else .bad
def dNe : D → D → Sto → Out D
  | .scr l, .lst m, S => if m.isEmpty then .ok (.bl (!l.isEmpty)) S else .bad
  | x, y, S => if okE x 60 && okE y 60 then .ok (.bl (!D.eqv x y)) S else .bad
def dCmp (p : Int → Int → Bool) : D → D → Sto → Out D
  | .int i, .int j, S => .ok (.bl (p i j)) S
  | _, _, _ => .bad
abbrev dLt := dCmp fun i j => decide (i < j)
abbrev dLe := dCmp fun i j => decide (i ≤ j)
abbrev dGt := dCmp fun i j => decide (j < i)
abbrev dGe := dCmp fun i j => decide (j ≤ i)
def dSub : D → D → Sto → Out D
  | .int i, .int j, S => .ok (.int (i - j)) S
  | _, _, _ => .bad
def dMod : D → D → Sto → Out D
  | .int i, .int j, S => if 0 < j then .ok (.int (i % j)) S else .bad
  | _, _, _ => .bad
def dDiv : D → D → Sto → Out D
  | .int i, .int j, S => if 0 < j ∧ j < 1073741824 then .ok (.int (i / j)) S else .bad
  | _, _, _ => .bad
def dIsN : D → Sto → Out D
  | .non, S => .ok (.bl true) S
  | _, S => .ok (.bl false) S
def dNotN : D → Sto → Out D
  | .non, S => .ok (.bl false) S
  | _, S => .ok (.bl true) S
section
variable {X : Cx} {A : Amb} {Ex : XK} {Γ : List Nat} {a b c : Expr} {fa fb fc : Ev D} {pos : Pos}
theorem de_add (ha : DV X A Ex Γ a fa) (hb : DV X A Ex Γ b fb) : DE X A Ex Γ (.BinOp a .Add b pos) (b2 fa fb dAdd) :=
  d_op shD (((op_add.or op_cat).or op_catA).or op_add_str) ha hb fun W S H x y dx dy Q wo vx vy an => by
    unfold dAdd at an
    split at an
    · cases vx.int; cases vy.int
      exact .inl (.inl (.inl ⟨_, _, rfl, rfl, an.done wo rfl⟩))
    · split at an
      · rename_i z
        obtain ⟨p, vs, rfl, h1, k1, z1⟩ := vx.lst wo
        obtain ⟨q, us, rfl, h2, k2, z2⟩ := vy.lst wo
        have zz : vs.length + us.length ≤ sizeLine := by rw [k1.length, k2.length]; exact z
        exact .inl (.inl (.inr ⟨p, q, vs, us, rfl, rfl, h1, h2, zz, an.newLD wo (k1.append k2) (by simpa using zz)⟩))
      · exact an.elim
    · split at an
      · rename_i z
        obtain ⟨p, vs, rfl, h1, k1, z1, d1⟩ := vx.tup wo
        obtain ⟨q, us, rfl, h2, k2, z2, d2⟩ := vy.tup wo
        have zz : vs.length + us.length ≤ sizeLine := by rw [k1.length, k2.length]; exact z
        refine .inl (.inr ⟨p, q, vs, us, rfl, rfl, SqT.of h1, SqT.of h2, zz, fun e => ?_, fun _ e => ?_, fun _ _ => an.newT wo (k1.append k2) (by simpa using zz)⟩)
        · subst e
          rw [k1.nil_of, List.nil_append] at an
          exact an.done wo d2
        · subst e
          rw [k2.nil_of, List.append_nil] at an
          exact an.done wo d1
      · exact an.elim
    · split at an
      · rename_i z
        cases vx.str; cases vy.str
        exact .inr ⟨_, _, rfl, rfl, z, an.done wo rfl⟩
      · exact an.elim
    · exact an.elim
theorem de_sub (ha : DV X A Ex Γ a fa) (hb : DV X A Ex Γ b fb) : DE X A Ex Γ (.BinOp a .Sub b pos) (b2 fa fb dSub) :=
  d_op shD op_sub ha hb fun W S H x y dx dy Q wo vx vy an => by
    unfold dSub at an
    split at an
    · cases vx.int; cases vy.int
      exact ⟨_, _, rfl, rfl, an.done wo rfl⟩
    · exact an.elim
theorem de_mod (ha : DV X A Ex Γ a fa) (hb : DV X A Ex Γ b fb) : DE X A Ex Γ (.BinOp a .Mod b pos) (b2 fa fb dMod) :=
  d_op shD op_mod ha hb fun W S H x y dx dy Q wo vx vy an => by
    unfold dMod at an
    split at an
    · split at an
      · rename_i z
        cases vx.int; cases vy.int
        exact ⟨_, _, rfl, rfl, z, an.done wo rfl⟩
      · exact an.elim
    · exact an.elim
theorem de_div (ha : DV X A Ex Γ a fa) (hb : DV X A Ex Γ b fb) : DE X A Ex Γ (.BinOp a .FloorDiv b pos) (b2 fa fb dDiv) :=
  d_op shD op_fdiv ha hb fun W S H x y dx dy Q wo vx vy an => by
    unfold dDiv at an
    split at an
    · split at an
      · rename_i z
        cases vx.int; cases vy.int
        exact ⟨_, _, rfl, rfl, z, an.done wo rfl⟩
      · exact an.elim
    · exact an.elim
theorem ck_cmp {op : CmpOp} {p : Int → Int → Bool} (ho : OpR X (compareOp op) (rI0 fun i j => .bl (p i j))) (hm : behindInMarks op b = false) : Ck X A Ex op b (dCmp p) :=
  d_cmp ho hm fun W S H x y dx dy Q wo vx vy an => by
    unfold dCmp at an
    split at an
    · cases vx.int; cases vy.int
      exact ⟨_, _, rfl, rfl, an.done wo rfl⟩
    · exact an.elim
theorem ck_lt : Ck X A Ex .Lt b dLt := ck_cmp op_lt (nomark _)
theorem ck_le : Ck X A Ex .LtE b dLe := ck_cmp op_le (nomark _)
theorem ck_gt : Ck X A Ex .Gt b dGt := ck_cmp op_gt (nomark _)
theorem ck_ge : Ck X A Ex .GtE b dGe := ck_cmp op_ge (nomark _)
theorem scr_eqv (l : List Int) : PyData.eqv (D.py (.scr l)) (D.py (.lst [])) = l.isEmpty := by
  cases l <;> simp [D.py, D.pys, PyData.eqv, PyData.eqvAll]
theorem ck_eq (hK : A.K = X.K) (hu : X.A.units + 64 < cLine) : Ck X A Ex .Eq b dEq :=
  d_cmp (op_eqD hu) (nomark _) fun W S H x y dx dy Q wo vx vy an => by
    unfold dEq at an
    split at an
    · split at an
      · rename_i z
        rw [List.isEmpty_iff] at z
        subst z
        exact ⟨_, _, vx.dpS wo hK, View.dp (n := 1) wo (by simp [okE, okEs]) vy, scr_shaped _, okE.shaped (by simp [okE, okEs]), by rw [scr_eqv]; exact an.done wo rfl⟩
      · exact an.elim
    · split at an
      · rename_i z
        have z' : okE dx 60 = true ∧ okE dy 60 = true := by simpa using z
        exact ⟨_, _, vx.dp wo z'.1, vy.dp wo z'.2, okE.shaped z'.1, okE.shaped z'.2, by rw [eqv_py _ _ _ _ z'.1 z'.2]; exact an.done wo rfl⟩
      · exact an.elim
theorem ck_ne (hK : A.K = X.K) (hu : X.A.units + 64 < cLine) : Ck X A Ex .NotEq b dNe :=
  d_cmp (op_neD hu) (nomark _) fun W S H x y dx dy Q wo vx vy an => by
    unfold dNe at an
    split at an
    · split at an
      · rename_i z
        rw [List.isEmpty_iff] at z
        subst z
        exact ⟨_, _, vx.dpS wo hK, View.dp (n := 1) wo (by simp [okE, okEs]) vy, scr_shaped _, okE.shaped (by simp [okE, okEs]), by rw [scr_eqv]; exact an.done wo rfl⟩
      · exact an.elim
    · split at an
      · rename_i z
        have z' : okE dx 60 = true ∧ okE dy 60 = true := by simpa using z
        exact ⟨_, _, vx.dp wo z'.1, vy.dp wo z'.2, okE.shaped z'.1, okE.shaped z'.2, by rw [eqv_py _ _ _ _ z'.1 z'.2]; exact an.done wo rfl⟩
      · exact an.elim
/-! ### is None -/
theorem View.isN {A : Amb} {W : Wd} {S : Sto} {H : Hp} {d : D} {v : V} (h : View W H d v) : (d = .non ∧ v = .non) ∨ (d ≠ .non ∧ v ≠ .non) := by
  cases d with
  | non => exact .inl ⟨rfl, h.non⟩
  | bl b => exact .inr ⟨fun e => (nomatch e), fun e => by rw [h.bl] at e; exact nomatch e⟩
  | int b => exact .inr ⟨fun e => (nomatch e), fun e => by rw [h.int] at e; exact nomatch e⟩
  | str b => exact .inr ⟨fun e => (nomatch e), fun e => by rw [h.str] at e; exact nomatch e⟩
  | exn b =>
    refine .inr ⟨fun e => (nomatch e), fun e => ?_⟩
    rcases h with h | ⟨_, _, _, _, h⟩
    · rw [show v = .ref b from h] at e; exact nomatch e
    · exact h.elim
  | tup l =>
    refine .inr ⟨fun e => (nomatch e), fun e => ?_⟩
    rcases h with ⟨a, vs, q, _⟩ | ⟨a, q, _⟩ <;> rw [e] at q <;> exact nomatch q
  | lst l =>
    refine .inr ⟨fun e => (nomatch e), fun e => ?_⟩
    rcases h with ⟨a, vs, q, _⟩ | ⟨a, q, _⟩ <;> rw [e] at q <;> exact nomatch q
  | dK l =>
    refine .inr ⟨fun e => (nomatch e), fun e => ?_⟩
    rcases h with ⟨a, vs, q, _⟩ | ⟨a, q, _⟩ <;> rw [e] at q <;> exact nomatch q
  | dT l =>
    refine .inr ⟨fun e => (nomatch e), fun e => ?_⟩
    rcases h with ⟨a, vs, q, _⟩ | ⟨a, q, _⟩ <;> rw [e] at q <;> exact nomatch q
  | dN l =>
    refine .inr ⟨fun e => (nomatch e), fun e => ?_⟩
    rcases h with ⟨a, vs, q, _⟩ | ⟨a, q, _⟩ <;> rw [e] at q <;> exact nomatch q
  | obj l =>
    refine .inr ⟨fun e => (nomatch e), fun e => ?_⟩
    rcases h with ⟨a, q, _⟩ | ⟨a, q, _⟩ <;> rw [e] at q <;> exact nomatch q
  | scr l =>
    refine .inr ⟨fun e => (nomatch e), fun e => ?_⟩
    rcases h with ⟨a, q, _⟩ | ⟨a, q, _⟩ <;> rw [e] at q <;> exact nomatch q
theorem k_isN : ∀ σ H Q, tR A Ex Γ rD (b1 fa dIsN) σ H Q → tIsN (tR A Ex Γ rV fa) σ H Q :=
  fun σ H Q ⟨W, ρ, S, wo, sl, an⟩ => seqR shD wo sl an fun dx S1 W1 H1 x s1 wo1 vx sl1 an1 => by
    rcases View.isN (A := A) (S := S) vx with ⟨e, e'⟩ | ⟨e, e'⟩
    · subst e; subst e'
      exact an1.done wo1 rfl
    · have q : dIsN dx S1 = .ok (.bl false) S1 := by cases dx <;> first | rfl | exact absurd rfl e
      rw [q] at an1
      rw [decide_eq_false e']
      exact an1.done wo1 rfl
theorem k_notN : ∀ σ H Q, tR A Ex Γ rD (b1 fa dNotN) σ H Q → tNotN (tR A Ex Γ rV fa) σ H Q :=
  fun σ H Q ⟨W, ρ, S, wo, sl, an⟩ => seqR shD wo sl an fun dx S1 W1 H1 x s1 wo1 vx sl1 an1 => by
    rcases View.isN (A := A) (S := S) vx with ⟨e, e'⟩ | ⟨e, e'⟩
    · subst e; subst e'
      exact an1.done wo1 rfl
    · have q : dNotN dx S1 = .ok (.bl true) S1 := by cases dx <;> first | rfl | exact absurd rfl e
      rw [q] at an1
      rw [decide_eq_false e']
      exact an1.done wo1 rfl

theorem de_isN {j : Nat} {pos' : Pos} (ha : DV X A Ex Γ a fa) : DE X A Ex Γ (.Compare a [.Is] [.Constant .none j pos'] pos) (b1 fa dIsN) := (pe_cmp (pc_isN ha)).of k_isN
theorem dt_isN {j : Nat} {pos' : Pos} (ha : DV X A Ex Γ a fa) : DT X A Ex Γ (.Compare a [.Is] [.Constant .none j pos'] pos) (tst (b1 fa dIsN)) := dt_of (pt_cmp (pc_isN ha)) k_isN
theorem de_notN {j : Nat} {pos' : Pos} (ha : DV X A Ex Γ a fa) : DE X A Ex Γ (.Compare a [.IsNot] [.Constant .none j pos'] pos) (b1 fa dNotN) := (pe_cmp (pc_notN ha)).of k_notN
theorem dt_notN {j : Nat} {pos' : Pos} (ha : DV X A Ex Γ a fa) : DT X A Ex Γ (.Compare a [.IsNot] [.Constant .none j pos'] pos) (tst (b1 fa dNotN)) := dt_of (pt_cmp (pc_notN ha)) k_notN
/-! ### chains of two comparisons of ints -/
def chI (p q : Int → Int → Bool) (fa fb fc : Ev D) : Ev D := fun ρ S => (fa ρ S).bind fun x S1 => (fb ρ S1).bind fun y S2 => match x, y with
  | .int i, .int j => if p i j = true then (fc ρ S2).bind fun z S3 => dCmp q (.int j) z S3 else .ok (.bl false) S2
  | _, _ => .bad
theorem k_chain {p q : Int → Int → Bool} : ∀ σ H Q, tR A Ex Γ rD (chI p q fa fb fc) σ H Q → tChain (rI0 fun i j => .bl (p i j)) (rI0 fun i j => .bl (q i j)) (tR A Ex Γ rV fa) (tR A Ex Γ rV fb) (tR A Ex Γ rV fc) σ H Q :=
  fun σ H Q ⟨W, ρ, S, wo, sl, an⟩ => seqR shD wo sl an fun dx S1 W1 H1 x s1 wo1 vx sl1 an1 => seqR shD wo1 sl1 an1 fun dy S2 W2 H2 y s2 wo2 vy sl2 an2 => by
    split at an2
    · rename_i i j
      cases View.int vx; cases View.int vy
      refine ⟨i, j, rfl, rfl, p i j, rfl, ?_⟩
      by_cases e : p i j = true
      · rw [if_pos e] at an2
        rw [if_pos e]
        exact seqR shD wo2 sl2 an2 fun dz S3 W3 H3 z s3 wo3 vz sl3 an3 => by
          cases dz with
          | int k =>
            cases View.int vz
            exact ⟨_, _, rfl, rfl, Ans.done (d := D.bl (q j k)) an3 wo3 rfl⟩
          | _ => exact an3.elim
      · rw [if_neg e] at an2
        rw [if_neg e]
        exact an2.done wo2 rfl
    · exact an2.elim
theorem de_chain {op op' : CmpOp} {p q : Int → Int → Bool} (ho : OpR X (compareOp op) (rI0 fun i j => .bl (p i j))) (ho' : OpR X (compareOp op') (rI0 fun i j => .bl (q i j))) (ha : DV X A Ex Γ a fa) (hb : DV X A Ex Γ b fb) (hc : DV X A Ex Γ c fc)
    (hm : lastMarks [op, op'] [b, c] = false := by with_unfolding_all rfl) : DE X A Ex Γ (.Compare a [op, op'] [b, c] pos) (chI p q fa fb fc) := (pe_chain ho ho' ha hb hc hm).of k_chain
theorem dt_chain {op op' : CmpOp} {p q : Int → Int → Bool} (ho : OpR X (compareOp op) (rI0 fun i j => .bl (p i j))) (ho' : OpR X (compareOp op') (rI0 fun i j => .bl (q i j))) (ha : DV X A Ex Γ a fa) (hb : DV X A Ex Γ b fb) (hc : DV X A Ex Γ c fc)
    (hm : lastMarks [op, op'] [b, c] = false := by with_unfolding_all rfl) : DT X A Ex Γ (.Compare a [op, op'] [b, c] pos) (tst (chI p q fa fb fc)) := dt_of (pt_chain ho ho' ha hb hc hm) k_chain
end
end Hr

set_option Elab.async false
set_option linter.all false
set_option maxRecDepth 100000
namespace Hr
open PySem PySem.Spec PyProof.Rows L2

/-! ### more of worlds -/
section
variable {A : Amb} {W W' : Wd} {S : Sto} {H H' : Hp} {p : Addr} {o : HO}
theorem Wok.put {u : HO} (wo : Wok A W S H) (f : W.Fr p = none) (t : W.tg p = none) (hu : H p = some u) (ku : NoT u := by exact And.intro (fun _ h => nomatch h) (ne_code fun _ h => nomatch h)) (ko : tblB o = false := by rfl) : Wok A W S (upd H p o) where
  fr := fun a u e => Held.keep (wo.fr a u e) fun x q => by
    rw [upd_ne (fun z => by rw [z, f] at e; exact nomatch e)]; exact q
  sz := wo.sz
  ft := wo.ft
  ob := fun k b e => (wo.ob k b e).mono (fun _ _ h => h) (fun _ _ h => h) rfl (fun _ _ h => h) (fun a u q e h => by
    rw [upd_ne (fun z => by rw [z, t] at e; exact nomatch e)]; exact h)
  al := wo.al
  tn := fun a u e => by
    by_cases q : a = p
    · exact ⟨o, by rw [q, upd_same], ko⟩
    · rw [upd_ne q]; exact wo.tn a u e
  kk := wo.kk
  tb := Tabs.upd wo.tb hu ku
  lk := fun a x e => by
    obtain ⟨k, q1, q2⟩ := wo.lk a x e
    exact ⟨k, q1, by rw [upd_ne (fun z => by rw [z, f] at q1; exact nomatch q1)]; exact q2⟩
  pu := wo.pu
theorem Step.put (s : Step W H W' H') (n : Nw H p) : Step W H W' (upd H' p o) where
  fr := s.fr
  ad := s.ad
  nf := s.nf
  nt := s.nt
  fm' := fun a u h t f b => by
    rw [upd_ne (fun z : a = p => by subst z; exact n.no h b)]
    exact s.fm' a u h t f b
  mn := fun a h => by
    by_cases q : a = p
    · rw [q]; exact n
    · exact s.mn a fun o e => h o (by rw [upd_ne q]; exact e)
  kk := s.kk
  lk := s.lk
  tp := s.tp
  pe := s.pe
  pp := fun e a t u ht h b => by
    rw [upd_ne (fun z : a = p => by subst z; exact n.no h b)]
    exact s.pp e a t u ht h b
end

/-! ### tests -/
def fAnd (f g : Ev Bool) : Ev Bool := fun ρ S => (f ρ S).bind fun b S1 => if b = true then g ρ S1 else .ok false S1
def fOr (f g : Ev Bool) : Ev Bool := fun ρ S => (f ρ S).bind fun b S1 => if b = true then .ok true S1 else g ρ S1
def fNot (f : Ev Bool) : Ev Bool := b1 f fun b S => .ok (!b) S
def vAnd (f g : Ev D) : Ev D := fun ρ S => (f ρ S).bind fun d S1 => match d with
  | .bl b => if b = true then g ρ S1 else .ok (.bl false) S1
  | _ => .bad
def vOr (f g : Ev D) : Ev D := fun ρ S => (f ρ S).bind fun d S1 => match d with
  | .bl b => if b = true then .ok (.bl true) S1 else g ρ S1
  | _ => .bad
def vNot (f : Ev D) : Ev D := b1 f fun d S => match d with
  | .bl b => .ok (.bl (!b)) S
  | _ => .bad
def fIf {α : Type} (t : Ev Bool) (f g : Ev α) : Ev α := fun ρ S => (t ρ S).bind fun b S1 => if b = true then f ρ S1 else g ρ S1
section
variable {X : Cx} {A : Amb} {Ex : XK} {Γ : List Nat} {a b c : Expr} {fa fb fc : Ev D} {ga gb : Ev Bool} {pos : Pos} {rest : List Expr}
theorem dt_val (h : DV X A Ex Γ a fa) (he : ∀ whole, isTrue a X.env whole = (do let v ← whole; standAt a.pos; holding [v] (truthy v)) := by intro _; rfl) : DT X A Ex Γ a (tst fa) :=
  (pt_val h he).of fun σ H Q ⟨W, ρ, S, wo, sl, an⟩ => seqR shB wo sl an fun d S1 W1 H1 v s1 wo1 k1 sl1 an1 => by
    cases d with
    | bl b => exact ⟨b, View.bl k1, an1.done wo1 rfl⟩
    | _ => exact an1.elim
theorem dw_and1 (ha : DT X A Ex Γ a ga) : DW X A Ex Γ (.BoolOp .And [a] pos) ga := pw_and1 ha
theorem dw_or1 (ha : DT X A Ex Γ a ga) : DW X A Ex Γ (.BoolOp .Or [a] pos) ga := pw_or1 ha
theorem dw_and (ha : DT X A Ex Γ a ga) (hb : DW X A Ex Γ (.BoolOp .And (b :: rest) pos) gb) : DW X A Ex Γ (.BoolOp .And (a :: b :: rest) pos) (fAnd ga gb) :=
  (pw_and ha hb).of fun σ H Q ⟨W, ρ, S, wo, sl, an⟩ => seqR shB wo sl an fun d S1 W1 H1 v s1 wo1 k1 sl1 an1 => by
    cases k1
    cases d
    · rw [if_neg Bool.false_ne_true]; rw [if_neg Bool.false_ne_true] at an1; exact an1.done wo1 rfl
    · rw [if_pos rfl]; rw [if_pos rfl] at an1; exact ⟨W1, ρ, S1, wo1, sl1, an1⟩
theorem dw_or (ha : DT X A Ex Γ a ga) (hb : DW X A Ex Γ (.BoolOp .Or (b :: rest) pos) gb) : DW X A Ex Γ (.BoolOp .Or (a :: b :: rest) pos) (fOr ga gb) :=
  (pw_or ha hb).of fun σ H Q ⟨W, ρ, S, wo, sl, an⟩ => seqR shB wo sl an fun d S1 W1 H1 v s1 wo1 k1 sl1 an1 => by
    cases k1
    cases d
    · rw [if_neg Bool.false_ne_true]; rw [if_neg Bool.false_ne_true] at an1; exact ⟨W1, ρ, S1, wo1, sl1, an1⟩
    · rw [if_pos rfl]; rw [if_pos rfl] at an1; exact an1.done wo1 rfl
theorem DW.t {e : Expr} (h : DW X A Ex Γ e ga) : DT X A Ex Γ e ga := PW.pt h
theorem dt_not (ha : DT X A Ex Γ a ga) : DT X A Ex Γ (.UnaryOp .Not a pos) (fNot ga) :=
  (pt_not ha).of fun σ H Q ⟨W, ρ, S, wo, sl, an⟩ => seqR shB wo sl an fun d S1 W1 H1 v s1 wo1 k1 sl1 an1 => by
    cases k1
    exact an1.done wo1 rfl
theorem de_and1 {op} (h : DE X A Ex Γ a fa) : DE X A Ex Γ (.BoolOp op [a] pos) fa := pe_one h
theorem de_and (ha : DV X A Ex Γ a fa) (hb : DE X A Ex Γ (.BoolOp .And (b :: rest) pos) fb) : DE X A Ex Γ (.BoolOp .And (a :: b :: rest) pos) (vAnd fa fb) :=
  (pe_and ha hb).of fun σ H Q ⟨W, ρ, S, wo, sl, an⟩ => seqR shD wo sl an fun d S1 W1 H1 v s1 wo1 k1 sl1 an1 => by
    cases d with
    | bl b =>
      refine ⟨b, View.bl k1, ?_⟩
      cases b
      · rw [if_neg Bool.false_ne_true]; simp only [Bool.false_eq_true, if_false] at an1; exact an1.done wo1 rfl
      · rw [if_pos rfl]; simp only [if_true] at an1; exact ⟨W1, ρ, S1, wo1, sl1, an1⟩
    | _ => exact an1.elim
theorem de_or (ha : DV X A Ex Γ a fa) (hb : DE X A Ex Γ (.BoolOp .Or (b :: rest) pos) fb) : DE X A Ex Γ (.BoolOp .Or (a :: b :: rest) pos) (vOr fa fb) :=
  (pe_or ha hb).of fun σ H Q ⟨W, ρ, S, wo, sl, an⟩ => seqR shD wo sl an fun d S1 W1 H1 v s1 wo1 k1 sl1 an1 => by
    cases d with
    | bl b =>
      refine ⟨b, View.bl k1, ?_⟩
      cases b
      · rw [if_neg Bool.false_ne_true]; simp only [Bool.false_eq_true, if_false] at an1; exact ⟨W1, ρ, S1, wo1, sl1, an1⟩
      · rw [if_pos rfl]; simp only [if_true] at an1; exact an1.done wo1 rfl
    | _ => exact an1.elim
theorem de_not (ha : DV X A Ex Γ a fa) : DE X A Ex Γ (.UnaryOp .Not a pos) (vNot fa) :=
  (pe_not ha).of fun σ H Q ⟨W, ρ, S, wo, sl, an⟩ => seqR shD wo sl an fun d S1 W1 H1 v s1 wo1 k1 sl1 an1 => by
    cases d with
    | bl b => exact ⟨b, View.bl k1, an1.done wo1 rfl⟩
    | _ => exact an1.elim
theorem d_if {R : RR D V} (hR : Shift R) (hc : DT X A Ex Γ c ga) (ha : PE X a (tR A Ex Γ R fa)) (hb : PE X b (tR A Ex Γ R fb)) : PE X (.IfExp c a b pos) (tR A Ex Γ R (fIf ga fa fb)) :=
  (pe_ifExp hc ha hb).of fun σ H Q ⟨W, ρ, S, wo, sl, an⟩ => seqR hR wo sl an fun d S1 W1 H1 v s1 wo1 k1 sl1 an1 => by
    cases k1
    cases d
    · rw [if_neg Bool.false_ne_true]; rw [if_neg Bool.false_ne_true] at an1; exact ⟨W1, ρ, S1, wo1, sl1, an1⟩
    · rw [if_pos rfl]; rw [if_pos rfl] at an1; exact ⟨W1, ρ, S1, wo1, sl1, an1⟩
end

/-! ### statements -/
inductive Flw where
  | nx (ρ : Rho) | ct (ρ : Rho) | ret (d : D)
abbrev Sv := Rho → Sto → Out Flw
/-- a def's entry -/
structure En where
  A : Amb
  Ex : XK
  Rt : RR D V
  W : Wd
  H : Hp
def rem (Γ : List Nat) (i : Nat) : List Nat := Γ.filter fun j => decide (j ≠ i)
structure SOk (E : En) (Γ : List Nat) (W : Wd) (S : Sto) (H : Hp) (σ : L2.St) (ρ : Rho) : Prop where
  wo : Wok E.A W S H
  sl : Sl Γ W H σ ρ
  st : Step E.W E.H W H
  nw : ∀ i d a, i ∈ Γ → ρ[i]? = some (some d) → σ[i]? = some (some (.ref a)) → Nw E.H a
structure Le (W W' : Wd) : Prop where
  fr : ∀ a o, W.Fr a = some o → W'.Fr a = some o
  ad : ∀ n a, W.ad n = some a → W'.ad n = some a
  kk : W'.K = W.K
  lk : ∀ a o, W.lk a = some o → W'.lk a = some o
theorem Le.refl {W : Wd} : Le W W := ⟨fun _ _ h => h, fun _ _ h => h, rfl, fun _ _ h => h⟩
theorem Le.trans {W W1 W2 : Wd} (a : Le W W1) (b : Le W1 W2) : Le W W2 := ⟨fun x o h => b.fr x o (a.fr x o h), fun n x h => b.ad n x (a.ad n x h), b.kk.trans a.kk, fun x o h => b.lk x o (a.lk x o h)⟩
theorem Step.le {W W' : Wd} {H H' : Hp} (s : Step W H W' H') : Le W W' := ⟨s.fr, s.ad, s.kk, s.lk⟩
theorem Den.le {W W' : Wd} {d : D} {v : V} (h : Den W d v) (s : Le W W') : Den W' d v := Den.mono s.fr s.ad s.kk d v h
theorem Dens.le {W W' : Wd} {d : List D} {v : List V} (h : Dens W d v) (s : Le W W') : Dens W' d v := Dens.mono s.fr s.ad s.kk d v h
def SAns (E : En) (Γ' Γc : List Nat) (W : Wd) (Dn : Ends) (r : Out Flw) : Prop := match r with
  | .ok (.nx ρ') S' => ∀ W' H' σ', SOk E Γ' W' S' H' σ' ρ' → Le W W' → Dn.nx σ' H'
  | .ok (.ct ρ') S' => ∀ W' H' σ', SOk E Γc W' S' H' σ' ρ' → Le W W' → Dn.ct σ' H'
  | .ok (.ret d) S' => ∀ W' H' v, Wok E.A W' S' H' → Step E.W E.H W' H' → E.Rt E.H W' H' d v → Dn.rt v H'
  | .exc c S' => ∀ W' H', Wok E.A W' S' H' → Step E.W E.H W' H' → E.Ex (.ref (E.A.cl c)) none H'
  | .bad => False
def tS (E : En) (Γ Γ' Γc : List Nat) (F : Sv) : TS := fun Dn σ H => ∃ W ρ S, SOk E Γ W S H σ ρ ∧ SAns E Γ' Γc W Dn (F ρ S)
abbrev DS (X : Cx) (E : En) (Γ Γ' Γc : List Nat) (st : Stmt) (F : Sv) : Prop := PS X st (tS E Γ Γ' Γc F)
abbrev DSs (X : Cx) (E : En) (Γ Γ' Γc : List Nat) (st : List Stmt) (F : Sv) : Prop := PSs X st (tS E Γ Γ' Γc F)
theorem _root_.L2.PS.of {X : Cx} {e : Stmt} {t t' : TS} (h : PS X e t) (k : ∀ D σ H, t' D σ H → t D σ H) : PS X e t' := ⟨fun pins s σ H Q I q => h.run pins s σ H Q I (k Q σ H q)⟩
theorem _root_.L2.PSs.of {X : Cx} {e : List Stmt} {t t' : TS} (h : PSs X e t) (k : ∀ D σ H, t' D σ H → t D σ H) : PSs X e t' := ⟨fun pins s σ H Q I q => h.run pins s σ H Q I (k Q σ H q)⟩
theorem _root_.L2.PG.of {X : Cx} {e : Expr} {t t' : TG} (h : PG X e t) (k : ∀ v σ H Q, t' v σ H Q → t v σ H Q) : PG X e t' := ⟨fun pins s σ H v u Q I r q => h.run pins s σ H v u Q I r (k v σ H Q q)⟩
theorem _root_.L2.PGs.of {X : Cx} {e : List Expr} {t t' : TGs} (h : PGs X e t) (k : ∀ v σ H Q, t' v σ H Q → t v σ H Q) : PGs X e t' := ⟨fun pins s σ H v u Q I r q => h.run pins s σ H v u Q I r (k v σ H Q q)⟩
theorem _root_.L2.PI.of {X : Cx} {g e : Expr} {t t' : TI} (h : PI X g e t) (k : ∀ σ H Q, t' σ H Q → t σ H Q) : PI X g e t' := ⟨fun pins s σ H Q I q => h.run pins s σ H Q I (k σ H Q q)⟩
theorem _root_.L2.PTs.of {X : Cx} {e : List Expr} {t t' : TT} (h : PTs X e t) (k : ∀ σ H Q, t' σ H Q → t σ H Q) : PTs X e t' := ⟨fun pins s σ H Q I q => h.run pins s σ H Q I (k σ H Q q)⟩

theorem SAns.mono {E : En} {Γ' Γc : List Nat} {W W1 : Wd} {Dn : Ends} {r : Out Flw} (h : SAns E Γ' Γc W Dn r) (l : Le W W1) : SAns E Γ' Γc W1 Dn r := by
  cases r with
  | ok f S => cases f with
    | nx ρ => exact fun W' H' σ' so k => h W' H' σ' so (l.trans k)
    | ct ρ => exact fun W' H' σ' so k => h W' H' σ' so (l.trans k)
    | ret d => exact h
  | exc c S => exact h
  | bad => exact h
/-- an expression ahead in a statement -/
theorem seqS {α β : Type} {E : En} {Γ Γ' Γc : List Nat} {Ra : RR α β} {fa : Ev α} {k : α → Sto → Out Flw} {W : Wd} {H : Hp} {S : Sto} {σ : L2.St} {ρ : Rho} {Dn : Ends} {K : β → Hp → Prop}
    (so : SOk E Γ W S H σ ρ) (h : SAns E Γ' Γc W Dn ((fa ρ S).bind k))
    (kk : ∀ d S1 W1 H1 v, Step W H W1 H1 → SOk E Γ W1 S1 H1 σ ρ → Ra H W1 H1 d v → SAns E Γ' Γc W1 Dn (k d S1) → K v H1) : tR E.A E.Ex Γ Ra fa σ H K := by
  refine ⟨W, ρ, S, so.wo, so.sl, ?_⟩
  generalize fa ρ S = r at h
  cases r with
  | ok d S1 => exact fun W1 H1 v s wo1 r => kk d S1 W1 H1 v s ⟨wo1, so.sl.step s, so.st.trans s, so.nw⟩ r (SAns.mono h s.le)
  | exc c S1 => exact fun W1 H1 s wo1 => h W1 H1 wo1 (so.st.trans s)
  | bad => exact h

theorem mem_rem {Γ : List Nat} {i j : Nat} : j ∈ rem Γ i ↔ j ∈ Γ ∧ j ≠ i := by simp [rem]
theorem set_same {α : Type} {l : List α} {i : Nat} {x : α} (h : i < l.length) : (l.set i x)[i]? = some x := by simp [h]
theorem set_ne {α : Type} {l : List α} {i j : Nat} {x : α} (h : j ≠ i) : (l.set i x)[j]? = l[j]? := by simp [List.getElem?_set, Ne.symm h]
theorem set_at {l : Rho} {i : Nat} {x d : D} (h : (l.set i (some x))[i]? = some (some d)) : d = x ∧ i < l.length := by
  by_cases q : i < l.length
  · rw [set_same q] at h; cases h; exact ⟨rfl, q⟩
  · rw [List.getElem?_eq_none (by simp; omega)] at h; exact nomatch h
/-- a name is stored: something told -/
theorem Sl.setD {Γ : List Nat} {W : Wd} {H : Hp} {σ : L2.St} {ρ : Rho} (h : Sl Γ W H σ ρ) {i : Nat} {d : D} {v : V} (k : Den W d v) : Sl (rem Γ i) W H (σ.set i (some v)) (ρ.set i (some d)) where
  den := fun j e q n => by
    by_cases z : j = i
    · subst z
      obtain ⟨e1, e2⟩ := set_at q
      subst e1
      exact ⟨v, set_same (by rw [h.len]; exact e2), k⟩
    · rw [set_ne z] at q
      obtain ⟨u, q1, q2⟩ := h.den j e q (fun m => n (mem_rem.mpr ⟨m, z⟩))
      exact ⟨u, by rw [set_ne z]; exact q1, q2⟩
  own := fun j e q n => by
    obtain ⟨n1, z⟩ := mem_rem.mp n
    rw [set_ne z] at q
    obtain ⟨u, q1, q2⟩ := h.own j e q n1
    exact ⟨u, by rw [set_ne z]; exact q1, q2⟩
  dj := fun x y dx dy u hx hy ne q1 q2 q3 => by
    obtain ⟨n1, z1⟩ := mem_rem.mp hx
    obtain ⟨n2, z2⟩ := mem_rem.mp hy
    rw [set_ne z1] at q1 q3
    rw [set_ne z2] at q2 ⊢
    exact h.dj x y dx dy u n1 n2 ne q1 q2 q3
  len := by simp [h.len]
/-- something new is stored, that no other owned slot holds -/
theorem Sl.setN {Γ : List Nat} {W : Wd} {H : Hp} {σ : L2.St} {ρ : Rho} (h : Sl Γ W H σ ρ) {i : Nat} {d : D} {v : V} (k : Own W H d v)
    (ne : ∀ j e, j ∈ Γ → j ≠ i → ρ[j]? = some (some e) → σ[j]? ≠ some (some v)) : Sl (i :: rem Γ i) W H (σ.set i (some v)) (ρ.set i (some d)) where
  den := fun j e q n => by
    have z : j ≠ i := fun z => n (by simp [z])
    rw [set_ne z] at q
    obtain ⟨u, q1, q2⟩ := h.den j e q (fun m => n (List.mem_cons_of_mem _ (mem_rem.mpr ⟨m, z⟩)))
    exact ⟨u, by rw [set_ne z]; exact q1, q2⟩
  own := fun j e q n => by
    by_cases z : j = i
    · subst z
      obtain ⟨e1, e2⟩ := set_at q
      subst e1
      exact ⟨v, set_same (by rw [h.len]; exact e2), k⟩
    · rw [set_ne z] at q
      have n1 : j ∈ Γ := by
        rcases List.mem_cons.mp n with m | m
        · exact absurd m z
        · exact (mem_rem.mp m).1
      obtain ⟨u, q1, q2⟩ := h.own j e q n1
      exact ⟨u, by rw [set_ne z]; exact q1, q2⟩
  dj := fun x y dx dy u hx hy nxy q1 q2 q3 => by
    have g : ∀ j, j ∈ i :: rem Γ i → j ≠ i → j ∈ Γ := fun j m z => by
      rcases List.mem_cons.mp m with m | m
      · exact absurd m z
      · exact (mem_rem.mp m).1
    by_cases z1 : x = i
    · subst z1
      have z2 : y ≠ x := fun e => nxy e.symm
      obtain ⟨e1, e2⟩ := set_at q1
      rw [set_same (by rw [h.len]; exact e2)] at q3
      cases q3
      rw [set_ne z2] at q2 ⊢
      exact ne y dy (g y hy z2) z2 q2
    · by_cases z2 : y = i
      · subst z2
        rw [set_ne z1] at q1 q3
        obtain ⟨e1, e2⟩ := set_at q2
        rw [set_same (by rw [h.len]; exact e2)]
        intro e
        cases e
        exact ne x dx (g x hx z1) z1 q1 q3
      · rw [set_ne z1] at q1 q3
        rw [set_ne z2] at q2 ⊢
        exact h.dj x y dx dy u (g x hx z1) (g y hy z2) nxy q1 q2 q3
  len := by simp [h.len]
/-- what a new thing is, no owned slot holds -/
theorem Sl.apart {Γ : List Nat} {W0 W : Wd} {H0 H : Hp} {σ : L2.St} {ρ : Rho} {v : V} {d : D} (h : Sl Γ W0 H0 σ ρ) (n : New W H0 H d v) : ∀ j e, j ∈ Γ → ρ[j]? = some (some e) → σ[j]? ≠ some (some v) := fun j e m q z => by
  obtain ⟨a, ea, n0, _⟩ := n
  obtain ⟨u, q1, b, eb, _, _, t⟩ := h.own j e q m
  rw [q1] at z
  cases z
  rw [ea] at eb
  cases eb
  obtain ⟨o, q, nb⟩ := t.noB
  exact n0.no q nb
theorem SOk.setD {E : En} {Γ : List Nat} {W : Wd} {S : Sto} {H : Hp} {σ : L2.St} {ρ : Rho} (so : SOk E Γ W S H σ ρ) {i : Nat} {d : D} {v : V} (k : Den W d v) : SOk E (rem Γ i) W S H (σ.set i (some v)) (ρ.set i (some d)) where
  wo := so.wo
  sl := so.sl.setD k
  st := so.st
  nw := fun j e a m q1 q2 => by
    obtain ⟨m1, z⟩ := mem_rem.mp m
    rw [set_ne z] at q1 q2
    exact so.nw j e a m1 q1 q2
theorem SOk.setN {E : En} {Γ : List Nat} {W : Wd} {S : Sto} {H : Hp} {σ : L2.St} {ρ : Rho} (so : SOk E Γ W S H σ ρ) {i : Nat} {d : D} {v : V} (k : Own W H d v) (f : ∀ a, v = .ref a → Nw E.H a)
    (ne : ∀ j e, j ∈ Γ → j ≠ i → ρ[j]? = some (some e) → σ[j]? ≠ some (some v)) : SOk E (i :: rem Γ i) W S H (σ.set i (some v)) (ρ.set i (some d)) where
  wo := so.wo
  sl := so.sl.setN k ne
  st := so.st
  nw := fun j e a m q1 q2 => by
    by_cases z : j = i
    · subst z
      obtain ⟨e1, e2⟩ := set_at q1
      rw [set_same (by rw [so.sl.len]; exact e2)] at q2
      cases q2
      exact f a rfl
    · rw [set_ne z] at q1 q2
      rcases List.mem_cons.mp m with m | m
      · exact absurd m z
      · exact so.nw j e a (mem_rem.mp m).1 q1 q2
/-- an owned slot is frozen -/
theorem SOk.freeze {E : En} {Γ : List Nat} {W : Wd} {S : Sto} {H : Hp} {σ : L2.St} {ρ : Rho} (so : SOk E Γ W S H σ ρ) (i : Nat) : ∃ W', SOk E (rem Γ i) W' S H σ ρ ∧ Le W W' := by
  have weak : (i ∉ Γ ∨ ∀ d, ρ[i]? ≠ some (some d)) → ∃ W', SOk E (rem Γ i) W' S H σ ρ ∧ Le W W' := fun c => ⟨W, ⟨so.wo, ⟨fun j e q n => by
      by_cases z : j = i
      · subst z
        rcases c with c | c
        · exact so.sl.den j e q c
        · exact absurd q (c e)
      · exact so.sl.den j e q fun m => n (mem_rem.mpr ⟨m, z⟩), fun j e q m => so.sl.own j e q (mem_rem.mp m).1,
      fun x y dx dy u hx hy => so.sl.dj x y dx dy u (mem_rem.mp hx).1 (mem_rem.mp hy).1, so.sl.len⟩, so.st, fun j e a m => so.nw j e a (mem_rem.mp m).1⟩, .refl⟩
  by_cases m : i ∈ Γ
  · cases q : ρ[i]? with
    | none => exact weak (.inr fun d e => by rw [q] at e; exact nomatch e)
    | some r => cases r with
      | none => exact weak (.inr fun d e => by rw [q] at e; exact nomatch e)
      | some d =>
        obtain ⟨v, q1, a, ea, f, t, p⟩ := so.sl.own i d q m
        subst ea
        have n0 := so.nw i d a m q q1
        obtain ⟨o, ho⟩ := p.there
        have hz : szOk o ∧ Den (W.frz a o) d (.ref a) := by
          cases d <;> first | exact p.elim | skip
          · obtain ⟨vs, h, k, z⟩ := p; rw [h] at ho; cases ho; exact ⟨z, a, vs, rfl, upd_same, k.frz f⟩
          · obtain ⟨vs, h, k, z⟩ := p; rw [h] at ho; cases ho; exact ⟨z, a, vs, rfl, upd_same, k.frz f⟩
          · obtain ⟨vs, h, k, z⟩ := p; rw [h] at ho; cases ho; exact ⟨z, a, vs, rfl, upd_same, k.frz f⟩
          · obtain ⟨vs, h, k, z⟩ := p; rw [h] at ho; cases ho; exact ⟨True.intro, a, vs, rfl, upd_same, k.frz f, z.2⟩
        refine ⟨W.frz a o, ⟨so.wo.freeze ho t hz.1 f, ⟨fun j e q' n => ?_, fun j e q' mm => ?_, fun x y dx dy u hx hy => so.sl.dj x y dx dy u (mem_rem.mp hx).1 (mem_rem.mp hy).1, so.sl.len⟩, so.st.freeze n0 f, fun j e a m => so.nw j e a (mem_rem.mp m).1⟩, frz_le f, fun _ _ h => h, rfl, fun _ _ h => h⟩
        · by_cases z : j = i
          · subst z
            rw [q] at q'; cases q'
            exact ⟨_, q1, hz.2⟩
          · obtain ⟨u, w1, w2⟩ := so.sl.den j e q' fun mm => n (mem_rem.mpr ⟨mm, z⟩)
            exact ⟨u, w1, Den.mono (frz_le f) (fun _ _ h => h) rfl e u w2⟩
        · obtain ⟨m1, z⟩ := mem_rem.mp mm
          obtain ⟨u, w1, b, eb, f2, t2, p2⟩ := so.sl.own j e q' m1
          have nb : b ≠ a := fun z2 => by
            subst z2; subst eb
            exact so.sl.dj i j d e _ m m1 (fun z3 => z z3.symm) q q' q1 w1
          refine ⟨u, w1, b, eb, by show upd W.Fr a o b = none; rw [upd_ne nb]; exact f2, t2, ?_⟩
          cases e <;> first | exact p2.elim | skip
          · obtain ⟨vs, h, k, z⟩ := p2; exact ⟨vs, h, k.frz f, z⟩
          · obtain ⟨vs, h, k, z⟩ := p2; exact ⟨vs, h, k.frz f, z⟩
          · obtain ⟨vs, h, k, z⟩ := p2; exact ⟨vs, h, k.frz f, z⟩
          · obtain ⟨vs, h, k, z⟩ := p2; exact ⟨vs, h, k.frz f, z⟩
  · exact weak (.inl m)
section
variable {X : Cx} {E : En} {Γ Γ' Γ'' Γc : List Nat} {F G : Sv}
theorem DSs.frz {st : List Stmt} (i : Nat) (h : DSs X E (rem Γ i) Γ' Γc st F) : DSs X E Γ Γ' Γc st F := PSs.of h fun D σ H ⟨W, ρ, S, so, an⟩ => by
  obtain ⟨W', so', le⟩ := so.freeze i
  exact ⟨W', ρ, S, so', SAns.mono an le⟩
theorem DS.frz {st : Stmt} (i : Nat) (h : DS X E (rem Γ i) Γ' Γc st F) : DS X E Γ Γ' Γc st F := PS.of h fun D σ H ⟨W, ρ, S, so, an⟩ => by
  obtain ⟨W', so', le⟩ := so.freeze i
  exact ⟨W', ρ, S, so', SAns.mono an le⟩
theorem SAns.post {i : Nat} {Dn : Ends} {W : Wd} {r : Out Flw} (h : SAns E (rem Γ' i) Γc W Dn r) : SAns E Γ' Γc W Dn r := by
  cases r with
  | ok f S => cases f with
    | nx ρ =>
      intro W H σ so l
      obtain ⟨W', so', le⟩ := so.freeze i
      exact h W' H σ so' (l.trans le)
    | ct ρ => exact h
    | ret d => exact h
  | exc c S => exact h
  | bad => exact h
theorem DSs.post {st : List Stmt} (i : Nat) (h : DSs X E Γ Γ' Γc st F) : DSs X E Γ (rem Γ' i) Γc st F := PSs.of h fun D σ H ⟨W, ρ, S, so, an⟩ => ⟨W, ρ, S, so, SAns.post an⟩
theorem dss_post {st : List Stmt} (Gp : List Nat) (i : Nat) {Gq : List Nat} (h : DSs X E Γ Gp Γc st F) (e : rem Gp i = Gq := by rfl) : DSs X E Γ Gq Γc st F := by
  subst e
  exact DSs.post i h
/-- a block that never comes to its end may tell any slots -/
def Ends' (F : Sv) : Prop := ∀ ρ S ρ' S', F ρ S ≠ .ok (.nx ρ') S'
theorem DSs.any {st : List Stmt} (e : Ends' F) (h : DSs X E Γ Γ' Γc st F) : DSs X E Γ Γ'' Γc st F := PSs.of h fun D σ H ⟨W, ρ, S, so, an⟩ => ⟨W, ρ, S, so, by
  have q := e ρ S
  generalize F ρ S = r at an q
  cases r with
  | ok f S1 => cases f with
    | nx ρ1 => exact absurd rfl (q ρ1 S1)
    | ct ρ1 => exact an
    | ret d => exact an
  | exc c S1 => exact an
  | bad => exact an⟩
def sNil : Sv := fun ρ S => .ok (.nx ρ) S
def sSeq (F G : Sv) : Sv := fun ρ S => (F ρ S).bind fun fl S1 => match fl with
  | .nx ρ1 => G ρ1 S1
  | .ct ρ1 => .ok (.ct ρ1) S1
  | .ret d => .ok (.ret d) S1
theorem dss_nil : DSs X E Γ Γ Γc [] sNil := pss_nil.of fun D σ H ⟨W, ρ, S, so, an⟩ => an W H σ so .refl
theorem dss_one {st : Stmt} (h : DS X E Γ Γ' Γc st F) : DSs X E Γ Γ' Γc [st] F := pss_one h
theorem dss_cons {st : Stmt} {rest : List Stmt} (h1 : DS X E Γ Γ' Γc st F) (h2 : DSs X E Γ' Γ'' Γc rest G) : DSs X E Γ Γ'' Γc (st :: rest) (sSeq F G) :=
  (pss_cons h1 h2).of fun D σ H ⟨W, ρ, S, so, an⟩ => ⟨W, ρ, S, so, by
    unfold sSeq at an
    generalize F ρ S = r at an
    cases r with
    | ok f S1 => cases f with
      | nx ρ1 => exact fun W1 H1 σ1 so1 l => ⟨W1, ρ1, S1, so1, SAns.mono an l⟩
      | ct ρ1 => exact an
      | ret d => exact an
    | exc c S1 => exact an
    | bad => exact an⟩
def sPass : Sv := fun ρ S => .ok (.nx ρ) S
theorem ds_pass {pos : Pos} : DS X E Γ Γ Γc (.Pass pos) sPass := ps_pass.of fun D σ H ⟨W, ρ, S, so, an⟩ => an W H σ so .refl
def sCont : Sv := fun ρ S => .ok (.ct ρ) S
theorem ds_cont {pos : Pos} : DS X E Γ Γ' Γ (.Continue pos) sCont := ps_continue.of fun D σ H ⟨W, ρ, S, so, an⟩ => an W H σ so .refl
def sRet (f : Ev D) : Sv := fun ρ S => (f ρ S).bind fun d S1 => .ok (.ret d) S1
/-- return e: what is told stays when the def is left -/
theorem ds_ret {e : Expr} {f : Ev D} {pos : Pos} {R : RR D V} (hR : ∀ W H W1 H1 d v, Step E.W E.H W H → Step W H W1 H1 → R H W1 H1 d v → E.Rt E.H W1 H1 d v) (he : PE X e (tR E.A E.Ex Γ R f)) : DS X E Γ Γ' Γc (.Return (some e) pos) (sRet f) :=
  (ps_ret he).of fun D σ H ⟨W, ρ, S, so, an⟩ => seqS so an fun d S1 W1 H1 v s1 so1 k1 an1 => an1 W1 H1 v so1.wo so1.st (hR _ _ _ _ _ _ so.st s1 k1)
theorem ds_retD {e : Expr} {f : Ev D} {pos : Pos} (hE : E.Rt = rD) (he : DE X E.A E.Ex Γ e f) : DS X E Γ Γ' Γc (.Return (some e) pos) (sRet f) :=
  ds_ret (R := rD) (fun W H W1 H1 d v _ _ k => by rw [hE]; exact k) he
theorem ds_retN {e : Expr} {f : Ev D} {pos : Pos} (hE : E.Rt = rN) (he : DN X E.A E.Ex Γ e f) : DS X E Γ Γ' Γc (.Return (some e) pos) (sRet f) :=
  ds_ret (R := rN) (fun W H W1 H1 d v s _ k => by rw [hE]; exact shN _ _ _ _ _ _ _ _ s k) he
def sExp (f : Ev D) : Sv := fun ρ S => (f ρ S).bind fun _ S1 => .ok (.nx ρ) S1
theorem ds_exp {e : Expr} {f : Ev D} {pos : Pos} (he : DV X E.A E.Ex Γ e f) (hs : swapsWith e none pos.line X.env = pure false := by rfl) : DS X E Γ Γ Γc (.Expr e pos) (sExp f) :=
  (ps_expr he hs).of fun D σ H ⟨W, ρ, S, so, an⟩ => seqS so an fun d S1 W1 H1 v s1 so1 k1 an1 => an1 W1 H1 σ so1 .refl
def sIf (t : Ev Bool) (F G : Sv) : Sv := fun ρ S => (t ρ S).bind fun b S1 => if b = true then F ρ S1 else G ρ S1
theorem ds_if {c : Expr} {a b : List Stmt} {t : Ev Bool} {pos : Pos} (hc : DT X E.A E.Ex Γ c t) (ha : DSs X E Γ Γ' Γc a F) (hb : DSs X E Γ Γ' Γc b G) : DS X E Γ Γ' Γc (.If c a b pos) (sIf t F G) :=
  (ps_if hc ha hb).of fun D σ H ⟨W, ρ, S, so, an⟩ => seqS so an fun d S1 W1 H1 v s1 so1 k1 an1 => by
    cases k1
    cases d
    · rw [if_neg Bool.false_ne_true]; rw [if_neg Bool.false_ne_true] at an1; exact ⟨W1, ρ, S1, so1, an1⟩
    · rw [if_pos rfl]; rw [if_pos rfl] at an1; exact ⟨W1, ρ, S1, so1, an1⟩
def sSet (i : Nat) (f : Ev D) : Sv := fun ρ S => (f ρ S).bind fun d S1 => .ok (.nx (ρ.set i (some d))) S1
theorem ds_set {st : Stmt} {i : Nat} {f : Ev D} (h : PS X st (tAsg (tR E.A E.Ex Γ rD f) (gName i))) : DS X E Γ (rem Γ i) Γc st (sSet i f) :=
  h.of fun D σ H ⟨W, ρ, S, so, an⟩ => seqS so an fun d S1 W1 H1 v s1 so1 k1 an1 => an1 W1 H1 _ (so1.setD k1) .refl
theorem ds_setN {st : Stmt} {i : Nat} {f : Ev D} (h : PS X st (tAsg (tR E.A E.Ex Γ rN f) (gName i))) : DS X E Γ (i :: rem Γ i) Γc st (sSet i f) :=
  h.of fun D σ H ⟨W, ρ, S, so, an⟩ => seqS so an fun d S1 W1 H1 v s1 so1 k1 an1 => an1 W1 H1 _ (so1.setN (New.own k1) (fun a e => by
    obtain ⟨b, eb, nb, _⟩ := k1
    rw [e] at eb; cases eb
    exact so.st.mn _ nb) fun j e m _ => so.sl.apart k1 j e m) .refl
theorem asg_of {st : Stmt} {t t' : TE} {g : TG} (h : PS X st (tAsg t g)) (k : ∀ σ H Q, t' σ H Q → t σ H Q) : PS X st (tAsg t' g) := h.of fun D σ H q => k σ H _ q
end
end Hr

set_option Elab.async false
set_option linter.all false
set_option maxRecDepth 100000
namespace Hr
open PySem PySem.Spec PyProof.Rows L2

/-! ### targets -/
inductive Tg where
  | nm (i : Nat) | tp (l : List Tg)
mutual
def bindT : Tg → D → Rho → Option Rho
  | .nm i, d, ρ => some (ρ.set i (some d))
  | .tp l, .tup ds, ρ => bindTs l ds ρ
  | .tp _, _, _ => none
def bindTs : List Tg → List D → Rho → Option Rho
  | [], [], ρ => some ρ
  | t :: l, d :: ds, ρ => match bindT t d ρ with
    | some ρ1 => bindTs l ds ρ1
    | none => none
  | _, _, _ => none
end
mutual
def tslots : Tg → List Nat
  | .nm i => [i]
  | .tp l => tslotss l
def tslotss : List Tg → List Nat
  | [] => []
  | t :: l => tslots t ++ tslotss l
end
theorem bindTs_length : ∀ {l : List Tg} {ds : List D} {ρ ρ' : Rho}, bindTs l ds ρ = some ρ' → ds.length = l.length
  | [], [], _, _, _ => rfl
  | t :: l, d :: ds, ρ, ρ', h => by
    unfold bindTs at h
    split at h
    · simp [bindTs_length h]
    · exact nomatch h
  | [], _ :: _, _, _, h => by simp [bindTs] at h
  | _ :: _, [], _, _, h => by simp [bindTs] at h
def tG (A : Amb) (Γ : List Nat) (T : Tg) : TG := fun v σ H Q => ∃ W S ρ d ρ', Wok A W S H ∧ Sl Γ W H σ ρ ∧ Den W d v ∧ bindT T d ρ = some ρ' ∧
  ∀ σ', Sl Γ W H σ' ρ' → (∀ j, j ∉ tslots T → σ'[j]? = σ[j]?) → Q σ' H
def tGs (A : Amb) (Γ : List Nat) (T : List Tg) : TGs := fun vs σ H Q => ∃ W S ρ ds ρ', Wok A W S H ∧ Sl Γ W H σ ρ ∧ Dens W ds vs ∧ bindTs T ds ρ = some ρ' ∧
  ∀ σ', Sl Γ W H σ' ρ' → (∀ j, j ∉ tslotss T → σ'[j]? = σ[j]?) → Q σ' H
theorem rem_eq {Γ : List Nat} {i : Nat} (h : i ∉ Γ) : rem Γ i = Γ := List.filter_eq_self.mpr fun j m => decide_eq_true fun e => h (e ▸ m)
section
variable {X : Cx} {A : Amb} {Ex : XK} {Γ : List Nat} {pos : Pos}
theorem dg_nm {x : Str} {i : Nat} (h : PG X (.Name x pos) (gName i)) (n : i ∉ Γ) : PG X (.Name x pos) (tG A Γ (.nm i)) := h.of fun v σ H Q ⟨W, S, ρ, d, ρ', wo, sl, k, e, q⟩ => by
  simp only [bindT] at e
  cases e
  refine q _ (by have := sl.setD (i := i) k; rwa [rem_eq n] at this) fun j m => set_ne fun z => m (by simp [tslots, z])
theorem dgs_nil : PGs X [] (tGs A Γ []) := pgs_nil.of fun vs σ H Q ⟨W, S, ρ, ds, ρ', wo, sl, k, e, q⟩ => by
  cases ds with
  | nil => cases e; exact ⟨k, q σ sl fun _ _ => rfl⟩
  | cons d ds => exact nomatch e
theorem dgs_cons {e : Expr} {es : List Expr} {T : Tg} {Ts : List Tg} (h1 : PG X e (tG A Γ T)) (h2 : PGs X es (tGs A Γ Ts)) (hs : (assignEach (e :: es) X.env).map (·.2) = assign e X.env :: (assignEach es X.env).map (·.2) := by rfl) :
    PGs X (e :: es) (tGs A Γ (T :: Ts)) := (pgs_cons h1 h2 hs).of fun vs σ H Q ⟨W, S, ρ, ds, ρ', wo, sl, k, e, q⟩ => by
  cases ds with
  | nil => exact nomatch e
  | cons d ds =>
    obtain ⟨v, r, rfl, k1, k2⟩ := k
    unfold bindTs at e
    split at e
    · rename_i ρ1 e1
      exact ⟨v, r, rfl, W, S, ρ, d, ρ1, wo, sl, k1, e1, fun σ1 sl1 c1 => ⟨W, S, ρ1, ds, ρ', wo, sl1, k2, e, fun σ2 sl2 c2 => q σ2 sl2 fun j m => by
        have m' : j ∉ tslots T ∧ j ∉ tslotss Ts := by simpa [tslotss] using m
        rw [c2 j m'.2, c1 j m'.1]⟩⟩
    · exact nomatch e
theorem dg_tp {es : List Expr} {k : Nat} {Ts : List Tg} (hc : X.calm = true) (h : PGs X es (tGs A Γ Ts)) (hl : (assignEach es X.env).length = Ts.length := by rfl) (hst : (assignEach es X.env).findIdx? (·.1) = none := by rfl) : PG X (.Tuple es k pos) (tG A Γ (.tp Ts)) :=
  (pg_tup hc h hl hst).of fun v σ H Q ⟨W, S, ρ, d, ρ', wo, sl, k, e, q⟩ => by
    cases d with
    | tup ds =>
      obtain ⟨a, vs, rfl, f, k1⟩ := k
      simp only [bindT] at e
      exact ⟨a, vs, rfl, SqT.of (wo.fr a _ f), by rw [k1.length, bindTs_length e], W, S, ρ, ds, ρ', wo, sl, k1, e, fun σ' sl' c => q σ' sl' fun j m => c j (by simpa [tslots] using m)⟩
    | _ => simp [bindT] at e
end
/-- target = value -/
def sAsg (T : Tg) (f : Ev D) : Sv := fun ρ S => (f ρ S).bind fun d S1 => match bindT T d ρ with
  | some ρ1 => .ok (.nx ρ1) S1
  | none => .bad
theorem SOk.tgt {E : En} {Γ : List Nat} {W : Wd} {S : Sto} {H : Hp} {σ σ' : L2.St} {ρ ρ' : Rho} {T : Tg} (so : SOk E Γ W S H σ ρ) (hn : ∀ j ∈ tslots T, j ∉ Γ) (sl : Sl Γ W H σ' ρ') (c : ∀ j, j ∉ tslots T → σ'[j]? = σ[j]?)
    (e : ∀ j, j ∉ tslots T → ρ'[j]? = ρ[j]?) : SOk E Γ W S H σ' ρ' := ⟨so.wo, sl, so.st, fun i d a m q1 q2 => by
  have z : i ∉ tslots T := fun z => hn i z m
  rw [e i z] at q1
  rw [c i z] at q2
  exact so.nw i d a m q1 q2⟩
mutual
theorem bindT_out : ∀ (T : Tg) (d : D) (ρ ρ' : Rho), bindT T d ρ = some ρ' → ∀ j, j ∉ tslots T → ρ'[j]? = ρ[j]?
  | .nm i, d, ρ, ρ', h, j, m => by simp only [bindT] at h; cases h; exact set_ne fun z => m (by simp [tslots, z])
  | .tp l, .tup ds, ρ, ρ', h, j, m => bindTs_out l ds ρ ρ' (by simpa [bindT] using h) j (by simpa [tslots] using m)
  | .tp l, .non, ρ, ρ', h, j, m => by simp [bindT] at h
  | .tp l, .bl _, ρ, ρ', h, j, m => by simp [bindT] at h
  | .tp l, .int _, ρ, ρ', h, j, m => by simp [bindT] at h
  | .tp l, .str _, ρ, ρ', h, j, m => by simp [bindT] at h
  | .tp l, .lst _, ρ, ρ', h, j, m => by simp [bindT] at h
  | .tp l, .dK _, ρ, ρ', h, j, m => by simp [bindT] at h
  | .tp l, .dT _, ρ, ρ', h, j, m => by simp [bindT] at h
  | .tp l, .obj _, ρ, ρ', h, j, m => by simp [bindT] at h
  | .tp l, .scr _, ρ, ρ', h, j, m => by simp [bindT] at h
theorem bindTs_out : ∀ (T : List Tg) (d : List D) (ρ ρ' : Rho), bindTs T d ρ = some ρ' → ∀ j, j ∉ tslotss T → ρ'[j]? = ρ[j]?
  | [], [], ρ, ρ', h, j, m => by simp [bindTs] at h; rw [h]
  | t :: l, d :: ds, ρ, ρ', h, j, m => by
    unfold bindTs at h
    split at h
    · rename_i ρ1 e1
      have m' : j ∉ tslots t ∧ j ∉ tslotss l := by simpa [tslotss] using m
      rw [bindTs_out l ds ρ1 ρ' h j m'.2, bindT_out t d ρ ρ1 e1 j m'.1]
    · exact nomatch h
  | [], _ :: _, _, _, h, _, _ => by simp [bindTs] at h
  | _ :: _, [], _, _, h, _, _ => by simp [bindTs] at h
end
mutual
theorem bindT_len : ∀ (T : Tg) (d : D) (ρ ρ' : Rho), bindT T d ρ = some ρ' → ρ'.length = ρ.length
  | .nm i, d, ρ, ρ', h => by simp only [bindT] at h; cases h; simp
  | .tp l, .tup ds, ρ, ρ', h => bindTs_len l ds ρ ρ' (by simpa [bindT] using h)
  | .tp l, .non, ρ, ρ', h => by simp [bindT] at h
  | .tp l, .bl _, ρ, ρ', h => by simp [bindT] at h
  | .tp l, .int _, ρ, ρ', h => by simp [bindT] at h
  | .tp l, .str _, ρ, ρ', h => by simp [bindT] at h
  | .tp l, .lst _, ρ, ρ', h => by simp [bindT] at h
  | .tp l, .dK _, ρ, ρ', h => by simp [bindT] at h
  | .tp l, .dT _, ρ, ρ', h => by simp [bindT] at h
  | .tp l, .obj _, ρ, ρ', h => by simp [bindT] at h
  | .tp l, .scr _, ρ, ρ', h => by simp [bindT] at h
theorem bindTs_len : ∀ (T : List Tg) (d : List D) (ρ ρ' : Rho), bindTs T d ρ = some ρ' → ρ'.length = ρ.length
  | [], [], ρ, ρ', h => by simp [bindTs] at h; rw [h]
  | t :: l, d :: ds, ρ, ρ', h => by
    unfold bindTs at h
    split at h
    · rename_i ρ1 e1
      rw [bindTs_len l ds ρ1 ρ' h, bindT_len t d ρ ρ1 e1]
    · exact nomatch h
  | [], _ :: _, _, _, h => by simp [bindTs] at h
  | _ :: _, [], _, _, h => by simp [bindTs] at h
end
section
variable {X : Cx} {E : En} {Γ Γ' Γc : List Nat} {pos : Pos}
theorem ds_asg {tg e : Expr} {f : Ev D} {T : Tg} (he : DE X E.A E.Ex Γ e f) (hg : PG X tg (tG E.A Γ T)) (hn : ∀ j ∈ tslots T, j ∉ Γ) (hs : swapsWithSole [tg] e pos.line X.env = pure false := by rfl) (hw : swappedStores [tg] e X.env = pure none := by rfl)
    (h1 : (assignEach [tg] X.env).map (·.2) = [assign tg X.env] := by rfl) : DS X E Γ Γ Γc (.Assign [tg] e pos) (sAsg T f) :=
  (ps_asg he hg hs hw h1).of fun D σ H ⟨W, ρ, S, so, an⟩ => seqS so an fun d S1 W1 H1 v s1 so1 k1 an1 => by
    split at an1
    · rename_i ρ1 e1
      exact ⟨W1, S1, ρ, d, ρ1, so1.wo, so1.sl, k1, e1, fun σ' sl' c => an1 W1 H1 σ' (so1.tgt hn sl' c (bindT_out T d ρ ρ1 e1)) .refl⟩
    · exact an1.elim
end

/-! ### what is walked -/
structure Walks (A : Amb) (J : It) (l : List D) (W0 : Wd) : Prop where
  go : ∀ W S H i d, Wok A W S H → Le W0 W → l[i]? = some d → J.go i H ∧ ∀ x H', J.yld i H x H' → ∃ W', Step W H W' H' ∧ Wok A W' S H' ∧ Den W' d x
  stop : ∀ W S H, Wok A W S H → Le W0 W → J.stop l.length H
  sz : l.length ≤ sizeLine
def rW (A : Amb) : RR (List D) It := fun _ W _ l J => Walks A J l W
theorem shW {A : Amb} : Shift (rW A) := fun _ _ _ _ _ _ _ _ _ h => h
abbrev DI (X : Cx) (A : Amb) (Ex : XK) (Γ : List Nat) (tg e : Expr) (f : Ev (List D)) : Prop := PI X tg e (tR A Ex Γ (rW A) f)
def asSeq (f : Ev D) : Ev (List D) := b1 f fun d S => match d with
  | .lst l => .ok l S
  | .tup l => .ok l S
  | _ => .bad
section
variable {X : Cx} {A : Amb} {Ex : XK} {Γ : List Nat} {tg l : Expr} {tl : TE}
def iSeq (K : PySem.W.Frag) (tl : TE) : TI := fun σ H R => tl σ H fun x H1 => (∃ a, x = .ref a ∧ (∃ xs, SqL K H1 a xs) ∧ R (Itl K a) H1) ∨ ∃ a, x = .ref a ∧ (∃ xs, SqT K H1 a xs) ∧ R (Itt K a) H1
theorem pi_seq (hl : PE X l tl) : PI X tg l (iSeq X.K tl) := by
  refine ⟨fun pins s σ H R I h => ?_⟩
  refine thn (hl.run pins s σ H _ I h) fun v s1 ⟨x, H1, I1, r1, q1⟩ => ?_
  rcases q1 with ⟨a, e, ⟨xs, hq⟩, q⟩ | ⟨a, e, ⟨xs, hq⟩, q⟩
  · subst e
    cases r1
    obtain ⟨its, rv, p, hz⟩ := I1.list hq
    refine wpAny_pyIter_list p.isList ?_
    refine ⟨s1.heap.objs.size, [s1.heap.objs.size], _, _, H1, rfl, I1.kept (t' := s1.toks) fun b o e => Heap.get?_push_of_some _ e, turn_list a _, ⟨_, Heap.get?_push_size _ rfl, rfl, rfl⟩, fun b hb => ?_, q⟩
    have e : b = s1.heap.objs.size := by simpa using hb
    subst e
    exact I1.fpOk (Nat.le_refl _) (I1.hok.fresh (Nat.le_refl _))
  · subst e
    cases r1
    obtain ⟨its, rv, p, hz⟩ := I1.tuple hq
    refine wpAny_pyIter_tuple (show s1.heap.IsTuple a its.toArray from p) ?_
    refine ⟨s1.heap.objs.size, [s1.heap.objs.size], _, _, H1, rfl, I1.kept (t' := s1.toks) fun b o e => Heap.get?_push_of_some _ e, turn_tuple a _, ⟨_, Heap.get?_push_size _ rfl, rfl, rfl⟩, fun b hb => ?_, q⟩
    have e : b = s1.heap.objs.size := by simpa using hb
    subst e
    exact I1.fpOk (Nat.le_refl _) (I1.hok.fresh (Nat.le_refl _))
theorem walks_list {K : PySem.W.Frag} {W0 : Wd} {a : Addr} {vs : List V} {ds : List D} (f : W0.Fr a = some (.lst vs)) (k : Dens W0 ds vs) (z : vs.length ≤ sizeLine) : Walks A (Itl K a) ds W0 where
  go := fun W S H i d wo le e => by
    have h : SqL K H a vs := SqL.of (wo.fr a _ (le.fr _ _ f))
    obtain ⟨v, e1, k1⟩ := k.get' e
    exact ⟨⟨vs, v, h, e1⟩, fun x H' ⟨q1, q2⟩ => by
      subst q1
      have := q2 vs h
      rw [e1] at this
      cases this
      exact ⟨W, .refl, wo, k1.le le⟩⟩
  stop := fun W S H wo le => ⟨vs, SqL.of (wo.fr a _ (le.fr _ _ f)), by rw [k.length]; exact Nat.le_refl _⟩
  sz := by rw [← k.length]; exact z
theorem walks_tup {K : PySem.W.Frag} {W0 : Wd} {a : Addr} {vs : List V} {ds : List D} (f : W0.Fr a = some (.tup vs)) (k : Dens W0 ds vs) (z : vs.length ≤ sizeLine) : Walks A (Itt K a) ds W0 where
  go := fun W S H i d wo le e => by
    have h : SqT K H a vs := SqT.of (wo.fr a _ (le.fr _ _ f))
    obtain ⟨v, e1, k1⟩ := k.get' e
    exact ⟨⟨vs, v, h, e1⟩, fun x H' ⟨q1, q2⟩ => by
      subst q1
      have := q2 vs h
      rw [e1] at this
      cases this
      exact ⟨W, .refl, wo, k1.le le⟩⟩
  stop := fun W S H wo le => ⟨vs, SqT.of (wo.fr a _ (le.fr _ _ f)), by rw [k.length]; exact Nat.le_refl _⟩
  sz := by rw [← k.length]; exact z
theorem di_seq {f : Ev D} (h : DE X A Ex Γ l f) : DI X A Ex Γ tg l (asSeq f) :=
  (pi_seq h).of fun σ H R ⟨W, ρ, S, wo, sl, an⟩ => seqR shW wo sl an fun d S1 W1 H1 v s1 wo1 k1 sl1 an1 => by
    cases d with
    | lst ds =>
      obtain ⟨a, vs, rfl, f, k⟩ := k1
      exact .inl ⟨a, rfl, ⟨vs, SqL.of (wo1.fr a _ f)⟩, an1.done wo1 (walks_list f k (wo1.sz a _ f))⟩
    | tup ds =>
      obtain ⟨a, vs, rfl, f, k⟩ := k1
      exact .inr ⟨a, rfl, ⟨vs, SqT.of (wo1.fr a _ f)⟩, an1.done wo1 (walks_tup f k (wo1.sz a _ f))⟩
    | _ => exact an1.elim
def rngD (i j : Int) : List D := (List.range (j - i).toNat).map fun k => .int (i + (k : Nat))
def rng1 (fas : Ev (List D)) : Ev (List D) := b1 fas fun l S => match l with
  | [.int j] => if -8000000 ≤ j ∧ j ≤ 8000000 then .ok (rngD 0 j) S else .bad
  | _ => .bad
def rng2 (fas : Ev (List D)) : Ev (List D) := b1 fas fun l S => match l with
  | [.int i, .int j] => if (-8000000 ≤ i ∧ i ≤ 8000000) ∧ (-8000000 ≤ j ∧ j ≤ 8000000) then .ok (rngD i j) S else .bad
  | _ => .bad
theorem walks_rng {W0 : Wd} {i j : Int} (z : (j - i).toNat ≤ sizeLine) : Walks A (Itr i (j - i).toNat) (rngD i j) W0 where
  go := fun W S H k d wo le e => by
    have hk : k < (j - i).toNat := by
      obtain ⟨q, _⟩ := List.getElem?_eq_some_iff.mp e
      simpa [rngD] using q
    refine ⟨hk, fun x H' ⟨q1, q2⟩ => ?_⟩
    subst q1 q2
    refine ⟨W, .refl, wo, ?_⟩
    simp [rngD, hk] at e
    subst e
    exact rfl
  stop := fun W S H wo le => by simp [rngD]; exact Nat.le_refl _
  sz := by simp [rngD]; omega
theorem di_range1 {a : Expr} {fas : Ev (List D)} {p pos : Pos} (hg : Gl X "range") (hm : X.mg "range" = none) (ha : DA X A Ex Γ [a] fas) (hs : starEach [a] X.env = [(false, eval a X.env)] := by rfl) : DI X A Ex Γ tg (.Call (.Name "range" p) [a] [] pos) (rng1 fas) :=
  (pi_range1 hg hm ha.pa hs).of fun σ H R ⟨W, ρ, S, wo, sl, an⟩ => seqR shW wo sl an fun ds S1 W1 H1 vs s1 wo1 k1 sl1 an1 => by
    split at an1
    · split at an1
      · rename_i z
        obtain ⟨v, r, rfl, q1, q2⟩ := k1
        cases q1; cases q2
        refine ⟨_, rfl, by omega, by omega, ?_⟩
        have w := fun j (q : (j - 0).toNat ≤ sizeLine) => walks_rng (A := A) (W0 := W1) (i := 0) (j := j) q
        simp only [Int.sub_zero] at w
        exact an1.done wo1 (w _ (by rw [sizeLine_eq]; omega))
      · exact an1.elim
    · exact an1.elim
theorem di_range2 {a b : Expr} {fas : Ev (List D)} {p pos : Pos} (hg : Gl X "range") (hm : X.mg "range" = none) (ha : DA X A Ex Γ [a, b] fas) (hs : starEach [a, b] X.env = [(false, eval a X.env), (false, eval b X.env)] := by rfl) (hs2 : starEach [b] X.env = [(false, eval b X.env)] := by rfl) :
    DI X A Ex Γ tg (.Call (.Name "range" p) [a, b] [] pos) (rng2 fas) :=
  (pi_range2 hg hm ha.pa hs hs2).of fun σ H R ⟨W, ρ, S, wo, sl, an⟩ => seqR shW wo sl an fun ds S1 W1 H1 vs s1 wo1 k1 sl1 an1 => by
    split at an1
    · split at an1
      · rename_i z
        obtain ⟨v, r, rfl, q1, v2, r2, rfl, q2, q3⟩ := k1
        cases q1; cases q2; cases q3
        refine ⟨_, _, rfl, by omega, ?_⟩
        exact an1.done wo1 (walks_rng (by rw [sizeLine_eq]; omega))
      · exact an1.elim
    · exact an1.elim
end

/-! ### for -/
def forGo (T : Tg) (B : Sv) : List D → Sv
  | [], ρ, S => .ok (.nx ρ) S
  | d :: l, ρ, S => match bindT T d ρ with
    | none => .bad
    | some ρ1 => (B ρ1 S).bind fun fl S1 => match fl with
      | .nx ρ2 => forGo T B l ρ2 S1
      | .ct ρ2 => forGo T B l ρ2 S1
      | .ret d => .ok (.ret d) S1
def sFor (f : Ev (List D)) (T : Tg) (B : Sv) : Sv := fun ρ S => (f ρ S).bind fun l S1 => forGo T B l ρ S1
section
variable {X : Cx} {E : En} {Γ Γ' Γc : List Nat} {pos : Pos}
theorem ds_for {tg iter : Expr} {body : List Stmt} {f : Ev (List D)} {T : Tg} {B : Sv} (hp : PassesOwn (model X.prog X.w) X.A X.env X.xe) (hc : X.calm = true) (hi : DI X E.A E.Ex Γ tg iter f) (hg : PG X tg (tG E.A Γ T)) (hn : ∀ j ∈ tslots T, j ∉ Γ)
    (hb : DSs X E Γ Γ Γ body B) (hs : ∀ x, foldedSetIterable iter X.env x = pure x := by intro _; rfl) : DS X E Γ Γ Γc (.For tg iter body [] pos) (sFor f T B) :=
  (ps_for hp hc hi hg hb hs).of fun D σ H ⟨W, ρ, S, so, an⟩ => seqS so an fun l S1 W1 H1 J s1 so1 wk an1 => by
    refine ⟨fun i m σ H => i + m = l.length ∧ ∃ W ρ S, SOk E Γ W S H σ ρ ∧ Le W1 W ∧ SAns E Γ Γc W D (forGo T B (l.drop i) ρ S), ⟨l.length, by simp, W1, ρ, S1, so1, .refl, an1⟩, ?_⟩
    rintro i m σ2 H2 ⟨e, W2, ρ2, S2, so2, le2, an2⟩
    by_cases hlt : i < l.length
    · right
      have e1 : l[i]? = some l[i] := List.getElem?_eq_getElem hlt
      rw [List.drop_eq_getElem_cons hlt] at an2
      obtain ⟨g1, g2⟩ := wk.go W2 S2 H2 i l[i] so2.wo le2 e1
      refine ⟨g1, fun σ H => ∃ W ρ S, SOk E Γ W S H σ ρ ∧ Le W1 W ∧ SAns E Γ Γc W D (forGo T B (l.drop (i + 1)) ρ S), fun σ' H' ⟨W', ρ', S', q1, q2, q3⟩ => ⟨m - 1, by omega, by omega, W', ρ', S', q1, q2, q3⟩, fun x H3 y => ?_⟩
      obtain ⟨W3, s3, wo3, k3⟩ := g2 x H3 y
      have an3 := SAns.mono an2 s3.le
      unfold forGo at an3
      split at an3
      · exact an3.elim
      · rename_i ρ3 e3
        have so3 : SOk E Γ W3 S2 H3 σ2 ρ2 := ⟨wo3, so2.sl.step s3, so2.st.trans s3, so2.nw⟩
        refine ⟨W3, S2, ρ2, l[i], ρ3, wo3, so3.sl, k3, e3, fun σ4 sl4 c4 => ⟨W3, ρ3, S2, so3.tgt hn sl4 c4 (bindT_out T _ ρ2 ρ3 e3), ?_⟩⟩
        generalize B ρ3 S2 = r at an3
        cases r with
        | ok fl S5 => cases fl with
          | nx ρ5 => exact fun W6 H6 σ6 so6 le6 => ⟨W6, ρ5, S5, so6, (le2.trans s3.le).trans le6, SAns.mono an3 le6⟩
          | ct ρ5 => exact fun W6 H6 σ6 so6 le6 => ⟨W6, ρ5, S5, so6, (le2.trans s3.le).trans le6, SAns.mono an3 le6⟩
          | ret d => exact an3
        | exc c S5 => exact an3
        | bad => exact an3
    · have e2 : i = l.length := by omega
      subst e2
      left
      rw [List.drop_length] at an2
      exact ⟨wk.stop W2 S2 H2 so2.wo le2, an2 W2 H2 σ2 so2 .refl⟩

/-! ### while -/
def whileGo (t : Ev Bool) (B : Sv) : Nat → Sv
  | 0, _, _ => .bad
  | n + 1, ρ, S => (t ρ S).bind fun b S1 => if b = true then (B ρ S1).bind fun fl S2 => match fl with
      | .nx ρ2 => whileGo t B n ρ2 S2
      | .ct ρ2 => whileGo t B n ρ2 S2
      | .ret d => .ok (.ret d) S2
    else .ok (.nx ρ) S1
theorem ds_while {c : Expr} {body : List Stmt} {t : Ev Bool} {B : Sv} (n : Nat) (hp : PassesOwn (model X.prog X.w) X.A X.env X.xe) (hc : DT X E.A E.Ex Γ c t) (hb : DSs X E Γ Γ Γ body B) : DS X E Γ Γ Γc (.While c body [] pos) (whileGo t B n) :=
  (ps_while hp hc hb).of fun D σ H ⟨W, ρ, S, so, an⟩ => by
    refine ⟨fun m σ H => ∃ W ρ S, SOk E Γ W S H σ ρ ∧ SAns E Γ Γc W D (whileGo t B m ρ S), ⟨n, W, ρ, S, so, an⟩, ?_⟩
    rintro m σ2 H2 ⟨W2, ρ2, S2, so2, an2⟩
    cases m with
    | zero => exact an2.elim
    | succ m =>
      unfold whileGo at an2
      exact seqS so2 an2 fun b S3 W3 H3 v s3 so3 k3 an3 => by
        cases k3
        cases b
        · rw [if_neg Bool.false_ne_true]; rw [if_neg Bool.false_ne_true] at an3; exact an3 W3 H3 σ2 so3 .refl
        · rw [if_pos rfl]; rw [if_pos rfl] at an3
          refine ⟨fun σ H => ∃ W ρ S, SOk E Γ W S H σ ρ ∧ SAns E Γ Γc W D (whileGo t B m ρ S), fun σ' H' h => ⟨m, Nat.lt_succ_self m, h⟩, W3, ρ2, S3, so3, ?_⟩
          generalize B ρ2 S3 = r at an3
          cases r with
          | ok fl S5 => cases fl with
            | nx ρ5 => exact fun W6 H6 σ6 so6 le6 => ⟨W6, ρ5, S5, so6, SAns.mono an3 le6⟩
            | ct ρ5 => exact fun W6 H6 σ6 so6 le6 => ⟨W6, ρ5, S5, so6, SAns.mono an3 le6⟩
            | ret d => exact an3
          | exc c S5 => exact an3
          | bad => exact an3
end

/-! ### comprehensions -/
def wipeR (ρ : Rho) : List Nat → Rho
  | [] => ρ
  | v :: vs => (wipeR ρ vs).set v none
def lcGo (T : Tg) (c : Ev Bool) (e : Ev D) (ρ : Rho) : List D → Sto → Out (List D)
  | [], S => .ok [] S
  | d :: l, S => match bindT T d ρ with
    | none => .bad
    | some ρ1 => (c ρ1 S).bind fun b S1 => if b = true then (e ρ1 S1).bind fun y S2 => (lcGo T c e ρ l S2).bind fun r S3 => .ok (y :: r) S3 else lcGo T c e ρ l S1
def noX {α : Type} (r : Out α) : Out α := match r with
  | .exc _ _ => .bad
  | r => r
def lcF (f : Ev (List D)) (T : Tg) (c : Ev Bool) (e : Ev D) (vs : List Nat) : Ev D := fun ρ S => (f ρ S).bind fun l S1 => (noX (lcGo T c e (wipeR ρ vs) l S1)).bind fun r S2 => .ok (.lst r) S2
def yes : Ev Bool := fun _ S => .ok true S
theorem Sl.wipe {Γ : List Nat} {W : Wd} {H : Hp} {σ : L2.St} {ρ : Rho} (h : Sl Γ W H σ ρ) : ∀ vs : List Nat, Sl Γ W H (wipe σ vs) (wipeR ρ vs)
  | [] => h
  | v :: vs => by
    have ih := Sl.wipe h vs
    have g : ∀ (i : Nat) d, ((wipeR ρ vs).set v none)[i]? = some (some d) → i ≠ v ∧ (wipeR ρ vs)[i]? = some (some d) := fun i d e => by
      by_cases z : i = v
      · subst z
        by_cases q : i < (wipeR ρ vs).length
        · rw [set_same q] at e; exact nomatch e
        · rw [List.getElem?_eq_none (by simp; omega)] at e; exact nomatch e
      · rw [set_ne z] at e; exact ⟨z, e⟩
    show Sl Γ W H ((L2.wipe σ vs).set v none) ((wipeR ρ vs).set v none)
    refine ⟨fun i d e n => ?_, fun i d e n => ?_, fun x y dx dy u hx hy ne q1 q2 q3 => ?_, by simp [ih.len]⟩
    · obtain ⟨z, e⟩ := g i d e
      rw [set_ne z]; exact ih.den i d e n
    · obtain ⟨z, e⟩ := g i d e
      rw [set_ne z]; exact ih.own i d e n
    · obtain ⟨z1, q1⟩ := g x dx q1
      obtain ⟨z2, q2⟩ := g y dy q2
      rw [set_ne z1] at q3
      rw [set_ne z2]
      exact ih.dj x y dx dy u hx hy ne q1 q2 q3
theorem wipe_at (vs : List Nat) (σ : L2.St) (i : Nat) : (wipe σ vs)[i]? = if i ∈ vs then (if i < σ.length then some none else none) else σ[i]? := by
  induction vs with
  | nil => simp [wipe]
  | cons v vs ih =>
    show ((wipe σ vs).set v none)[i]? = _
    by_cases z : i = v
    · subst z
      by_cases q : i < σ.length
      · rw [set_same (by rw [wipe_length]; exact q)]; simp [q]
      · rw [List.getElem?_eq_none (by simp [wipe_length]; omega)]; simp [q]
    · rw [set_ne z, ih]; simp [z]
theorem wipe_same {vs : List Nat} {σ σ' : L2.St} (hl : σ'.length = σ.length) (h : ∀ j, j ∉ vs → σ'[j]? = (wipe σ vs)[j]?) : wipe σ' vs = wipe σ vs := by
  apply List.ext_getElem?
  intro i
  rw [wipe_at vs σ' i]
  by_cases m : i ∈ vs
  · rw [wipe_at vs σ i]; simp [m, hl]
  · rw [if_neg m]; exact h i m
/-- no exception may leave a comprehension -/
abbrev XF : XK := fun _ _ _ => False
section
variable {X : Cx} {A : Amb} {Ex : XK} {Γ : List Nat} {wi : TI} {g : TG} {tt : TT} {te : TE}
theorem lc_imp {K : PySem.W.Frag} {f : Ev (List D)} {T : Tg} {c : Ev Bool} {e : Ev D} {vs : List Nat} (hn : ∀ j ∈ tslots T, j ∈ vs) : ∀ σ H Q, tR A Ex Γ rN (lcF f T c e vs) σ H Q →
    tLc (tR A Ex Γ (rW A) f) (tG A Γ T) (tR A XF Γ rB c) (tR A XF Γ rD e) vs σ H Q := fun σ H Q ⟨W, ρ, S, wo, sl, an⟩ => by
  refine seqR shN wo sl an fun l S1 W1 H1 J s1 wo1 wk sl1 an1 => ?_
  intro Da na
  refine ⟨fun i m H => i + m = l.length ∧ ∃ W S acc ds, Wok A W S H ∧ Step W1 H1 W H ∧ W.Fr Da = none ∧ W.tg Da = none ∧ H Da = some (.lst acc) ∧ Dens W ds acc ∧ acc.length ≤ i ∧
    Ans A Ex rN W1 H1 ((noX (lcGo T c e (wipeR ρ vs) (l.drop i) S)).bind fun r S2 => .ok (.lst (ds ++ r)) S2) Q, ⟨l.length, by simp, W1, S1, [], [], wo1.lay na, Step.lay wo1 na, wo1.frNone na, wo1.tgNone na, upd_same, rfl, Nat.le_refl _, by simpa using an1⟩, ?_⟩
  rintro i m H2 ⟨e1, W2, S2, acc, ds, wo2, s2, f2, t2, h2, k2, z2, an2⟩
  by_cases hlt : i < l.length
  · right
    have e3 : l[i]? = some l[i] := List.getElem?_eq_getElem hlt
    rw [List.drop_eq_getElem_cons hlt] at an2
    obtain ⟨g1, g2⟩ := wk.go W2 S2 H2 i l[i] wo2 s2.le e3
    refine ⟨g1, fun H => ∃ W S acc ds, Wok A W S H ∧ Step W1 H1 W H ∧ W.Fr Da = none ∧ W.tg Da = none ∧ H Da = some (.lst acc) ∧ Dens W ds acc ∧ acc.length ≤ i + 1 ∧
      Ans A Ex rN W1 H1 ((noX (lcGo T c e (wipeR ρ vs) (l.drop (i + 1)) S)).bind fun r S2 => .ok (.lst (ds ++ r)) S2) Q, fun H' ⟨W', S', acc', ds', q⟩ => ⟨m - 1, by omega, by omega, W', S', acc', ds', q⟩, fun x H3 y => ?_⟩
    obtain ⟨W3, s3, wo3, k3⟩ := g2 x H3 y
    have sw : Sl Γ W3 H3 (wipe σ vs) (wipeR ρ vs) := ((sl1.step s2).step s3).wipe vs
    unfold lcGo at an2
    split at an2
    · exact an2.elim
    · rename_i ρ3 e4
      refine ⟨W3, S2, wipeR ρ vs, l[i], ρ3, wo3, sw, k3, e4, fun σ4 sl4 c4 => ⟨wipe_same (by have h1 := sl4.len; have h3 := sw.len; rw [wipe_length] at h3; have h5 : ρ3.length = (wipeR ρ vs).length := bindT_len T _ _ _ e4; omega) fun j m => c4 j fun z => m (hn j z), ?_⟩⟩
      · have pick : ∀ {β : Type} (r : Out β) (k : β → Sto → Out (List D)), (∃ b S', r = .ok b S') ∨ noX (r.bind k) = .bad := fun r k => by
          cases r with
          | ok b S' => exact .inl ⟨b, S', rfl⟩
          | exc c S' => exact .inr rfl
          | bad => exact .inr rfl
        refine ⟨W3, ρ3, S2, wo3, sl4, ?_⟩
        rcases pick (c ρ3 S2) _ with ⟨b, S5, eb⟩ | q
        · rw [eb] at an2
          rw [eb]
          intro W5 H5 v s5 wo5 kb
          cases kb
          cases b with
          | false =>
            rw [if_neg Bool.false_ne_true]
            simp only [Out.bind_ok, Bool.false_eq_true, if_false] at an2
            refine ⟨W5, S5, acc, ds, wo5, (s2.trans s3).trans s5, (s3.trans s5).frn h2 f2, (s3.trans s5).tgn h2 t2, (s3.trans s5).fm _ _ h2 t2 f2, k2.step (s3.trans s5), by omega, an2⟩
          | true =>
            rw [if_pos rfl]
            simp only [Out.bind_ok, if_true] at an2
            refine ⟨W5, ρ3, S5, wo5, sl4.step s5, ?_⟩
            rcases pick (e ρ3 S5) _ with ⟨y, S6, ey⟩ | q
            · rw [ey] at an2
              rw [ey]
              intro W6 H6 v s6 wo6 ky
              have s36 := (s3.trans s5).trans s6
              have h6 := s36.fm _ _ h2 t2 f2
              have z6 : acc.length < sizeLine := Nat.lt_of_lt_of_le (Nat.lt_of_le_of_lt z2 hlt) wk.sz
              refine ⟨acc, h6, z6, W6, S6, acc ++ [v], ds ++ [y], wo6.put (s36.frn h2 f2) (s36.tgn h2 t2) h6, (s2.trans s36).put (nw_of na), s36.frn h2 f2, s36.tgn h2 t2, upd_same, (k2.step s36).append (Dens.one ky), by simp; omega, ?_⟩
              simp only [Out.bind_ok] at an2
              revert an2
              cases lcGo T c e (wipeR ρ vs) (l.drop (i + 1)) S6 with
              | ok r S7 => simp [noX]
              | exc c S7 => simp [noX]
              | bad => simp [noX]
            · exfalso
              rw [q] at an2
              exact an2
        · exfalso
          rw [q] at an2
          exact an2
  · have e2 : i = l.length := by omega
    subst e2
    left
    rw [List.drop_length] at an2
    refine ⟨wk.stop W2 S2 H2 wo2 s2.le, ?_⟩
    simp only [lcGo, noX, Out.bind_ok, List.append_nil] at an2
    exact an2 W2 H2 _ s2 wo2 ⟨Da, rfl, nw_of na, f2, t2, acc, h2, k2, Nat.le_trans z2 wk.sz⟩
end
end Hr

set_option Elab.async false
set_option linter.all false
set_option maxRecDepth 100000
namespace Hr
open PySem PySem.Spec PyProof.Rows L2

/-! ### calls of built-ins -/
def rV1 : RR D (List V) := fun _ W H d vs => ∃ v, vs = [v] ∧ View W H d v
def rV2 : RR (D × D) (List V) := fun _ W H d vs => ∃ v u, vs = [v, u] ∧ View W H d.1 v ∧ View W H d.2 u
def pr (fa fb : Ev D) : Ev (D × D) := b2 fa fb fun x y S => .ok (x, y) S
theorem shV1 : Shift rV1 := fun _ _ _ _ _ _ _ _ _ h => h
theorem shV2 : Shift rV2 := fun _ _ _ _ _ _ _ _ _ h => h
abbrev St1 (X : Cx) (e : Expr) : Prop := starEach [e] X.env = (false, eval e X.env) :: starEach [] X.env
abbrev St2 (X : Cx) (e e' : Expr) : Prop := starEach [e, e'] X.env = (false, eval e X.env) :: starEach [e'] X.env
section
variable {X : Cx} {A : Amb} {Ex : XK} {Γ : List Nat} {e e' : Expr} {es : List Expr} {f f' : Ev D} {x : Str} {p pos : Pos} {id T : String} {r : List V → Hp → VK → Prop} {R : RR D V}
theorem pa1 (h : DV X A Ex Γ e f) (hs : starEach [e] X.env = (false, eval e X.env) :: starEach [] X.env := by rfl) : PA X [e] (tR A Ex Γ rV1 f) :=
  (pa_cons h pa_nil hs).of fun σ H Q ⟨W, ρ, S, wo, sl, an⟩ => ⟨W, ρ, S, wo, sl, by
    generalize f ρ S = r at an
    cases r with
    | ok d S1 => exact fun W1 H1 v s w k => an W1 H1 _ s w ⟨v, rfl, k⟩
    | exc c S1 => exact an
    | bad => exact an⟩
theorem pa2 (h : DV X A Ex Γ e f) (h' : DV X A Ex Γ e' f') (hs : starEach [e, e'] X.env = (false, eval e X.env) :: starEach [e'] X.env := by rfl) (hs' : starEach [e'] X.env = (false, eval e' X.env) :: starEach [] X.env := by rfl) : PA X [e, e'] (tR A Ex Γ rV2 (pr f f')) :=
  (pa_cons h (pa_cons h' pa_nil hs') hs).of fun σ H Q ⟨W, ρ, S, wo, sl, an⟩ => seqR shV2 wo sl an fun d S1 W1 H1 v s1 wo1 k1 sl1 an1 => seqR shV2 wo1 sl1 an1 fun d2 S2 W2 H2 v2 s2 wo2 k2 sl2 an2 =>
    an2.done wo2 ⟨v, v2, rfl, View.step k1 s2, k2⟩
theorem d_b1 {g : D → Sto → Out D} (hR : Shift R) (hc : CallR X (.builtin id) r) (hgl : Gl X x) (hm : X.mg x = none) (hv : bootBuiltins x = some (.builtin id)) (ha : DV X A Ex Γ e f)
    (hg : ∀ W S H v d Q, Wok A W S H → View W H d v → Ans A Ex R W H (g d S) Q → r [v] H Q) (he : St1 X e) (hn : x ≠ "__name__" := by decide) (hdb : (x == ("__debug__" : Str)) = false := by decide) : PE X (.Call (.Name x p) [e] [] pos) (tR A Ex Γ R (b1 f g)) :=
  (pe_callB hc hgl hm hv (pa1 ha he) hn hdb he rfl).of fun σ H Q ⟨W, ρ, S, wo, sl, an⟩ => seqR hR wo sl an fun d S1 W1 H1 vs s1 wo1 k1 sl1 an1 => by
    obtain ⟨v, rfl, k⟩ := k1
    exact hg W1 S1 H1 v d Q wo1 k an1
theorem d_t1 {g : D → Sto → Out D} (hR : Shift R) (hc : CallR X (.type T) r) (hgl : Gl X x) (hm : X.mg x = none) (hv : bootBuiltins x = some (.type T)) (ha : DV X A Ex Γ e f)
    (hg : ∀ W S H v d Q, Wok A W S H → View W H d v → Ans A Ex R W H (g d S) Q → r [v] H Q) (he : St1 X e) (hn : x ≠ "__name__" := by decide) (hdb : (x == ("__debug__" : Str)) = false := by decide) : PE X (.Call (.Name x p) [e] [] pos) (tR A Ex Γ R (b1 f g)) :=
  (pe_callTy hc hgl hm hv (pa1 ha he) hn hdb he rfl).of fun σ H Q ⟨W, ρ, S, wo, sl, an⟩ => seqR hR wo sl an fun d S1 W1 H1 vs s1 wo1 k1 sl1 an1 => by
    obtain ⟨v, rfl, k⟩ := k1
    exact hg W1 S1 H1 v d Q wo1 k an1
theorem d_b2 {g : D × D → Sto → Out D} (hR : Shift R) (hc : CallR X (.builtin id) r) (hgl : Gl X x) (hm : X.mg x = none) (hv : bootBuiltins x = some (.builtin id)) (ha : DV X A Ex Γ e f) (hb : DV X A Ex Γ e' f')
    (hg : ∀ W S H v u d Q, Wok A W S H → View W H d.1 v → View W H d.2 u → Ans A Ex R W H (g d S) Q → r [v, u] H Q) (he : St2 X e e') (he' : St1 X e') (hn : x ≠ "__name__" := by decide) (hdb : (x == ("__debug__" : Str)) = false := by decide) : PE X (.Call (.Name x p) [e, e'] [] pos) (tR A Ex Γ R (b1 (pr f f') g)) :=
  (pe_callB hc hgl hm hv (pa2 ha hb he he') hn hdb he (by rw [he']; rfl)).of fun σ H Q ⟨W, ρ, S, wo, sl, an⟩ => seqR hR wo sl an fun d S1 W1 H1 vs s1 wo1 k1 sl1 an1 => by
    obtain ⟨v, u, rfl, k, k'⟩ := k1
    exact hg W1 S1 H1 v u d Q wo1 k k' an1
end

/-! ### len, int, min, max, all, any, sum, list, tuple -/
def dLen : D → Sto → Out D
  | .lst l, S => .ok (.int l.length) S
  | .tup l, S => .ok (.int l.length) S
  | .scr l, S => .ok (.int l.length) S
  | .dK l, S => .ok (.int l.length) S
  | .str s, S => if s.length ≤ sizeLine then .ok (.int s.length) S else .bad
  | _, _ => .bad
def dInt : D → Sto → Out D
  | .int i, S => .ok (.int i) S
  | .bl b, S => .ok (.int (if b then 1 else 0)) S
  | _, _ => .bad
def dMin2 : D × D → Sto → Out D
  | (.int i, .int j), S => .ok (.int (if j < i then j else i)) S
  | _, _ => .bad
def dMax2 : D × D → Sto → Out D
  | (.int i, .int j), S => .ok (.int (if j > i then j else i)) S
  | _, _ => .bad
def bls? : List D → Option (List Bool)
  | [] => some []
  | .bl b :: l => (bls? l).map (b :: ·)
  | _ :: _ => none
def ints? : List D → Option (List Int)
  | [] => some []
  | .int b :: l => (ints? l).map (b :: ·)
  | _ :: _ => none
theorem bls_of {W : Wd} : ∀ {l : List D} {vs : List V} {bs : List Bool}, Dens W l vs → bls? l = some bs → vs = bs.map V.bl
  | [], _, bs, h, e => by cases h; simp [bls?] at e; subst e; rfl
  | d :: l, _, bs, ⟨v, r, ev, k1, k2⟩, e => by
    cases d <;> simp [bls?] at e
    obtain ⟨cs, e1, e2⟩ := e
    subst ev e2
    cases k1
    rw [bls_of k2 e1]; rfl
theorem ints_of {W : Wd} : ∀ {l : List D} {vs : List V} {bs : List Int}, Dens W l vs → ints? l = some bs → vs = bs.map V.int
  | [], _, bs, h, e => by cases h; simp [ints?] at e; subst e; rfl
  | d :: l, _, bs, ⟨v, r, ev, k1, k2⟩, e => by
    cases d <;> simp [ints?] at e
    obtain ⟨cs, e1, e2⟩ := e
    subst ev e2
    cases k1
    rw [ints_of k2 e1]; rfl
def dAll : D → Sto → Out D
  | .lst l, S => match bls? l with
    | some bs => .ok (.bl (bs.all id)) S
    | none => .bad
  | _, _ => .bad
def dAny : D → Sto → Out D
  | .lst l, S => match bls? l with
    | some bs => .ok (.bl (bs.any id)) S
    | none => .bad
  | _, _ => .bad
def dSum : D → Sto → Out D
  | .lst l, S => match ints? l with
    | some bs => .ok (.int bs.sum) S
    | none => .bad
  | _, _ => .bad
def maxI : Int → List Int → Int
  | a, [] => a
  | a, b :: l => maxI (if a < b then b else a) l
def minI : Int → List Int → Int
  | a, [] => a
  | a, b :: l => minI (if b < a then b else a) l
theorem maxI_spec : ∀ (l : List Int) (a : Int), maxI a l ∈ a :: l ∧ ∀ y ∈ a :: l, y ≤ maxI a l
  | [], a => by simp [maxI]
  | b :: l, a => by
    obtain ⟨h1, h2⟩ := maxI_spec l (if a < b then b else a)
    unfold maxI
    refine ⟨?_, fun y m => ?_⟩
    · rcases List.mem_cons.mp h1 with q | q
      · rw [q]; split <;> simp
      · simp [q]
    · have h3 := h2 _ List.mem_cons_self
      rcases List.mem_cons.mp m with q | q
      · subst q; exact Int.le_trans (by split <;> omega) h3
      · rcases List.mem_cons.mp q with q | q
        · subst q; exact Int.le_trans (by split <;> omega) h3
        · exact h2 y (List.mem_cons_of_mem _ q)
theorem minI_spec : ∀ (l : List Int) (a : Int), minI a l ∈ a :: l ∧ ∀ y ∈ a :: l, minI a l ≤ y
  | [], a => by simp [minI]
  | b :: l, a => by
    obtain ⟨h1, h2⟩ := minI_spec l (if b < a then b else a)
    unfold minI
    refine ⟨?_, fun y m => ?_⟩
    · rcases List.mem_cons.mp h1 with q | q
      · rw [q]; split <;> simp
      · simp [q]
    · have h3 := h2 _ List.mem_cons_self
      rcases List.mem_cons.mp m with q | q
      · subst q; exact Int.le_trans h3 (by split <;> omega)
      · rcases List.mem_cons.mp q with q | q
        · subst q; exact Int.le_trans h3 (by split <;> omega)
        · exact h2 y (List.mem_cons_of_mem _ q)
def dMax1 : D → Sto → Out D
  | .lst l, S => match ints? l with
    | some (a :: bs) => .ok (.int (maxI a bs)) S
    | _ => .bad
  | _, _ => .bad
def dMin1 : D → Sto → Out D
  | .lst l, S => match ints? l with
    | some (a :: bs) => .ok (.int (minI a bs)) S
    | _ => .bad
  | _, _ => .bad
def dList : D → Sto → Out D
  | .lst l, S => .ok (.lst l) S
  | .tup l, S => .ok (.lst l) S
  | _, _ => .bad
def dTuple : D → Sto → Out D
  | .lst l, S => .ok (.tup l) S
  | .tup l, S => .ok (.tup l) S
  | _, _ => .bad
section
variable {X : Cx} {A : Amb} {Ex : XK} {Γ : List Nat} {e e' : Expr} {f f' : Ev D} {p pos : Pos}
theorem call_lenR : CallR X (.builtin "len") (fun xs H Q => ∃ a kvs, xs = [V.ref a] ∧ Rd H a (.dK kvs) ∧ Q (.int kvs.length) H) := by
  intro pins s σ H xs us Q I r h
  obtain ⟨a, kvs, rfl, ha, q⟩ := h
  obtain ⟨u, rfl, ru⟩ := vals1 r
  cases ru
  exact d_len I ha fun t s' I' => ⟨.int _, H, I', ⟨t, rfl⟩, q⟩
theorem de_len (hK : A.K = X.K) (hgl : Gl X "len") (hm : X.mg "len" = none) (ha : DV X A Ex Γ e f) (he : St1 X e := by rfl) : DE X A Ex Γ (.Call (.Name "len" p) [e] [] pos) (b1 f dLen) :=
  d_b1 (he := he) shD (call_len.or call_lenR) hgl hm PySem.boot_len ha fun W S H v d Q wo k an => by
    cases d with
    | lst l =>
      obtain ⟨a, vs, rfl, h, k1, z⟩ := k.lst wo
      have an : Ans A Ex rD W H (.ok (.int l.length) S) Q := an
      rw [← k1.length] at an
      exact .inl ⟨_, _, rfl, .inl ⟨vs, SqL.of h, rfl⟩, an.done wo rfl⟩
    | tup l =>
      obtain ⟨a, vs, rfl, h, k1, z, _⟩ := k.tup wo
      have an : Ans A Ex rD W H (.ok (.int l.length) S) Q := an
      rw [← k1.length] at an
      exact .inl ⟨_, _, rfl, .inr ⟨vs, SqT.of h, rfl⟩, an.done wo rfl⟩
    | scr l =>
      obtain ⟨a, rfl, h⟩ := k.scr wo
      rw [hK] at h
      have an : Ans A Ex rD W H (.ok (.int l.length) S) Q := an
      exact .inl ⟨_, l.length, rfl, .inl ⟨_, h, by simp⟩, an.done wo rfl⟩
    | dK l =>
      obtain ⟨a, vs, rfl, h, k1, z⟩ := k.dK wo
      have an : Ans A Ex rD W H (.ok (.int l.length) S) Q := an
      rw [← k1.length] at an
      exact .inr ⟨_, _, rfl, h, an.done wo rfl⟩
    | str s =>
      cases k.str
      have an : Ans A Ex rD W H (if s.length ≤ sizeLine then .ok (.int s.length) S else .bad) Q := an
      split at an
      · rename_i z
        exact .inl ⟨_, _, rfl, ⟨z, rfl⟩, an.done wo rfl⟩
      · exact an.elim
    | _ => exact an.elim
theorem de_intc (hgl : Gl X "int") (hm : X.mg "int" = none) (hv : bootBuiltins "int" = some (.type "int")) (ha : DV X A Ex Γ e f) (he : St1 X e := by rfl) : DE X A Ex Γ (.Call (.Name "int" p) [e] [] pos) (b1 f dInt) :=
  d_t1 (he := he) shD call_int1 hgl hm hv ha fun W S H v d Q wo k an => by
    cases d with
    | int i => cases k.int; exact .inl ⟨_, rfl, Ans.done (d := D.int i) an wo rfl⟩
    | bl b => cases k.bl; exact .inr ⟨_, rfl, Ans.done (d := D.int (if b then 1 else 0)) an wo rfl⟩
    | _ => exact an.elim
theorem de_min2 (hc : X.calm = true) (hgl : Gl X "min") (hm : X.mg "min" = none) (hv : bootBuiltins "min" = some (.builtin "min")) (ha : DV X A Ex Γ e f) (hb : DV X A Ex Γ e' f') (he : St2 X e e' := by rfl) (he' : St1 X e' := by rfl) : DE X A Ex Γ (.Call (.Name "min" p) [e, e'] [] pos) (b1 (pr f f') dMin2) :=
  d_b2 (he := he) (he' := he') shD (call_min2 hc) hgl hm hv ha hb fun W S H v u d Q wo k k' an => by
    obtain ⟨d1, d2⟩ := d
    cases d1 with
    | int i => cases d2 with
      | int j => cases View.int k; cases View.int k'; exact ⟨_, _, rfl, Ans.done (d := D.int (if j < i then j else i)) an wo rfl⟩
      | _ => exact an.elim
    | _ => exact an.elim
theorem de_max2 (hc : X.calm = true) (hgl : Gl X "max") (hm : X.mg "max" = none) (hv : bootBuiltins "max" = some (.builtin "max")) (ha : DV X A Ex Γ e f) (hb : DV X A Ex Γ e' f') (he : St2 X e e' := by rfl) (he' : St1 X e' := by rfl) : DE X A Ex Γ (.Call (.Name "max" p) [e, e'] [] pos) (b1 (pr f f') dMax2) :=
  d_b2 (he := he) (he' := he') shD (call_max2 hc) hgl hm hv ha hb fun W S H v u d Q wo k k' an => by
    obtain ⟨d1, d2⟩ := d
    cases d1 with
    | int i => cases d2 with
      | int j => cases View.int k; cases View.int k'; exact ⟨_, _, rfl, Ans.done (d := D.int (if j > i then j else i)) an wo rfl⟩
      | _ => exact an.elim
    | _ => exact an.elim
theorem de_all (hc : X.calm = true) (hgl : Gl X "all") (hm : X.mg "all" = none) (hv : bootBuiltins "all" = some (.builtin "all")) (ha : DV X A Ex Γ e f) (he : St1 X e := by rfl) : DE X A Ex Γ (.Call (.Name "all" p) [e] [] pos) (b1 f dAll) :=
  d_b1 (he := he) shD (cr_all hc) hgl hm hv ha fun W S H v d Q wo k an => by
    cases d with
    | lst l =>
      obtain ⟨a, vs, rfl, h, k1, z⟩ := k.lst wo
      unfold dAll at an
      cases eb : bls? l with
      | none => simp only [eb] at an; exact an.elim
      | some bs =>
        simp only [eb] at an
        have := bls_of k1 eb
        subst this
        exact ⟨a, bs, rfl, SqL.of h, an.done wo rfl⟩
    | _ => exact an.elim
theorem de_any (hc : X.calm = true) (hgl : Gl X "any") (hm : X.mg "any" = none) (hv : bootBuiltins "any" = some (.builtin "any")) (ha : DV X A Ex Γ e f) (he : St1 X e := by rfl) : DE X A Ex Γ (.Call (.Name "any" p) [e] [] pos) (b1 f dAny) :=
  d_b1 (he := he) shD (cr_any hc) hgl hm hv ha fun W S H v d Q wo k an => by
    cases d with
    | lst l =>
      obtain ⟨a, vs, rfl, h, k1, z⟩ := k.lst wo
      unfold dAny at an
      cases eb : bls? l with
      | none => simp only [eb] at an; exact an.elim
      | some bs =>
        simp only [eb] at an
        have := bls_of k1 eb
        subst this
        exact ⟨a, bs, rfl, SqL.of h, an.done wo rfl⟩
    | _ => exact an.elim
theorem de_sum (hc : X.calm = true) (hgl : Gl X "sum") (hm : X.mg "sum" = none) (hv : bootBuiltins "sum" = some (.builtin "sum")) (ha : DV X A Ex Γ e f) (he : St1 X e := by rfl) : DE X A Ex Γ (.Call (.Name "sum" p) [e] [] pos) (b1 f dSum) :=
  d_b1 (he := he) shD (cr_sum hc) hgl hm hv ha fun W S H v d Q wo k an => by
    cases d with
    | lst l =>
      obtain ⟨a, vs, rfl, h, k1, z⟩ := k.lst wo
      unfold dSum at an
      cases eb : ints? l with
      | none => simp only [eb] at an; exact an.elim
      | some bs =>
        simp only [eb] at an
        have := ints_of k1 eb
        subst this
        exact ⟨a, bs, rfl, SqL.of h, an.done wo rfl⟩
    | _ => exact an.elim
theorem de_max1 (hc : X.calm = true) (hgl : Gl X "max") (hm : X.mg "max" = none) (hv : bootBuiltins "max" = some (.builtin "max")) (ha : DV X A Ex Γ e f) (he : St1 X e := by rfl) : DE X A Ex Γ (.Call (.Name "max" p) [e] [] pos) (b1 f dMax1) :=
  d_b1 (he := he) shD (cr_max hc) hgl hm hv ha fun W S H v d Q wo k an => by
    cases d with
    | lst l =>
      obtain ⟨a, vs, rfl, h, k1, z⟩ := k.lst wo
      unfold dMax1 at an
      cases eb : ints? l with
      | none => simp only [eb] at an; exact an.elim
      | some bs =>
        simp only [eb] at an
        cases bs with
        | nil => exact an.elim
        | cons b bs =>
          have := ints_of k1 eb
          subst this
          refine ⟨a, b :: bs, rfl, SqL.of h, by simp, fun m hm hl => ?_⟩
          obtain ⟨q1, q2⟩ := maxI_spec bs b
          have : m = maxI b bs := Int.le_antisymm (q2 m hm) (hl _ q1)
          subst this
          exact an.done wo rfl
    | _ => exact an.elim
theorem de_min1 (hc : X.calm = true) (hgl : Gl X "min") (hm : X.mg "min" = none) (hv : bootBuiltins "min" = some (.builtin "min")) (ha : DV X A Ex Γ e f) (he : St1 X e := by rfl) : DE X A Ex Γ (.Call (.Name "min" p) [e] [] pos) (b1 f dMin1) :=
  d_b1 (he := he) shD (cr_min hc) hgl hm hv ha fun W S H v d Q wo k an => by
    cases d with
    | lst l =>
      obtain ⟨a, vs, rfl, h, k1, z⟩ := k.lst wo
      unfold dMin1 at an
      cases eb : ints? l with
      | none => simp only [eb] at an; exact an.elim
      | some bs =>
        simp only [eb] at an
        cases bs with
        | nil => exact an.elim
        | cons b bs =>
          have := ints_of k1 eb
          subst this
          refine ⟨a, b :: bs, rfl, SqL.of h, by simp, fun m hm hl => ?_⟩
          obtain ⟨q1, q2⟩ := minI_spec bs b
          have : m = minI b bs := Int.le_antisymm (hl _ q1) (q2 m hm)
          subst this
          exact an.done wo rfl
    | _ => exact an.elim
theorem dn_list (hgl : Gl X "list") (hm : X.mg "list" = none) (hv : bootBuiltins "list" = some (.type "list")) (ha : DV X A Ex Γ e f) (he : St1 X e := by rfl) : DN X A Ex Γ (.Call (.Name "list" p) [e] [] pos) (b1 f dList) :=
  d_t1 (he := he) shN call_list_of hgl hm hv ha fun W S H v d Q wo k an => by
    cases d with
    | lst l =>
      obtain ⟨a, vs, rfl, h, k1, z⟩ := k.lst wo
      exact ⟨a, vs, rfl, .inl (SqL.of h), Ans.newL (l := l) an wo k1 z⟩
    | tup l =>
      obtain ⟨a, vs, rfl, h, k1, z, _⟩ := k.tup wo
      exact ⟨a, vs, rfl, .inr (SqT.of h), Ans.newL (l := l) an wo k1 z⟩
    | _ => exact an.elim
theorem de_tuple (hgl : Gl X "tuple") (hm : X.mg "tuple" = none) (hv : bootBuiltins "tuple" = some (.type "tuple")) (ha : DV X A Ex Γ e f) (he : St1 X e := by rfl) : DE X A Ex Γ (.Call (.Name "tuple" p) [e] [] pos) (b1 f dTuple) :=
  d_t1 (he := he) shD call_tuple_of hgl hm hv ha fun W S H v d Q wo k an => by
    cases d with
    | lst l =>
      obtain ⟨a, vs, rfl, h, k1, z⟩ := k.lst wo
      exact ⟨a, vs, rfl, .inl ⟨SqL.of h, Ans.newT (l := l) an wo k1 z⟩⟩
    | tup l =>
      obtain ⟨a, vs, rfl, h, k1, z, k2⟩ := k.tup wo
      exact ⟨a, vs, rfl, .inr ⟨SqT.of h, Ans.done (d := D.tup l) an wo k2⟩⟩
    | _ => exact an.elim
end

end Hr

set_option Elab.async false
set_option linter.all false
set_option maxRecDepth 100000
namespace Hr
open PySem PySem.Spec PyProof.Rows L2

/-! ### isinstance -/
inductive Ty where
  | non | bool | int | str | tup | lst | dict
  deriving DecidableEq
def Ty.name : Ty → String
  | .non => "NoneType" | .bool => "bool" | .int => "int" | .str => "str" | .tup => "tuple" | .lst => "list" | .dict => "dict"
def Ty.sub : Ty → Ty → Bool
  | .non, .non => true | .bool, .bool => true | .bool, .int => true | .int, .int => true | .str, .str => true | .tup, .tup => true | .lst, .lst => true | .dict, .dict => true
  | _, _ => false
theorem kit_all (a b : Ty) : kitB a.name b.name = some (Ty.sub a b) := by cases a <;> cases b <;> decide +kernel
def tyD : D → Option Ty
  | .non => some .non | .bl _ => some .bool | .int _ => some .int | .str _ => some .str | .tup _ => some .tup | .lst _ => some .lst | .scr _ => none | .dK _ => some .dict | .dT _ => none | .obj _ => none | .exn _ => none | .dN _ => none
def dIsi (T : Ty) : D → Sto → Out D := fun d S => match tyD d with
  | some t => .ok (.bl (Ty.sub t T)) S
  | none => .bad
theorem View.ty {A : Amb} {W : Wd} {S : Sto} {H : Hp} {K : PySem.W.Frag} {d : D} {v : V} {t : Ty} (wo : Wok A W S H) (k : View W H d v) (e : tyD d = some t) : TyX K H v (.type t.name) := by
  cases d <;> simp [tyD] at e <;> subst e
  · cases k.non; exact .base .non
  · cases k.bl; exact .base (.bl _)
  · cases k.int; exact .base (.int _)
  · cases k.str; exact .base (.str _)
  · obtain ⟨a, vs, rfl, h, _⟩ := k.tup wo; exact .base (.tup h)
  · obtain ⟨a, vs, rfl, h, _⟩ := k.lst wo; exact .base (.lst h)
  · obtain ⟨a, vs, rfl, h, _⟩ := k.dK wo
    rcases h with h | ⟨o, h⟩
    · exact .base (.dK h)
    · exact .fDict h
section
variable {X : Cx} {A : Amb} {Ex : XK} {Γ : List Nat} {e e' : Expr} {f f' : Ev D} {p p2 pos : Pos}
theorem de_isi (T : Ty) {x : Str} (hgl : Gl X "isinstance") (hm : X.mg "isinstance" = none) (hv : bootBuiltins "isinstance" = some (.builtin "isinstance")) (ht : PE X (.Name x p2) (tC (.ty T.name))) (ha : DV X A Ex Γ e f)
    (he : starEach [e, .Name x p2] X.env = (false, eval e X.env) :: starEach [.Name x p2] X.env := by rfl) (he' : starEach [.Name x p2] X.env = (false, eval (.Name x p2) X.env) :: starEach [] X.env := by rfl)
    (hpl : (backTo pos (starEach [.Name x p2] X.env)).any (·.1) = false := by rfl) : DE X A Ex Γ (.Call (.Name "isinstance" p) [e, .Name x p2] [] pos) (b1 f (dIsi T)) :=
  (pe_callB call_isi hgl hm hv (pa_cons ha (pa_cons ht pa_nil he') he) (by decide) (by decide) he hpl).of fun σ H Q ⟨W, ρ, S, wo, sl, an⟩ => seqR shD wo sl an fun d S1 W1 H1 v s1 wo1 k1 sl1 an1 => by
    unfold dIsi at an1
    cases et : tyD d with
    | none => simp only [et] at an1; exact an1.elim
    | some t =>
      simp only [et] at an1
      exact ⟨v, _, _, _, _, rfl, .ty _, View.ty wo1 k1 et, kit_ty (kit_all t T), an1.done wo1 rfl⟩
end

end Hr

set_option Elab.async false
set_option linter.all false
set_option maxRecDepth 100000
namespace Hr
open PySem PySem.Spec PyProof.Rows L2

/-! ### subscripts -/
def dIx : D → D → Sto → Out D
  | .lst l, .int i, S => match atI l i with
    | some d => .ok d S
    | none => .bad
  | .tup l, .int i, S => match atI l i with
    | some d => .ok d S
    | none => .bad
  | .scr l, .int i, S => match atI l i with
    | some d => .ok (.int d) S
    | none => .bad
  | _, _, _ => .bad
theorem Dens.atI {W : Wd} {l : List D} {vs : List V} (k : Dens W l vs) {i : Int} {d : D} (e : L2.atI l i = some d) : ∃ v, L2.atI vs i = some v ∧ Den W d v := by
  unfold L2.atI at e ⊢
  rw [k.length]
  cases q : ixN l.length i with
  | none => rw [q] at e; exact nomatch e
  | some j => rw [q] at e; exact k.get' e
/-! ### own defs -/
def spF (A : Amb) (Rt : RR D V) (n : Nat) (m : List D → Sto → Out D) : Sp := fun vs H Q E => ∃ W S ds, Wok A W S H ∧ Dens W ds vs ∧ ds.length = n ∧ Ans A E Rt W H (m ds S) Q
def startR (n : Nat) (ds : List D) : Rho := ds.map some ++ List.replicate (n - ds.length) none
def runB (n : Nat) (F : Sv) (ds : List D) (S : Sto) : Out D := (F (startR n ds) S).bind fun fl S1 => match fl with
  | .ret d => .ok d S1
  | .nx _ => .ok .non S1
  | .ct _ => .bad
section
variable {X : Cx} {A : Amb} {Ex : XK} {Γ : List Nat} {k : Nat} {f : Addr} {fd : FuncData} {ps : List Str} {x : Str} {p pos : Pos} {e : Expr} {es : List Expr} {n : Nat} {m : List D → Sto → Out D} {fas : Ev (List D)} {R : RR D V}
theorem d_call (hR : Shift R) (F : FnOk X.prog X.w X.K X.mg X.base (CX X.prog X.w) k f fd ps (spF A R n m)) (hr : Room k X.A) (hg : Gl X x) (hm : X.mg x = some (.ref f)) (hk : PySem.W.keepIn X.K (.ref f) = true) (hb : Binds X.K fd ps [])
    (hx : Passes (CX X.prog X.w) X Ex) (ha : DA X A Ex Γ (e :: es) fas) (hn : (e :: es).length = n := by rfl) (hdb : (x == ("__debug__" : Str)) = false := by decide) (he : starEach (e :: es) X.env = (false, eval e X.env) :: starEach es X.env := by rfl)
    (hpl : (backTo pos (starEach es X.env)).any (·.1) = false := by rfl) : PE X (.Call (.Name x p) (e :: es) [] pos) (tR A Ex Γ R (b1 fas m)) := by
  rw [b1_len ha.le]
  exact (pe_call F hr hg hm hk hb .nil hx ha.pa hdb he hpl).of fun σ H Q ⟨W, ρ, S, wo, sl, an⟩ => seqR hR wo sl an fun ds S1 W1 H1 vs s1 wo1 k1 sl1 an1 => by
    by_cases q : ds.length = (e :: es).length
    · rw [if_pos q] at an1
      exact ⟨W1, S1, ds, wo1, by rw [List.append_nil]; exact k1, by rw [q, hn], an1⟩
    · rw [if_neg q] at an1
      exact an1.elim
end
theorem start_sl {W : Wd} {H : Hp} {N : List Str} {ds : List D} {vs : List V} (k : Dens W ds vs) : Sl [] W H (L2.start N vs) (startR N.length ds) where
  den := fun i d e _ => by
    unfold startR at e
    unfold L2.start
    by_cases q : i < ds.length
    · rw [List.getElem?_append_left (by simpa using q)] at e
      simp at e
      obtain ⟨v, e1, k1⟩ := k.get' e
      refine ⟨v, ?_, k1⟩
      rw [List.getElem?_append_left (by rw [List.length_map, k.length]; exact q)]
      simp [e1]
    · rw [List.getElem?_append_right (by simpa using Nat.le_of_not_lt q)] at e
      rw [List.getElem?_replicate] at e
      split at e <;> exact nomatch e
  own := fun i d e m => nomatch m
  dj := fun i j di dj v m => nomatch m
  len := by simp [L2.start, startR, k.length]
/-- a def by its body -/
theorem fnD {P : Program} {w : World} {K : PySem.W.Frag} {mg : Str → Option Value} {base : Heap} {x qual : Str} {st : Stmt} {f : Addr} {fd : FuncData} {N ps : List Str} {k n : Nat} {A : Amb} {Rt : RR D V} {F : Sv} {Γ' : List Nat} (G : Fun K x qual st f fd) (S : FnScope N ps (defScope st)) (hn : ps.length = n)
    (hbody : ∀ (cdv : Value) (Ar : Around) (outer : List Env) (s : Shared) (H : Hp) (E : XK) (W : Wd), Room k (Ar.deeper (envOfC qual (defScope st) s.heap.objs.size f cdv)) →
      DSs (cxOf (L2.CX P w) P w K mg base N qual (defScope st) f cdv Ar outer s H E) ⟨A, E, Rt, W, H⟩ [] Γ' [] (defBody st) F) (hd : ∀ (H : Hp) (W' : Wd) (H' : Hp), Rt H W' H' .non .non ∨ Ends' F) : FnOk P w K mg base (L2.CX P w) (k + 1) f fd ps (spF A Rt n (runB N.length F)) :=
  G.okX S (fun vs H Q E ⟨W, S, ds, _, k1, k2, _⟩ => by rw [k1.length, k2, hn]) fun cdv Ar outer s H vs Q E hr ⟨W, S, ds, wo, k1, k2, an⟩ => ⟨_, hbody cdv Ar outer s H E W hr, W, startR N.length ds, S, ⟨wo, start_sl k1, .refl, fun i d a m => nomatch m⟩, by
    unfold runB at an
    generalize hF : F (startR N.length ds) S = r at an
    cases r with
    | ok fl S1 => cases fl with
      | nx ρ =>
        intro W1 H1 σ1 so1 _
        rcases hd H W1 H1 with q | q
        · exact an W1 H1 .non so1.st so1.wo q
        · exact absurd hF (q _ _ _ _)
      | ct ρ => exact an.elim
      | ret d => exact fun W1 H1 v wo1 s1 q => an W1 H1 v s1 wo1 q
    | exc c S1 => exact fun W1 H1 wo1 s1 => an W1 H1 s1 wo1
    | bad => exact an⟩
end Hr

set_option Elab.async false
set_option linter.all false
set_option maxRecDepth 100000
set_option maxHeartbeats 1000000
namespace Hr
open PySem PySem.Spec PyProof.Rows L2
/-! ### is True, is False -/
theorem is_bool_gen {M : Model} {A : Around} {E : Value → Shared → Prop} {s : Shared} {Q : Value → Shared → Prop} {v : Value} {b : Bool} (hv : ∀ i, v ≠ .builtin i) (h : Q (.bool (v == .bool b)) s) : wpAny M A (compareOp .Is v (.bool b)) Q E s := by
  cases v <;> first | exact absurd rfl (hv _) | exact wpAny_pure h
theorem isnot_bool_gen {M : Model} {A : Around} {E : Value → Shared → Prop} {s : Shared} {Q : Value → Shared → Prop} {v : Value} {b : Bool} (hv : ∀ i, v ≠ .builtin i) (h : Q (.bool (!(v == .bool b))) s) : wpAny M A (compareOp .IsNot v (.bool b)) Q E s := by
  cases v <;> first | exact absurd rfl (hv _) | exact wpAny_pure h
def isB (b : Bool) : D → Bool
  | .bl c => c == b
  | _ => false
def dIsB (b : Bool) : D → Sto → Out D := fun d S => .ok (.bl (isB b d)) S
def dNotB (b : Bool) : D → Sto → Out D := fun d S => .ok (.bl (!isB b d)) S
theorem View.isB {W : Wd} {H : Hp} {d : D} {v : V} {u : Value} {b : Bool} (k : View W H d v) (r : RelV v u) : (u == Value.bool b) = isB b d := by
  cases d with
  | bl c => cases k.bl; cases r; cases c <;> cases b <;> rfl
  | non => cases k.non; cases r; rfl
  | int i => cases k.int; obtain ⟨t, rfl⟩ := r; rfl
  | str i => cases k.str; obtain ⟨t, rfl⟩ := r; rfl
  | tup l => rcases k with ⟨a, vs, rfl, _⟩ | ⟨a, rfl, _⟩ <;> cases r <;> rfl
  | lst l => rcases k with ⟨a, vs, rfl, _⟩ | ⟨a, rfl, _⟩ <;> cases r <;> rfl
  | dK l => rcases k with ⟨a, vs, rfl, _⟩ | ⟨a, rfl, _⟩ <;> cases r <;> rfl
  | dT l => rcases k with ⟨a, vs, rfl, _⟩ | ⟨a, rfl, _⟩ <;> cases r <;> rfl
  | dN l => rcases k with ⟨a, vs, rfl, _⟩ | ⟨a, rfl, _⟩ <;> cases r <;> rfl
  | obj l => rcases k with ⟨a, rfl, _⟩ | ⟨a, rfl, _⟩ <;> cases r <;> rfl
  | scr l => rcases k with ⟨a, rfl, _⟩ | ⟨a, rfl, _⟩ <;> cases r <;> rfl
  | exn l =>
    rcases k with k | ⟨a, rfl, _⟩
    · cases (show v = .ref l from k); cases r; rfl
    · cases r; rfl
section
variable {X : Cx} {A : Amb} {Ex : XK} {Γ : List Nat} {a b c : Expr} {fa fb fc : Ev D} {pos : Pos}
def rIsB (b : Bool) : R2 := fun x y H Q => y = .bl b ∧ ∃ c : Bool, (∀ u, RelV x u → (u == Value.bool b) = c) ∧ Q (.bl c) H
theorem rel_nb {x : V} {u : Value} (r : RelV x u) : ∀ i, u ≠ .builtin i := fun i e => by
  subst e
  cases x <;> first | (obtain ⟨t, h⟩ := r; exact nomatch h) | exact nomatch r
theorem op_isB {b : Bool} : OpR X (compareOp .Is) (rIsB b) := by
  intro pins s σ H x y v u Q I rx ry h
  obtain ⟨rfl, c, e, q⟩ := h
  cases ry
  exact is_bool_gen (rel_nb rx) (fin_bl I q (e v rx).symm)
def rNotB (b : Bool) : R2 := fun x y H Q => y = .bl b ∧ ∃ c : Bool, (∀ u, RelV x u → (u == Value.bool b) = c) ∧ Q (.bl (!c)) H
theorem op_notB {b : Bool} : OpR X (compareOp .IsNot) (rNotB b) := by
  intro pins s σ H x y v u Q I rx ry h
  obtain ⟨rfl, c, e, q⟩ := h
  cases ry
  exact isnot_bool_gen (rel_nb rx) (fin_bl I q (by rw [e v rx]))
theorem k_isB {t : Bool} : ∀ σ H Q, tR A Ex Γ rD (b1 fa (dIsB t)) σ H Q → tOp (rIsB t) (tR A Ex Γ rV fa) (tC (.bl t)) σ H Q :=
  fun σ H Q ⟨W, ρ, S, wo, sl, an⟩ => seqR shD wo sl an fun d S1 W1 H1 v s1 wo1 k1 sl1 an1 =>
    ⟨rfl, isB t d, fun u r => View.isB k1 r, an1.done wo1 rfl⟩
theorem k_notB {t : Bool} : ∀ σ H Q, tR A Ex Γ rD (b1 fa (dNotB t)) σ H Q → tOp (rNotB t) (tR A Ex Γ rV fa) (tC (.bl t)) σ H Q :=
  fun σ H Q ⟨W, ρ, S, wo, sl, an⟩ => seqR shD wo sl an fun d S1 W1 H1 v s1 wo1 k1 sl1 an1 =>
    ⟨rfl, isB t d, fun u r => View.isB k1 r, an1.done wo1 rfl⟩
theorem de_isB {t : Bool} {j : Nat} {pos' : Pos} (ha : DV X A Ex Γ a fa) : DE X A Ex Γ (.Compare a [.Is] [.Constant (.bool t) j pos'] pos) (b1 fa (dIsB t)) := (pe_cmpR op_isB ha pe_bl (nomark _)).of k_isB
theorem dt_isB {t : Bool} {j : Nat} {pos' : Pos} (ha : DV X A Ex Γ a fa) : DT X A Ex Γ (.Compare a [.Is] [.Constant (.bool t) j pos'] pos) (tst (b1 fa (dIsB t))) := dt_of (pt_cmpR op_isB ha pe_bl (nomark _)) k_isB
theorem de_notB {t : Bool} {j : Nat} {pos' : Pos} (ha : DV X A Ex Γ a fa) : DE X A Ex Γ (.Compare a [.IsNot] [.Constant (.bool t) j pos'] pos) (b1 fa (dNotB t)) := (pe_cmpR op_notB ha pe_bl (nomark _)).of k_notB
theorem dt_notB {t : Bool} {j : Nat} {pos' : Pos} (ha : DV X A Ex Γ a fa) : DT X A Ex Γ (.Compare a [.IsNot] [.Constant (.bool t) j pos'] pos) (tst (b1 fa (dNotB t))) := dt_of (pt_cmpR op_notB ha pe_bl (nomark _)) k_notB
/-! ### -n -/
def dNeg : D → Sto → Out D
  | .int i, S => .ok (.int (-i)) S
  | _, _ => .bad
theorem de_neg (ha : DV X A Ex Γ a fa) : DE X A Ex Γ (.UnaryOp .USub a pos) (b1 fa dNeg) :=
  (pe_un un_neg ha).of fun σ H Q ⟨W, ρ, S, wo, sl, an⟩ => seqR shD wo sl an fun d S1 W1 H1 v s1 wo1 k1 sl1 an1 => by
    cases d with
    | int i => cases View.int k1; exact ⟨_, rfl, Ans.done (d := D.int (-i)) an1 wo1 rfl⟩
    | _ => exact an1.elim
/-! ### in, not in -/
def keyD : D → Option Key
  | .int i => some (.inl i)
  | .str s => some (.inr s)
  | _ => none
def keysD : List D → Option (List Key)
  | [] => some []
  | d :: l => match keyD d, keysD l with
    | some k, some r => some (k :: r)
    | _, _ => none
def lookK {κ : Type} [DecidableEq κ] : List (κ × D) → κ → Option D
  | [], _ => none
  | (k, d) :: l, j => if k = j then some d else lookK l j
def flatD : D → Bool
  | .non => true | .bl _ => true | .int _ => true | .str _ => true | _ => false
def inD (x y : D) : Option Bool := match y with
  | .lst l => if okE x 60 && okEs l 59 then some (l.any fun z => D.eqv z x) else none
  | .tup l => if flatD x && l.all flatD then some (l.any fun z => D.eqv z x) else none
  | .dK l => match keyD x with
    | some k => some (lookK l k).isSome
    | none => none
  | .dT l => match x with
    | .tup ks => match keysD ks with
      | some k => some (lookK l k).isSome
      | none => none
    | _ => none
  | _ => none
def dIn : D → D → Sto → Out D := fun x y S => match inD x y with
  | some b => .ok (.bl b) S
  | none => .bad
def dNotIn : D → D → Sto → Out D := fun x y S => match inD x y with
  | some b => .ok (.bl (!b)) S
  | none => .bad
theorem DenK.val {W : Wd} (k : Key) : ∀ {l : List (Key × D)} {vs : List (Key × V)}, DenK W l vs → (∀ d, lookK l k = some d → ∃ v, valV vs k = some v ∧ Den W d v) ∧ (lookK l k = none → valV vs k = none)
  | [], _, h => by cases h; exact ⟨fun d e => by simp [lookK] at e, fun _ => valV_nil⟩
  | (j, d) :: l, _, ⟨v, r, e, h1, h2⟩ => by
    subst e
    unfold lookK
    by_cases q : j = k
    · rw [if_pos q]
      exact ⟨fun d' e => by cases e; exact ⟨v, valV_pos q, h1⟩, fun e => nomatch e⟩
    · rw [if_neg q]
      have := DenK.val k h2
      exact ⟨fun d' e => by rw [valV_neg q]; exact this.1 d' e, fun e => by rw [valV_neg q]; exact this.2 e⟩
theorem DenT.val {W : Wd} (k : List Key) : ∀ {l : List (List Key × D)} {vs : List (List Key × V)}, DenT W l vs → (∀ d, lookK l k = some d → ∃ v, valV vs k = some v ∧ Den W d v) ∧ (lookK l k = none → valV vs k = none)
  | [], _, h => by cases h; exact ⟨fun d e => by simp [lookK] at e, fun _ => valV_nil⟩
  | (j, d) :: l, _, ⟨v, r, e, h1, h2⟩ => by
    subst e
    unfold lookK
    by_cases q : j = k
    · rw [if_pos q]
      exact ⟨fun d' e => by cases e; exact ⟨v, valV_pos q, h1⟩, fun e => nomatch e⟩
    · rw [if_neg q]
      have := DenT.val k h2
      exact ⟨fun d' e => by rw [valV_neg q]; exact this.1 d' e, fun e => by rw [valV_neg q]; exact this.2 e⟩
theorem DenK.isS {W : Wd} {l : List (Key × D)} {vs : List (Key × V)} (h : DenK W l vs) (k : Key) : (valV vs k).isSome = (lookK l k).isSome := by
  have := h.val k
  cases e : lookK l k with
  | none => rw [this.2 e]; rfl
  | some d => obtain ⟨v, q, _⟩ := this.1 d e; rw [q]; rfl
theorem DenT.isS {W : Wd} {l : List (List Key × D)} {vs : List (List Key × V)} (h : DenT W l vs) (k : List Key) : (valV vs k).isSome = (lookK l k).isSome := by
  have := h.val k
  cases e : lookK l k with
  | none => rw [this.2 e]; rfl
  | some d => obtain ⟨v, q, _⟩ := this.1 d e; rw [q]; rfl
theorem keyD_ofD {W : Wd} {d : D} {v : V} {k : Key} (h : Den W d v) (e : keyD d = some k) : v = kV k := by
  cases d <;> simp [keyD] at e <;> subst e <;> exact h
theorem keyD_of {W : Wd} {H : Hp} {d : D} {v : V} {k : Key} (h : View W H d v) (e : keyD d = some k) : v = kV k := by
  cases d <;> simp [keyD] at e <;> subst e
  · exact h.int
  · exact h.str
theorem keysD_of {W : Wd} : ∀ {l : List D} {vs : List V} {ks : List Key}, Dens W l vs → keysD l = some ks → vs = ks.map kV
  | [], _, ks, h, e => by cases h; simp [keysD] at e; subst e; rfl
  | d :: l, _, ks, ⟨v, r, ev, h1, h2⟩, e => by
    unfold keysD at e
    split at e
    · rename_i k r' e1 e2
      cases e
      subst ev
      rw [keyD_ofD h1 e1, keysD_of h2 e2]; rfl
    · exact nomatch e
theorem okEs_pys : ∀ (l : List D), (D.pys l) = l.map D.py
  | [] => rfl
  | d :: l => by simp [D.pys, okEs_pys l]
theorem any_eqv {x : D} (hx : okE x 60 = true) : ∀ (l : List D) (n : Nat), okEs l n = true → ((D.pys l).any fun z => PyData.eqv z (D.py x)) = l.any fun z => D.eqv z x
  | [], _, _ => rfl
  | d :: l, n, h => by
    have h1 : okE d n = true ∧ okEs l n = true := by simpa [okEs] using h
    simp only [D.pys, List.any_cons, any_eqv hx l n h1.2, eqv_py d x n 60 h1.1 hx]
theorem flat_of {W : Wd} {H : Hp} {d : D} {v : V} (h : View W H d v) (e : flatD d = true) : flatV v = true := by
  cases d <;> simp [flatD] at e
  · cases h.non; rfl
  · cases h.bl; rfl
  · cases h.int; rfl
  · cases h.str; rfl
theorem eqV_of {W : Wd} {H : Hp} {d d' : D} {v v' : V} (h : View W H d v) (h' : View W H d' v') (e : flatD d = true) (e' : flatD d' = true) : eqV v v' = D.eqv d d' := by
  cases d <;> simp [flatD] at e <;> cases d' <;> simp [flatD] at e'
  all_goals first
    | (cases h.non) | (cases h.bl) | (cases h.int) | (cases h.str)
  all_goals first
    | (cases h'.non) | (cases h'.bl) | (cases h'.int) | (cases h'.str)
  all_goals simp [eqV, D.eqv]
theorem flats_of {W : Wd} {H : Hp} : ∀ {l : List D} {vs : List V}, Dens W l vs → l.all flatD = true → vs.all flatV = true ∧ ∀ {d : D} {v : V}, View W H d v → flatD d = true → inV v vs = l.any fun z => D.eqv z d
  | [], _, h, _ => by cases h; exact ⟨rfl, fun _ _ => rfl⟩
  | d :: l, _, ⟨v, r, ev, h1, h2⟩, e => by
    subst ev
    have e' : flatD d = true ∧ l.all flatD = true := by simpa using e
    have ih := flats_of (H := H) h2 e'.2
    refine ⟨by rw [List.all_cons, flat_of (H := H) (.inl h1) e'.1, ih.1]; rfl, fun {d'} {v'} k f => ?_⟩
    show (eqV v v' || inV v' r) = (D.eqv d d' || _)
    rw [ih.2 k f, eqV_of (.inl h1) k e'.1 f]
def rIn4 (K : PySem.W.Frag) : R2 := fun x y H Q => rInD K x y H Q ∨ rIn K false x y H Q ∨ ∃ a o, y = .ref a ∧ DGet H a x o ∧ Q (.bl o.isSome) H
def rNotIn4 (K : PySem.W.Frag) : R2 := fun x y H Q => rNotInD K x y H Q ∨ rIn K true x y H Q ∨ ∃ a o, y = .ref a ∧ DGet H a x o ∧ Q (.bl (!o.isSome)) H
theorem op_in4 (hu : X.A.units + 65 < cLine) : OpR X (compareOp .In) (rIn4 X.K) := (op_inD hu).or (op_in_seq.or (by
  intro pins s σ H x y v u Q I rx ry h
  obtain ⟨a, o, rfl, g, q⟩ := h
  cases ry
  exact d_in (by omega) I g rx fun s' I' => ⟨.bl _, H, I', rfl, q⟩))
theorem op_notIn4 (hu : X.A.units + 65 < cLine) : OpR X (compareOp .NotIn) (rNotIn4 X.K) := (op_notInD hu).or (op_notIn_seq.or (by
  intro pins s σ H x y v u Q I rx ry h
  obtain ⟨a, o, rfl, g, q⟩ := h
  cases ry
  exact d_notIn (by omega) I g rx fun s' I' => ⟨.bl _, H, I', rfl, q⟩))
theorem View.lstDp {A : Amb} {W : Wd} {S : Sto} {H : Hp} {K : PySem.W.Frag} {l : List D} {v : V} (wo : Wok A W S H) (k : View W H (.lst l) v) (o : okEs l 59 = true) : Dp K H v (.list (D.pys l)) ∧ SeqAt.shaped (.list (D.pys l)) = true := by
  have o' : okE (.lst l) 60 = true := by simpa [okE] using o
  exact ⟨k.dp wo o', okE.shaped o'⟩
theorem d_in_any {K : PySem.W.Frag} {W : Wd} {S : Sto} {H : Hp} {dx dy : D} {x y : V} {t : Bool} (wo : Wok A W S H) (vx : View W H dx x) (vy : View W H dy y) (e : inD dx dy = some t) :
    (∀ Q : VK, Q (.bl t) H → rIn4 K x y H Q) ∧ (∀ Q : VK, Q (.bl (!t)) H → rNotIn4 K x y H Q) := by
  cases dy with
  | lst l =>
    unfold inD at e
    simp only at e
    split at e
    · rename_i z
      have z' : okE dx 60 = true ∧ okEs l 59 = true := by simpa using z
      cases e
      obtain ⟨p, sh⟩ := View.lstDp (K := K) wo vy z'.2
      exact ⟨fun Q q => .inl ⟨_, _, vx.dp wo z'.1, p, okE.shaped z'.1, sh, by rw [any_eqv z'.1 l 59 z'.2]; exact q⟩,
        fun Q q => .inl ⟨_, _, vx.dp wo z'.1, p, okE.shaped z'.1, sh, by rw [any_eqv z'.1 l 59 z'.2]; exact q⟩⟩
    · exact nomatch e
  | tup l =>
    unfold inD at e
    simp only at e
    split at e
    · rename_i z
      have z' : flatD dx = true ∧ l.all flatD = true := by
        rw [Bool.and_eq_true] at z; exact z
      cases e
      obtain ⟨a, vs, rfl, h, k, zz, _⟩ := vy.tup wo
      obtain ⟨f1, f2⟩ := flats_of (H := H) k z'.2
      have f3 := f2 vx z'.1
      exact ⟨fun Q q => .inr (.inl ⟨a, vs, rfl, .inr (SqT.of h), flat_of vx z'.1, f1, by rw [if_neg Bool.false_ne_true, f3]; exact q⟩),
        fun Q q => .inr (.inl ⟨a, vs, rfl, .inr (SqT.of h), flat_of vx z'.1, f1, by rw [if_pos rfl, f3]; exact q⟩)⟩
    · exact nomatch e
  | dK l =>
    unfold inD at e
    simp only at e
    split at e
    · rename_i k ek
      cases e
      obtain ⟨a, vs, rfl, h, kk, zz⟩ := vy.dK wo
      have ex := keyD_of vx ek
      subst ex
      exact ⟨fun Q q => .inr (.inr ⟨a, _, rfl, .inl ⟨vs, k, h, rfl, rfl⟩, by rw [kk.isS]; exact q⟩), fun Q q => .inr (.inr ⟨a, _, rfl, .inl ⟨vs, k, h, rfl, rfl⟩, by rw [kk.isS]; exact q⟩)⟩
    · exact nomatch e
  | dT l =>
    unfold inD at e
    simp only at e
    split at e
    · split at e
      · rename_i k ek
        cases e
        obtain ⟨a, vs, rfl, h, kk, zz⟩ := vy.dT wo
        obtain ⟨b, us, rfl, hb, kb, _, _⟩ := vx.tup wo
        have ex := keysD_of kb ek
        subst ex
        exact ⟨fun Q q => .inr (.inr ⟨a, _, rfl, .inr ⟨vs, k, b, h, rfl, hb, rfl⟩, by rw [kk.isS]; exact q⟩), fun Q q => .inr (.inr ⟨a, _, rfl, .inr ⟨vs, k, b, h, rfl, hb, rfl⟩, by rw [kk.isS]; exact q⟩)⟩
      · exact nomatch e
    · exact nomatch e
  | _ => exact nomatch e
theorem ck_in (hu : X.A.units + 65 < cLine) (hm : behindInMarks .In b = false := by with_unfolding_all rfl) : Ck X A Ex .In b dIn :=
  d_cmp (op_in4 hu) hm fun W S H x y dx dy Q wo vx vy an => by
    unfold dIn at an
    cases e : inD dx dy with
    | none => simp only [e] at an; exact an.elim
    | some t => simp only [e] at an; exact (d_in_any wo vx vy e).1 Q (an.done wo rfl)
theorem ck_notIn (hu : X.A.units + 65 < cLine) (hm : behindInMarks .NotIn b = false := by with_unfolding_all rfl) : Ck X A Ex .NotIn b dNotIn :=
  d_cmp (op_notIn4 hu) hm fun W S H x y dx dy Q wo vx vy an => by
    unfold dNotIn at an
    cases e : inD dx dy with
    | none => simp only [e] at an; exact an.elim
    | some t => simp only [e] at an; exact (d_in_any wo vx vy e).2 Q (an.done wo rfl)
/-! ### d[k] -/
def dGet : D → D → Sto → Out D
  | .dK l, x, S => match keyD x with
    | some k => match lookK l k with
      | some d => .ok d S
      | none => .bad
    | none => .bad
  | .dT l, .tup ks, S => match keysD ks with
    | some k => match lookK l k with
      | some d => .ok d S
      | none => .bad
    | none => .bad
  | _, _, _ => .bad
end
end Hr

set_option Elab.async false
set_option linter.all false
set_option maxRecDepth 100000
set_option maxHeartbeats 1000000
namespace Hr
open PySem PySem.Spec PyProof.Rows L2

/-! ### a * b -/
def dMul : D → D → Sto → Out D
  | .int i, .int j, S => if (-(2 ^ 64) < i ∧ i < 2 ^ 64) ∨ (-(2 ^ 64) < j ∧ j < 2 ^ 64) then .ok (.int (i * j)) S else .bad
  | .lst l, .int k, S => if (-1000 ≤ k ∧ k ≤ 1000) ∧ l.length ≤ 1000 then .ok (.lst (List.replicate k.toNat l).flatten) S else .bad
  | .tup l, .int k, S => if l.isEmpty = false ∧ (1 ≤ k ∧ k ≤ 1000) ∧ l.length ≤ 1000 then .ok (.tup (List.replicate k.toNat l).flatten) S else .bad
  | _, _, _ => .bad
section
variable {X : Cx} {A : Amb} {Ex : XK} {Γ : List Nat} {a b c : Expr} {fa fb fc : Ev D} {pos : Pos}
theorem op_repT1 : OpR X (binaryOp .Mult) (fun x y H Q => ∃ l xs, x = .ref l ∧ y = .int 1 ∧ H l = some (.tup xs) ∧ Q x H) := by
  intro pins s σ H x y v u Q I rx ry h
  obtain ⟨l, xs, rfl, rfl, hT, q⟩ := h
  cases rx
  obtain ⟨t, rfl⟩ := ry
  obtain ⟨its, r, ⟨⟨cls, dd, data, sl⟩, ho, hc, n, hd⟩, hs⟩ := I.tuple (SqT.of (K := X.K) hT)
  simp only at hc hd
  subst hc hd
  refine wpAny_binaryOp_repeat_ref (T := "tuple") (U := "int") (by decide) ⟨_, ho, rfl⟩ (fun s' => typeIs_int s' 1 t) noFill_tuple_mul F.fills_int_mul F.slot_int_rmul repeat_tuple F.slot_int_index.lookup
    (call_meets F.slot_int_rmul (typeIs_int s 1 t) F.entry_int_rmul (F.args_int_rmul_2 _ _) (int_rmul_tuple 1 t l its.toArray n dd sl)
      ⟨ho, rfl, ⟨_, ho, rfl⟩, call_meets F.slot_tuple_mul ⟨_, ho, rfl⟩ F.entry_tuple_mul (F.args_tuple_mul_2 _ _) (tuple_mul1 l its.toArray n dd sl t) ⟨ho, ⟨.ref l, H, I, rfl, q⟩⟩⟩)
theorem flat_len {α : Type} (l : List α) (k : Nat) : (List.replicate k l).flatten.length = k * l.length := by
  induction k with
  | zero => simp
  | succ k ih => rw [List.replicate_succ, List.flatten_cons, List.length_append, ih, Nat.succ_mul, Nat.add_comm]
theorem de_mul (ha : DV X A Ex Γ a fa) (hb : DV X A Ex Γ b fb) : DE X A Ex Γ (.BinOp a .Mult b pos) (b2 fa fb dMul) :=
  d_op shD (((op_mul.or op_rep).or op_repT).or op_repT1) ha hb fun W S H x y dx dy Q wo vx vy an => by
    unfold dMul at an
    split at an
    · split at an
      · rename_i z
        cases vx.int; cases vy.int
        exact .inl (.inl (.inl ⟨_, _, rfl, rfl, z, an.done wo rfl⟩))
      · exact an.elim
    · split at an
      · rename_i z
        obtain ⟨p, vs, rfl, h1, k1, z1⟩ := vx.lst wo
        cases vy.int
        have e1 := k1.length
        have zz : ∀ n : Nat, n ≤ 1000 → vs.length * n ≤ sizeLine := fun n hn => by
          have : vs.length * n ≤ 1000 * 1000 := Nat.mul_le_mul (by omega) hn
          rw [sizeLine_eq]; omega
        refine .inl (.inl (.inr ⟨p, _, vs, rfl, rfl, h1, by omega, by omega, zz _ (by omega), an.newLD wo (k1.flatRep _) ?_⟩))
        rw [flat_len, Nat.mul_comm]; exact zz _ (by omega)
      · exact an.elim
    · split at an
      · rename_i k z
        obtain ⟨p, vs, rfl, h1, k1, z1, d1⟩ := vx.tup wo
        cases vy.int
        have e1 := k1.length
        by_cases q : k = 1
        · subst q
          refine .inr ⟨p, vs, rfl, rfl, h1, ?_⟩
          have e2 : ∀ l : List D, (List.replicate (Int.toNat 1) l).flatten = l := fun l => by simp
          rw [e2] at an
          exact an.done wo d1
        · have zz : ∀ n : Nat, n ≤ 1000 → vs.length * n ≤ sizeLine := fun n hn => by
            have : vs.length * n ≤ 1000 * 1000 := Nat.mul_le_mul (by omega) hn
            rw [sizeLine_eq]; omega
          refine .inl (.inr ⟨p, _, vs, rfl, rfl, SqT.of h1, k1.ne z.1, by omega, by omega, by omega, an.newT wo (k1.flatRep _) ?_⟩)
          rw [flat_len, Nat.mul_comm]; exact zz _ (by omega)
      · exact an.elim
    · exact an.elim

/-! ### x[i] of all kinds -/
theorem ix_dict (hu : X.A.units + 1 < cLine) : IxR X (fun x y H Q => ∃ a v, x = .ref a ∧ DGet H a y (some v) ∧ Q v H) := by
  intro value slice pins s σ H x y v u Q I rx ry h hs
  obtain ⟨p, z, rfl, g, q⟩ := h
  cases rx
  exact tail_any (ops := [.ref p, u]) (dict_typeIs I g) PySem.F.slot_dict_getitem.lookup (d_getItem hu I g ry fun w' s' I' r' => ⟨z, H, I', r', q⟩) hs
def dSub1 : D → D → Sto → Out D
  | .dK l, y, S => dGet (.dK l) y S
  | .dT l, y, S => dGet (.dT l) y S
  | .str z, .int i, S => if z.length ≤ sizeLine then match atI z.cps.toList i with
      | some c => .ok (.str ⟨#[c]⟩) S
      | none => .bad
    else .bad
  | x, y, S => dIx x y S
theorem de_sub1 (hK : A.K = X.K) (hu : X.A.units + 1 < cLine) (ha : DV X A Ex Γ a fa) (hb : DV X A Ex Γ b fb) (hs : PlainIx b := by intro _ _; rfl) : DE X A Ex Γ (.Subscript a b pos) (b2 fa fb dSub1) :=
  (pe_ix (ix_seq.or (ix_dict hu)) ha hb hs).of fun σ H Q ⟨W, ρ, S, wo, sl, an⟩ => seqR shD wo sl an fun dx S1 W1 H1 x s1 wo1 vx sl1 an1 => seqR shD wo1 sl1 an1 fun dy S2 W2 H2 y s2 wo2 vy sl2 an2 => by
    have vx := View.step vx s2
    have seq : ∀ l : List D, (∀ d, atI l (match dy with | .int i => i | _ => 0) = some d → True) → True := fun _ _ => trivial
    cases dx with
    | dK l =>
      have an2 : Ans A Ex rD W2 H2 (dGet (.dK l) dy S2) Q := an2
      obtain ⟨p, vs, rfl, h, k, z⟩ := vx.dK wo2
      unfold dGet at an2
      cases ek : keyD dy with
      | none => simp only [ek] at an2; exact an2.elim
      | some kk =>
        simp only [ek] at an2
        cases ev : lookK l kk with
        | none => simp only [ev] at an2; exact an2.elim
        | some d =>
          simp only [ev] at an2
          obtain ⟨v, e1, k1⟩ := (k.val kk).1 d ev
          cases keyD_of vy ek
          exact .inr ⟨p, v, rfl, .inl ⟨vs, kk, h, rfl, e1.symm⟩, an2.done wo2 k1⟩
    | dN l => exact an2.elim
    | dT l =>
      cases dy with
      | tup ks =>
        have an2 : Ans A Ex rD W2 H2 (dGet (.dT l) (.tup ks) S2) Q := an2
        obtain ⟨p, vs, rfl, h, k, z⟩ := vx.dT wo2
        obtain ⟨b', us, rfl, hb', kb, _, _⟩ := View.tup vy wo2
        unfold dGet at an2
        cases ek : keysD ks with
        | none => simp only [ek] at an2; exact an2.elim
        | some kk =>
          simp only [ek] at an2
          cases ev : lookK l kk with
          | none => simp only [ev] at an2; exact an2.elim
          | some d =>
            simp only [ev] at an2
            obtain ⟨v, e1, k1⟩ := (k.val kk).1 d ev
            cases keysD_of kb ek
            exact .inr ⟨p, v, rfl, .inr ⟨vs, kk, b', h, rfl, hb', e1.symm⟩, an2.done wo2 k1⟩
      | _ => exact an2.elim
    | str z =>
      cases dy with
      | int i =>
        cases View.int vy
        cases vx.str
        unfold dSub1 at an2
        simp only at an2
        split at an2
        · rename_i zz
          cases e : atI z.cps.toList i with
          | none => simp only [e] at an2; exact an2.elim
          | some c =>
            simp only [e] at an2
            exact .inl (.inr (.inr ⟨z, i, c, rfl, rfl, zz, e, an2.done wo2 rfl⟩))
        · exact an2.elim
      | _ => exact an2.elim
    | lst l =>
      cases dy with
      | int i =>
        cases View.int vy
        obtain ⟨p, vs, rfl, h, k, z⟩ := vx.lst wo2
        have an2 : Ans A Ex rD W2 H2 (dIx (.lst l) (.int i) S2) Q := an2
        unfold dIx at an2
        cases e : atI l i with
        | none => simp only [e] at an2; exact an2.elim
        | some d =>
          simp only [e] at an2
          obtain ⟨v, e1, k1⟩ := k.atI e
          exact .inl (.inl ⟨p, vs, i, v, rfl, rfl, SqL.of h, e1, an2.done wo2 k1⟩)
      | _ => exact an2.elim
    | tup l =>
      cases dy with
      | int i =>
        cases View.int vy
        obtain ⟨p, vs, rfl, h, k, z, _⟩ := vx.tup wo2
        have an2 : Ans A Ex rD W2 H2 (dIx (.tup l) (.int i) S2) Q := an2
        unfold dIx at an2
        cases e : atI l i with
        | none => simp only [e] at an2; exact an2.elim
        | some d =>
          simp only [e] at an2
          obtain ⟨v, e1, k1⟩ := k.atI e
          exact .inl (.inr (.inl ⟨p, vs, i, v, rfl, rfl, SqT.of h, e1, an2.done wo2 k1⟩))
      | _ => exact an2.elim
    | scr l =>
      cases dy with
      | int i =>
        cases View.int vy
        obtain ⟨p, rfl, h⟩ := vx.scr wo2
        rw [hK] at h
        have an2 : Ans A Ex rD W2 H2 (dIx (.scr l) (.int i) S2) Q := an2
        unfold dIx at an2
        cases e : atI l i with
        | none => simp only [e] at an2; exact an2.elim
        | some d =>
          simp only [e] at an2
          refine .inl (.inl ⟨p, _, i, .int d, rfl, rfl, h, ?_, an2.done wo2 rfl⟩)
          unfold atI at e ⊢
          rw [List.length_map]
          cases q : ixN l.length i with
          | none => rw [q] at e; exact nomatch e
          | some j => rw [q] at e; simp at e ⊢; first | exact e | exact ⟨d, e, rfl⟩
      | _ => exact an2.elim
    | non => exact an2.elim
    | bl t => exact an2.elim
    | int t => exact an2.elim
    | obj t => exact an2.elim
    | exn t => exact an2.elim

/-! ### slices -/
def rO : RR (Option Int) (Option Int) := fun _ _ _ a b => a = b
theorem shO : Shift rO := fun _ _ _ _ _ _ _ _ _ h => h
abbrev DO (X : Cx) (A : Amb) (Ex : XK) (Γ : List Nat) (e : Option Expr) (f : Ev (Option Int)) : Prop := PO X e (tR A Ex Γ rO f)
def oNone : Ev (Option Int) := fun _ S => .ok none S
def oSome (f : Ev D) : Ev (Option Int) := b1 f fun d S => match d with
  | .int i => .ok (some i) S
  | _ => .bad
theorem do_none : DO X A Ex Γ none oNone := po_none.of fun σ H Q ⟨W, ρ, S, wo, sl, an⟩ => Ans.done (d := none) an wo rfl
theorem do_some (h : DV X A Ex Γ a fa) : DO X A Ex Γ (some a) (oSome fa) := (po_some h).of fun σ H Q ⟨W, ρ, S, wo, sl, an⟩ => seqR shO wo sl an fun d S1 W1 H1 v s1 wo1 k1 sl1 an1 => by
  cases d with
  | int i => exact ⟨i, View.int k1, Ans.done (d := some i) an1 wo1 rfl⟩
  | _ => exact an1.elim
def cutL {α : Type} (xs : List α) (lo hi : Option Int) : List α := (xs.drop (HT.sIx xs.length 0 lo)).take (HT.sIx xs.length xs.length hi - HT.sIx xs.length 0 lo)
def dSl : D → Option Int → Option Int → Sto → Out D
  | .lst l, lo, hi, S => .ok (.lst (cutL l lo hi)) S
  | .tup l, lo, hi, S => .ok (.tup (cutL l lo hi)) S
  | _, _, _, _ => .bad
theorem Dens.cut {W : Wd} {l : List D} {vs : List V} (k : Dens W l vs) (lo hi : Option Int) : Dens W (cutL l lo hi) (cutV vs lo hi) := by
  unfold cutL cutV
  rw [k.length]
  exact (k.drop _).take _
theorem de_slice {lo hi : Option Expr} {flo fhi : Ev (Option Int)} {p2 : Pos} (ha : DV X A Ex Γ a fa) (hl : DO X A Ex Γ lo flo) (hh : DO X A Ex Γ hi fhi) : DE X A Ex Γ (.Subscript a (.Slice lo hi none p2) pos) (b3 fa flo fhi dSl) :=
  (pe_slice (sl_list.or sl_tupA) ha hl hh).of fun σ H Q ⟨W, ρ, S, wo, sl, an⟩ => seqR shD wo sl an fun dx S1 W1 H1 x s1 wo1 vx sl1 an1 => seqR shD wo1 sl1 an1 fun o1 S2 W2 H2 o1' s2 wo2 e1 sl2 an2 => seqR shD wo2 sl2 an2 fun o2 S3 W3 H3 o2' s3 wo3 e2 sl3 an3 => by
    cases e1; cases e2
    have vx := (View.step vx s2).step s3
    cases dx with
    | lst l =>
      obtain ⟨p, vs, rfl, h, k, z⟩ := vx.lst wo3
      exact .inl ⟨p, vs, rfl, SqL.of h, Ans.newLD (l := cutL l o1 o2) an3 wo3 (k.cut o1 o2) (Nat.le_trans (cutV_length vs o1 o2) z)⟩
    | tup l =>
      obtain ⟨p, vs, rfl, h, k, z, kd⟩ := vx.tup wo3
      refine .inr ⟨p, vs, rfl, SqT.of h, fun e => ?_, fun _ => Ans.newT (l := cutL l o1 o2) an3 wo3 (k.cut o1 o2) (Nat.le_trans (cutV_length vs o1 o2) z)⟩
      have ec : cutL l o1 o2 = l := by
        unfold cutL
        rw [← k.length, e.1, e.2]
        simp [k.length]
      have an3 : Ans A Ex rD W3 H3 (.ok (.tup (cutL l o1 o2)) S3) Q := an3
      rw [ec] at an3
      exact an3.done wo3 kd
    | _ => exact an3.elim

/-! ### comprehensions -/
theorem dts_nil : PTs X [] (tR A Ex Γ rB yes) := pts_nil.of fun σ H Q ⟨W, ρ, S, wo, sl, an⟩ => Ans.done (d := true) an wo rfl
theorem dts_one {g : Ev Bool} (h : DT X A Ex Γ c g) : PTs X [c] (tR A Ex Γ rB g) := pts_one h
theorem dn_lc {elt tg iter : Expr} {ifs : List Expr} {scope : Scope} {own : List (Str × Nat)} {f : Ev (List D)} {T : Tg} {c : Ev Bool} {e : Ev D} (vs : List Nat) (hc : X.calm = true) (hN : X.N.Nodup) (hi : DI X A Ex Γ tg iter f) (ok : BlkOk X.N X.env.scope scope own) (hv : own.map (·.2) = vs) (hn : ∀ j ∈ tslots T, j ∈ vs)
    (hg : ∀ (s : Shared) (H : Hp) (C : Addr) (cl : List (Str × Addr)) (fp : List Addr), PG (X.blk s H scope (compEnvC scope cl C X.env) fp) tg (tG A Γ T))
    (ht : ∀ (s : Shared) (H : Hp) (C : Addr) (cl : List (Str × Addr)) (fp : List Addr), PTs (X.blk s H scope (compEnvC scope cl C X.env) fp) ifs (tR A XF Γ rB c))
    (he : ∀ (s : Shared) (H : Hp) (C : Addr) (cl : List (Str × Addr)) (fp : List Addr), PE (X.blk s H scope (compEnvC scope cl C X.env) fp) elt (tR A XF Γ rD e))
    (hs : ∀ x, foldedSetIterable iter X.env x = pure x := by intro _; rfl) : DN X A Ex Γ (.ListComp elt [⟨tg, iter, ifs, 0⟩] scope pos) (lcF f T c e vs) := by
  subst hv
  exact (pe_lc hc hN hi ok hg ht he hs).of (lc_imp (K := X.K) hn)
theorem set_lc {i : Nat} {y : Str} {py : Pos} {elt tg iter : Expr} {ifs : List Expr} {scope : Scope} {own : List (Str × Nat)} {spos : Pos} {f : Ev (List D)} {T : Tg} {c : Ev Bool} {e : Ev D} (vs : List Nat) (hc : X.calm = true) (hN : X.N.Nodup) (hy : X.N[i]? = some y) (hyl : X.env.scope.names.lookup y = some .local)
    (hsw : swapsWith (.ListComp elt [⟨tg, iter, ifs, 0⟩] scope pos) (some (.Name y py)) spos.line X.env = pure true) (hi : DI X A Ex Γ tg iter f) (ok : BlkOk X.N X.env.scope scope own) (hv : own.map (·.2) = vs) (hn : ∀ j ∈ tslots T, j ∈ vs)
    (hg : ∀ (s : Shared) (H : Hp) (C : Addr) (cl : List (Str × Addr)) (fp : List Addr), PG (X.blk s H scope (compEnvC scope cl C X.env) fp) tg (tG A Γ T))
    (ht : ∀ (s : Shared) (H : Hp) (C : Addr) (cl : List (Str × Addr)) (fp : List Addr), PTs (X.blk s H scope (compEnvC scope cl C X.env) fp) ifs (tR A XF Γ rB c))
    (he : ∀ (s : Shared) (H : Hp) (C : Addr) (cl : List (Str × Addr)) (fp : List Addr), PE (X.blk s H scope (compEnvC scope cl C X.env) fp) elt (tR A XF Γ rD e))
    (hs : ∀ x, foldedSetIterable iter X.env x = pure x := by intro _; rfl) : PS X (.Assign [.Name y py] (.ListComp elt [⟨tg, iter, ifs, 0⟩] scope pos) spos) (tAsg (tR A Ex Γ rN (lcF f T c e vs)) (gName i)) := by
  subst hv
  exact asg_of (ps_setLc hc hN hy hyl hsw hi ok hg ht he hs) (lc_imp (K := X.K) hn)
theorem asgND {st : Stmt} {f : Ev D} {g : TG} (h : PS X st (tAsg (tR A Ex Γ rN f) g)) : PS X st (tAsg (tR A Ex Γ rD f) g) := asg_of h fun σ H Q ⟨W, ρ, S, wo, sl, an⟩ => ⟨W, ρ, S, wo, sl, by
  generalize f ρ S = r at an
  cases r with
  | ok d S1 =>
    intro W1 H1 v s w k
    obtain ⟨W2, s2, w2, k2⟩ := New.freeze s w k
    exact an W2 H1 v s2 w2 k2
  | exc c S1 => exact an
  | bad => exact an⟩
end

/-! ### statements that change a list or a dict of ours -/
section
variable {X : Cx} {E : En} {Γ Γ' Γc : List Nat} {pos apos cpos : Pos} {e : Expr} {f : Ev D}
/-- the owned slot's object is rewritten -/
theorem SOk.put {W : Wd} {S : Sto} {H : Hp} {σ : L2.St} {ρ : Rho} (so : SOk E Γ W S H σ ρ) {i : Nat} {d d' : D} {a : Addr} {o : HO} (m : i ∈ Γ) (e : ρ[i]? = some (some d)) (ev : σ[i]? = some (some (.ref a))) (t : Top W (upd H a o) a d') (f : W.Fr a = none) (tg : W.tg a = none) :
    SOk E Γ W S (upd H a o) σ (ρ.set i (some d')) := by
  have n0 := so.nw i d a m e ev
  obtain ⟨u0, hu0, ku0⟩ : ∃ o, H a = some o ∧ NoT o := by
    obtain ⟨v, ev', a', rfl, _, _, tp⟩ := so.sl.own i d e m
    rw [ev] at ev'
    cases ev'
    exact tp.noT
  have ko : tblB o = false := by
    obtain ⟨u1, hu1, ku1⟩ := t.noB
    rw [upd_same] at hu1
    cases hu1
    exact ku1
  refine ⟨so.wo.put f tg hu0 ku0 ko, ⟨fun j x q n => ?_, fun j x q n => ?_, fun x y dx dy u hx hy ne q1 q2 q3 => ?_, by simp [so.sl.len]⟩, so.st.put n0, fun j x b mj q1 q2 => ?_⟩
  · have z : j ≠ i := fun z => n (z ▸ m)
    rw [set_ne z] at q
    exact so.sl.den j x q n
  · by_cases z : j = i
    · subst z
      obtain ⟨e1, e2⟩ := set_at q
      subst e1
      exact ⟨_, ev, a, rfl, f, tg, t⟩
    · rw [set_ne z] at q
      obtain ⟨u, w1, b, eb, f2, t2, p2⟩ := so.sl.own j x q n
      have nb : b ≠ a := fun z2 => by
        subst z2; subst eb
        exact so.sl.dj i j d x _ m n (fun z3 => z z3.symm) e q ev w1
      refine ⟨u, w1, b, eb, f2, t2, ?_⟩
      cases x <;> first | exact p2.elim | skip
      · obtain ⟨vs, h, k, z⟩ := p2; exact ⟨vs, by rw [upd_ne nb]; exact h, k, z⟩
      · obtain ⟨vs, h, k, z⟩ := p2; exact ⟨vs, by rw [upd_ne nb]; exact h, k, z⟩
      · obtain ⟨vs, h, k, z⟩ := p2; exact ⟨vs, by rw [upd_ne nb]; exact h, k, z⟩
      · obtain ⟨vs, h, k, z⟩ := p2; exact ⟨vs, by rw [upd_ne nb]; exact h, k, z⟩
  · have g : ∀ (j : Nat) x, (ρ.set i (some d'))[j]? = some (some x) → ∃ x', ρ[j]? = some (some x') := fun j x q => by
      by_cases z : j = i
      · subst z; exact ⟨d, e⟩
      · rw [set_ne z] at q; exact ⟨x, q⟩
    obtain ⟨dx', q1⟩ := g x dx q1
    obtain ⟨dy', q2⟩ := g y dy q2
    exact so.sl.dj x y dx' dy' u hx hy ne q1 q2 q3
  · by_cases z : j = i
    · subst z
      rw [ev] at q2; cases q2
      exact n0
    · rw [set_ne z] at q1
      exact so.nw j x b mj q1 q2
def sApp (i : Nat) (f : Ev D) : Sv := fun ρ S => match ρ[i]? with
  | some (some (.lst l)) => (f ρ S).bind fun d S1 => if l.length < sizeLine then .ok (.nx (ρ.set i (some (.lst (l ++ [d]))))) S1 else .bad
  | _ => .bad
theorem SOk.lst {W : Wd} {S : Sto} {H : Hp} {σ : L2.St} {ρ : Rho} (so : SOk E Γ W S H σ ρ) {i : Nat} {l : List D} (m : i ∈ Γ) (e : ρ[i]? = some (some (.lst l))) : ∃ a vs, σ[i]? = some (some (.ref a)) ∧ W.Fr a = none ∧ W.tg a = none ∧ H a = some (.lst vs) ∧ Dens W l vs ∧ vs.length ≤ sizeLine := by
  obtain ⟨v, q, a, rfl, f, t, vs, h, k, z⟩ := so.sl.own i _ e m
  exact ⟨a, vs, q, f, t, h, k, z⟩
/-- the receiver of a method: a slot whatever it holds -/
theorem var_lst {i : Nat} {σ : L2.St} {H : Hp} {a : Addr} {Q : VK} (ev : σ[i]? = some (some (.ref a))) (q : Q (.ref a) H) : tVar i σ H Q := ⟨_, ev, q⟩
theorem ds_app {x : Str} {i : Nat} {xp : Pos} (m : i ∈ Γ) (hx : PE X (.Name x xp) (tVar i)) (he : DE X E.A E.Ex Γ e f) (hsx : St1 X e := by rfl)
    (hbase : attributeBase (.Name x xp) "append" X.env (eval (.Name x xp) X.env) = eval (.Name x xp) X.env := by rfl) (hfew : ((backTo cpos (starEach [e] X.env)).all (fun x => !x.1) && (backToKw cpos (keywordEach [] X.env)).all (fun x => x.1.isSome) && decide (([e] : List Expr).length + ([] : List Keyword).length + (if ([] : List Keyword).isEmpty then 0 else 1) < 30)) = true := by rfl)
    (hline : (apos.endLine == cpos.line) = true := by rfl) (hpl : (backTo cpos (starEach [e] X.env)).any (·.1) = false := by rfl) (hsw : swapsWith (.Call (.Attribute (.Name x xp) "append" apos) [e] [] cpos) none pos.line X.env = pure false := by rfl) :
    DS X E Γ Γ Γc (.Expr (.Call (.Attribute (.Name x xp) "append" apos) [e] [] cpos) pos) (sApp i f) :=
  (ps_expr (pe_bm PySem.F.plainAttrs_list PySem.F.slot_list_append PySem.F.type_list_append mt_append hx (pa_cons he pa_nil hsx) hbase hfew hline hsx) hsw).of fun D σ H ⟨W, ρ, S, so, an⟩ => by
    unfold sApp at an
    split at an
    · rename_i l el
      obtain ⟨a, vs, ev, ff, tt, h, k, z⟩ := so.lst m el
      refine ⟨_, ev, .inl ⟨rfl, vs, SqL.of h⟩, seqS so an fun d S1 W1 H1 v s1 so1 k1 an1 => ?_⟩
      split at an1
      · rename_i zz
        have h1 := s1.fm _ _ h tt ff
        have zv : vs.length < sizeLine := by rw [k.length]; exact zz
        refine ⟨a, vs, v, rfl, rfl, h1, zv, an1 W1 _ σ (so1.put m el ev ⟨vs ++ [v], upd_same, (k.step s1).append (Dens.one k1), by simp; omega⟩ (s1.frn h ff) (s1.tgn h tt)) .refl⟩
      · exact an1.elim
    · exact an.elim
end
end Hr

set_option Elab.async false
set_option linter.all false
set_option maxRecDepth 100000
set_option maxHeartbeats 1000000
namespace Hr
open PySem PySem.Spec PyProof.Rows L2
section
variable {X : Cx} {E : En} {Γ Γ' Γc : List Nat} {pos apos cpos : Pos} {e : Expr} {f : Ev D}
/-! ### x.extend(e) -/
def sExt (i : Nat) (f : Ev D) : Sv := fun ρ S => match ρ[i]? with
  | some (some (.lst l)) => (f ρ S).bind fun d S1 => match d with
    | .lst m => if l.length + m.length ≤ sizeLine then .ok (.nx (ρ.set i (some (.lst (l ++ m))))) S1 else .bad
    | _ => .bad
  | _ => .bad
theorem ds_ext {x : Str} {i : Nat} {xp : Pos} (m : i ∈ Γ) (hx : PE X (.Name x xp) (tVar i)) (he : DV X E.A E.Ex Γ e f) (hsx : St1 X e := by rfl)
    (hbase : attributeBase (.Name x xp) "extend" X.env (eval (.Name x xp) X.env) = eval (.Name x xp) X.env := by rfl) (hfew : ((backTo cpos (starEach [e] X.env)).all (fun x => !x.1) && (backToKw cpos (keywordEach [] X.env)).all (fun x => x.1.isSome) && decide (([e] : List Expr).length + ([] : List Keyword).length + (if ([] : List Keyword).isEmpty then 0 else 1) < 30)) = true := by rfl)
    (hline : (apos.endLine == cpos.line) = true := by rfl) (hsw : swapsWith (.Call (.Attribute (.Name x xp) "extend" apos) [e] [] cpos) none pos.line X.env = pure false := by rfl) :
    DS X E Γ Γ Γc (.Expr (.Call (.Attribute (.Name x xp) "extend" apos) [e] [] cpos) pos) (sExt i f) :=
  (ps_expr (pe_bm PySem.F.plainAttrs_list PySem.F.slot_list_extend PySem.F.type_list_extend mt_extend hx (pa_cons he pa_nil hsx) hbase hfew hline hsx) hsw).of fun D σ H ⟨W, ρ, S, so, an⟩ => by
    unfold sExt at an
    split at an
    · rename_i l el
      obtain ⟨a, vs, ev, ff, tt, h, k, z⟩ := so.lst m el
      refine ⟨_, ev, .inl ⟨rfl, vs, SqL.of h⟩, seqS so an fun d S1 W1 H1 v s1 so1 k1 an1 => ?_⟩
      cases d with
      | lst q =>
        simp only at an1
        split at an1
        · rename_i zz
          have h1 := s1.fm _ _ h tt ff
          obtain ⟨b, us, rfl, hb, kb, zb⟩ := View.lst k1 so1.wo
          have zv : vs.length + us.length ≤ sizeLine := by rw [k.length, kb.length]; exact zz
          refine ⟨a, b, vs, us, rfl, rfl, h1, hb, zv, an1 W1 _ σ (so1.put m el ev ⟨vs ++ us, upd_same, (k.step s1).append kb, by simp; omega⟩ (s1.frn h ff) (s1.tgn h tt)) .refl⟩
        · exact an1.elim
      | _ => exact an1.elim
    · exact an.elim
/-! ### y = x.pop(e) -/
def popL (l : List D) (i : Int) : Option (D × List D) := match seqIndex? i l.length with
  | some k => match l[k]? with
    | some d => some (d, l.eraseIdx k)
    | none => none
  | none => none
def sPop (j i : Nat) (f : Ev D) : Sv := fun ρ S => match ρ[i]? with
  | some (some (.lst l)) => (f ρ S).bind fun d S1 => match d with
    | .int k => if -(2 ^ 63) ≤ k ∧ k < 2 ^ 63 then match popL l k with
        | some (d, r) => .ok (.nx ((ρ.set i (some (.lst r))).set j (some d))) S1
        | none => .bad
      else .bad
    | _ => .bad
  | _ => .bad
theorem ds_pop {x y : Str} {i j : Nat} {xp yp : Pos} (m : i ∈ Γ) (hij : j ≠ i) (hj : j ∉ Γ) (hx : PE X (.Name x xp) (tVar i)) (he : DV X E.A E.Ex Γ e f) (hN : X.N.Nodup) (hi : X.N[j]? = some y) (hy : Loc X.env.scope y) (hf : X.fn y = true ∨ X.env.scope.names.lookup y = some .local := by first | exact .inl rfl | exact .inr rfl | assumption) (hsx : St1 X e := by rfl)
    (hbase : attributeBase (.Name x xp) "pop" X.env (eval (.Name x xp) X.env) = eval (.Name x xp) X.env := by rfl) (hfew : ((backTo cpos (starEach [e] X.env)).all (fun x => !x.1) && (backToKw cpos (keywordEach [] X.env)).all (fun x => x.1.isSome) && decide (([e] : List Expr).length + ([] : List Keyword).length + (if ([] : List Keyword).isEmpty then 0 else 1) < 30)) = true := by rfl)
    (hline : (apos.endLine == cpos.line) = true := by rfl) (hsw : swapsWith (.Call (.Attribute (.Name x xp) "pop" apos) [e] [] cpos) (some (.Name y yp)) pos.line X.env = pure false := by rfl) :
    DS X E Γ Γ Γc (.Assign [.Name y yp] (.Call (.Attribute (.Name x xp) "pop" apos) [e] [] cpos) pos) (sPop j i f) :=
  (ps_set hN hi hy (pe_bm PySem.F.plainAttrs_list PySem.F.slot_list_pop PySem.F.type_list_pop mt_popAt hx (pa_cons he pa_nil hsx) hbase hfew hline hsx) hsw hf).of fun D σ H ⟨W, ρ, S, so, an⟩ => by
    unfold sPop at an
    split at an
    · rename_i l el
      obtain ⟨a, vs, ev, ff, tt, h, k, z⟩ := so.lst m el
      refine ⟨_, ev, .inl ⟨rfl, vs, SqL.of h⟩, seqS so an fun d S1 W1 H1 v s1 so1 k1 an1 => ?_⟩
      cases d with
      | int n =>
        cases View.int k1
        simp only at an1
        split at an1
        · rename_i zz
          unfold popL at an1
          cases e1 : seqIndex? n l.length with
          | none => simp only [e1] at an1; exact an1.elim
          | some q =>
            simp only [e1] at an1
            cases e2 : l[q]? with
            | none => simp only [e2] at an1; exact an1.elim
            | some d =>
              simp only [e2] at an1
              have h1 := s1.fm _ _ h tt ff
              obtain ⟨u, e3, k3⟩ := (k.step s1).get' e2
              refine ⟨a, vs, n, q, u, rfl, rfl, h1, zz.1, zz.2, by rw [k.length]; exact e1, e3, ?_⟩
              have sp := so1.put m el ev (d' := .lst (l.eraseIdx q)) ⟨vs.eraseIdx q, upd_same, (k.step s1).eraseIdx q, Nat.le_trans (len_erase vs q) z⟩ (s1.frn h ff) (s1.tgn h tt)
              have sd := sp.setD (i := j) k3
              rw [rem_eq hj] at sd
              exact an1 W1 _ _ sd .refl
        · exact an1.elim
      | _ => exact an1.elim
    · exact an.elim
/-! ### x[k] = v, x a dict of ours -/
def putD {κ : Type} [DecidableEq κ] (l : List (κ × D)) (k : κ) (d : D) : List (κ × D) := if (l.any fun kv => decide (kv.1 = k)) = true then l.map (fun kv => if kv.1 = k then (kv.1, d) else kv) else l ++ [(k, d)]
theorem DenK.any {W : Wd} (k : Key) : ∀ {l : List (Key × D)} {vs : List (Key × V)}, DenK W l vs → (vs.any fun kv => decide (kv.1 = k)) = l.any fun kv => decide (kv.1 = k)
  | [], _, h => by cases h; rfl
  | (j, d) :: l, _, ⟨v, r, e, h1, h2⟩ => by subst e; simp only [List.any_cons, DenK.any k h2]
theorem DenK.app {W : Wd} {k : Key} {d : D} {v : V} (hd : Den W d v) : ∀ {l : List (Key × D)} {vs : List (Key × V)}, DenK W l vs → DenK W (l ++ [(k, d)]) (vs ++ [(k, v)])
  | [], _, h => by cases h; exact ⟨v, [], rfl, hd, rfl⟩
  | (j, c) :: l, _, ⟨u, r, e, h1, h2⟩ => by subst e; exact ⟨u, _, rfl, h1, DenK.app hd h2⟩
theorem DenK.repl {W : Wd} {k : Key} {d : D} {v : V} (hd : Den W d v) : ∀ {l : List (Key × D)} {vs : List (Key × V)}, DenK W l vs → DenK W (l.map fun kv => if kv.1 = k then (kv.1, d) else kv) (vs.map fun kv => if kv.1 = k then (kv.1, v) else kv)
  | [], _, h => by cases h; exact rfl
  | (j, c) :: l, _, ⟨u, r, e, h1, h2⟩ => by
    subst e
    by_cases q : j = k
    · simp only [List.map_cons, if_pos q]; exact ⟨v, _, rfl, hd, DenK.repl hd h2⟩
    · simp only [List.map_cons, if_neg q]; exact ⟨u, _, rfl, h1, DenK.repl hd h2⟩
theorem DenK.put {W : Wd} {k : Key} {d : D} {v : V} (hd : Den W d v) {l : List (Key × D)} {vs : List (Key × V)} (h : DenK W l vs) : DenK W (putD l k d) (putK vs k v) := by
  unfold putD putK
  rw [h.any k]
  split
  · exact h.repl hd
  · exact h.app hd
theorem DenT.any {W : Wd} (k : List Key) : ∀ {l : List (List Key × D)} {vs : List (List Key × V)}, DenT W l vs → (vs.any fun kv => decide (kv.1 = k)) = l.any fun kv => decide (kv.1 = k)
  | [], _, h => by cases h; rfl
  | (j, d) :: l, _, ⟨v, r, e, h1, h2⟩ => by subst e; simp only [List.any_cons, DenT.any k h2]
theorem DenT.app {W : Wd} {k : List Key} {d : D} {v : V} (hd : Den W d v) : ∀ {l : List (List Key × D)} {vs : List (List Key × V)}, DenT W l vs → DenT W (l ++ [(k, d)]) (vs ++ [(k, v)])
  | [], _, h => by cases h; exact ⟨v, [], rfl, hd, rfl⟩
  | (j, c) :: l, _, ⟨u, r, e, h1, h2⟩ => by subst e; exact ⟨u, _, rfl, h1, DenT.app hd h2⟩
theorem DenT.repl {W : Wd} {k : List Key} {d : D} {v : V} (hd : Den W d v) : ∀ {l : List (List Key × D)} {vs : List (List Key × V)}, DenT W l vs → DenT W (l.map fun kv => if kv.1 = k then (kv.1, d) else kv) (vs.map fun kv => if kv.1 = k then (kv.1, v) else kv)
  | [], _, h => by cases h; exact rfl
  | (j, c) :: l, _, ⟨u, r, e, h1, h2⟩ => by
    subst e
    by_cases q : j = k
    · simp only [List.map_cons, if_pos q]; exact ⟨v, _, rfl, hd, DenT.repl hd h2⟩
    · simp only [List.map_cons, if_neg q]; exact ⟨u, _, rfl, h1, DenT.repl hd h2⟩
theorem DenT.put {W : Wd} {k : List Key} {d : D} {v : V} (hd : Den W d v) {l : List (List Key × D)} {vs : List (List Key × V)} (h : DenT W l vs) : DenT W (putD l k d) (putK vs k v) := by
  unfold putD putK
  rw [h.any k]
  split
  · exact h.repl hd
  · exact h.app hd
/-- the value first, then the key -/
def sPut (i : Nat) (fk fv : Ev D) : Sv := fun ρ S => match ρ[i]? with
  | some (some (.dK l)) => (fv ρ S).bind fun d S1 => (fk ρ S1).bind fun x S2 => match keyD x with
    | some k => if l.length < sizeLine then .ok (.nx (ρ.set i (some (.dK (putD l k d))))) S2 else .bad
    | none => .bad
  | some (some (.dT l)) => (fv ρ S).bind fun d S1 => (fk ρ S1).bind fun x S2 => match x with
    | .tup ks => match keysD ks with
      | some k => if l.length < sizeLine then .ok (.nx (ρ.set i (some (.dT (putD l k d))))) S2 else .bad
      | none => .bad
    | _ => .bad
  | _ => .bad
theorem ds_put {x : Str} {i : Nat} {xp sp : Pos} {ek ev : Expr} {fk fv : Ev D} (hu : X.A.units + 1 < cLine) (m : i ∈ Γ) (hx : PE X (.Name x xp) (tVar i)) (hk : DV X E.A E.Ex Γ ek fk) (hv : DE X E.A E.Ex Γ ev fv)
    (hs : swapsWith ev (some (.Subscript (.Name x xp) ek sp)) pos.line X.env = pure false := by rfl) : DS X E Γ Γ Γc (.Assign [.Subscript (.Name x xp) ek sp] ev pos) (sPut i fk fv) :=
  (ps_dput hu hx hk hv hs).of fun D σ H ⟨W, ρ, S, so, an⟩ => by
    unfold sPut at an
    split at an
    · rename_i l el
      obtain ⟨vx, evx, a, rfl, ff, tt, vs, h, k, z⟩ := so.sl.own i _ el m
      refine seqS so an fun d S1 W1 H1 v s1 so1 k1 an1 => ⟨_, evx, seqS so1 an1 fun x S2 W2 H2 y s2 so2 k2 an2 => ?_⟩
      have s12 := s1.trans s2
      have h2 := s12.fm _ _ h tt ff
      have k1 := Den.step k1 s2
      cases ek : keyD x with
      | none => simp only [ek] at an2; exact an2.elim
      | some kk =>
        simp only [ek] at an2
        split at an2
        · rename_i zz
          cases keyD_of k2 ek
          have zv : vs.length < sizeLine := by rw [k.length]; exact zz
          have kp := (k.step s12).put (k := kk) k1
          refine ⟨a, _, rfl, DPut.k h2 zv, an2 W2 _ σ (so2.put m el evx ⟨_, upd_same, kp, ?_⟩ (s12.frn h ff) (s12.tgn h tt)) .refl⟩
          exact Nat.le_trans (length_putK vs kk v) zv
        · exact an2.elim
    · rename_i l el
      obtain ⟨vx, evx, a, rfl, ff, tt, vs, h, k, z⟩ := so.sl.own i _ el m
      refine seqS so an fun d S1 W1 H1 v s1 so1 k1 an1 => ⟨_, evx, seqS so1 an1 fun x S2 W2 H2 y s2 so2 k2 an2 => ?_⟩
      have s12 := s1.trans s2
      have h2 := s12.fm _ _ h tt ff
      have k1 := Den.step k1 s2
      cases x with
      | tup ks =>
        simp only at an2
        cases ek : keysD ks with
        | none => simp only [ek] at an2; exact an2.elim
        | some kk =>
          simp only [ek] at an2
          split at an2
          · rename_i zz
            obtain ⟨b, us, rfl, hb, kb, _, _⟩ := View.tup k2 so2.wo
            cases keysD_of kb ek
            have zv : vs.length < sizeLine := by rw [k.length]; exact zz
            have kp := (k.step s12).put (k := kk) k1
            refine ⟨a, _, rfl, DPut.t h2 hb zv, an2 W2 _ σ (so2.put m el evx ⟨_, upd_same, kp, ?_⟩ (s12.frn h ff) (s12.tgn h tt)) .refl⟩
            exact Nat.le_trans (length_putK vs kk v) zv
          · exact an2.elim
      | _ => exact an2.elim
    · exact an.elim
end

/-! ### dict displays -/
section
variable {X : Cx} {A : Amb} {Ex : XK} {Γ : List Nat} {a b c : Expr} {fa fb fc : Ev D} {pos : Pos}
def mkK0 : Ev D := fun _ S => .ok (.dK []) S
def mkT0 : Ev D := fun _ S => .ok (.dT []) S
theorem dn_dictK : DN X A Ex Γ (.Dict [] [] pos) mkK0 := pe_dnewK.of fun σ H Q ⟨W, ρ, S, wo, sl, an⟩ => Ans.newK (l := []) (vs := []) an wo rfl (Nat.zero_le _)
theorem dn_dictT : DN X A Ex Γ (.Dict [] [] pos) mkT0 := pe_dnewT.of fun σ H Q ⟨W, ρ, S, wo, sl, an⟩ => fun p n =>
  an W _ _ (Step.lay wo n) (wo.lay n) ⟨p, rfl, nw_of n, wo.frNone n, wo.tgNone n, [], upd_same, rfl, Nat.zero_le _⟩
/-- {k: v} -/
def mkK1 (fk fv : Ev D) : Ev D := b2 fk fv fun k v S => match keyD k with
  | some kk => .ok (.dK [(kk, v)]) S
  | none => .bad
theorem seqR0 {α β γ δ : Type} {Ra : RR α β} {R : RR γ δ} {fa : Ev α} {k : α → Sto → Out γ} {W0 W : Wd} {H0 H : Hp} {S : Sto} {σ : L2.St} {ρ : Rho} {Q : δ → Hp → Prop} {K : β → Hp → Prop}
    (s0 : Step W0 H0 W H) (wo : Wok A W S H) (sl : Sl Γ W H σ ρ) (h : Ans A Ex R W0 H0 ((fa ρ S).bind k) Q)
    (kk : ∀ d S1 W1 H1 v, Step W H W1 H1 → Wok A W1 S1 H1 → Ra H W1 H1 d v → Sl Γ W1 H1 σ ρ → Ans A Ex R W0 H0 (k d S1) Q → K v H1) : tR A Ex Γ Ra fa σ H K := by
  refine ⟨W, ρ, S, wo, sl, ?_⟩
  generalize fa ρ S = r at h
  cases r with
  | ok d S1 => exact fun W1 H1 v s wo1 r => kk d S1 W1 H1 v s wo1 r (sl.step s) h
  | exc c S1 => exact fun W1 H1 s wo1 => h W1 H1 (s0.trans s) wo1
  | bad => exact h
theorem dn_dict1 {k v : Expr} {fk fv : Ev D} (hk : DV X A Ex Γ k fk) (hv : DE X A Ex Γ v fv) : DN X A Ex Γ (.Dict [some k] [v] pos) (mkK1 fk fv) :=
  (pe_disp (pps_cons hk hv pps_nil) rfl rfl (fun z => nomatch z) (by show 1 ≤ 15; decide)).of fun σ H Q ⟨W, ρ, S, wo, sl, an⟩ => by
    intro p n
    have wo' := wo.lay (o := .dK []) n
    have st := Step.lay (o := .dK []) wo n
    refine seqR0 st wo' (sl.step st) an fun dk S1 W1 H1 vk s1 wo1 k1 sl1 an1 => seqR0 (st.trans s1) wo1 sl1 an1 fun dv S2 W2 H2 vv s2 wo2 k2 sl2 an2 => ?_
    have s02 := (st.trans s1).trans s2
    have h2 : H2 p = some (.dK []) := (s1.trans s2).fm p _ upd_same (wo.tgNone n) (wo.frNone n)
    cases ek : keyD dk with
    | none => simp only [ek] at an2; exact an2.elim
    | some kk =>
      simp only [ek] at an2
      cases keyD_of k1 ek
      have f2 : W2.Fr p = none := (s1.trans s2).frn (a := p) upd_same (wo.frNone n)
      have t2 : W2.tg p = none := (s1.trans s2).tgn (a := p) upd_same (wo.tgNone n)
      refine ⟨h2, [(kk, vv)], rfl, by show 1 ≤ 15; decide, ?_⟩
      have em : mergeK [] [(kk, vv)] = [(kk, vv)] := rfl
      rw [em]
      exact an2 W2 _ _ (s02.put (nw_of n)) (wo2.put f2 t2 h2) ⟨p, rfl, nw_of n, f2, t2, _, upd_same, ⟨vv, [], rfl, k2, rfl⟩, by show 1 ≤ sizeLine; decide⟩
end
end Hr

set_option Elab.async false
set_option linter.all false
set_option maxRecDepth 100000
set_option maxHeartbeats 1000000
namespace Hr
open PySem PySem.Spec PyProof.Rows L2
/-! ### a, b = e1, e2 -/
def news : List Bool → List V → List V
  | true :: ms, v :: r => v :: news ms r
  | false :: ms, _ :: r => news ms r
  | _, _ => []
def rM : List Bool → RR (List D) (List V)
  | [], _, _, _, ds, vs => ds = [] ∧ vs = []
  | m :: ms, H0, W, H, ds, vs => ∃ d l v r, ds = d :: l ∧ vs = v :: r ∧ (match m with
    | true => New W H0 H d v ∧ v ∉ news ms r
    | false => Den W d v) ∧ rM ms H0 W H l r
theorem shM : ∀ ms, Shift (rM ms)
  | [], _, _, _, _, _, _, _, _, _, h => h
  | m :: ms, W, H, W1, H1, W', H', ds, vs, s, ⟨d, l, v, r, e1, e2, h, k⟩ => ⟨d, l, v, r, e1, e2, by
      cases m with
      | true => exact ⟨shN _ _ _ _ _ _ _ _ s h.1, h.2⟩
      | false => exact h, shM ms _ _ _ _ _ _ _ _ s k⟩
theorem rM_news : ∀ {ms : List Bool} {H0 : Hp} {W : Wd} {H : Hp} {ds : List D} {vs : List V}, rM ms H0 W H ds vs → ∀ v ∈ news ms vs, ∃ a, v = .ref a ∧ Nw H0 a
  | [], _, _, _, _, _, _, v, m => by simp [news] at m
  | true :: ms, _, _, _, _, _, ⟨d, l, u, r, e1, e2, h, k⟩, v, m => by
    subst e2
    rcases List.mem_cons.mp (show v ∈ u :: news ms r from m) with q | q
    · subst q
      obtain ⟨⟨a, ea, n, _⟩, _⟩ := h
      exact ⟨a, ea, n⟩
    · exact rM_news k v q
  | false :: ms, _, _, _, _, _, ⟨d, l, u, r, e1, e2, h, k⟩, v, m => by
    subst e2
    exact rM_news k v (show v ∈ news ms r from m)
section
variable {X : Cx} {A : Amb} {Ex : XK} {Γ : List Nat} {e : Expr} {es : List Expr} {fa : Ev D} {fr : Ev (List D)} {ms : List Bool}
theorem pam_nil : PA X [] (tR A Ex Γ (rM []) aNil) := pa_nil.of fun σ H Q ⟨W, ρ, S, wo, sl, an⟩ => Ans.done (d := []) an wo ⟨rfl, rfl⟩
theorem pam_D (ha : DE X A Ex Γ e fa) (hr : PA X es (tR A Ex Γ (rM ms) fr)) (hs : starEach (e :: es) X.env = (false, eval e X.env) :: starEach es X.env := by rfl) : PA X (e :: es) (tR A Ex Γ (rM (false :: ms)) (aCons fa fr)) :=
  (pa_cons ha hr hs).of fun σ H Q ⟨W, ρ, S, wo, sl, an⟩ => seqR0 .refl wo sl an fun d S1 W1 H1 v s1 wo1 k1 sl1 an1 => seqR0 s1 wo1 sl1 an1 fun l S2 W2 H2 vs s2 wo2 k2 sl2 an2 =>
    an2 W2 H2 _ (s1.trans s2) wo2 ⟨d, l, v, vs, rfl, rfl, Den.step k1 s2, shM ms _ _ _ _ _ _ _ _ s1 k2⟩
theorem pam_N (ha : DN X A Ex Γ e fa) (hr : PA X es (tR A Ex Γ (rM ms) fr)) (hs : starEach (e :: es) X.env = (false, eval e X.env) :: starEach es X.env := by rfl) : PA X (e :: es) (tR A Ex Γ (rM (true :: ms)) (aCons fa fr)) :=
  (pa_cons ha hr hs).of fun σ H Q ⟨W, ρ, S, wo, sl, an⟩ => by
    refine ⟨W, ρ, S, wo, sl, ?_⟩
    unfold aCons b2 at an
    cases ea : fa ρ S with
    | ok d S1 =>
      rw [ea] at an
      simp only [Out.bind_ok] at an
      intro W1 H1 v s1 wo1 k1
      refine ⟨W1, ρ, S1, wo1, sl.step s1, ?_⟩
      cases eb : fr ρ S1 with
      | ok l S2 =>
        rw [eb] at an
        simp only [Out.bind_ok] at an
        intro W2 H2 vs s2 wo2 k2
        refine an W2 H2 _ (s1.trans s2) wo2 ⟨d, l, v, vs, rfl, rfl, ⟨?_, fun m => ?_⟩, shM ms _ _ _ _ _ _ _ _ s1 k2⟩
        · obtain ⟨a, e1, e2, e3, e4, e5⟩ := k1
          obtain ⟨o, q, nb⟩ := e5.noB
          exact ⟨a, e1, e2, s2.frn q e3 nb, s2.tgn q e4 nb, e5.step e4 e3 s2⟩
        · obtain ⟨b, q1, q2⟩ := rM_news k2 v m
          obtain ⟨a, e1, e2, e3, e4, e5⟩ := k1
          rw [e1] at q1
          cases q1
          obtain ⟨o, q, nb⟩ := e5.noB
          exact q2.no q nb
      | exc c S2 => rw [eb] at an; exact fun W2 H2 s2 wo2 => an W2 H2 (s1.trans s2) wo2
      | bad => rw [eb] at an; exact an
    | exc c S1 => rw [ea] at an; exact an
    | bad => rw [ea] at an; exact an
end
def gaR : List (Nat × Bool) → List Nat → List Nat
  | [], Γ => Γ
  | (i, true) :: r, Γ => gaR r (i :: rem Γ i)
  | (i, false) :: r, Γ => gaR r (rem Γ i)
def stR : List (Nat × Bool) → List D → Rho → Rho
  | (i, _) :: r, d :: ds, ρ => stR r ds (ρ.set i (some d))
  | _, _, ρ => ρ
def stV : List (Nat × Bool) → List V → L2.St → L2.St
  | (i, _) :: r, d :: ds, ρ => stV r ds (ρ.set i (some d))
  | _, _, ρ => ρ
/-- the stores, one by one -/
theorem SOk.sets {E : En} {W : Wd} {S : Sto} {H H0 : Hp} (h0 : ∀ a, Nw H0 a → Nw E.H a) : ∀ (is : List (Nat × Bool)) {Γ : List Nat} {σ : L2.St} {ρ : Rho} {ds : List D} {vs : List V}, SOk E Γ W S H σ ρ → rM (is.map (·.2)) H0 W H ds vs →
    (∀ v ∈ news (is.map (·.2)) vs, ∀ j e, j ∈ Γ → ρ[j]? = some (some e) → σ[j]? ≠ some (some v)) → SOk E (gaR is Γ) W S H (stV is vs σ) (stR is ds ρ)
  | [], Γ, σ, ρ, ds, vs, so, ⟨e1, e2⟩, _ => by subst e1; subst e2; exact so
  | (i, false) :: is, Γ, σ, ρ, ds, vs, so, ⟨d, l, v, r, e1, e2, h, k⟩, ap => by
    subst e1 e2
    refine SOk.sets h0 is (so.setD (i := i) h) k fun u mu j e mj q => ?_
    obtain ⟨m1, z⟩ := mem_rem.mp mj
    rw [set_ne z] at q ⊢
    exact ap u mu j e m1 q
  | (i, true) :: is, Γ, σ, ρ, ds, vs, so, ⟨d, l, v, r, e1, e2, h, k⟩, ap => by
    subst e1 e2
    obtain ⟨hn, hnot⟩ := h
    have mv : v ∈ news (((i, true) :: is).map (·.2)) (v :: r) := List.mem_cons_self
    refine SOk.sets h0 is (so.setN (i := i) hn.own (fun a ea => by
      obtain ⟨b, eb, nb, _⟩ := hn
      rw [ea] at eb; cases eb
      exact h0 _ nb) fun j e mj _ q => ap v mv j e mj q) k fun u mu j e mj q => ?_
    by_cases z : j = i
    · subst z
      obtain ⟨_, e2⟩ := set_at q
      rw [set_same (by rw [so.sl.len]; exact e2)]
      intro e; cases e
      exact hnot mu
    · rw [set_ne z] at q ⊢
      rcases List.mem_cons.mp mj with m | m
      · exact absurd m z
      · exact ap u (List.mem_cons_of_mem _ mu) j e (mem_rem.mp m).1 q
def sPar (is : List (Nat × Bool)) (f : Ev (List D)) : Sv := fun ρ S => (f ρ S).bind fun ds S1 => .ok (.nx (stR is ds ρ)) S1
section
variable {X : Cx} {E : En} {Γ Γc : List Nat} {f : Ev (List D)}
theorem par_core {is : List (Nat × Bool)} {D : Ends} {W W1 : Wd} {S S1 : Sto} {H H1 : Hp} {σ : L2.St} {ρ : Rho} {ds : List Hr.D} {vs : List V} (so : SOk E Γ W S H σ ρ) (s1 : Step W H W1 H1) (so1 : SOk E Γ W1 S1 H1 σ ρ) (k1 : rM (is.map (·.2)) H W1 H1 ds vs)
    (an : SAns E (gaR is Γ) Γc W1 D (.ok (.nx (stR is ds ρ)) S1)) : D.nx (stV is vs σ) H1 :=
  an W1 H1 _ (SOk.sets (fun a n => so.st.mn a n) is so1 k1 fun v m j e mj q z => by
    obtain ⟨a, ea, n0⟩ := rM_news k1 v m
    obtain ⟨u, q1, b, eb, _, _, t⟩ := so.sl.own j e q mj
    rw [q1] at z
    cases z
    rw [ea] at eb
    cases eb
    obtain ⟨o, q, nb⟩ := t.noB
    exact n0.no q nb) .refl
theorem ds_par2 {st : Stmt} {i j : Nat} {m n : Bool} (h : PS X st (tPar i j (tR E.A E.Ex Γ (rM [m, n]) f))) : DS X E Γ (gaR [(i, m), (j, n)] Γ) Γc st (sPar [(i, m), (j, n)] f) :=
  h.of fun D σ H ⟨W, ρ, S, so, an⟩ => seqS so an fun ds S1 W1 H1 vs s1 so1 k1 an1 => by
    have k0 := k1
    obtain ⟨d, l, v, r, e1, e2, _, d', l', v', r', e1', e2', _, e3, e4⟩ := k1
    subst e4 e2' e2
    exact ⟨v, v', rfl, par_core (is := [(i, m), (j, n)]) so s1 so1 k0 an1⟩
theorem ds_par3 {st : Stmt} {i j o : Nat} {m n q : Bool} (h : PS X st (tPar3 i j o (tR E.A E.Ex Γ (rM [m, n, q]) f))) : DS X E Γ (gaR [(i, m), (j, n), (o, q)] Γ) Γc st (sPar [(i, m), (j, n), (o, q)] f) :=
  h.of fun D σ H ⟨W, ρ, S, so, an⟩ => seqS so an fun ds S1 W1 H1 vs s1 so1 k1 an1 => by
    have k0 := k1
    obtain ⟨d, l, v, r, e1, e2, _, d', l', v', r', e1', e2', _, d'', l'', v'', r'', e1'', e2'', _, e3, e4⟩ := k1
    subst e4 e2'' e2' e2
    exact ⟨v, v', v'', rfl, par_core (is := [(i, m), (j, n), (o, q)]) so s1 so1 k0 an1⟩
end
end Hr

set_option Elab.async false
set_option linter.all false
set_option maxRecDepth 100000
set_option maxHeartbeats 1000000
namespace Hr
open PySem PySem.Spec PyProof.Rows L2
/-! ### sorted, in plain lists -/
section
variable {α : Type} [DecidableEq α]
def insU (lt : α → α → Bool) (x : α) : List α → List α
  | [] => [x]
  | y :: l => if lt x y = true then x :: y :: l else if x = y then y :: l else y :: insU lt x l
def ssU (lt : α → α → Bool) (l : List α) : List α := l.foldr (insU lt) []
theorem mem_insU (lt : α → α → Bool) (x z : α) : ∀ l : List α, z ∈ insU lt x l ↔ z = x ∨ z ∈ l
  | [] => by simp [insU]
  | y :: l => by
    unfold insU
    split
    · simp
    · split
      · rename_i e; subst e; simp
      · simp [mem_insU lt x z l]; constructor <;> (intro h; rcases h with h | h | h <;> simp [h])
theorem mem_ssU (lt : α → α → Bool) (z : α) (l : List α) : z ∈ ssU lt l ↔ z ∈ l := by
  induction l with
  | nil => simp [ssU]
  | cons x l ih => show z ∈ insU lt x (ssU lt l) ↔ _; rw [mem_insU, ih]; simp
structure Ord (lt : α → α → Bool) : Prop where
  irr : ∀ x, lt x x = false
  tr : ∀ x y z, lt x y = true → lt y z = true → lt x z = true
  tot : ∀ x y, lt x y = false → x ≠ y → lt y x = true
variable {lt : α → α → Bool}
theorem pw_insU (o : Ord lt) (x : α) : ∀ l : List α, l.Pairwise (fun a b => lt a b = true) → (insU lt x l).Pairwise (fun a b => lt a b = true)
  | [], _ => by simp [insU]
  | y :: l, h => by
    obtain ⟨h1, h2⟩ := List.pairwise_cons.mp h
    unfold insU
    split
    · rename_i e
      exact List.pairwise_cons.mpr ⟨fun z m => by
        rcases List.mem_cons.mp m with q | q
        · rw [q]; exact e
        · exact o.tr _ _ _ e (h1 z q), h⟩
    · rename_i e
      split
      · exact h
      · rename_i ne
        refine List.pairwise_cons.mpr ⟨fun z m => ?_, pw_insU o x l h2⟩
        rcases (mem_insU lt x z l).mp m with q | q
        · rw [q]; exact o.tot x y (by simpa using e) ne
        · exact h1 z q
theorem pw_ssU (o : Ord lt) (l : List α) : (ssU lt l).Pairwise (fun a b => lt a b = true) := by
  induction l with
  | nil => exact List.Pairwise.nil
  | cons x l ih => exact pw_insU o x _ ih
theorem uniqU (o : Ord lt) : ∀ (l m : List α), l.Pairwise (fun a b => lt a b = true) → m.Pairwise (fun a b => lt a b = true) → (∀ x, x ∈ l ↔ x ∈ m) → l = m
  | [], [], _, _, _ => rfl
  | [], y :: m, _, _, h => by have := (h y).mpr List.mem_cons_self; simp at this
  | x :: l, [], _, _, h => by have := (h x).mp List.mem_cons_self; simp at this
  | x :: l, y :: m, hl, hm, h => by
    obtain ⟨l1, l2⟩ := List.pairwise_cons.mp hl
    obtain ⟨m1, m2⟩ := List.pairwise_cons.mp hm
    have exy : x = y := by
      rcases List.mem_cons.mp ((h x).mp List.mem_cons_self) with q | q
      · exact q
      · rcases List.mem_cons.mp ((h y).mpr List.mem_cons_self) with r | r
        · exact r.symm
        · have a := o.tr _ _ _ (m1 x q) (l1 y r)
          rw [o.irr] at a
          exact nomatch a
    subst exy
    refine congrArg (x :: ·) (uniqU o l m l2 m2 fun z => ⟨fun q => ?_, fun q => ?_⟩)
    · rcases List.mem_cons.mp ((h z).mp (List.mem_cons_of_mem _ q)) with r | r
      · subst r; have a := l1 z q; rw [o.irr] at a; exact nomatch a
      · exact r
    · rcases List.mem_cons.mp ((h z).mpr (List.mem_cons_of_mem _ q)) with r | r
      · subst r; have a := m1 z q; rw [o.irr] at a; exact nomatch a
      · exact r
end
def ltI (a b : Int) : Bool := decide (a < b)
theorem ordI : Ord ltI := ⟨fun x => by simp [ltI], fun x y z h1 h2 => by simp [ltI] at *; omega, fun x y h1 h2 => by simp [ltI] at *; omega⟩
theorem lex_irr : ∀ x : List Int, HT.lexLt x x = false
  | [] => rfl
  | x :: l => by simp [HT.lexLt, lex_irr l]
theorem lex_tr : ∀ x y z : List Int, HT.lexLt x y = true → HT.lexLt y z = true → HT.lexLt x z = true
  | [], [], _, h, _ => by simp [HT.lexLt] at h
  | [], _ :: _, [], _, h => by simp [HT.lexLt] at h
  | [], _ :: _, _ :: _, _, _ => rfl
  | _ :: _, [], _, h, _ => by simp [HT.lexLt] at h
  | _ :: _, _ :: _, [], _, h => by simp [HT.lexLt] at h
  | a :: x, b :: y, c :: z, h1, h2 => by
    unfold HT.lexLt at *
    by_cases e1 : a = b
    · subst e1
      rw [if_pos rfl] at h1
      by_cases e2 : a = c
      · rw [if_pos e2] at h2 ⊢; exact lex_tr x y z h1 h2
      · rw [if_neg e2] at h2 ⊢; exact h2
    · rw [if_neg e1] at h1
      have h1' : a < b := by simpa using h1
      by_cases e2 : b = c
      · subst e2; rw [if_neg e1]; exact h1
      · rw [if_neg e2] at h2
        have h2' : b < c := by simpa using h2
        rw [if_neg (by omega)]
        simp; omega
theorem lex_tot : ∀ x y : List Int, HT.lexLt x y = false → x ≠ y → HT.lexLt y x = true
  | [], [], _, h => absurd rfl h
  | [], _ :: _, h, _ => by simp [HT.lexLt] at h
  | _ :: _, [], _, _ => rfl
  | a :: x, b :: y, h, ne => by
    unfold HT.lexLt at *
    by_cases e : a = b
    · subst e
      rw [if_pos rfl] at h ⊢
      exact lex_tot x y h fun q => ne (by rw [q])
    · rw [if_neg e] at h
      rw [if_neg (Ne.symm e)]
      simp at h ⊢; omega
theorem ordT : Ord HT.lexLt := ⟨lex_irr, lex_tr, lex_tot⟩
theorem lex_of_code {B : Int} : ∀ (n m : List Int), n.length = m.length → TS.Bd B n → TS.Bd B m → TS.code B n ≤ TS.code B m → n ≠ m → HT.lexLt n m = true
  | [], [], _, _, _, _, ne => absurd rfl ne
  | [], _ :: _, h, _, _, _, _ => nomatch h
  | _ :: _, [], h, _, _, _, _ => nomatch h
  | a :: n, b :: m, hl, hn, hm, hc, ne => by
    have hl' : n.length = m.length := by simpa using hl
    unfold HT.lexLt
    by_cases e : a = b
    · subst e
      rw [if_pos rfl]
      refine lex_of_code n m hl' hn.tail hm.tail ?_ fun q => ne (by rw [q])
      have := (TS.code_same (B := B) (d := a) (r := m) (q := n) hl'.symm)
      by_cases q : TS.code B m < TS.code B n
      · have := this.mpr q; omega
      · omega
    · rw [if_neg e]
      by_cases q : a < b
      · simpa using q
      · have : b < a := by omega
        have := TS.code_lt (B := B) (d := b) (e := a) (r := m) (q := n) hl'.symm hm.tail hn.tail this
        omega
/-- sorting, equal ones kept -/
def insS (x : Int) : List Int → List Int
  | [] => [x]
  | y :: l => if x ≤ y then x :: y :: l else y :: insS x l
def sortI (l : List Int) : List Int := l.foldr insS []
theorem insS_perm (x : Int) : ∀ l : List Int, (insS x l).Perm (x :: l)
  | [] => .refl _
  | y :: l => by
    unfold insS
    split
    · exact .refl _
    · exact ((insS_perm x l).cons y).trans (.swap x y l)
theorem sortI_perm (l : List Int) : (sortI l).Perm l := by
  induction l with
  | nil => exact .refl _
  | cons x l ih => exact (insS_perm x _).trans (ih.cons x)
theorem insS_pw (x : Int) : ∀ l : List Int, l.Pairwise (· ≤ ·) → (insS x l).Pairwise (· ≤ ·)
  | [], _ => by simp [insS]
  | y :: l, h => by
    obtain ⟨h1, h2⟩ := List.pairwise_cons.mp h
    unfold insS
    split
    · rename_i e
      exact List.pairwise_cons.mpr ⟨fun z m => by
        rcases List.mem_cons.mp m with q | q
        · rw [q]; exact e
        · have := h1 z q; omega, h⟩
    · rename_i e
      refine List.pairwise_cons.mpr ⟨fun z m => ?_, insS_pw x l h2⟩
      rcases List.mem_cons.mp ((insS_perm x l).mem_iff.mp m) with q | q
      · rw [q]; omega
      · exact h1 z q
theorem sortI_pw (l : List Int) : (sortI l).Pairwise (· ≤ ·) := by
  induction l with
  | nil => exact List.Pairwise.nil
  | cons x l ih => exact insS_pw x _ ih
theorem perm_uniq : ∀ (l m : List Int), l.Perm m → l.Pairwise (· ≤ ·) → m.Pairwise (· ≤ ·) → l = m
  | [], m, p, _, _ => (List.nil_perm.mp p).symm
  | x :: l, [], p, _, _ => by have := p.length_eq; simp at this
  | x :: l, y :: m, p, hl, hm => by
    obtain ⟨l1, l2⟩ := List.pairwise_cons.mp hl
    obtain ⟨m1, m2⟩ := List.pairwise_cons.mp hm
    have e : x = y := by
      have a : x ∈ y :: m := p.mem_iff.mp List.mem_cons_self
      have b : y ∈ x :: l := p.mem_iff.mpr List.mem_cons_self
      rcases List.mem_cons.mp a with q | q
      · exact q
      · rcases List.mem_cons.mp b with r | r
        · exact r.symm
        · have := m1 x q; have := l1 y r; omega
    subst e
    rw [perm_uniq l m p.cons_inv l2 m2]

/-! ### sorted(set(xs)) -/
def tups? : List D → Option (List (List Int))
  | [] => some []
  | .tup l :: r => match ints? l, tups? r with
    | some n, some m => some (n :: m)
    | _, _ => none
  | _ :: _ => none
def okTs (d : Nat) (l : List (List Int)) : Bool := l.all fun n => n.length == d && n.all fun x => decide (0 ≤ x) && decide (x < 1000000)
def tupI (n : List Int) : D := .tup (n.map .int)
def dSS : D → Sto → Out D := fun x S =>
  let go (l : List D) : Out D := if l.length < 64 then match ints? l with
      | some ns => .ok (.lst ((ssU ltI ns).map .int)) S
      | none => match tups? l with
        | some (t :: ts) => if t.isEmpty = false ∧ okTs t.length (t :: ts) = true then .ok (.lst ((ssU HT.lexLt (t :: ts)).map tupI)) S else .bad
        | _ => .bad
    else .bad
  match x with
  | .lst l => go l
  | .tup l => go l
  | _ => .bad
end Hr

set_option Elab.async false
set_option linter.all false
set_option maxRecDepth 100000
set_option maxHeartbeats 1000000
namespace Hr
open PySem PySem.Spec PyProof.Rows L2
section
variable {X : Cx}
def rSI (w : World) (G : Hp → Addr → List Int → Prop) : List V → Hp → VK → Prop := fun xs H Q => ∃ (l : Addr) (ns : List Int), xs = [V.ref l] ∧ G H l ns ∧ ns.length < 64 ∧ ∀ a c, H a = none → c ≤ ns.length → Q (.ref a) (upd H a (SetO w a (fun j => decide (j ∈ ns)) c))
theorem cr_setLI (hc : X.calm = true) : CallR X (.type "set") (rSI X.w fun H l ns => SqL X.K H l (ns.map V.int)) := by
  intro pins s σ H xs us Q I r h
  obtain ⟨l, ns, rfl, hl, hf, q⟩ := h
  rw [Vals.ref1 r]
  obtain ⟨its, rv, pl, hz⟩ := I.list hl
  refine set_of_listI ns (I.ok.hd hc) pl.isList (by simpa using rv.ints) (by unfold scanBound; omega) fun h' tk c R hcn k => ?_
  exact ⟨.ref s.heap.objs.size, _, I.laid (t' := tk) k (Nat.le_refl _) (setO_new R), rfl, q _ c (I.hok.fresh (Nat.le_refl _)) hcn⟩
theorem cr_setTI (hc : X.calm = true) : CallR X (.type "set") (rSI X.w fun H l ns => SqT X.K H l (ns.map V.int)) := by
  intro pins s σ H xs us Q I r h
  obtain ⟨l, ns, rfl, hl, hf, q⟩ := h
  rw [Vals.ref1 r]
  obtain ⟨its, rv, pl, hz⟩ := I.tuple hl
  refine call_set_tupI ns (I.ok.hd hc) (show s.heap.IsTuple l its.toArray from pl) (by simpa using rv.ints) (by unfold scanBound; omega) fun h' tk c R hcn k => ?_
  exact ⟨.ref s.heap.objs.size, _, I.laid (t' := tk) k (Nat.le_refl _) (setO_new R), rfl, q _ c (I.hok.fresh (Nat.le_refl _)) hcn⟩
def rSTT (K : PySem.W.Frag) (P : Program) (w : World) : List V → Hp → VK → Prop := fun xs H Q => ∃ (l : Addr) (ks : List (Addr × List Int)), xs = [V.ref l] ∧ SqT K H l (ks.map fun p => V.ref p.1) ∧ (∀ p ∈ ks, SqT K H p.1 (p.2.map V.int)) ∧ ks.length < 64 ∧
  ∀ a L, H a = none → (∀ p ∈ L, p ∈ ks) → (∀ p ∈ ks, p.2 ∈ L.map (·.2)) → Q (.ref a) (upd H a (SetTO P w a L))
theorem cr_setTT (hc : X.calm = true) (hu : X.A.units + 64 < cLine) : CallR X (.type "set") (rSTT X.K X.prog X.w) := by
  intro pins s σ H xs us Q I r h
  obtain ⟨l, kz, rfl, hl, hk, hf, q⟩ := h
  rw [Vals.ref1 r]
  obtain ⟨its, rv, pl, hz⟩ := I.tuple hl
  have hn0 : H s.heap.objs.size = none := I.hok.fresh (Nat.le_refl _)
  refine set_of_tuple (P := X.prog) (w := X.w) kz (I.ok.hd hc) (show s.heap.IsTuple l its.toArray from pl) (by simpa using refs_of_vals rv) (fun p hp => I.isT (hk p hp)) hf (by omega) fun h' tk L es ep t R g k => ?_
  exact ⟨.ref s.heap.objs.size, upd H s.heap.objs.size (SetTO X.prog X.w s.heap.objs.size L), I.laid (t' := tk) k (Nat.le_refl _) (setTO_new R.t0), rfl, q _ L hn0 (fun p hp => List.mem_of_mem_take (g.sub p hp)) fun p hp => g.all p (by rw [List.take_length]; exact hp)⟩
end
theorem tups_of {A : Amb} {W : Wd} {S : Sto} {H : Hp} (wo : Wok A W S H) : ∀ {l : List D} {vs : List V} {ts : List (List Int)}, Dens W l vs → tups? l = some ts →
    ∃ ks : List (Addr × List Int), vs = ks.map (fun p => V.ref p.1) ∧ ks.map (·.2) = ts ∧ ∀ p ∈ ks, H p.1 = some (.tup (p.2.map V.int)) ∧ Den W (tupI p.2) (.ref p.1)
  | [], _, ts, h, e => by cases h; simp [tups?] at e; subst e; exact ⟨[], rfl, rfl, fun p m => by simp at m⟩
  | d :: l, _, ts, ⟨v, r, ev, k1, k2⟩, e => by
    cases d <;> simp [tups?] at e
    rename_i q
    split at e
    · rename_i n m e1 e2
      cases e
      subst ev
      obtain ⟨ks, h1, h2, h3⟩ := tups_of wo k2 e2
      obtain ⟨a, us, rfl, hf, kq⟩ := k1
      have hus := ints_of kq e1
      subst hus
      refine ⟨(a, n) :: ks, by rw [h1]; rfl, by rw [List.map_cons, h2], fun p mp => ?_⟩
      rcases List.mem_cons.mp mp with z | z
      · subst z
        refine ⟨wo.fr a _ hf, a, _, rfl, hf, ?_⟩
        have back : ∀ z : List Int, Dens W (z.map D.int) (z.map V.int) := fun z => by
          induction z with
          | nil => exact rfl
          | cons x z ih => exact ⟨_, _, rfl, rfl, ih⟩
        exact back n
      · exact h3 p z
    · exact nomatch e
theorem dens_ints {W : Wd} : ∀ z : List Int, Dens W (z.map D.int) (z.map V.int)
  | [] => rfl
  | x :: z => ⟨_, _, rfl, rfl, dens_ints z⟩
theorem dens_refs {W : Wd} : ∀ (L : List (Addr × List Int)), (∀ p ∈ L, Den W (tupI p.2) (.ref p.1)) → Dens W ((L.map (·.2)).map tupI) (L.map fun p => V.ref p.1)
  | [], _ => rfl
  | p :: L, h => ⟨_, _, rfl, h p List.mem_cons_self, dens_refs L fun q m => h q (List.mem_cons_of_mem _ m)⟩
theorem bd_of {d : Nat} {ts : List (List Int)} (h : okTs d ts = true) : ∀ n ∈ ts, n.length = d ∧ TS.Bd 1000000 n := fun n m => by
  have q := List.all_eq_true.mp h n m
  rw [Bool.and_eq_true] at q
  refine ⟨by simpa using q.1, fun x mx => ?_⟩
  have r := List.all_eq_true.mp q.2 x mx
  rw [Bool.and_eq_true] at r
  exact ⟨by simpa using r.1, by simpa using r.2⟩
section
variable {X : Cx} {A : Amb} {Ex : XK} {Γ : List Nat} {e : Expr} {f : Ev D} {p p2 q pos : Pos}
/-- what behind set(..) is wanted -/
theorem dn_ss (hc : X.calm = true) (hu : X.A.units + 64 < cLine) (hg : Gl X "sorted") (hm : X.mg "sorted" = none) (hv : bootBuiltins "sorted" = some (.builtin "sorted")) (hg2 : Gl X "set") (hm2 : X.mg "set" = none) (hv2 : bootBuiltins "set" = some (.type "set")) (ha : DV X A Ex Γ e f)
    (he : St1 X e := by rfl) (he2 : St1 X (.Call (.Name "set" p2) [e] [] q) := by rfl) : DN X A Ex Γ (.Call (.Name "sorted" p) [.Call (.Name "set" p2) [e] [] q] [] pos) (b1 f dSS) :=
  (pe_callB ((cr_sortedSet hc).or (cr_sortedT hc)) hg hm hv (pa_cons (pe_callTy ((((cr_setLI hc).or (cr_setTI hc)).or (cr_setOfT hc hu)).or (cr_setTT hc hu)) hg2 hm2 hv2 (pa1 ha he) (by decide) (by decide) he rfl) pa_nil he2) (by decide) (by decide) he2 rfl).of
    fun σ H Q ⟨W, ρ, S, wo, sl, an⟩ => seqR shN wo sl an fun d S1 W1 H1 vs s1 wo1 k1 sl1 an1 => by
      obtain ⟨v, rfl, k⟩ := k1
      -- ints
      have fi : ∀ (ns : List Int), Ans A Ex rN W1 H1 (.ok (.lst ((ssU ltI ns).map .int)) S1) Q → ns.length < 64 → ∀ a c, H1 a = none → c ≤ ns.length →
          tNil σ (upd H1 a (SetO X.w a (fun j => decide (j ∈ ns)) c)) fun xs H3 => (rSortedSet X.w (.ref a :: xs) H3 Q ∨ rSortedT X.K X.prog X.w (.ref a :: xs) H3 Q) := fun ns an h64 a c na hcn => by
        refine .inl ⟨a, _, c, rfl, upd_same, by omega, fun ms b hs hmem hlen nb => ?_⟩
        have e1 : ms = ssU ltI ns := uniqU ordI ms (ssU ltI ns) (hs.imp fun h => by simpa [ltI] using h) (pw_ssU ordI ns) fun x => by rw [hmem x, mem_ssU]; simp
        subst e1
        exact Ans.newL (l := (ssU ltI ns).map .int) (an.shift shN (Step.lay wo1 na)) (wo1.lay na) (dens_ints _) (by rw [List.length_map, hlen, sizeLine_eq]; omega) b nb
      -- tuples
      have ft : ∀ (t : List Int) (ts : List (List Int)) (ks : List (Addr × List Int)), Ans A Ex rN W1 H1 (.ok (.lst ((ssU HT.lexLt (t :: ts)).map tupI)) S1) Q → t.isEmpty = false → okTs t.length (t :: ts) = true → ks.length < 64 → ks.map (·.2) = t :: ts →
          (∀ p ∈ ks, H1 p.1 = some (.tup (p.2.map V.int)) ∧ Den W1 (tupI p.2) (.ref p.1)) → ∀ a L, H1 a = none → (∀ p ∈ L, p ∈ ks) → (∀ p ∈ ks, p.2 ∈ L.map (·.2)) →
          tNil σ (upd H1 a (SetTO X.prog X.w a L)) fun xs H3 => (rSortedSet X.w (.ref a :: xs) H3 Q ∨ rSortedT X.K X.prog X.w (.ref a :: xs) H3 Q) := fun t ts ks an z1 z2 h64 hks hk a L na hL1 hL2 => by
        have hb : ∀ p ∈ L, p.2.length = t.length ∧ TS.Bd 1000000 p.2 := fun p mp => bd_of z2 p.2 (by rw [← hks]; exact List.mem_map_of_mem (hL1 p mp))
        refine .inr ⟨a, L, t.length, 1000000, rfl, upd_same, fun p mp => SqT.of (by rw [upd_ne (fun z => by have := (hk p (hL1 p mp)).1; rw [z, na] at this; exact nomatch this)]; exact (hk p (hL1 p mp)).1), by cases t <;> simp at z1 ⊢, hb, fun L' b pm nd hf pw nb => ?_⟩
        have e1 : L'.map (·.2) = ssU HT.lexLt (t :: ts) := by
          refine uniqU ordT _ _ ?_ (pw_ssU ordT _) fun x => ?_
          · have pw' : (L'.map (·.2)).Pairwise (fun n m => TS.code 1000000 n ≤ TS.code 1000000 m) := List.pairwise_map.mpr pw
            have both := List.pairwise_and_iff.mpr ⟨pw', nd⟩
            refine List.Pairwise.imp_of_mem (fun {n m} hn hm h => ?_) both
            have g : ∀ n ∈ L'.map (·.2), n.length = t.length ∧ TS.Bd 1000000 n := fun n mn => by
              obtain ⟨p, mp, rfl⟩ := List.mem_map.mp mn
              exact hb p (pm.mem_iff.mp mp)
            exact lex_of_code n m ((g n hn).1.trans (g m hm).1.symm) (g n hn).2 (g m hm).2 h.1 h.2
          · rw [mem_ssU, ← hks]
            constructor
            · intro mx
              obtain ⟨p, mp, rfl⟩ := List.mem_map.mp mx
              exact List.mem_map_of_mem (hL1 p (pm.mem_iff.mp mp))
            · intro mx
              obtain ⟨p, mp, rfl⟩ := List.mem_map.mp mx
              obtain ⟨p', mp', e⟩ := List.mem_map.mp (hL2 p mp)
              rw [← e]
              exact List.mem_map_of_mem (pm.mem_iff.mpr mp')
        have an := an.shift shN (Step.lay (o := SetTO X.prog X.w a L) wo1 na)
        rw [← e1] at an
        exact Ans.newL an (wo1.lay na) (dens_refs L' fun p mp => (hk p (hL1 p (pm.mem_iff.mp mp))).2) (by rw [List.length_map, sizeLine_eq]; omega) b nb
      cases d with
      | lst l =>
        obtain ⟨a, us, rfl, h, kk, z⟩ := View.lst k wo1
        unfold dSS at an1
        simp only at an1
        split at an1
        · rename_i h64
          have hlen := kk.length
          cases ei : ints? l with
          | some ns =>
            simp only [ei] at an1
            have hus := ints_of kk ei
            subst hus
            have hl : ns.length < 64 := by rw [← hlen, List.length_map] at h64; exact h64
            exact .inl (.inl (.inl ⟨a, ns, rfl, SqL.of h, hl, fun b c nb hcn => fi ns an1 hl b c nb hcn⟩))
          | none =>
            simp only [ei] at an1
            cases et : tups? l with
            | none => simp only [et] at an1; exact an1.elim
            | some tt =>
              simp only [et] at an1
              cases tt with
              | nil => exact an1.elim
              | cons t ts =>
                simp only at an1
                split at an1
                · rename_i zz
                  obtain ⟨ks, e1, e2, e3⟩ := tups_of wo1 kk et
                  subst e1
                  have hl : ks.length < 64 := by rw [← hlen, List.length_map] at h64; exact h64
                  exact .inl (.inr ⟨a, ks, rfl, SqL.of h, fun p mp => SqT.of (e3 p mp).1, hl, fun b L nb h1 h2 => ft t ts ks an1 zz.1 zz.2 hl e2 e3 b L nb h1 h2⟩)
                · exact an1.elim
        · exact an1.elim
      | tup l =>
        obtain ⟨a, us, rfl, h, kk, z, _⟩ := View.tup k wo1
        unfold dSS at an1
        simp only at an1
        split at an1
        · rename_i h64
          have hlen := kk.length
          cases ei : ints? l with
          | some ns =>
            simp only [ei] at an1
            have hus := ints_of kk ei
            subst hus
            have hl : ns.length < 64 := by rw [← hlen, List.length_map] at h64; exact h64
            exact .inl (.inl (.inr ⟨a, ns, rfl, SqT.of h, hl, fun b c nb hcn => fi ns an1 hl b c nb hcn⟩))
          | none =>
            simp only [ei] at an1
            cases et : tups? l with
            | none => simp only [et] at an1; exact an1.elim
            | some tt =>
              simp only [et] at an1
              cases tt with
              | nil => exact an1.elim
              | cons t ts =>
                simp only at an1
                split at an1
                · rename_i zz
                  obtain ⟨ks, e1, e2, e3⟩ := tups_of wo1 kk et
                  subst e1
                  have hl : ks.length < 64 := by rw [← hlen, List.length_map] at h64; exact h64
                  exact .inr ⟨a, ks, rfl, SqT.of h, fun p mp => SqT.of (e3 p mp).1, hl, fun b L nb h1 h2 => ft t ts ks an1 zz.1 zz.2 hl e2 e3 b L nb h1 h2⟩
                · exact an1.elim
        · exact an1.elim
      | _ => exact an1.elim
/-! ### sorted(d), a dict with int keys -/
def keysI : List (Key × D) → Option (List Int)
  | [] => some []
  | (.inl i, _) :: l => (keysI l).map (i :: ·)
  | _ :: _ => none
theorem keysI_of {W : Wd} : ∀ {l : List (Key × D)} {vs : List (Key × V)} {ks : List Int}, DenK W l vs → keysI l = some ks → vs.map (·.1) = ks.map Sum.inl
  | [], _, ks, h, e => by cases h; simp [keysI] at e; subst e; rfl
  | (k, d) :: l, _, ks, ⟨v, r, ev, h1, h2⟩, e => by
    cases k with
    | inr x => simp [keysI] at e
    | inl i =>
      simp [keysI] at e
      obtain ⟨c, e1, e2⟩ := e
      subst ev e2
      simp [keysI_of h2 e1]
def dSorted : D → Sto → Out D
  | .dK l, S => match keysI l with
    | some ks => if ks.length < 64 then .ok (.lst ((sortI ks).map .int)) S else .bad
    | none => .bad
  | .lst l, S => match ints? l with
    | some ns => .ok (.lst ((sortI ns).map .int)) S
    | none => .bad
  | _, _ => .bad
theorem dn_sorted (hc : X.calm = true) (hg : Gl X "sorted") (hm : X.mg "sorted" = none) (hv : bootBuiltins "sorted" = some (.builtin "sorted")) (ha : DV X A Ex Γ e f) (he : St1 X e := by rfl) : DN X A Ex Γ (.Call (.Name "sorted" p) [e] [] pos) (b1 f dSorted) :=
  d_b1 (he := he) shN ((call_sortedDI hc).or cr_sortedI) hg hm hv ha fun W S H v d Q wo k an => by
    cases d with
    | dK l =>
      obtain ⟨a, vs, rfl, h, kk, z⟩ := k.dK wo
      unfold dSorted at an
      cases e1 : keysI l with
      | none => simp only [e1] at an; exact an.elim
      | some ks =>
        simp only [e1] at an
        split at an
        · rename_i h64
          refine .inl ⟨a, vs, ks, rfl, h, keysI_of kk e1, h64, fun ys b pm pw nb => ?_⟩
          have e2 : ys = sortI ks := perm_uniq _ _ (pm.trans (sortI_perm ks).symm) pw (sortI_pw ks)
          subst e2
          exact Ans.newL an wo (dens_ints _) (by rw [List.length_map, (sortI_perm ks).length_eq, sizeLine_eq]; omega) b nb
        · exact an.elim
    | lst l =>
      obtain ⟨a, vs, rfl, h, kk, z⟩ := k.lst wo
      unfold dSorted at an
      cases e1 : ints? l with
      | none => simp only [e1] at an; exact an.elim
      | some ns =>
        simp only [e1] at an
        have hus := ints_of kk e1
        subst hus
        refine .inr ⟨a, ns, rfl, SqL.of h, fun ys b pm pw nb => ?_⟩
        have e2 : ys = sortI ns := perm_uniq _ _ (pm.trans (sortI_perm ns).symm) pw (sortI_pw ns)
        subst e2
        exact Ans.newL an wo (dens_ints _) (by rw [List.length_map, (sortI_perm ns).length_eq]; rw [List.length_map] at z; exact z) b nb
    | _ => exact an.elim
end
end Hr

set_option Elab.async false
set_option linter.all false
set_option maxRecDepth 100000
set_option maxHeartbeats 1000000
namespace Hr
open PySem PySem.Spec PyProof.Rows L2
/-! ### enumerate, zip -/
def iEnumA (K : PySem.W.Frag) (ta : TA) : TI := fun σ H R => ta σ H fun vs H1 => ∃ a, vs = [.ref a] ∧ ((∃ xs, SqL K H1 a xs ∧ R (Ite K a) H1) ∨ ∃ xs, SqT K H1 a xs ∧ R (IteT K a) H1)
theorem pi_enumA {X : Cx} {e : Expr} {ta : TA} {p pos tpos : Pos} {elts : List Expr} {kk : Nat} (hg : Gl X "enumerate") (hm : X.mg "enumerate" = none) (ha : PA X [e] ta) (hs : starEach [e] X.env = [(false, eval e X.env)]) :
    PI X (.Tuple elts kk tpos) (.Call (.Name "enumerate" p) [e] [] pos) (iEnumA X.K ta) := by
  refine ⟨fun pins s σ H R I h => ?_⟩
  refine Call_ (ld_blt I hg hm boot_enumerate (PyProof.Rows.callWith_type1 (thn (ha.run pos pins s σ H _ I h) fun us s1 ⟨vs, H1, I1, r1, q1⟩ => ?_) hs rfl))
  obtain ⟨a, ex, hq⟩ := q1
  subst ex
  cases r1 with
  | cons r rr =>
    cases rr
    cases r
    have fin : ∀ b, b ∈ [s1.heap.objs.size + 1, s1.heap.objs.size] → FpOk X pins H1 b := fun b hb => by
      have e' : b = s1.heap.objs.size + 1 ∨ b = s1.heap.objs.size := by simpa using hb
      have hle : s1.heap.objs.size ≤ b := by
        rcases e' with z | z <;> omega
      exact I1.fpOk hle (I1.hok.fresh hle)
    rcases hq with ⟨xs, hq, q⟩ | ⟨xs, hq, q⟩
    · obtain ⟨its, rv, p', hz⟩ := I1.list hq
      refine call_enumerate_list p'.isList fun h' hE hI hS hk => wpAny_pyIter_enum hE ?_
      exact ⟨s1.heap.objs.size + 1, [s1.heap.objs.size + 1, s1.heap.objs.size], _, _, H1, rfl, I1.kept (t' := s1.toks) hk, turn_enum a (s1.heap.objs.size + 1) s1.heap.objs.size, ⟨⟨.none, hE⟩, hI, Nat.succ_ne_self _⟩, fin, q⟩
    · obtain ⟨its, rv, p', hz⟩ := I1.tuple hq
      refine call_enum_tuple p' fun h' hE hI hS hk => wpAny_pyIter_enum hE ?_
      exact ⟨s1.heap.objs.size + 1, [s1.heap.objs.size + 1, s1.heap.objs.size], _, _, H1, rfl, I1.kept (t' := s1.toks) hk, turn_enumT a (s1.heap.objs.size + 1) s1.heap.objs.size, ⟨⟨.none, hE⟩, hI, Nat.succ_ne_self _⟩, fin, q⟩
def enumD : Nat → List D → List D
  | _, [] => []
  | n, d :: l => .tup [.int (n : Nat), d] :: enumD (n + 1) l
theorem enumD_len : ∀ (n : Nat) (l : List D), (enumD n l).length = l.length
  | _, [] => rfl
  | n, d :: l => by simp [enumD, enumD_len (n + 1) l]
theorem enumD_get : ∀ (n i : Nat) (l : List D) (x : D), (enumD n l)[i]? = some x → ∃ d, l[i]? = some d ∧ x = .tup [.int ((n + i : Nat) : Int), d]
  | _, _, [], _, h => by simp [enumD] at h
  | n, 0, d :: l, x, h => by simp [enumD] at h; subst h; exact ⟨d, rfl, rfl⟩
  | n, i + 1, d :: l, x, h => by
    simp [enumD] at h
    obtain ⟨y, h1, h2⟩ := enumD_get (n + 1) i l x h
    exact ⟨y, by simpa using h1, by rw [h2, show n + 1 + i = n + (i + 1) by omega]⟩
/-- a pair just made -/
theorem newPair {A : Amb} {W : Wd} {S : Sto} {H : Hp} {T : Addr} {x y : V} {dx dy : D} (wo : Wok A W S H) (n : H T = none) (kx : Den W dx x) (ky : Den W dy y) : ∃ W', Step W H W' (upd H T (.tup [x, y])) ∧ Wok A W' S (upd H T (.tup [x, y])) ∧ Den W' (.tup [dx, dy]) (.ref T) := by
  have k : Dens W [dx, dy] [x, y] := ⟨x, [y], rfl, kx, y, [], rfl, ky, rfl⟩
  exact ⟨_, (Step.lay wo n).freeze (nw_of n) (wo.frNone n), (wo.lay n).freeze upd_same (wo.tgNone n) (by show 2 ≤ sizeLine; decide) (wo.frNone n), T, _, rfl, upd_same, k.frz (wo.frNone n)⟩
section
variable {A : Amb} {K : PySem.W.Frag}
theorem walks_enumL {W0 : Wd} {a : Addr} {vs : List V} {ds : List D} (f : W0.Fr a = some (.lst vs)) (k : Dens W0 ds vs) (z : vs.length ≤ sizeLine) : Walks A (Ite K a) (enumD 0 ds) W0 where
  go := fun W S H i d wo le e => by
    have h : SqL K H a vs := SqL.of (wo.fr a _ (le.fr _ _ f))
    obtain ⟨d0, e0, ed⟩ := enumD_get 0 i ds d e
    obtain ⟨v, e1, k1⟩ := k.get' e0
    refine ⟨⟨vs, v, h, e1⟩, fun x H' ⟨T, y, q1, q2, q3, q4⟩ => ?_⟩
    have := q4 vs h
    rw [e1] at this
    cases this
    subst q1 q3 ed
    rw [Nat.zero_add]
    exact newPair wo q2 rfl (k1.le le)
  stop := fun W S H wo le => ⟨vs, SqL.of (wo.fr a _ (le.fr _ _ f)), by rw [k.length, enumD_len]; exact Nat.le_refl _⟩
  sz := by rw [enumD_len, ← k.length]; exact z
theorem walks_enumT {W0 : Wd} {a : Addr} {vs : List V} {ds : List D} (f : W0.Fr a = some (.tup vs)) (k : Dens W0 ds vs) (z : vs.length ≤ sizeLine) : Walks A (IteT K a) (enumD 0 ds) W0 where
  go := fun W S H i d wo le e => by
    have h : SqT K H a vs := SqT.of (wo.fr a _ (le.fr _ _ f))
    obtain ⟨d0, e0, ed⟩ := enumD_get 0 i ds d e
    obtain ⟨v, e1, k1⟩ := k.get' e0
    refine ⟨⟨vs, v, h, e1⟩, fun x H' ⟨T, y, q1, q2, q3, q4⟩ => ?_⟩
    have := q4 vs h
    rw [e1] at this
    cases this
    subst q1 q3 ed
    rw [Nat.zero_add]
    exact newPair wo q2 rfl (k1.le le)
  stop := fun W S H wo le => ⟨vs, SqT.of (wo.fr a _ (le.fr _ _ f)), by rw [k.length, enumD_len]⟩
  sz := by rw [enumD_len, ← k.length]; exact z
def zipD : List D → List D → List D
  | a :: l, b :: m => .tup [a, b] :: zipD l m
  | _, _ => []
theorem zipD_len : ∀ (l m : List D), (zipD l m).length = min l.length m.length
  | [], _ => by simp [zipD]
  | _ :: _, [] => by simp [zipD]
  | a :: l, b :: m => by simp [zipD, zipD_len l m]
theorem zipD_get : ∀ (i : Nat) (l m : List D) (x : D), (zipD l m)[i]? = some x → ∃ a b, l[i]? = some a ∧ m[i]? = some b ∧ x = .tup [a, b]
  | _, [], _, _, h => by simp [zipD] at h
  | _, _ :: _, [], _, h => by simp [zipD] at h
  | 0, a :: l, b :: m, x, h => by simp [zipD] at h; subst h; exact ⟨a, b, rfl, rfl, rfl⟩
  | i + 1, a :: l, b :: m, x, h => by
    simp [zipD] at h
    obtain ⟨y, z, h1, h2, h3⟩ := zipD_get i l m x h
    exact ⟨y, z, by simpa using h1, by simpa using h2, h3⟩
theorem walks_zipL {W0 : Wd} {a b : Addr} {vs us : List V} {ds es : List D} (f : W0.Fr a = some (.lst vs)) (k : Dens W0 ds vs) (g : W0.Fr b = some (.lst us)) (k' : Dens W0 es us) (z : vs.length ≤ sizeLine) : Walks A (Itz K a b) (zipD ds es) W0 where
  go := fun W S H i d wo le e => by
    have h : SqL K H a vs := SqL.of (wo.fr a _ (le.fr _ _ f))
    have h' : SqL K H b us := SqL.of (wo.fr b _ (le.fr _ _ g))
    obtain ⟨d0, d1, e0, e1, ed⟩ := zipD_get i ds es d e
    obtain ⟨v, e2, k1⟩ := k.get' e0
    obtain ⟨u, e3, k2⟩ := k'.get' e1
    refine ⟨⟨vs, us, v, u, h, h', e2, e3⟩, fun x H' ⟨T, y, y', q1, q2, q3, q4, q5⟩ => ?_⟩
    have t1 := q4 vs h
    have t2 := q5 us h'
    rw [e2] at t1
    rw [e3] at t2
    cases t1; cases t2
    subst q1 q3 ed
    exact newPair wo q2 (k1.le le) (k2.le le)
  stop := fun W S H wo le => ⟨vs, us, SqL.of (wo.fr a _ (le.fr _ _ f)), SqL.of (wo.fr b _ (le.fr _ _ g)), by rw [k.length, k'.length, zipD_len]; omega⟩
  sz := by rw [zipD_len, ← k.length]; omega
theorem walks_zipT {W0 : Wd} {a b : Addr} {vs us : List V} {ds es : List D} (f : W0.Fr a = some (.tup vs)) (k : Dens W0 ds vs) (g : W0.Fr b = some (.tup us)) (k' : Dens W0 es us) (z : vs.length ≤ sizeLine) : Walks A (RZ.ItzT K a b) (zipD ds es) W0 where
  go := fun W S H i d wo le e => by
    have h : SqT K H a vs := SqT.of (wo.fr a _ (le.fr _ _ f))
    have h' : SqT K H b us := SqT.of (wo.fr b _ (le.fr _ _ g))
    obtain ⟨d0, d1, e0, e1, ed⟩ := zipD_get i ds es d e
    obtain ⟨v, e2, k1⟩ := k.get' e0
    obtain ⟨u, e3, k2⟩ := k'.get' e1
    refine ⟨⟨vs, us, v, u, h, h', e2, e3⟩, fun x H' ⟨T, y, y', q1, q2, q3, q4, q5⟩ => ?_⟩
    have t1 := q4 vs h
    have t2 := q5 us h'
    rw [e2] at t1
    rw [e3] at t2
    cases t1; cases t2
    subst q1 q3 ed
    exact newPair wo q2 (k1.le le) (k2.le le)
  stop := fun W S H wo le => ⟨vs, us, SqT.of (wo.fr a _ (le.fr _ _ f)), SqT.of (wo.fr b _ (le.fr _ _ g)), by rw [k.length, k'.length, zipD_len]; omega⟩
  sz := by rw [zipD_len, ← k.length]; omega
end
def enumF (fas : Ev (List D)) : Ev (List D) := b1 fas fun l S => match l with
  | [.lst l] => .ok (enumD 0 l) S
  | [.tup l] => .ok (enumD 0 l) S
  | _ => .bad
def zipF (fas : Ev (List D)) : Ev (List D) := b1 fas fun l S => match l with
  | [.lst l, .lst m] => .ok (zipD l m) S
  | [.tup l, .tup m] => .ok (zipD l m) S
  | _ => .bad
section
variable {X : Cx} {A : Amb} {Ex : XK} {Γ : List Nat} {e e2 : Expr} {fas : Ev (List D)} {p pos tpos : Pos} {elts : List Expr} {kk : Nat}
theorem di_enum (hg : Gl X "enumerate") (hm : X.mg "enumerate" = none) (ha : DA X A Ex Γ [e] fas) (hs : starEach [e] X.env = [(false, eval e X.env)] := by rfl) : DI X A Ex Γ (.Tuple elts kk tpos) (.Call (.Name "enumerate" p) [e] [] pos) (enumF fas) :=
  (pi_enumA hg hm ha.pa hs).of fun σ H R ⟨W, ρ, S, wo, sl, an⟩ => seqR shW wo sl an fun ds S1 W1 H1 vs s1 wo1 k1 sl1 an1 => by
    split at an1
    · obtain ⟨v, r, rfl, ⟨a, us, rfl, f, k⟩, q2⟩ := k1
      cases q2
      exact ⟨a, rfl, .inl ⟨us, SqL.of (wo1.fr a _ f), an1.done wo1 (walks_enumL f k (wo1.sz a _ f))⟩⟩
    · obtain ⟨v, r, rfl, ⟨a, us, rfl, f, k⟩, q2⟩ := k1
      cases q2
      exact ⟨a, rfl, .inr ⟨us, SqT.of (wo1.fr a _ f), an1.done wo1 (walks_enumT f k (wo1.sz a _ f))⟩⟩
    · exact an1.elim
theorem di_zip (hg : Gl X "zip") (hm : X.mg "zip" = none) (ha : DA X A Ex Γ [e, e2] fas) (hs : starEach [e, e2] X.env = (false, eval e X.env) :: starEach [e2] X.env := by rfl) (hpl : (backTo pos (starEach [e2] X.env)).any (·.1) = false := by rfl) : DI X A Ex Γ (.Tuple elts kk tpos) (.Call (.Name "zip" p) [e, e2] [] pos) (zipF fas) :=
  (RZ.pi_zipA hg hm ha.pa hs hpl).of fun σ H R ⟨W, ρ, S, wo, sl, an⟩ => seqR shW wo sl an fun ds S1 W1 H1 vs s1 wo1 k1 sl1 an1 => by
    split at an1
    · obtain ⟨v, r, rfl, ⟨a, us, rfl, f, k⟩, v', r', rfl, ⟨b, us', rfl, f', k'⟩, q2⟩ := k1
      cases q2
      exact ⟨a, b, us, us', rfl, .inl ⟨SqL.of (wo1.fr a _ f), SqL.of (wo1.fr b _ f'), an1.done wo1 (walks_zipL f k f' k' (wo1.sz a _ f))⟩⟩
    · obtain ⟨v, r, rfl, ⟨a, us, rfl, f, k⟩, v', r', rfl, ⟨b, us', rfl, f', k'⟩, q2⟩ := k1
      cases q2
      exact ⟨a, b, us, us', rfl, .inr ⟨SqT.of (wo1.fr a _ f), SqT.of (wo1.fr b _ f'), an1.done wo1 (walks_zipT f k f' k' (wo1.sz a _ f))⟩⟩
    · exact an1.elim
end
/-! ### raise C('..') -/
def sRaise (c : Nat) : Sv := fun _ S => .exc c S
theorem ds_raise {X : Cx} {E : En} {Γ Γ' Γc : List Nat} {e : Expr} {pos : Pos} (c : Nat) (hc : X.calm = true) (tk : Takes X (fun cls d _ H => E.Ex cls d H)) (he : PMk X e (fun _ H Q => Q (.ref (E.A.cl c)) none H)) : DS X E Γ Γ' Γc (.Raise (some e) none pos) (sRaise c) :=
  (ps_raise hc tk he).of fun D σ H ⟨W, ρ, S, so, an⟩ => an W H so.wo so.st
theorem ends_ret (f : Ev D) : Ends' (sRet f) := fun ρ S ρ' S' e => by
  unfold sRet at e
  cases h : f ρ S with
  | ok d S1 => rw [h] at e; exact nomatch e
  | exc c S1 => rw [h] at e; exact nomatch e
  | bad => rw [h] at e; exact nomatch e
theorem ends_raise (c : Nat) : Ends' (sRaise c) := fun ρ S ρ' S' e => nomatch e
theorem ends_seq {F G : Sv} (h : Ends' G) : Ends' (sSeq F G) := fun ρ S ρ' S' e => by
  unfold sSeq at e
  cases q : F ρ S with
  | ok fl S1 => cases fl with
    | nx ρ1 => rw [q] at e; exact h _ _ _ _ e
    | ct ρ1 => rw [q] at e; exact nomatch e
    | ret d => rw [q] at e; exact nomatch e
  | exc c S1 => rw [q] at e; exact nomatch e
  | bad => rw [q] at e; exact nomatch e
theorem ends_seq1 {F G : Sv} (h : Ends' F) : Ends' (sSeq F G) := fun ρ S ρ' S' e => by
  unfold sSeq at e
  cases q : F ρ S with
  | ok fl S1 => cases fl with
    | nx ρ1 => exact h _ _ _ _ q
    | ct ρ1 => rw [q] at e; exact nomatch e
    | ret d => rw [q] at e; exact nomatch e
  | exc c S1 => rw [q] at e; exact nomatch e
  | bad => rw [q] at e; exact nomatch e
theorem ends_if {t : Ev Bool} {F G : Sv} (h1 : Ends' F) (h2 : Ends' G) : Ends' (sIf t F G) := fun ρ S ρ' S' e => by
  unfold sIf at e
  cases q : t ρ S with
  | ok b S1 =>
    rw [q] at e
    simp only [Out.bind_ok] at e
    split at e
    · exact h1 _ _ _ _ e
    · exact h2 _ _ _ _ e
  | exc c S1 => rw [q] at e; exact nomatch e
  | bad => rw [q] at e; exact nomatch e
end Hr

set_option Elab.async false
set_option linter.all false
set_option maxRecDepth 100000
set_option maxHeartbeats 1000000
namespace Hr
open PySem PySem.Spec PyProof.Rows L2
theorem bt_len : bootBuiltins "len" = some (.builtin "len") := by decide +kernel
theorem bt_int : bootBuiltins "int" = some (.type "int") := by decide +kernel
theorem bt_bool : bootBuiltins "bool" = some (.type "bool") := by decide +kernel
theorem bt_str : bootBuiltins "str" = some (.type "str") := by decide +kernel
theorem bt_list : bootBuiltins "list" = some (.type "list") := by decide +kernel
theorem bt_tuple : bootBuiltins "tuple" = some (.type "tuple") := by decide +kernel
theorem bt_dict : bootBuiltins "dict" = some (.type "dict") := by decide +kernel
theorem bt_set : bootBuiltins "set" = some (.type "set") := by decide +kernel
theorem bt_min : bootBuiltins "min" = some (.builtin "min") := by decide +kernel
theorem bt_max : bootBuiltins "max" = some (.builtin "max") := by decide +kernel
theorem bt_all : bootBuiltins "all" = some (.builtin "all") := by decide +kernel
theorem bt_any : bootBuiltins "any" = some (.builtin "any") := by decide +kernel
theorem bt_sum : bootBuiltins "sum" = some (.builtin "sum") := by decide +kernel
theorem bt_sorted : bootBuiltins "sorted" = some (.builtin "sorted") := by decide +kernel
theorem bt_isinstance : bootBuiltins "isinstance" = some (.builtin "isinstance") := by decide +kernel
theorem hu65 {A : Around} {k : Nat} (hr : Room k A) : A.units + 65 < cLine := by have := hr.un; omega
/-- the code object of a def that stands at f -/
def FnCode (K : PySem.W.Frag) (f : Addr) (cdv : Value) : Prop := ∃ (oc : Value) (od : Option Addr) (fd : FuncData) (osl : Array (Option Value)) (c : Addr), K.lookup f = some ⟨oc, od, .func fd, osl⟩ ∧ fd.code = .ref c ∧ cdv = .ref c
theorem code_of {K : PySem.W.Frag} {x : Str} {cdv : Value} (h : FnCode K (He.ga K x) cdv) : cdv = .ref (He.codeOf K (x, none)) := by
  obtain ⟨oc, od, fd, osl, c, lk, e, rfl⟩ := h
  rw [He.codeOf_eq (p := (x, none)) lk e]
/-- a def of the module keeps its meaning m -/
def FOk (P : Program) (w : World) (K : PySem.W.Frag) (mg : Str → Option Value) (base : Heap) (A : Amb) (x : Str) (lvl : Nat) (ps : List Str) (Rt : RR D V) (m : List D → Sto → Out D) : Prop :=
  mg x = some (.ref (He.ga K x)) ∧ PySem.W.keepIn K (.ref (He.ga K x)) = true ∧ ∃ fd, Binds K fd ps [] ∧ FnOk P w K mg base (CX P w) lvl (He.ga K x) fd ps (spF A Rt ps.length m)
theorem fnG {fd : FuncData} {P : Program} {w : World} {K : PySem.W.Frag} {mg : Str → Option Value} {base : Heap} {x q : Str} {f : Addr} {pa : Arguments} {bd : List Stmt} {sc : Scope} {N ps : List Str} {k : Nat} {A : Amb} {Rt : RR D V} {F : Sv} {Go : List Nat} 
    (G : FunD K x q pa bd sc [] [] f fd) (S : FnScope N ps sc)
    (hd : ∀ (H : Hp) (W' : Wd) (H' : Hp), Rt H W' H' .non .non ∨ Ends' F)
    (hbody : ∀ (cdv : Value) (Ar : Around) (outer : List Env) (s : Shared) (H : Hp) (E : XK) (W : Wd), FnCode K f cdv → Room k (Ar.deeper (envOfC q sc s.heap.objs.size f cdv)) →
      Takes (cxOf (L2.CX P w) P w K mg base N q sc f cdv Ar outer s H E) (fun cls d _ H => E cls d H) →
      PassesOwn (model P w) (cxOf (L2.CX P w) P w K mg base N q sc f cdv Ar outer s H E).A (cxOf (L2.CX P w) P w K mg base N q sc f cdv Ar outer s H E).env (cxOf (L2.CX P w) P w K mg base N q sc f cdv Ar outer s H E).xe →
      Passes (L2.CX P w) (cxOf (L2.CX P w) P w K mg base N q sc f cdv Ar outer s H E) E →
      DSs (cxOf (L2.CX P w) P w K mg base N q sc f cdv Ar outer s H E) ⟨A, E, Rt, W, H⟩ [] Go [] bd F) : FnOk P w K mg base (CX P w) (k + 1) f fd ps (spF A Rt ps.length (runB N.length F)) := by
  obtain ⟨oc, od, dV, kV, doc, pm, an, cdv, ct, osl, rfl, lk, hcd, _, _⟩ := G.ex
  have hc : FnCode K f cdv := by
    obtain ⟨c, rfl⟩ := He.codeIn_ref hcd
    exact ⟨_, _, _, _, c, lk, rfl, rfl⟩
  refine fn_of lk hcd S (fun vs H Q E ⟨W, S, ds, _, k1, k2, _⟩ => by rw [k1.length, k2]) fun Ar outer s H vs Q E hr ⟨W, S, ds, wo, k1, k2, an⟩ => ⟨tS ⟨A, E, Rt, W, H⟩ [] Go [] F, ?_, W, startR N.length ds, S, ⟨wo, start_sl k1, .refl, fun i d a m => nomatch m⟩, ?_⟩
  · have tk : Takes (cxOf (L2.CX P w) P w K mg base N q sc f cdv Ar outer s H E) (fun cls d _ H => E cls d H) := takes_of rfl rfl rfl rfl
    exact hbody cdv Ar outer s H E W hc hr tk (passes_of rfl) (passes_call tk fun _ _ _ _ h => h)
  · unfold runB at an
    generalize hF : F (startR N.length ds) S = r at an
    cases r with
    | ok fl S1 => cases fl with
      | nx ρ =>
        intro W1 H1 σ1 so1 _
        rcases hd H W1 H1 with q | q
        · exact an W1 H1 .non so1.st so1.wo q
        · exact absurd hF (q _ _ _ _)
      | ct ρ => exact an.elim
      | ret d => exact fun W1 H1 v wo1 s1 q => an W1 H1 v s1 wo1 q
    | exc c S1 => exact fun W1 H1 wo1 s1 => an W1 H1 s1 wo1
    | bad => exact an
theorem fnL {fd : FuncData} {P : Program} {w : World} {K : PySem.W.Frag} {mg : Str → Option Value} {base : Heap} {x : Str} {pa : Arguments} {bd : List Stmt} {sc : Scope} {N ps : List Str} {k : Nat} {A : Amb} {Rt : RR D V} {F : Sv} {Go : List Nat} 
    (G : FunD K x x pa bd sc [] [] (He.ga K x) fd) (S : FnScope N ps sc)
    (hd : ∀ (H : Hp) (W' : Wd) (H' : Hp), Rt H W' H' .non .non ∨ Ends' F)
    (hbody : ∀ (cdv : Value) (Ar : Around) (outer : List Env) (s : Shared) (H : Hp) (E : XK) (W : Wd), FnCode K (He.ga K x) cdv → Room k (Ar.deeper (envOfC x sc s.heap.objs.size (He.ga K x) cdv)) →
      Takes (cxOf (CX0) P w K mg base N x sc (He.ga K x) cdv Ar outer s H E) (fun _ _ _ _ => False) →
      PassesOwn (model P w) (cxOf (CX0) P w K mg base N x sc (He.ga K x) cdv Ar outer s H E).A (cxOf (CX0) P w K mg base N x sc (He.ga K x) cdv Ar outer s H E).env (cxOf (CX0) P w K mg base N x sc (He.ga K x) cdv Ar outer s H E).xe →
      Passes (L2.CX P w) (cxOf (CX0) P w K mg base N x sc (He.ga K x) cdv Ar outer s H E) XF →
      DSs (cxOf (CX0) P w K mg base N x sc (He.ga K x) cdv Ar outer s H E) ⟨A, XF, Rt, W, H⟩ [] Go [] bd F) : FnOk P w K mg base CX0 (k + 1) (He.ga K x) fd ps (fun vs H Q _ => spF A Rt ps.length (runB N.length F) vs H Q XF) := by
  obtain ⟨oc, od, dV, kV, doc, pm, an, cdv, ct, osl, rfl, lk, hcd, _, _⟩ := G.ex
  have hc : FnCode K (He.ga K x) cdv := by
    obtain ⟨c, rfl⟩ := He.codeIn_ref hcd
    exact ⟨_, _, _, _, c, lk, rfl, rfl⟩
  refine fn_of lk hcd S (fun vs H Q E ⟨W, S, ds, _, k1, k2, _⟩ => by rw [k1.length, k2]) fun Ar outer s H vs Q E hr ⟨W, S, ds, wo, k1, k2, an⟩ => ⟨tS ⟨A, XF, Rt, W, H⟩ [] Go [] F, ?_, W, startR N.length ds, S, ⟨wo, start_sl k1, .refl, fun i d a m => nomatch m⟩, ?_⟩
  · exact hbody cdv Ar outer s H E W hc hr takes0 (passes_of rfl) passL
  · unfold runB at an
    generalize hF : F (startR N.length ds) S = r at an
    cases r with
    | ok fl S1 => cases fl with
      | nx ρ =>
        intro W1 H1 σ1 so1 _
        rcases hd H W1 H1 with q | q
        · exact an W1 H1 .non so1.st so1.wo q
        · exact absurd hF (q _ _ _ _)
      | ct ρ => exact an.elim
      | ret d => exact fun W1 H1 v wo1 s1 q => an W1 H1 v s1 wo1 q
    | exc c S1 => exact fun W1 H1 wo1 s1 => an W1 H1 s1 wo1
    | bad => exact an
theorem fnF {P : Program} {w : World} {K : PySem.W.Frag} {mg : Str → Option Value} {base : Heap} {x : Str} {pa : Arguments} {bd : List Stmt} {sc : Scope} {N ps : List Str} {k : Nat} {A : Amb} {Rt : RR D V} {F : Sv} {Go : List Nat} (hg : mg x = some (.ref (He.ga K x)))
    (G : ∃ fd, FunD K x x pa bd sc [] [] (He.ga K x) fd) (S : FnScope N ps sc)
    (hb : ∀ (kV doc pm : Value) (an : Option Addr) (cdv ct : Value) (us : List Value), us.length = ps.length → bindArgs (PySem.W.fnOf x x pa bd sc .none kV doc pm an cdv ct) ⟨us, []⟩ = pure (ps.zip us))
    (hd : ∀ (H : Hp) (W' : Wd) (H' : Hp), Rt H W' H' .non .non ∨ Ends' F)
    (hbody : ∀ (cdv : Value) (Ar : Around) (outer : List Env) (s : Shared) (H : Hp) (E : XK) (W : Wd), FnCode K (He.ga K x) cdv → Room k (Ar.deeper (envOfC x sc s.heap.objs.size (He.ga K x) cdv)) →
      Takes (cxOf (L2.CX P w) P w K mg base N x sc (He.ga K x) cdv Ar outer s H E) (fun cls d _ H => E cls d H) →
      PassesOwn (model P w) (cxOf (L2.CX P w) P w K mg base N x sc (He.ga K x) cdv Ar outer s H E).A (cxOf (L2.CX P w) P w K mg base N x sc (He.ga K x) cdv Ar outer s H E).env (cxOf (L2.CX P w) P w K mg base N x sc (He.ga K x) cdv Ar outer s H E).xe →
      Passes (L2.CX P w) (cxOf (L2.CX P w) P w K mg base N x sc (He.ga K x) cdv Ar outer s H E) E →
      DSs (cxOf (L2.CX P w) P w K mg base N x sc (He.ga K x) cdv Ar outer s H E) ⟨A, E, Rt, W, H⟩ [] Go [] bd F) : FOk P w K mg base A x (k + 1) ps Rt (runB N.length F) := by
  obtain ⟨fd, G⟩ := G
  exact ⟨hg, G.kp, fd, G.bindsN hb, fnG G S hd hbody⟩
/-- with no fuel nothing is promised -/
theorem fn0 {P : Program} {w : World} {K : PySem.W.Frag} {mg : Str → Option Value} {base : Heap} {x : Str} {pa : Arguments} {bd : List Stmt} {sc : Scope} {ps : List Str} {k : Nat} {A : Amb} {Rt : RR D V} (hg : mg x = some (.ref (He.ga K x)))
    (G : ∃ fd, FunD K x x pa bd sc [] [] (He.ga K x) fd)
    (hb : ∀ (kV doc pm : Value) (an : Option Addr) (cdv ct : Value) (us : List Value), us.length = ps.length → bindArgs (PySem.W.fnOf x x pa bd sc .none kV doc pm an cdv ct) ⟨us, []⟩ = pure (ps.zip us)) : FOk P w K mg base A x k ps Rt (fun _ _ => .bad) := by
  obtain ⟨fd, G⟩ := G
  refine ⟨hg, G.kp, fd, G.bindsN hb, ⟨fun vs H Q E ⟨W, S, ds, _, _, _, an⟩ => an.elim, fun _ _ _ _ _ _ _ _ _ _ _ _ _ ⟨W, S, ds, _, _, _, an⟩ => an.elim⟩⟩
theorem FOk.mono {P : Program} {w : World} {K : PySem.W.Frag} {mg : Str → Option Value} {base : Heap} {A : Amb} {x : Str} {j k : Nat} {ps : List Str} {Rt : RR D V} {m : List D → Sto → Out D} (h : FOk P w K mg base A x j ps Rt m) (l : j ≤ k) : FOk P w K mg base A x k ps Rt m := by
  obtain ⟨h1, h2, fd, h3, h4⟩ := h
  exact ⟨h1, h2, fd, h3, h4.mono l⟩
section
variable {X : Cx} {A : Amb} {Ex : XK} {Γ : List Nat} {k lvl : Nat} {ps : List Str} {x : Str} {p pos : Pos} {e : Expr} {es : List Expr} {m : List D → Sto → Out D} {fas : Ev (List D)} {R : RR D V}
theorem d_f (hR : Shift R) (F : FOk X.prog X.w X.K X.mg X.base A x lvl ps R m) (hr : Room lvl X.A) (hg : Gl X x) (hx : Passes (CX X.prog X.w) X Ex) (ha : DA X A Ex Γ (e :: es) fas) (hn : (e :: es).length = ps.length := by rfl) (hdb : (x == ("__debug__" : Str)) = false := by decide)
    (he : starEach (e :: es) X.env = (false, eval e X.env) :: starEach es X.env := by rfl) (hpl : (backTo pos (starEach es X.env)).any (·.1) = false := by rfl) : PE X (.Call (.Name x p) (e :: es) [] pos) (tR A Ex Γ R (b1 fas m)) := by
  obtain ⟨h1, h2, fd, h3, h4⟩ := F
  exact d_call hR h4 hr hg h1 h2 h3 hx ha hn hdb he hpl
end
/-- the classes of errors -/

def amb (K : PySem.W.Frag) (T : List (Addr × Str)) (pu : Bool := false) : Amb := ⟨K, He.ga K "Show", fun c => He.ga K (excN.getD c "ShowError"), T, pu⟩
theorem pmkX {X : Cx} {x m : Str} {j : Nat} {p p2 pos : Pos} (c : (He.Fa.exc x).ok X.K = true) (gC : X.mg x = some (.ref (He.ga X.K x))) (hg : Gl X x) (hdb : (x == ("__debug__" : Str)) = false := by decide) :
    PMk X (.Call (.Name x p) [.Constant (.str m) j p2] [] pos) (fun _ H Q => Q (.ref (He.ga X.K x)) none H) := by
  have h := He.exc_ok c
  exact pmk_own PySem.F.excBase_ValueError h.1 gC h.2.1 (raises_own h.2.2.1 (by first | exact h.2.2.2 | exact h.2.2.2.1)) hg hdb
/-- the script and the tables, to begin with -/
theorem law_sp {K : PySem.W.Frag} {A : Amb} (hK : A.K = K) (hP : A.pu = false) {m : List D → Sto → Out D} {H : Hp} {a : Addr} {ns : List Int} (hm : ∃ S', m [.scr ns] [] = .ok (.bl true) S') (hT : LamX.Tabs A.T H) (hS : SqL K H a (ns.map V.int)) (hl : ns.length ≤ 63) :
    spF A rD 1 m [.ref a] H (fun v _ => v = .bl true) fun _ _ _ => False := by
  obtain ⟨S', hm⟩ := hm
  refine ⟨⟨fun b => match H b with
    | some (.frz o (.lst xs)) => some (.frz o (.lst xs))
    | some (.lst xs) => if xs.length ≤ sizeLine then some (.lst xs) else none
    | _ => none, fun _ => none, fun _ => none, K, fun _ => none, false⟩, [], [.scr ns], ⟨?_, ?_, fun _ _ _ => rfl, fun n ob e => by simp at e, fun _ _ => rfl, (fun _ _ e => nomatch e), hK.symm, hT, (fun _ _ e => nomatch e), hP.symm⟩, ?_, rfl, ?_⟩
  · intro b o e
    simp only at e
    split at e
    · rename_i q
      cases e
      exact q
    · rename_i q
      split at e
      · cases e; exact q
      · exact nomatch e
    · exact nomatch e
  · intro b o e
    simp only at e
    split at e
    · cases e
      exact trivial
    · split at e
      · rename_i z; cases e; exact z
      · exact nomatch e
    · exact nomatch e
  · refine ⟨_, _, rfl, ⟨a, rfl, ?_⟩, rfl⟩
    rcases hS with (q | ⟨o, q⟩) | q
    · refine .inl (.inl ?_)
      simp only [q]
      rw [if_pos (by rw [List.length_map, sizeLine_eq]; omega)]
    · exact .inl (.inr ⟨o, by simp only [q]⟩)
    · exact .inr q
  · rw [hm]
    intro W' H' v _ _ k
    exact k
end Hr

set_option Elab.async false
set_option linter.all false
set_option maxRecDepth 100000
set_option maxHeartbeats 1000000
namespace Hr
open PySem PySem.Spec PyProof.Rows L2

/-! ### the exception that is held: its classes -/
theorem call_isP {X : Cx} {a D : Addr} {oe : Obj} (C : ExcC X.K D) (hz : Zc (.ref D) none oe) (hf : ∃ vs, oe.data = .fields vs) (hp : (a, oe) ∈ X.pn) : CallR X (.builtin "isinstance") (rIsE X.K D a) := by
  intro pins s σ H xs us Q I rl h
  obtain ⟨c, cv, b, rfl, hcv, e, q⟩ := h
  cases rl with
  | cons rx rr => cases rr with
   | cons rt rr =>
    cases rr
    cases rx
    cases hcv _ rt
    have hget := (I.pin (a, oe) (List.mem_append_left _ hp)).1
    obtain ⟨vs, hv⟩ := hf
    have J : PySem.W.InstAt s.heap a oe D none := by
      obtain ⟨h1, h2⟩ := hz
      obtain ⟨oc, od, oda, osl⟩ := oe
      simp only at h1 h2 hv
      subst h1 h2 hv
      exact ⟨hget, rfl, rfl, trivial⟩
    exact PySem.W.kia_one (PySem.W.handS_kitx_exc C.hg C.hk C.hs C.hd C.ha C.hn C.ht C.hm) I.kIn J e (fun z => nomatch z) fun tk => ⟨.bl b, H, I.kept (t' := tk) fun _ _ z => z, rfl, q⟩
def isx (a : Addr) (b : Bool) (i : Nat) : Ev D := fun ρ S => match ρ[i]? with
  | some (some (.exn a')) => if a' = a then .ok (.bl b) S else .bad
  | _ => .bad
section
variable {X : Cx} {A : Amb} {Ex : XK} {Γ : List Nat} {p p1 p2 pos : Pos}
theorem de_isx {i : Nat} {n x : Str} {a Dc : Addr} {oe : Obj} {b : Bool} {cV : V} {cv : Value} (C : ExcC X.K Dc) (hz : Zc (.ref Dc) none oe) (hf : ∃ vs, oe.data = .fields vs) (hp : (a, oe) ∈ X.pn) (hgl : Gl X "isinstance") (hm : X.mg "isinstance" = none)
    (hv : PE X (.Name n p1) (tVar i)) (hi : i ∉ Γ) (hc : PE X (.Name x p2) (tC cV)) (hrel : ∀ u, RelV cV u → u = cv) (hk : PySem.W.kitOne X.K (.ref Dc) cv = some b) :
    DE X A Ex Γ (.Call (.Name "isinstance" p) [.Name n p1, .Name x p2] [] pos) (isx a b i) :=
  (pe_callB (call_isP C hz hf hp) hgl hm bt_isinstance (pa_cons hv (pa_cons hc pa_nil rfl) rfl) (by decide) (by decide) rfl rfl).of fun σ H Q ⟨W, ρ, S, wo, sl, an⟩ => by
    unfold isx at an
    split at an
    · rename_i a' e
      split at an
      · rename_i ea
        subst ea
        obtain ⟨v, ev, dv⟩ := sl.den i _ e hi
        cases (show v = .ref a' from dv)
        exact ⟨_, ev, cV, cv, b, rfl, hrel, hk, an.done wo rfl⟩
      · exact an.elim
    · exact an.elim
end

/-! ### a def called in the except suite -/
theorem run_hot {X : Cx} {pins : List (Addr × Obj)} {σ : L2.St} {H : Hp} {s : Shared} {Q : VK} {k : Nat} {f : Addr} {name qual : Str} {params : Arguments} {body : List Stmt} {scope : Scope} {dV kV doc pm cdv ct oc : Value} {an od : Option Addr}
    {osl : Array (Option Value)} {N ps : List Str} {us : List Value} {vs : List V} {p : Addr × Obj} (lk : X.K.lookup f = some ⟨oc, od, .func (PySem.W.fnOf name qual params body scope dV kV doc pm an cdv ct), osl⟩) (hcd : PySem.W.codeIn X.K cdv qual = true)
    (S : FnScope N ps scope) (hr : L2H.RoomH (k + 1) X.A) (hp : p ∈ X.pn) (hb : Binds X.K (PySem.W.fnOf name qual params body scope dV kV doc pm an cdv ct) ps []) (I : Inv X pins σ H s) (r : Vals vs us) (hl : vs.length = ps.length)
    (hbody : L2H.RoomH k (X.A.deeper (envOfC qual scope s.heap.objs.size f cdv)) → ∃ t, PSs (L2H.cxH CX0 X.prog X.w X.K X.mg X.base N qual scope f cdv X.A X.stack s H XF p) body t ∧ t { nx := fun _ H' => Q .non H', rt := Q } (L2.start N vs) H) :
    wpAny (model X.prog X.w) X.A (call (.ref f) us) (EP X pins σ Q) X.xe s := by
  have P1 := I.pin p (List.mem_append_left _ hp)
  have hpin : L2H.PinOk X.stack H s p := ⟨P1.1, P1.2.1, fun hm => (List.mem_cons.mp (I.stkSub p.1 hm)).elim P1.2.2.1 P1.2.2.2.1, P1.2.2.2.2⟩
  have e0 := I.env0
  have lu : us.length = ps.length := by rw [← r.length]; exact hl
  have b0 := hb s us I.kIn (by rw [List.append_nil]; exact lu)
  rw [List.append_nil] at b0
  have KX : X.K.In s.heap := e0.mod.kin.keeps fun b o e => (e0.bs b o e).1
  have lim : s.heap.NoLimit := e0.mod.nolimit.keeps fun b o e => (e0.bs b o e).1
  have hkind : ∀ y ∈ ps.zip us, scope.names.lookup y.1 = some .local ∨ (scope.names.lookup y.1 = some .cell ∧ ((cellsFrom (s.heap.objs.size + 1) scope.names []).lookup y.1).isSome = true) := fun ⟨n, v⟩ hy => (S.par n (List.of_mem_zip hy).1).imp id fun q => ⟨q, PySem.W.cellsFrom_some _ _ _ (.inl q)⟩
  have go : codeAny (model X.prog X.w) X.A (.call (.ref f) ⟨us, []⟩) (CR CX0 X.stack X.prog X.w H s Q XF) s := by
    refine codeAny_call_function hr.depth (KX _ _ lk) rfl S.co S.gen rfl (PySem.W.codeRec_of KX hcd) (b0 _ _ _ _ ?_)
    refine wpAny_newFunctionEnv_cells S.kind hkind fun env he s1 x => ?_
    subst he
    refine ⟨lim.keeps x.toInCall.keep, codeAny_func ?_⟩
    obtain ⟨t, ht, hq⟩ := hbody (hr.deeper _)
    have J0 := L2H.inv_startH (CX := CX0) (E := XF) (cd := cdv) (f := f) (qual := qual) S hpin e0 hl r x
    refine wpAny_mono (ht.run [] s1 _ H _ J0 hq) (fun fl s' hs => ?_) fun e s' hs => hs
    match fl, hs with
    | .ret u, ⟨v, σ', H', J, rv, q⟩ => exact ⟨v, H', J.os, J.bare, J.base, J.hok, rv, q⟩
    | .next, ⟨σ', H', J, q⟩ => exact ⟨.non, H', J.os, J.bare, J.base, J.hok, rfl, q⟩
    | .brk, ⟨_, _, _, q⟩ => exact q.elim
    | .cont, ⟨_, _, _, q⟩ => exact q.elim
  refine wpAny_call (codeAny_mono go fun r s' hq => ?_)
  match r, hq with
  | .error e, hq => exact (show False from hq).elim
  | .ok (.ret u), hq => exact I.after hq
  | .ok .next, hq => exact (show False from hq).elim
  | .ok .brk, hq => exact (show False from hq).elim
  | .ok .cont, hq => exact (show False from hq).elim

/-! ### told -/
/-- _law_class(e) in the suite -/
def tCls (A : Amb) (a : Addr) (i : Nat) (z : Str) : TE := fun σ H Q => σ[i]? = some (some (.ref a)) ∧ ∃ W S, Wok A W S H ∧ ∀ W1 H1, Step W H W1 H1 → Wok A W1 S H1 → Q (.str z) H1
/-- what _law_class has to do: tw, the words of the classes -/
def ClsOk (P : Program) (w : World) (K : PySem.W.Frag) (mg : Str → Option Value) (base : Heap) (A : Amb) (xc : Str) (k : Nat) (tw : Nat → Option Str) : Prop :=
  mg xc = some (.ref (He.ga K xc)) ∧ PySem.W.keepIn K (.ref (He.ga K xc)) = true ∧
  ∀ (X : Cx) (pins : List (Addr × Obj)) (σ : L2.St) (H : Hp) (s : Shared) (Q : VK) (a : Addr) (oe : Obj) (c : Nat) (z : Str), X.prog = P → X.w = w → X.K = K → X.mg = mg → X.base = base → tw c = some z → Zc (.ref (A.cl c)) none oe → (∃ vs, oe.data = .fields vs) → (a, oe) ∈ X.pn → L2H.RoomH k X.A →
    Inv X pins σ H s → (∃ W S, Wok A W S H ∧ ∀ W1 H1, Step W H W1 H1 → Wok A W1 S H1 → Q (.str z) H1) → wpAny (model X.prog X.w) X.A (call (.ref (He.ga K xc)) [.ref a]) (EP X pins σ Q) X.xe s
theorem star1 {n : Str} {p : Pos} {env : Env} : starEach [.Name n p] env = (false, eval (.Name n p) env) :: starEach [] env := by rfl
theorem star0 {pos : Pos} {env : Env} : (backTo pos (starEach [] env)).any (·.1) = false := by rfl
theorem pe_cls {X : Cx} {A : Amb} {xc n : Str} {k i c : Nat} {tw : Nat → Option Str} {a : Addr} {oe : Obj} {z : Str} {p p1 pos : Pos} (F : ClsOk X.prog X.w X.K X.mg X.base A xc k tw) (hg : Gl X xc) (hr : L2H.RoomH k X.A) (hv : PE X (.Name n p1) (tVar i)) (ht : tw c = some z) (hz : Zc (.ref (A.cl c)) none oe)
    (hf : ∃ vs, oe.data = .fields vs) (hp : (a, oe) ∈ X.pn) (hdb : (xc == ("__debug__" : Str)) = false := by decide) : PE X (.Call (.Name xc p) [.Name n p1] [] pos) (tCls A a i z) := by
  obtain ⟨h1, h2, h3⟩ := F
  refine ⟨fun pins s σ H Q I h => ?_⟩
  obtain ⟨h4, h5⟩ := h
  refine wpAny_Call_Name_kw (ld_glob I hg h1 ?_ hdb)
  refine PySem.W.callWith_K (h₀ := X.base) I.ok.mod.kin h2 (thn ((pa_cons hv pa_nil star1).run pos pins s σ H (fun vs H1 => vs = [.ref a] ∧ H1 = H) I (by exact ⟨.ref a, h4, rfl, rfl⟩)) fun us s1 ⟨vs, H1, I1, r, e1, e2⟩ => ⟨I1.kIn, ?_⟩) star1 star0
  subst e1 e2
  obtain ⟨u, rfl, ru⟩ := vals1 r
  cases ru
  exact h3 X pins σ _ s1 Q a oe c z rfl rfl rfl rfl rfl ht hz hf hp hr I1 h5
def told (tw : Nat → Option Str) (f : Ev D) : Ev D := fun ρ S => match f ρ S with
  | .ok d S' => .ok d S'
  | .exc c S' => match tw c with
    | some z => .ok (.str z) S'
    | none => .bad
  | .bad => .bad
/-- what the lambda's reading has to give -/
def TTold (K : PySem.W.Frag) (A : Amb) (CS : Addr) (tw : Nat → Option Str) : (XK → Hp → VK → Prop) → Hp → VK → Prop := fun tl H Q =>
  tl (fun cls d H' => d = none ∧ PySem.W.exmOne K cls (.ref CS) = some true ∧ ∃ c z, cls = .ref (A.cl c) ∧ tw c = some z ∧ ∃ W S, Wok A W S H' ∧ ∀ W1 H1, Step W H' W1 H1 → Wok A W1 S H1 → Q (.str z) H1) H Q
theorem takes_len {X : Cx} {W : WX} (t : Takes X W) : Takes X (fun cls d σ H => σ.length = X.N.length → W cls d σ H) := fun u s' ⟨a, B, sI, pins, σ, H, cls, d, e, I, nb, up, sky, na, os, ag, w⟩ =>
  t u s' ⟨a, B, sI, pins, σ, H, cls, d, e, I, nb, up, sky, na, os, ag, w I.len⟩
theorem told_gives {X : Cx} {A : Amb} {Ng : List Str} {x a e n xc q : Str} {sg : Scope} {g CS : Addr} {cdg : Value} {k : Nat} {tw : Nat → Option Str} {p1 p2 p3 p4 p5 p6 p7 p8 p9 pa : Pos} (F : ClsOk X.prog X.w X.K X.mg X.base A xc k tw) (hr : L2H.RoomH (k + 1) X.A)
    (hge : sg.names.lookup e = some .globalImplicit) (hme : X.mg e = some (.ref CS)) (hde : (e == ("__debug__" : Str)) = false) (hgc : sg.names.lookup xc = some .globalImplicit) (hdc : (xc == ("__debug__" : Str)) = false)
    (hN : Ng.Nodup) (hl : Ng.length = 2) (hn : Ng[1]? = some n) (hln : sg.names.lookup n = some .local) (h0 : ∀ f : Addr, (L2.start Ng [V.ref f]) = [some (V.ref f), none]) (hdn : (n == ("__debug__" : Str)) = false := by decide) (hcn : (n == ("__classdict__" : Str)) = false := by decide) :
    LamX.GivesTo X Ng x sg g cdg [.Try [.Return (some (.Call (.Name a p1) [] [] p2)) p3] [.ExceptHandler (some (.Name e p4)) (some n) [.Return (some (.Call (.Name xc p5) [.Name n p6] [] p7)) p8] p9] [] [] pa] a q (TTold X.K A CS tw) := by
  intro f c' s H Q tl act hc h
  have hgl : Gl (cxOf C8.CX0 X.prog X.w X.K X.mg X.base Ng x sg g cdg X.A X.stack s H C8.E0).nox e := hge
  refine ⟨_, pss_one (ps_try_as (X := (cxOf C8.CX0 X.prog X.w X.K X.mg X.base Ng x sg g cdg X.A X.stack s H C8.E0).nox) (c := .ref CS) (i := 1) (n := n)
      (tb := fun W D σ H => ∃ Ech : XK, (∀ cls d σ' H', σ'.length = 2 → Ech cls d H' → W cls d σ' H') ∧ σ[0]? = some (some (.ref f)) ∧ H c' = some (LamX.CodeO c' q) ∧ tl Ech H D.rt)
      (ts := fun a cls d D σ H => d = none ∧ ∃ c z, cls = .ref (A.cl c) ∧ tw c = some z ∧ σ[1]? = some (some (.ref a)) ∧ ∃ W S, Wok A W S H ∧ ∀ W1 H1, Step W H W1 H1 → Wok A W1 S H1 → D.rt (.str z) H1)
      rfl rfl hN hn hln ⟨hgl, hde, .inl hme⟩ LamX.takes0 (fun W pn xe tk _ => ?_) (fun a oe cls d pn hz hf => ?_)), ?_⟩
  · refine ⟨fun pins s' σ H' D I h' => ?_⟩
    obtain ⟨Ech, hW, h1, h2, h3⟩ := h'
    have hp := act (fun cls d σ H => σ.length = 2 → W cls d σ H) pn xe Ech p1 p2 (by
      have t := takes_len tk
      intro u s' z
      refine t u s' ?_
      obtain ⟨a, B, sI, pins, σ, H, cls, d, e, I, nb, up, sky, na, os, ag, w⟩ := z
      exact ⟨a, B, sI, pins, σ, H, cls, d, e, I, nb, up, sky, na, os, ag, fun q => w (q.trans hl)⟩) (fun cls d σ' H' e1 e2 => hW cls d σ' H' e2 e1)
    exact (pss_one (ps_ret (pos := p3) hp)).run pins s' σ H' D I ⟨h1, h2, h3⟩
  · refine ⟨fun pins s' σ H' D I h' => ?_⟩
    obtain ⟨hd, c, z, rfl, hz2, h1, h2⟩ := h'
    subst hd
    have hv : PE ((cxOf C8.CX0 X.prog X.w X.K X.mg X.base Ng x sg g cdg X.A X.stack s H C8.E0).nox.suite a ((a, oe) :: pn)) (.Name n p6) (tVar 1) := pe_var (i := 1) hn (.inl hln) hdn hcn
    have hR : L2H.RoomH k ((cxOf C8.CX0 X.prog X.w X.K X.mg X.base Ng x sg g cdg X.A X.stack s H C8.E0).nox.suite a ((a, oe) :: pn)).A := by
      have := hr.dp; have := hr.un
      exact ⟨by show X.A.depth + 1 + 3 * k + 5 < _; omega, by show X.A.units + 3 + 16 * k + 200 < _; omega⟩
    have hp := pe_cls (X := (cxOf C8.CX0 X.prog X.w X.K X.mg X.base Ng x sg g cdg X.A X.stack s H C8.E0).nox.suite a ((a, oe) :: pn)) (A := A) (p := p5) (pos := p7) F hgc hR hv hz2 hz hf List.mem_cons_self hdc
    exact (pss_one (ps_ret (pos := p8) hp)).run pins s' σ H' D I ⟨h1, h2⟩
  · refine ⟨_, fun cls d σ' H' el hx => ?_, by rw [h0]; rfl, hc, h⟩
    obtain ⟨hd, hx, c, z, e1, e2, h3⟩ := hx
    refine ⟨true, hx, fun _ a na => ⟨hd, c, z, e1, e2, by rw [List.getElem?_set_self (by omega)], h3⟩, fun q => nomatch q⟩

def lamQ (x : Str) : Str := x ++ ".<locals>." ++ "<lambda>"
/-- what a def that tells or refuses has to do: tw, the words of the classes -/
def ToldOk (P : Program) (w : World) (K : PySem.W.Frag) (mg : Str → Option Value) (base : Heap) (A : Amb) (xt : Str) (lv : Nat) (tw : Nat → Option Str) : Prop :=
  mg xt = some (.ref (He.ga K xt)) ∧ PySem.W.keepIn K (.ref (He.ga K xt)) = true ∧
  ∃ (oc : Value) (od : Option Addr) (pg : Arguments) (bg : List Stmt) (sg : Scope) (dV kV doc pm : Value) (an : Option Addr) (cdv ct : Value) (osl : Array (Option Value)) (Ng : List Str) (a : Str) (CS : Addr),
    K.lookup (He.ga K xt) = some ⟨oc, od, .func (PySem.W.fnOf xt xt pg bg sg dV kV doc pm an cdv ct), osl⟩ ∧ PySem.W.codeIn K cdv xt = true ∧ L2.Binds K (PySem.W.fnOf xt xt pg bg sg dV kV doc pm an cdv ct) [a] [] ∧
    FnScope Ng [a] sg ∧ Ng[0]? = some a ∧ Vis sg a ∧ (a == ("__debug__" : Str)) = false ∧ (a == ("__classdict__" : Str)) = false ∧ (∀ c z, tw c = some z → PySem.W.exmOne K (.ref (A.cl c)) (.ref CS) = some true) ∧
    ∀ (X : Cx) (q : Str), X.prog = P → X.w = w → X.K = K → X.mg = mg → X.base = base → L2H.RoomH lv X.A → LamX.GivesTo X Ng xt sg (He.ga K xt) cdv bg a q (TTold K A CS tw)
/-- the maker's table of code objects -/
structure TabIs (K : PySem.W.Frag) (mg : Str → Option Value) (base : Heap) (A : Amb) (x : Str) : Prop where
  tb : LamX.TabB base mg (He.cT K (x, none)).1 (He.cT K (x, none)).2
  mem : ((He.cT K (x, none)).2, lamQ x) ∈ A.T
  un : ∀ p ∈ A.T, p.1 = (He.cT K (x, none)).2 → p.2 = lamQ x
theorem extN_step {A : Amb} {W : Wd} {S : Sto} {H H1 : Hp} (wo : Wok A W S H) (e : LamX.ExtN H H1) (t : LamX.Tabs A.T H1) : Step W H W H1 ∧ Wok A W S H1 := by
  have keep : ∀ a o, H a = some o → tblB o = false → H1 a = some o := fun a o h n => e a o h fun ps x => by subst x; exact nomatch n
  refine ⟨⟨fun _ _ h => h, fun _ _ h => h, fun _ _ h => .inl h, fun _ _ h => .inl h, fun a o h _ _ n => keep a o h n, fun a h o q => ?_, rfl, fun _ _ h => h, fun _ _ h => h, rfl, fun _ a _ o _ h n => keep a o h n⟩, ⟨fun a o f => ?_, wo.sz, wo.ft, fun k b h => ?_, wo.al, fun a u q => ?_, wo.kk, t, fun a x e => ?_, wo.pu⟩⟩
  · cases z : tblB o with
    | true => rfl
    | false => exact ((h.no (keep a o q z) z)).elim
  · have sz := wo.sz a o f
    have hd := wo.fr a o f
    cases o <;> first
      | exact sz.elim
      | exact keep _ _ hd rfl
      | (rcases hd with hd | ⟨u, hd⟩; exact .inl (keep _ _ hd rfl); exact .inr ⟨u, keep _ _ hd rfl⟩)
  · obtain ⟨a, dx, fs, h1, h2, h3, h4, h5, h6, h7, h8, h9⟩ := wo.ob k b h
    have fl : ∀ j f o, FldL W H k j fs f o → FldL W H1 k j fs f o := fun j f o q => by
      cases o with
      | none => exact q
      | some l =>
        obtain ⟨p, vs, e1, e2, k1, k2, k3⟩ := q
        exact ⟨p, vs, e1, keep _ _ e2 rfl, k1, k2, k3⟩
    exact ⟨a, dx, fs, h1, h2, keep _ _ h3 rfl, h4, h5, h6, h7, fl _ _ _ h8, fl _ _ _ h9⟩
  · obtain ⟨o, q1, q2⟩ := wo.tn a u q
    exact ⟨o, keep _ _ q1 q2, q2⟩
  · obtain ⟨k, q1, q2⟩ := wo.lk a x e
    exact ⟨k, q1, keep _ _ q2 rfl⟩

theorem told_ok {P : Program} {w : World} {K : PySem.W.Frag} {mg : Str → Option Value} {base : Heap} {A : Amb} {xt xc a e n : Str} {k : Nat} {tw : Nat → Option Str} {pg : Arguments} {sg : Scope} {Ng : List Str} {p1 p2 p3 p4 p5 p6 p7 p8 p9 pa : Pos}
    (hg : mg xt = some (.ref (He.ga K xt))) (G : ∃ fd, FunD K xt xt pg [.Try [.Return (some (.Call (.Name a p1) [] [] p2)) p3] [.ExceptHandler (some (.Name e p4)) (some n) [.Return (some (.Call (.Name xc p5) [.Name n p6] [] p7)) p8] p9] [] [] pa] sg [] [] (He.ga K xt) fd)
    (S : FnScope Ng [a] sg) (hb : ∀ (kV doc pm : Value) (an : Option Addr) (cdv ct : Value) (us : List Value), us.length = [a].length → bindArgs (PySem.W.fnOf xt xt pg [.Try [.Return (some (.Call (.Name a p1) [] [] p2)) p3] [.ExceptHandler (some (.Name e p4)) (some n) [.Return (some (.Call (.Name xc p5) [.Name n p6] [] p7)) p8] p9] [] [] pa] sg .none kV doc pm an cdv ct) ⟨us, []⟩ = pure ([a].zip us))
    (F : ClsOk P w K mg base A xc k tw) (hme : mg e = some (.ref (He.ga K e))) (hx : ∀ c z, tw c = some z → PySem.W.exmOne K (.ref (A.cl c)) (.ref (He.ga K e)) = some true)
    (hge : sg.names.lookup e = some .globalImplicit) (hde : (e == ("__debug__" : Str)) = false) (hgc : sg.names.lookup xc = some .globalImplicit) (hdc : (xc == ("__debug__" : Str)) = false)
    (hl : Ng.length = 2) (h0n : Ng[0]? = some a) (hva : Vis sg a) (hn : Ng[1]? = some n) (hln : sg.names.lookup n = some .local) (h0 : ∀ f : Addr, (L2.start Ng [V.ref f]) = [some (V.ref f), none]) (hda : (a == ("__debug__" : Str)) = false := by decide) (hca : (a == ("__classdict__" : Str)) = false := by decide)
    (hdn : (n == ("__debug__" : Str)) = false := by decide) (hcn : (n == ("__classdict__" : Str)) = false := by decide) : ToldOk P w K mg base A xt (k + 1) tw := by
  obtain ⟨fd, G⟩ := G
  have bb := G.bindsN hb
  obtain ⟨oc, od, dV, kV, doc, pm, an, cdv, ct, osl, rfl, lk, hcd, _, _⟩ := G.ex
  refine ⟨hg, G.kp, oc, od, pg, _, sg, dV, kV, doc, pm, an, cdv, ct, osl, Ng, a, He.ga K e, lk, hcd, bb, S, h0n, hva, hda, hca, hx, ?_⟩
  intro X q eP ew eK em eb hr
  subst eP ew eK em eb
  exact told_gives F hr hge hme hde hgc hdc S.nd hl hn hln h0 hdn hcn
theorem de_told {X : Cx} {A : Amb} {Ex : XK} {Γ : List Nat} {x xt : Str} {lv k : Nat} {tw : Nat → Option Str} {f : Ev D} {params : Arguments} {body : Expr} {scope : Scope} {p lpos pos : Pos} (F : ToldOk X.prog X.w X.K X.mg X.base A xt lv tw) (TB : TabIs X.K X.mg X.base A x) (hg : Gl X xt)
    (hq : X.env.qual = x ++ ".<locals>.") (hcode : X.env.code = .ref (He.codeOf X.K (x, none))) (hr : Room (k + 2) X.A) (hrl : Room lv X.A) (L : LamX.LamS X.env.scope scope) (hdef : defaultsOf params X.env = ([], []))
    (hbind : ∀ (q : Str) (cl : List (Str × Addr)) (pm cv ctv : Value), bindArgs (PySem.W.kla_fn "<lambda>" q params body scope cl pm cv ctv) ⟨[], []⟩ = pure [])
    (hbody : ∀ (Ar : Around) (outer : List Env) (s : Shared) (H : Hp) (E : XK) (f0 c' : Addr), Room k (Ar.deeper (LamX.lamEnv X scope s.heap.objs.size f0 c')) → Passes (L2.CX X.prog X.w) (LamX.lamCx X Ar outer s H E scope f0 c') E → DE (LamX.lamCx X Ar outer s H E scope f0 c') A E Γ body f)
    (hdb : (xt == ("__debug__" : Str)) = false := by decide) : DE X A Ex Γ (.Call (.Name xt p) [.Lambda params body scope lpos] [] pos) (told tw f) := by
  obtain ⟨h1, h2, oc, od, pg, bg, sg, dV, kV, doc, pm, an, cdv, ct, osl, Ng, a, CS, lk, hcd, hb, S, h0n, hva, hda, hca, hx, hG⟩ := F
  refine (LamX.pe_lamcall (T := A.T) (t := fun E => tR A E Γ rD f) hg h1 h2 lk hcd hb S h0n hva (hG X _ rfl rfl rfl rfl rfl (L2H.roomH_of hrl)) TB.tb hcode (by rw [hq]; exact TB.mem) (by rw [hq]; exact TB.un) hr L hdef hbind (fun Ar outer s H E f0 c' hr' => hbody Ar outer s H E f0 c' hr' ?_) hdb hda hca).of fun σ H Q ⟨W, ρ, S', wo, sl, an⟩ => ⟨wo.tb, fun H1 eN T1 => ?_⟩
  · exact passes_call (takes_of rfl rfl rfl rfl) fun _ _ _ _ h => h
  · obtain ⟨s1, wo1⟩ := extN_step wo eN T1
    refine ⟨W, ρ, S', wo1, sl.step s1, ?_⟩
    unfold told at an
    cases ef : f ρ S' with
    | ok d S1 =>
      rw [ef] at an
      exact fun W' H' v s' wo' kv => an W' H' v (s1.trans s') wo' kv
    | exc c S1 =>
      rw [ef] at an
      simp only at an
      cases et : tw c with
      | none => rw [et] at an; exact an.elim
      | some z =>
        rw [et] at an
        intro W' H' s' wo'
        exact ⟨rfl, hx c z et, c, z, rfl, et, W', S1, wo', fun W2 H2 s2 wo2 => an W2 H2 _ ((s1.trans s').trans s2) wo2 rfl⟩
    | bad => rw [ef] at an; exact an
end Hr

set_option Elab.async false
set_option linter.all false
set_option maxRecDepth 100000
set_option maxHeartbeats 1000000
namespace Hr
open PySem PySem.Spec PyProof.Rows L2

/-! ### methods of built-in things, one argument -/
def isTy (T : String) : D → Bool
  | .lst _ => T == "list"
  | .str _ => T == "str"
  | _ => false
theorem View.tyv {A : Amb} {W : Wd} {S : Sto} {H : Hp} {K : PySem.W.Frag} {T : String} {d : D} {v : V} (wo : Wok A W S H) (k : View W H d v) (t : isTy T d = true) : tyV K T v H := by
  cases d with
  | lst l =>
    obtain ⟨a, vs, rfl, h, _⟩ := k.lst wo
    exact .inl ⟨beq_iff_eq.mp t, vs, SqL.of h⟩
  | str s => cases k.str; exact beq_iff_eq.mp t
  | _ => exact nomatch t
def bm1 (T : String) (fa fb : Ev D) (g : D → D → Sto → Out D) : Ev D := fun ρ S => (fa ρ S).bind fun x S1 => if isTy T x = true then (fb ρ S1).bind fun y S2 => g x y S2 else .bad
section
variable {X : Cx} {A : Amb} {Ex : XK} {Γ : List Nat} {o e : Expr} {fa fb : Ev D} {apos pos : Pos} {T id : String} {name : Str} {r : V → List V → Hp → VK → Prop} {R : RR D V}
theorem d_bm1 {g : D → D → Sto → Out D} (hR : Shift R) (pa : PlainAttrs T) (slot : Slot T name id) (hty : typeOf (.builtin id) = pure (.type "method_descriptor")) (hm : MtR X id r) (ho : DV X A Ex Γ o fa) (he : DV X A Ex Γ e fb)
    (hg : ∀ W S H x y dx dy Q, Wok A W S H → View W H dx x → View W H dy y → Ans A Ex R W H (g dx dy S) Q → r x [y] H Q)
    (hs1 : St1 X e := by rfl) (hbase : attributeBase o name X.env (eval o X.env) = eval o X.env := by rfl)
    (hfew : ((backTo pos (starEach [e] X.env)).all (fun x => !x.1) && (backToKw pos (keywordEach [] X.env)).all (fun x => x.1.isSome) && decide (([e] : List Expr).length + ([] : List Keyword).length + (if ([] : List Keyword).isEmpty then 0 else 1) < 30)) = true := by rfl)
    (hline : (apos.endLine == pos.line) = true := by rfl) (hpl : (backTo pos (starEach [] X.env)).any (·.1) = false := by rfl) : PE X (.Call (.Attribute o name apos) [e] [] pos) (tR A Ex Γ R (bm1 T fa fb g)) :=
  (pe_bm pa slot hty hm ho (pa1 he hs1) hbase hfew hline hs1 hpl).of fun σ H Q ⟨W, ρ, S, wo, sl, an⟩ => seqR hR wo sl an fun dx S1 W1 H1 x s1 wo1 k1 sl1 an1 => by
    split at an1
    · rename_i t
      refine ⟨View.tyv wo1 k1 t, seqR hR wo1 sl1 an1 fun dy S2 W2 H2 ys s2 wo2 k2 sl2 an2 => ?_⟩
      obtain ⟨y, rfl, k2⟩ := k2
      exact hg W2 S2 H2 x y dx dy Q wo2 (View.step k1 s2) k2 an2
    · exact an1.elim
end
/-! ### count of truths, index -/
def rCntB (K : PySem.W.Frag) : V → List V → Hp → VK → Prop := fun x xs H Q => ∃ (p : Addr) (bs : List Bool) (k : Bool), x = .ref p ∧ xs = [.bl k] ∧ SqL K H p (bs.map V.bl) ∧ Q (.int (bs.count k : Nat)) H
theorem bls_vals : ∀ {bs : List Bool} {us : List Value}, Vals (bs.map V.bl) us → us = bs.map Value.bool
  | [], _, h => by cases h; rfl
  | b :: bs, _, h => by
    cases h with
    | cons h1 h2 =>
      cases h1
      rw [bls_vals h2]; rfl
def isBl (k : Bool) : Value → Bool
  | .bool b => b == k
  | _ => false
theorem cnt_bl (k : Bool) : ∀ bs : List Bool, (bs.map Value.bool).countP (isBl k) = bs.count k
  | [] => rfl
  | b :: bs => by
    rw [List.map_cons, List.countP_cons, cnt_bl k bs, List.count_cons]
    rfl
theorem mt_cntB {X : Cx} : MtR X "list.count" (rCntB X.K) := by
  intro pins s σ H x xs v us Q I rx rxs h
  obtain ⟨p, bs, k, rfl, rfl, hs, q⟩ := h
  cases rx
  obtain ⟨u, rfl, ru⟩ := vals1 rxs
  cases ru
  obtain ⟨its, rv, ⟨⟨cls, dd, data, sl⟩, n, ho, hc, hdn, hd⟩, hlen⟩ := I.list hs
  simp only at hc hd
  subst hc hd
  have hi := bls_vals rv
  subst hi
  refine call_meets PySem.F.slot_list_count ⟨_, ho, rfl⟩ PySem.F.entry_list_count (PySem.F.args_list_count_2 _ _)
    (SeqAt.list_countAt p (bs.map Value.bool).toArray n dd sl (.bool k) (isBl k)) ⟨ho, fun y hy => ?_, ?_⟩
  · obtain ⟨b, _, rfl⟩ : ∃ b, b ∈ bs ∧ Value.bool b = y := by simpa using hy
    exact SeqAt.EqAt.bool_bool b k
  · refine ⟨.int (bs.count k : Nat), H, I.tok _, ⟨s.toks, ?_⟩, q⟩
    rw [show (bs.map Value.bool).toArray.toList = bs.map Value.bool from rfl, cnt_bl]
def dCntB : D → D → Sto → Out D := fun x y S => match x, y with
  | .lst l, .bl k => match bls? l with
    | some bs => .ok (.int (bs.count k : Nat)) S
    | none => .bad
  | _, _ => .bad
def firstI (p : D → Bool) : List D → Option Nat
  | [] => none
  | d :: l => if p d = true then some 0 else (firstI p l).map (· + 1)
theorem firstI_spec {p : D → Bool} : ∀ {l : List D} {j : Nat}, firstI p l = some j → (∃ d, l[j]? = some d ∧ p d = true) ∧ ∀ m d, m < j → l[m]? = some d → p d = false
  | [], _, h => nomatch h
  | d :: l, j, h => by
    unfold firstI at h
    split at h
    · rename_i q
      cases h
      exact ⟨⟨d, rfl, q⟩, fun m _ hm => absurd hm (Nat.not_lt_zero m)⟩
    · rename_i q
      obtain ⟨i, hi, rfl⟩ := Option.map_eq_some_iff.mp h
      obtain ⟨⟨e, e1, e2⟩, k⟩ := firstI_spec hi
      refine ⟨⟨e, by simpa using e1, e2⟩, fun m z hm hz => ?_⟩
      cases m with
      | zero => simp at hz; subst hz; simpa using q
      | succ m => exact k m z (by omega) (by simpa using hz)
def dIndex : D → D → Sto → Out D := fun x y S => match x with
  | .lst l => if okEs l 59 = true ∧ okE y 60 = true then (match firstI (fun z => D.eqv z y) l with
    | some j => .ok (.int (j : Nat)) S
    | none => .bad) else .bad
  | _ => .bad
section
variable {X : Cx} {A : Amb} {Ex : XK} {Γ : List Nat} {o e : Expr} {fa fb : Ev D} {apos pos : Pos}
theorem de_cntB (ho : DV X A Ex Γ o fa) (he : DV X A Ex Γ e fb) (hs1 : St1 X e := by rfl) (hbase : attributeBase o "count" X.env (eval o X.env) = eval o X.env := by rfl)
    (hfew : ((backTo pos (starEach [e] X.env)).all (fun x => !x.1) && (backToKw pos (keywordEach [] X.env)).all (fun x => x.1.isSome) && decide (([e] : List Expr).length + ([] : List Keyword).length + (if ([] : List Keyword).isEmpty then 0 else 1) < 30)) = true := by rfl)
    (hline : (apos.endLine == pos.line) = true := by rfl) : DE X A Ex Γ (.Call (.Attribute o "count" apos) [e] [] pos) (bm1 "list" fa fb dCntB) :=
  d_bm1 (hs1 := hs1) (hbase := hbase) (hfew := hfew) (hline := hline) shD PySem.F.plainAttrs_list PySem.F.slot_list_count PySem.F.type_list_count mt_cntB ho he fun W S H x y dx dy Q wo k1 k2 an => by
    cases dx with
    | lst l => cases dy with
      | bl k =>
        obtain ⟨a, vs, rfl, h, kd, z⟩ := k1.lst wo
        cases k2.bl
        unfold dCntB at an
        simp only at an
        cases eb : bls? l with
        | none => rw [eb] at an; exact an.elim
        | some bs =>
          rw [eb] at an
          have := bls_of kd eb
          subst this
          exact ⟨a, bs, k, rfl, rfl, SqL.of h, an.done wo rfl⟩
      | _ => exact an.elim
    | _ => exact an.elim
theorem pys_get : ∀ (l : List D) (j : Nat), (D.pys l)[j]? = (l[j]?).map D.py := fun l j => by rw [okEs_pys, List.getElem?_map]
theorem okEs_get : ∀ {l : List D} {n m : Nat} {z : D}, okEs l n = true → l[m]? = some z → okE z n = true
  | [], _, _, _, _, h => by simp at h
  | d :: l, n, m, z, o, h => by
    obtain ⟨p1, p2⟩ := Bool.and_eq_true_iff.mp (show (okE d n && okEs l n) = true from o)
    cases m with
    | zero => simp at h; subst h; exact p1
    | succ m => exact okEs_get p2 (by simpa using h)
theorem de_index (hu : X.A.units + 65 < cLine) (ho : DV X A Ex Γ o fa) (he : DV X A Ex Γ e fb) (hs1 : St1 X e := by rfl) (hbase : attributeBase o "index" X.env (eval o X.env) = eval o X.env := by rfl)
    (hfew : ((backTo pos (starEach [e] X.env)).all (fun x => !x.1) && (backToKw pos (keywordEach [] X.env)).all (fun x => x.1.isSome) && decide (([e] : List Expr).length + ([] : List Keyword).length + (if ([] : List Keyword).isEmpty then 0 else 1) < 30)) = true := by rfl)
    (hline : (apos.endLine == pos.line) = true := by rfl) : DE X A Ex Γ (.Call (.Attribute o "index" apos) [e] [] pos) (bm1 "list" fa fb dIndex) :=
  d_bm1 (hs1 := hs1) (hbase := hbase) (hfew := hfew) (hline := hline) shD PySem.F.plainAttrs_list PySem.F.slot_list_index PySem.F.type_list_index (mt_indexD hu) ho he fun W S H x y dx dy Q wo k1 k2 an => by
    cases dx with
    | lst l =>
      unfold dIndex at an
      simp only at an
      split at an
      · rename_i ok
        obtain ⟨o1, o2⟩ := ok
        obtain ⟨dp, sh⟩ := View.lstDp (K := X.K) wo k1 o1
        obtain ⟨a, vs, rfl, h, kd, z⟩ := k1.lst wo
        cases ej : firstI (fun z => D.eqv z dy) l with
        | none => rw [ej] at an; exact an.elim
        | some j =>
          rw [ej] at an
          obtain ⟨⟨d, e1, e2⟩, e3⟩ := firstI_spec ej
          refine ⟨a, y, D.py dy, D.pys l, j, D.py d, rfl, rfl, dp, k2.dp wo o2, sh, ?_, by rw [pys_get, e1]; rfl, ?_, fun m z' hm hz' => ?_, an.done wo rfl⟩
          · exact okE.shaped o2
          · rw [eqv_py d dy 59 60 (okEs_get o1 e1) o2]; exact e2
          · rw [pys_get] at hz'
            obtain ⟨z, q1, rfl⟩ := Option.map_eq_some_iff.mp hz'
            rw [eqv_py z dy 59 60 (okEs_get o1 q1) o2]
            exact e3 m z hm q1
      · exact an.elim
    | _ => exact an.elim
end

theorem cls_ok {P : Program} {w : World} {K : PySem.W.Frag} {mg : Str → Option Value} {base : Heap} {A : Amb} {xc a0 : Str} {k : Nat} {tw : Nat → Option Str} {pa : Arguments} {bd : List Stmt} {sc : Scope} {N : List Str} {Go : List Nat}
    (hg : mg xc = some (.ref (He.ga K xc))) (G : ∃ fd, FunD K xc xc pa bd sc [] [] (He.ga K xc) fd) (S : FnScope N [a0] sc)
    (hb : ∀ (kV doc pm : Value) (an : Option Addr) (cdv ct : Value) (us : List Value), us.length = [a0].length → bindArgs (PySem.W.fnOf xc xc pa bd sc .none kV doc pm an cdv ct) ⟨us, []⟩ = pure ([a0].zip us))
    (F : Nat → Addr → Sv) (hm : ∀ c z a S, tw c = some z → runB N.length (F c a) [.exn a] S = .ok (.str z) S)
    (body : ∀ (c : Nat) (z : Str) (cdv : Value) (Ar : Around) (outer : List Env) (s : Shared) (H : Hp) (p : Addr × Obj) (W : Wd), tw c = some z → Zc (.ref (A.cl c)) none p.2 → (∃ vs, p.2.data = .fields vs) → L2H.RoomH k (Ar.deeper (envOfC xc sc s.heap.objs.size (He.ga K xc) cdv)) →
      DSs (L2H.cxH CX0 P w K mg base N xc sc (He.ga K xc) cdv Ar outer s H XF p) ⟨A, XF, rD, W, H⟩ [] Go [] bd (F c p.1)) : ClsOk P w K mg base A xc (k + 1) tw := by
  obtain ⟨fd, G⟩ := G
  have bb := G.bindsN hb
  obtain ⟨oc, od, dV, kV, doc, pm, an, cdv, ct, osl, rfl, lk, hcd, _, _⟩ := G.ex
  refine ⟨hg, G.kp, ?_⟩
  intro X pins σ H s Q a oe c z eP ew eK em eb ht hz hf hp hr I hW
  subst eP ew eK em eb
  obtain ⟨W, S1, wo, q⟩ := hW
  refine run_hot (k := k) (vs := [.ref a]) (p := (a, oe)) lk hcd S hr hp bb I (.cons rfl .nil) rfl fun hr' => ⟨tS ⟨A, XF, rD, W, H⟩ [] Go [] (F c a), body c z cdv _ _ s H (a, oe) W ht hz hf hr', W, startR N.length [.exn a], S1, ⟨wo, start_sl (show Dens W [.exn a] [.ref a] from ⟨_, _, rfl, rfl, rfl⟩), .refl, fun i d b m => nomatch m⟩, ?_⟩
  have e := hm c z a S1 ht
  unfold runB at e
  generalize hF : F c a (startR N.length [.exn a]) S1 = r at e
  cases r with
  | ok fl S2 => cases fl with
    | nx ρ => exact nomatch e
    | ct ρ => exact nomatch e
    | ret d =>
      simp only [Out.bind_ok] at e
      cases e
      intro W1 H1 v wo1 s1 kv
      cases (show v = .str z from kv)
      exact q W1 H1 s1 wo1
  | exc c S2 => exact nomatch e
  | bad => exact nomatch e
end Hr

set_option Elab.async false
set_option linter.all false
set_option maxRecDepth 100000
set_option maxHeartbeats 1000000
namespace Hr
open PySem PySem.Spec PyProof.Rows L2

/-! ### fields -/
theorem nodup_len : ∀ (l m : List Str), l.Nodup → (∀ x ∈ l, x ∈ m) → l.length ≤ m.length
  | [], m, _, _ => Nat.zero_le _
  | x :: l, m, nd, h => by
    obtain ⟨n1, n2⟩ := List.nodup_cons.mp nd
    have hx : x ∈ m := h x List.mem_cons_self
    have ih := nodup_len l (m.erase x) n2 fun y hy => (List.mem_erase_of_ne (fun (e : y = x) => n1 (e ▸ hy))).mpr (h y (List.mem_cons_of_mem _ hy))
    rw [List.length_erase_of_mem hx] at ih
    have : 0 < m.length := List.length_pos_of_mem hx
    simp only [List.length_cons]
    omega
theorem putF_keys (f : Str) (v : V) : ∀ (fs : List (Str × V)) (g : Str), g ∈ (putF f v fs).map (·.1) → g = f ∨ g ∈ fs.map (·.1)
  | [], g, h => by simp [putF] at h; exact .inl h
  | (k, x) :: r, g, h => by
    unfold putF at h
    split at h
    · simp only [List.map_cons, List.mem_cons] at h ⊢; rcases h with h | h
      · exact .inr (.inl h)
      · exact .inr (.inr h)
    · simp only [List.map_cons, List.mem_cons] at h ⊢; rcases h with h | h
      · exact .inr (.inl h)
      · rcases putF_keys f v r g h with q | q
        · exact .inl q
        · exact .inr (.inr q)
theorem putF_nodup (f : Str) (v : V) : ∀ (fs : List (Str × V)), (fs.map (·.1)).Nodup → ((putF f v fs).map (·.1)).Nodup
  | [], _ => by simp [putF]
  | (k, x) :: r, h => by
    obtain ⟨n1, n2⟩ := List.nodup_cons.mp (show (k :: r.map (·.1)).Nodup from h)
    unfold putF
    split
    · exact List.nodup_cons.mpr ⟨n1, n2⟩
    · rename_i ne
      refine List.nodup_cons.mpr ⟨fun m => ?_, putF_nodup f v r n2⟩
      rcases putF_keys f v r k m with q | q
      · exact ne q
      · exact n1 q
theorem ob_len {fs : List (Str × V)} (nd : (fs.map (·.1)).Nodup) (h : ∀ f : Str, f ∈ fs.map (·.1) → f = "own" ∨ f = "state" ∨ f = "past" ∨ f = "later") : fs.length < 1000 := by
  have := nodup_len _ ["own", "state", "past", "later"] nd fun x hx => by
    rcases h x hx with e | e | e | e <;> subst e <;> simp
  simp only [List.length_map, List.length_cons, List.length_nil] at this
  omega
theorem ob_no {fs : List (Str × V)} {m : Str} (h : ∀ f : Str, f ∈ fs.map (·.1) → f = "own" ∨ f = "state" ∨ f = "past" ∨ f = "later") (n : m ≠ "own" ∧ m ≠ "state" ∧ m ≠ "past" ∧ m ≠ "later") : fs.lookup m = none := by
  cases e : fs.lookup m with
  | none => rfl
  | some v =>
    have := h m (List.mem_map.mpr ⟨(m, v), PySem.mem_of_lookup e, rfl⟩)
    rcases this with q | q | q | q
    · exact absurd q n.1
    · exact absurd q n.2.1
    · exact absurd q n.2.2.1
    · exact absurd q n.2.2.2

/-! ### tagged objects change -/
theorem Step.putT {W0 W : Wd} {H0 H : Hp} {p : Addr} {o : HO} {t : Nat × Nat} (s : Step W0 H0 W H) (hp : W.pu = false) (ht : W.tg p = some t) (ho : tblB o = false := by rfl) : Step W0 H0 W (upd H p o) where
  fr := s.fr
  ad := s.ad
  nf := s.nf
  nt := s.nt
  fm' := fun a u h q f b => by
    have ne : a ≠ p := fun z => by
      subst z
      rcases s.nt a t ht with e | e
      · rw [q] at e; exact nomatch e
      · exact e.no h b
    rw [upd_ne ne]
    exact s.fm' a u h q f b
  mn := fun a n => by
    by_cases q : a = p
    · subst q
      have := n o upd_same
      rw [ho] at this
      exact nomatch this
    · exact s.mn a fun u e => n u (by rw [upd_ne q]; exact e)
  kk := s.kk
  lk := s.lk
  tp := s.tp
  pe := s.pe
  pp := fun e => by
    rw [← s.pe, hp] at e
    exact nomatch e
theorem ObOk.mono2 {A : Amb} {W W' : Wd} {H H' : Hp} {n : Nat} {ob : Ob} (h : ObOk A W H n ob) (hf : ∀ a o, W.Fr a = some o → W'.Fr a = some o) (ha : ∀ n a, W.ad n = some a → W'.ad n = some a)
    (hk : W'.K = W.K) (ht : ∀ a t, W.tg a = some t → W'.tg a = some t) (hh : ∀ a k o, W.tg a = some (n, k) → H a = some o → H' a = some o) : ObOk A W' H' n ob := by
  obtain ⟨a, dx, fs, h1, h2, h3, h4, h5, h6, h7, h8, h9⟩ := h
  have fd : ∀ f o, FldD W fs f o → FldD W' fs f o := fun f o q => by
    cases o with
    | none => exact q
    | some d =>
      obtain ⟨v, e, k⟩ := q
      exact ⟨v, e, Den.mono hf ha hk d v k⟩
  have fl : ∀ k f o, FldL W H n k fs f o → FldL W' H' n k fs f o := fun k f o q => by
    cases o with
    | none => exact q
    | some l =>
      obtain ⟨p, vs, e, e2, k1, k2, k3⟩ := q
      exact ⟨p, vs, e, hh _ _ _ k3 e2, Dens.mono hf ha hk l vs k1, k2, ht _ _ k3⟩
  exact ⟨a, dx, fs, ha _ _ h1, ht _ _ h2, hh _ _ _ h2 h3, h4, h5, fd _ _ h6, fd _ _ h7, fl _ _ _ h8, fl _ _ _ h9⟩
theorem Wok.putT {A : Amb} {W : Wd} {S : Sto} {H : Hp} {p : Addr} {o u : HO} {n k : Nat} {ob' : Ob} (wo : Wok A W S H) (ht : W.tg p = some (n, k)) (hu : H p = some u) (ku : NoT u) (ho : tblB o = false) (hb : ObOk A W (upd H p o) n ob') : Wok A W (S.set n ob') (upd H p o) where
  fr := fun a x e => Held.keep (wo.fr a x e) fun y q => by
    rw [upd_ne (fun z => by rw [z] at e; have := wo.ft p x e; rw [ht] at this; exact nomatch this)]
    exact q
  sz := wo.sz
  ft := wo.ft
  ob := fun m b e => by
    by_cases q : m = n
    · subst q
      by_cases l : m < S.length
      · rw [List.getElem?_set_self l] at e
        cases e
        exact hb
      · rw [List.getElem?_eq_none (by simp; omega)] at e
        exact nomatch e
    · rw [List.getElem?_set_ne (fun z => q z.symm)] at e
      exact (wo.ob m b e).mono2 (fun _ _ h => h) (fun _ _ h => h) rfl (fun _ _ h => h) fun a j x ta hx => by
        rw [upd_ne (fun z => by rw [z, ht] at ta; exact q (congrArg Prod.fst (Option.some.inj ta)).symm)]
        exact hx
  al := fun m l => wo.al m (by simpa using l)
  tn := fun a t e => by
    by_cases q : a = p
    · exact ⟨o, by rw [q, upd_same], ho⟩
    · rw [upd_ne q]; exact wo.tn a t e
  kk := wo.kk
  tb := Tabs.upd wo.tb hu ku
  lk := fun a x e => by
    obtain ⟨k, q1, q2⟩ := wo.lk a x e
    exact ⟨k, q1, by rw [upd_ne (fun z => by rw [z] at q1; have := wo.ft p _ q1; rw [ht] at this; exact nomatch this)]; exact q2⟩
  pu := wo.pu
def Wd.tag (W : Wd) (p : Addr) (t : Nat × Nat) : Wd := { W with tg := fun a => if a = p then some t else W.tg a }
theorem tag_le {W : Wd} {p : Addr} {t : Nat × Nat} (h : W.tg p = none) : ∀ a x, W.tg a = some x → (W.tag p t).tg a = some x := fun a x e => by
  show (if a = p then some t else W.tg a) = some x
  rw [if_neg (fun z => by rw [z, h] at e; exact nomatch e)]
  exact e
theorem Wok.tag {A : Amb} {W : Wd} {S : Sto} {H : Hp} {p : Addr} {o : HO} {t : Nat × Nat} (wo : Wok A W S H) (f : W.Fr p = none) (h : W.tg p = none) (ho : H p = some o) (hb : tblB o = false) : Wok A (W.tag p t) S H where
  fr := wo.fr
  sz := wo.sz
  ft := fun a x e => by
    show (if a = p then some t else W.tg a) = none
    rw [if_neg (fun z => by rw [z] at e; have e2 : W.Fr p = some x := e; rw [f] at e2; exact nomatch e2)]
    exact wo.ft a x e
  ob := fun m b e => (wo.ob m b e).mono2 (fun _ _ h => h) (fun _ _ h => h) rfl (tag_le h) fun _ _ _ _ h => h
  al := wo.al
  tn := fun a x e => by
    by_cases q : a = p
    · exact ⟨o, q ▸ ho, hb⟩
    · exact wo.tn a x (by rw [show (W.tag p t).tg a = W.tg a from if_neg q] at e; exact e)
  kk := wo.kk
  tb := wo.tb
  lk := wo.lk
  pu := wo.pu
theorem Step.tag {W0 W : Wd} {H0 H : Hp} {p : Addr} {t : Nat × Nat} (s : Step W0 H0 W H) (n : Nw H0 p) (ht : W.tg p = none) : Step W0 H0 (W.tag p t) H where
  fr := s.fr
  ad := s.ad
  nf := s.nf
  nt := fun a x e => by
    by_cases q : a = p
    · exact .inr (q ▸ n)
    · exact s.nt a x (by rw [show (W.tag p t).tg a = W.tg a from if_neg q] at e; exact e)
  fm' := s.fm'
  mn := s.mn
  kk := s.kk
  lk := s.lk
  tp := fun a x e => tag_le ht a x (s.tp a x e)
  pe := s.pe
  pp := s.pp
/-- slots where a new thing is tagged -/
theorem SOk.tag {E : En} {Γ : List Nat} {W : Wd} {S : Sto} {H : Hp} {σ : L2.St} {ρ : Rho} {p : Addr} {o : HO} {t : Nat × Nat} (so : SOk E Γ W S H σ ρ) (f : W.Fr p = none) (h : W.tg p = none) (ho : H p = some o) (hb : tblB o = false) (n : Nw E.H p)
    (ap : ∀ j e, j ∈ Γ → ρ[j]? = some (some e) → σ[j]? ≠ some (some (.ref p))) : SOk E Γ (W.tag p t) S H σ ρ where
  wo := so.wo.tag f h ho hb
  sl := {
    den := fun i d e m => by
      obtain ⟨v, q, k⟩ := so.sl.den i d e m
      exact ⟨v, q, Den.mono (W := W) (W' := W.tag p t) (fun _ _ h => h) (fun _ _ h => h) rfl d v k⟩
    own := fun i d e m => by
      obtain ⟨v, q, a, ea, fa, ta, tp⟩ := so.sl.own i d e m
      refine ⟨v, q, a, ea, fa, ?_, ?_⟩
      · show (if a = p then some t else W.tg a) = none
        rw [if_neg (fun z => by subst z; subst ea; exact ap i d m e q)]
        exact ta
      · cases d <;> first | exact tp.elim | skip
        · obtain ⟨vs, h, k, z⟩ := tp; exact ⟨vs, h, Dens.mono (W := W) (W' := W.tag p t) (fun _ _ h => h) (fun _ _ h => h) rfl _ _ k, z⟩
        · obtain ⟨vs, h, k, z⟩ := tp; exact ⟨vs, h, DenK.mono (W := W) (W' := W.tag p t) (fun _ _ h => h) (fun _ _ h => h) rfl _ _ k, z⟩
        · obtain ⟨vs, h, k, z⟩ := tp; exact ⟨vs, h, DenT.mono (W := W) (W' := W.tag p t) (fun _ _ h => h) (fun _ _ h => h) rfl _ _ k, z⟩
        · obtain ⟨vs, h, k, z⟩ := tp; exact ⟨vs, h, DenN.mono (W := W) (W' := W.tag p t) (fun _ _ h => h) k, z⟩
    dj := so.sl.dj
    len := so.sl.len }
  st := so.st.tag n h
  nw := so.nw
theorem SOk.putT {E : En} {Γ : List Nat} {W : Wd} {S : Sto} {H : Hp} {σ : L2.St} {ρ : Rho} {p : Addr} {o u : HO} {n k : Nat} {ob' : Ob} (so : SOk E Γ W S H σ ρ) (ht : W.tg p = some (n, k)) (hu : H p = some u) (ku : NoT u) (ho : tblB o = false) (hb : ObOk A W (upd H p o) n ob') (eA : E.A = A) (hp : E.A.pu = false) :
    SOk E Γ W (S.set n ob') (upd H p o) σ ρ where
  wo := by subst eA; exact so.wo.putT ht hu ku ho hb
  sl := so.sl.step (Step.putT Step.refl (so.wo.pu.trans hp) ht ho)
  st := so.st.putT (so.wo.pu.trans hp) ht ho
  nw := so.nw

/-! ### reading fields -/
structure ShowC (K : PySem.W.Frag) (C : Addr) : Prop where
  cl : Cls K C
  nO : NoAttr K C "own"
  nS : NoAttr K C "state"
  nP : NoAttr K C "past"
  nL : NoAttr K C "later"
abbrev nmD (b : Bool) : Str := if b then "own" else "state"
abbrev nmL (b : Bool) : Str := if b then "past" else "later"
def tgL (b : Bool) : Nat := if b then 1 else 2
def getD (b : Bool) (ob : Ob) : Option D := if b then ob.own else ob.state
def getL (b : Bool) (ob : Ob) : Option (List D) := if b then ob.past else ob.later
def setD (b : Bool) (ob : Ob) (d : D) : Ob := if b then { ob with own := some d } else { ob with state := some d }
def setL (b : Bool) (ob : Ob) (l : List D) : Ob := if b then { ob with past := some l } else { ob with later := some l }
theorem ShowC.nD {K : PySem.W.Frag} {C : Addr} (c : ShowC K C) (b : Bool) : NoAttr K C (nmD b) := by cases b; exact c.nS; exact c.nO
theorem ShowC.nLs {K : PySem.W.Frag} {C : Addr} (c : ShowC K C) (b : Bool) : NoAttr K C (nmL b) := by cases b; exact c.nL; exact c.nP
theorem FldD.of {A : Amb} {W : Wd} {H : Hp} {n : Nat} {ob : Ob} {b : Bool} {fs : List (Str × V)} (h6 : FldD W fs "own" ob.own) (h7 : FldD W fs "state" ob.state) : FldD W fs (nmD b) (getD b ob) := by cases b; exact h7; exact h6
theorem FldL.of {A : Amb} {W : Wd} {H : Hp} {n : Nat} {ob : Ob} {b : Bool} {fs : List (Str × V)} (h6 : FldL W H n 1 fs "past" ob.past) (h7 : FldL W H n 2 fs "later" ob.later) : FldL W H n (tgL b) fs (nmL b) (getL b ob) := by cases b; exact h7; exact h6
def onOb {α : Type} (d : D) (S : Sto) (k : Nat → Ob → Out α) : Out α := match d with
  | .obj n => match S[n]? with
    | some ob => k n ob
    | none => .bad
  | _ => .bad
theorem View.obj {W : Wd} {H : Hp} {n : Nat} {v : V} (h : View W H (.obj n) v) : ∃ a, v = .ref a ∧ W.ad n = some a := by
  rcases h with h | ⟨a, e, _, _, t⟩
  · exact h
  · exact t.elim
def fldD (b : Bool) (fa : Ev D) : Ev D := b1 fa fun d S => onOb d S fun n ob => match getD b ob with
  | some x => .ok x S
  | none => .bad
section
variable {X : Cx} {A : Amb} {Ex : XK} {Γ : List Nat} {o e : Expr} {fa fo : Ev D} {pos apos : Pos}
theorem de_fldD {b : Bool} {f : Str} (hf : f = nmD b) (hK : A.K = X.K) (c : ShowC X.K A.cS) (ho : DV X A Ex Γ o fo) (hb : attributeBase o f X.env (eval o X.env) = eval o X.env := by rfl) : DE X A Ex Γ (.Attribute o f pos) (fldD b fo) :=
  (pe_fld ho hb).of fun σ H Q ⟨W, ρ, S, wo, sl, an⟩ => seqR shD wo sl an fun d S1 W1 H1 v s1 wo1 k1 sl1 an1 => by
    subst hf
    cases d with
    | obj n =>
      unfold onOb at an1
      simp only at an1
      cases es : S1[n]? with
      | none => rw [es] at an1; exact an1.elim
      | some ob =>
        rw [es] at an1
        simp only at an1
        obtain ⟨a, rfl, ha⟩ := View.obj k1
        obtain ⟨a', dx, fs, h1, h2, h3, h4, h5, h6, h7, h8, h9⟩ := wo1.ob n ob es
        rw [ha] at h1
        cases h1
        have q := FldD.of (A := A) (H := H1) (n := n) (b := b) h6 h7
        cases eg : getD b ob with
        | none => rw [eg] at an1; exact an1.elim
        | some x =>
          rw [eg] at an1 q
          obtain ⟨u, hl, dn⟩ := q
          exact ⟨a, _, dx, fs, u, rfl, h3, c.cl, c.nD b, hl, an1.done wo1 dn⟩
    | _ => exact an1.elim
/-- a list field, for one look -/
def rT : RR (List D) V := fun _ W H l v => ∃ a vs, v = .ref a ∧ H a = some (.lst vs) ∧ Dens W l vs ∧ vs.length ≤ sizeLine
theorem shT : Shift rT := fun _ _ _ _ _ _ _ _ _ h => h
def fldL (b : Bool) (fa : Ev D) : Ev (List D) := b1 fa fun d S => onOb d S fun n ob => match getL b ob with
  | some x => .ok x S
  | none => .bad
theorem dt_fldL {b : Bool} {f : Str} (hf : f = nmL b) (hK : A.K = X.K) (c : ShowC X.K A.cS) (ho : DV X A Ex Γ o fo) (hb : attributeBase o f X.env (eval o X.env) = eval o X.env := by rfl) : PE X (.Attribute o f pos) (tR A Ex Γ rT (fldL b fo)) :=
  (pe_fld ho hb).of fun σ H Q ⟨W, ρ, S, wo, sl, an⟩ => seqR shT wo sl an fun d S1 W1 H1 v s1 wo1 k1 sl1 an1 => by
    subst hf
    cases d with
    | obj n =>
      unfold onOb at an1
      simp only at an1
      cases es : S1[n]? with
      | none => rw [es] at an1; exact an1.elim
      | some ob =>
        rw [es] at an1
        simp only at an1
        obtain ⟨a, rfl, ha⟩ := View.obj k1
        obtain ⟨a', dx, fs, h1, h2, h3, h4, h5, h6, h7, h8, h9⟩ := wo1.ob n ob es
        rw [ha] at h1
        cases h1
        have q := FldL.of (A := A) (b := b) h8 h9
        cases eg : getL b ob with
        | none => rw [eg] at an1; exact an1.elim
        | some x =>
          rw [eg] at an1 q
          obtain ⟨p, vs, hl, hp, dn, z, tg⟩ := q
          exact ⟨a, _, dx, fs, _, rfl, h3, c.cl, c.nLs b, hl, an1.done wo1 ⟨p, vs, rfl, hp, dn, z⟩⟩
    | _ => exact an1.elim
def rT1 : RR (List D) (List V) := fun H0 W H l vs => ∃ v, vs = [v] ∧ rT H0 W H l v
theorem paT (h : PE X e (tR A Ex Γ rT f)) (hs : St1 X e := by rfl) : PA X [e] (tR A Ex Γ rT1 f) :=
  (pa_cons h pa_nil hs).of fun σ H Q ⟨W, ρ, S, wo, sl, an⟩ => ⟨W, ρ, S, wo, sl, by
    generalize f ρ S = r at an
    cases r with
    | ok d S1 => exact fun W1 H1 v s w k => an W1 H1 _ s w ⟨v, rfl, k⟩
    | exc c S1 => exact an
    | bad => exact an⟩
def lenL (f : Ev (List D)) : Ev D := b1 f fun l S => .ok (.int l.length) S
theorem de_lenL {f : Ev (List D)} {p : Pos} (hgl : Gl X "len") (hm : X.mg "len" = none) (ha : PE X e (tR A Ex Γ rT f)) (he : St1 X e := by rfl) : DE X A Ex Γ (.Call (.Name "len" p) [e] [] pos) (lenL f) :=
  (pe_callB call_len hgl hm PySem.boot_len (paT ha he) (by decide) (by decide) he rfl).of fun σ H Q ⟨W, ρ, S, wo, sl, an⟩ => seqR shD wo sl an fun l S1 W1 H1 vs s1 wo1 k1 sl1 an1 => by
    obtain ⟨v, rfl, a, xs, rfl, h, k, z⟩ := k1
    rw [← k.length] at an1
    exact ⟨_, _, rfl, .inl ⟨xs, SqL.of h, rfl⟩, an1.done wo1 rfl⟩
def lstL (f : Ev (List D)) : Ev D := b1 f fun l S => .ok (.lst l) S
theorem dn_listL {f : Ev (List D)} {p : Pos} (hgl : Gl X "list") (hm : X.mg "list" = none) (hv : bootBuiltins "list" = some (.type "list")) (ha : PE X e (tR A Ex Γ rT f)) (he : St1 X e := by rfl) : DN X A Ex Γ (.Call (.Name "list" p) [e] [] pos) (lstL f) :=
  (pe_callTy call_list_of hgl hm hv (paT ha he) (by decide) (by decide) he rfl).of fun σ H Q ⟨W, ρ, S, wo, sl, an⟩ => seqR shN wo sl an fun l S1 W1 H1 vs s1 wo1 k1 sl1 an1 => by
    obtain ⟨v, rfl, a, xs, rfl, h, k, z⟩ := k1
    exact ⟨a, xs, rfl, .inl (SqL.of h), Ans.newL (l := l) an1 wo1 k z⟩
end
/-! ### == [] of any list -/
def rEqNil (K : PySem.W.Frag) : R2 := fun x y H Q => ∃ a b xs, x = .ref a ∧ y = .ref b ∧ SqL K H a xs ∧ SqL K H b [] ∧ Q (.bl xs.isEmpty) H
theorem op_eqNil {X : Cx} (hu : X.A.units < cLine) : OpR X (compareOp .Eq) (rEqNil X.K) := by
  intro pins s σ H x y v u Q I rx ry h
  obtain ⟨a, b, xs, rfl, rfl, ha, hb, q⟩ := h
  cases (show v = Value.ref a from rx)
  cases (show u = Value.ref b from ry)
  obtain ⟨us, r1, p1, _⟩ := I.list ha
  obtain ⟨ws, r2, p2, _⟩ := I.list hb
  cases r2
  cases xs with
  | nil =>
    cases r1
    exact (SeqAt.RcAt.lists (e := fun _ => true) p1.isList p2.isList rfl hu (fun j h1 => absurd h1 (Nat.not_lt_zero j))) X.prog X.w _ _ ⟨.bl true, H, I, rfl, q⟩
  | cons z zs =>
    cases r1 with
    | cons r1 r1s => exact (SeqAt.RcAt.lists_lengths p1.isList p2.isList (by simp) hu) X.prog X.w _ _ ⟨.bl false, H, I, rfl, q⟩
def nilL (f : Ev (List D)) : Ev D := b1 f fun l S => .ok (.bl l.isEmpty) S
section
variable {X : Cx} {A : Amb} {Ex : XK} {Γ : List Nat} {e : Expr} {f : Ev (List D)} {pos p2 : Pos}
theorem k_nilL : ∀ σ H Q, tR A Ex Γ rD (nilL f) σ H Q → tOp (rEqNil X.K) (tR A Ex Γ rT f) (tLst tNil) σ H Q := fun σ H Q ⟨W, ρ, S, wo, sl, an⟩ => seqR shD wo sl an fun l S1 W1 H1 v s1 wo1 k1 sl1 an1 => by
  obtain ⟨a, xs, rfl, h, k, z⟩ := k1
  refine ⟨Nat.zero_le _, fun p n => ?_⟩
  have ee : l.isEmpty = xs.isEmpty := by
    have := k.length
    cases l <;> cases xs <;> simp_all
  refine ⟨a, p, xs, rfl, rfl, SqL.of (keep_upd n _ _ h), SqL.of upd_same, ?_⟩
  rw [← ee]
  exact an1 W1 _ _ (Step.lay wo1 n) (wo1.lay n) rfl
theorem de_nilL (hu : X.A.units < cLine) (ha : PE X e (tR A Ex Γ rT f)) : DE X A Ex Γ (.Compare e [.Eq] [.List [] p2] pos) (nilL f) := (pe_cmpR (op_eqNil hu) ha (pe_lst pa_nil) (nomark _)).of k_nilL
theorem dt_nilL (hu : X.A.units < cLine) (ha : PE X e (tR A Ex Γ rT f)) : DT X A Ex Γ (.Compare e [.Eq] [.List [] p2] pos) (tst (nilL f)) := dt_of (pt_cmpR (op_eqNil hu) ha (pe_lst pa_nil) (nomark _)) k_nilL
end
end Hr

set_option Elab.async false
set_option linter.all false
set_option maxRecDepth 100000
set_option maxHeartbeats 1000000
namespace Hr
open PySem PySem.Spec PyProof.Rows L2
theorem tgL_ne (b : Bool) (n m : Nat) : (n, tgL b) ≠ (m, 0) := by cases b <;> simp [tgL]
theorem tgL_not (b : Bool) (n : Nat) : (n, tgL (!b)) ≠ (n, tgL b) := by cases b <;> simp [tgL]
theorem nmL_not (b : Bool) : nmL (!b) ≠ nmL b := by cases b <;> decide
theorem nmL_D (b c : Bool) : nmL b ≠ nmD c := by cases b <;> cases c <;> decide
theorem nmD_not (b : Bool) : nmD (!b) ≠ nmD b := by cases b <;> decide
theorem nmL_in (b : Bool) : nmL b = "own" ∨ nmL b = "state" ∨ nmL b = "past" ∨ nmL b = "later" := by cases b <;> decide
theorem nmD_in (b : Bool) : nmD b = "own" ∨ nmD b = "state" ∨ nmD b = "past" ∨ nmD b = "later" := by cases b <;> decide
/-- an instance by its two kinds of fields -/
def ObF (W : Wd) (H : Hp) (n : Nat) (ob : Ob) (fs : List (Str × V)) : Prop := (∀ b, FldD W fs (nmD b) (getD b ob)) ∧ ∀ b, FldL W H n (tgL b) fs (nmL b) (getL b ob)
theorem ObOk.iff {A : Amb} {W : Wd} {H : Hp} {n : Nat} {ob : Ob} : ObOk A W H n ob ↔ ∃ a dx fs, W.ad n = some a ∧ W.tg a = some (n, 0) ∧ H a = some (.ins A.cS dx fs) ∧ (fs.map (·.1)).Nodup ∧ (∀ f : Str, f ∈ fs.map (·.1) → f = "own" ∨ f = "state" ∨ f = "past" ∨ f = "later") ∧ ObF W H n ob fs := by
  constructor
  · intro ⟨a, dx, fs, h1, h2, h3, h4, h5, h6, h7, h8, h9⟩
    exact ⟨a, dx, fs, h1, h2, h3, h4, h5, fun b => by cases b; exact h7; exact h6, fun b => by cases b; exact h9; exact h8⟩
  · intro ⟨a, dx, fs, h1, h2, h3, h4, h5, h6, h7⟩
    exact ⟨a, dx, fs, h1, h2, h3, h4, h5, h6 true, h6 false, h7 true, h7 false⟩
theorem getD_setD (b c : Bool) (ob : Ob) (d : D) : getD c (setD b ob d) = if c = b then some d else getD c ob := by cases b <;> cases c <;> rfl
theorem getL_setD (b c : Bool) (ob : Ob) (d : D) : getL c (setD b ob d) = getL c ob := by cases b <;> cases c <;> rfl
theorem getL_setL (b c : Bool) (ob : Ob) (l : List D) : getL c (setL b ob l) = if c = b then some l else getL c ob := by cases b <;> cases c <;> rfl
theorem getD_setL (b c : Bool) (ob : Ob) (l : List D) : getD c (setL b ob l) = getD c ob := by cases b <;> cases c <;> rfl
section
variable {A : Amb} {W W' : Wd} {S : Sto} {H H' : Hp} {n : Nat} {ob : Ob} {fs : List (Str × V)}
theorem FldD.put {f g : Str} {v : V} {o : Option D} (h : FldD W fs g o) (ne : g ≠ f) : FldD W (putF f v fs) g o := by
  cases o with
  | none => show (putF f v fs).lookup g = none; rw [lookup_putF, if_neg ne]; exact h
  | some d =>
    obtain ⟨u, e, k⟩ := h
    exact ⟨u, by rw [lookup_putF, if_neg ne]; exact e, k⟩
theorem FldL.put {f g : Str} {v : V} {k : Nat} {o : Option (List D)} (h : FldL W H n k fs g o) (ne : g ≠ f) : FldL W H n k (putF f v fs) g o := by
  cases o with
  | none => show (putF f v fs).lookup g = none; rw [lookup_putF, if_neg ne]; exact h
  | some d =>
    obtain ⟨p, vs, e, k⟩ := h
    exact ⟨p, vs, by rw [lookup_putF, if_neg ne]; exact e, k⟩
theorem FldL.at {k : Nat} {g : Str} {o : Option (List D)} (h : FldL W H n k fs g o) (hf : ∀ a o, W.Fr a = some o → W'.Fr a = some o) (ha : ∀ n a, W.ad n = some a → W'.ad n = some a) (hk : W'.K = W.K) (ht : ∀ a t, W.tg a = some t → W'.tg a = some t)
    (hh : ∀ p o, W.tg p = some (n, k) → H p = some o → H' p = some o) : FldL W' H' n k fs g o := by
  cases o with
  | none => exact h
  | some l =>
    obtain ⟨p, vs, e, e2, k1, k2, k3⟩ := h
    exact ⟨p, vs, e, hh _ _ k3 e2, Dens.mono hf ha hk l vs k1, k2, ht _ _ k3⟩
theorem FldD.at {g : Str} {o : Option D} (h : FldD W fs g o) (hf : ∀ a o, W.Fr a = some o → W'.Fr a = some o) (ha : ∀ n a, W.ad n = some a → W'.ad n = some a) (hk : W'.K = W.K) : FldD W' fs g o := by
  cases o with
  | none => exact h
  | some l =>
    obtain ⟨v, e, k⟩ := h
    exact ⟨v, e, Den.mono hf ha hk l v k⟩
/-- a told field is stored -/
theorem Wok.obD (wo : Wok A W S H) (es : S[n]? = some ob) (b : Bool) : ∃ a dx fs, W.ad n = some a ∧ W.tg a = some (n, 0) ∧ H a = some (.ins A.cS dx fs) ∧ fs.length < 1000 ∧ ∀ d v, Den W d v → ObOk A W (upd H a (.ins A.cS dx (putF (nmD b) v fs))) n (setD b ob d) := by
  obtain ⟨a, dx, fs, h1, h2, h3, h4, h5, h6, h7⟩ := ObOk.iff.mp (wo.ob n ob es)
  refine ⟨a, dx, fs, h1, h2, h3, ob_len h4 h5, fun d v k => ObOk.iff.mpr ⟨a, dx, _, h1, h2, upd_same, putF_nodup _ _ _ h4, fun f m => ?_, fun c => ?_, fun c => ?_⟩⟩
  · rcases putF_keys _ _ _ _ m with q | q
    · rw [q]; exact nmD_in b
    · exact h5 f q
  · rw [getD_setD]
    by_cases q : c = b
    · subst q
      rw [if_pos rfl]
      exact ⟨v, by rw [lookup_putF, if_pos rfl], k⟩
    · rw [if_neg q]
      exact (h6 c).put (by cases b <;> cases c <;> first | exact absurd rfl q | decide)
  · rw [getL_setD]
    refine ((h7 c).put (nmL_D c b)).at (fun _ _ h => h) (fun _ _ h => h) rfl (fun _ _ h => h) fun p o tp hp => ?_
    rw [upd_ne (fun z => by rw [z, h2] at tp; exact tgL_ne c n n (Option.some.inj tp).symm)]
    exact hp
/-- a list field is stored: a list with its tag -/
theorem Wok.obL (wo : Wok A W S H) (es : S[n]? = some ob) (b : Bool) : ∃ a dx fs, W.ad n = some a ∧ W.tg a = some (n, 0) ∧ H a = some (.ins A.cS dx fs) ∧ fs.length < 1000 ∧ ∀ p l vs, W.tg p = some (n, tgL b) → H p = some (.lst vs) → Dens W l vs → vs.length ≤ sizeLine → ObOk A W (upd H a (.ins A.cS dx (putF (nmL b) (.ref p) fs))) n (setL b ob l) := by
  obtain ⟨a, dx, fs, h1, h2, h3, h4, h5, h6, h7⟩ := ObOk.iff.mp (wo.ob n ob es)
  have kp : ∀ c p o, W.tg p = some (n, tgL c) → H p = some o → ∀ u, upd H a u p = some o := fun c p o tp hp u => by
    rw [upd_ne (fun z => by rw [z, h2] at tp; exact tgL_ne c n n (Option.some.inj tp).symm)]
    exact hp
  refine ⟨a, dx, fs, h1, h2, h3, ob_len h4 h5, fun p l vs tp hp k z => ObOk.iff.mpr ⟨a, dx, _, h1, h2, upd_same, putF_nodup _ _ _ h4, fun f m => ?_, fun c => ?_, fun c => ?_⟩⟩
  · rcases putF_keys _ _ _ _ m with q | q
    · rw [q]; exact nmL_in b
    · exact h5 f q
  · rw [getD_setL]
    exact (h6 c).put (fun e => nmL_D b c e.symm)
  · rw [getL_setL]
    by_cases q : c = b
    · subst q
      rw [if_pos rfl]
      exact ⟨p, vs, by rw [lookup_putF, if_pos rfl], kp c p _ tp hp _, k, z, tp⟩
    · rw [if_neg q]
      exact ((h7 c).put (by cases b <;> cases c <;> first | exact absurd rfl q | decide)).at (fun _ _ h => h) (fun _ _ h => h) rfl (fun _ _ h => h) fun p o tp hp => kp c p o tp hp _
/-- the list of a field changes -/
theorem Wok.obC {l : List D} (wo : Wok A W S H) (es : S[n]? = some ob) (b : Bool) (eg : getL b ob = some l) : ∃ a dx fs p vs, W.ad n = some a ∧ H a = some (.ins A.cS dx fs) ∧ fs.lookup (nmL b) = some (.ref p) ∧ H p = some (.lst vs) ∧ Dens W l vs ∧ vs.length ≤ sizeLine ∧ W.tg p = some (n, tgL b) ∧ (∀ c, FldD W fs (nmD c) (getD c ob)) ∧
    ∀ W' H' l' vs', (∀ a o, W.Fr a = some o → W'.Fr a = some o) → (∀ n a, W.ad n = some a → W'.ad n = some a) → W'.K = W.K → (∀ a t, W.tg a = some t → W'.tg a = some t) → (∀ q o, q ≠ p → H q = some o → H' q = some o) → H' p = some (.lst vs') → Dens W' l' vs' → vs'.length ≤ sizeLine → ObOk A W' H' n (setL b ob l') := by
  obtain ⟨a, dx, fs, h1, h2, h3, h4, h5, h6, h7⟩ := ObOk.iff.mp (wo.ob n ob es)
  have q := h7 b
  rw [eg] at q
  obtain ⟨p, vs, e1, e2, k1, k2, k3⟩ := q
  refine ⟨a, dx, fs, p, vs, h1, h3, e1, e2, k1, k2, k3, h6, fun W' H' l' vs' hf ha hk ht hh hp k z => ObOk.iff.mpr ⟨a, dx, fs, ha _ _ h1, ht _ _ h2, hh a _ (fun e => by rw [e, k3] at h2; exact tgL_ne b n n (Option.some.inj h2)) h3, h4, h5, fun c => ?_, fun c => ?_⟩⟩
  · rw [getD_setL]
    exact (h6 c).at hf ha hk
  · rw [getL_setL]
    by_cases q : c = b
    · subst q
      rw [if_pos rfl]
      exact ⟨p, vs', e1, hp, k, z, ht _ _ k3⟩
    · rw [if_neg q]
      refine (h7 c).at hf ha hk ht fun r o tp hr => hh r o (fun e => ?_) hr
      rw [e, k3] at tp
      have : tgL b = tgL c := congrArg Prod.snd (Option.some.inj tp)
      cases b <;> cases c <;> first | exact absurd rfl q | exact absurd this (by decide)
end
/-! ### stores -/
def sFldD (b : Bool) (fo f : Ev D) : Sv := fun ρ S => (f ρ S).bind fun d S1 => (fo ρ S1).bind fun o S2 => onOb o S2 fun n ob => .ok (.nx ρ) (S2.set n (setD b ob d))
def sFldL (b : Bool) (fo f : Ev D) : Sv := fun ρ S => (f ρ S).bind fun d S1 => match d with
  | .lst l => onVar fo ρ S1 fun n ob => .ok (.nx ρ) (S1.set n (setL b ob l))
  | _ => .bad
where onVar (fo : Ev D) (ρ : Rho) (S1 : Sto) (k : Nat → Ob → Out Flw) : Out Flw := match fo ρ S1 with
  | .ok o _ => onOb o S1 k
  | _ => .bad
section
variable {X : Cx} {E : En} {Γ Γ' Γc : List Nat} {o e : Expr} {fo f : Ev D} {pos pos' : Pos}
theorem ds_fldD {b : Bool} {g : Str} (hp : E.A.pu = false) (hf : g = nmD b) (c : ShowC X.K E.A.cS) (ho : DV X E.A E.Ex Γ o fo) (he : DE X E.A E.Ex Γ e f) (hs : swapsWith e (some (.Attribute o g pos')) pos.line X.env = pure false := by rfl) : DS X E Γ Γ Γc (.Assign [.Attribute o g pos'] e pos) (sFldD b fo f) :=
  (ps_fld ho he hs).of fun D σ H ⟨W, ρ, S, so, an⟩ => seqS so an fun d S1 W1 H1 v s1 so1 k1 an1 => seqS so1 an1 fun x S2 W2 H2 u s2 so2 k2 an2 => by
    subst hf
    cases x with
    | obj n =>
      unfold onOb at an2
      simp only at an2
      cases es : S2[n]? with
      | none => rw [es] at an2; exact an2.elim
      | some ob =>
        rw [es] at an2
        obtain ⟨a, rfl, ha⟩ := View.obj k2
        obtain ⟨a', dx, fs, h1, h2, h3, h4, h5⟩ := so2.wo.obD es b
        rw [ha] at h1
        cases h1
        exact ⟨a, _, dx, fs, rfl, h3, c.cl, c.nD b, h4, an2 W2 _ σ (so2.putT h2 h3 (And.intro (fun _ h => nomatch h) (ne_code fun _ h => nomatch h)) rfl (h5 d v (Den.step k1 s2)) rfl hp) .refl⟩
    | _ => exact an2.elim
theorem ds_fldL {b : Bool} {g x : Str} {i : Nat} {xp : Pos} (hpu : E.A.pu = false) (hf : g = nmL b) (c : ShowC X.K E.A.cS) (hi : i ∉ Γ) (ho : PE X (.Name x xp) (tVar i)) (he : DN X E.A E.Ex Γ e f) (hs : swapsWith e (some (.Attribute (.Name x xp) g pos')) pos.line X.env = pure false := by rfl) :
    DS X E Γ Γ Γc (.Assign [.Attribute (.Name x xp) g pos'] e pos) (sFldL b (var i) f) :=
  (ps_fld ho he hs).of fun D σ H ⟨W, ρ, S, so, an⟩ => seqS so an fun d S1 W1 H1 v s1 so1 k1 an1 => by
    subst hf
    cases d with
    | lst l =>
      simp only [sFldL.onVar] at an1
      rcases @var_cases i ρ S1 with ⟨x, ex, q⟩ | q
      · rw [q] at an1
        simp only at an1
        cases x with
        | obj n =>
          unfold onOb at an1
          simp only at an1
          cases es : S1[n]? with
          | none => rw [es] at an1; exact an1.elim
          | some ob =>
            rw [es] at an1
            obtain ⟨u, eu, a, rfl, ha⟩ := so1.sl.den i _ ex hi
            obtain ⟨p, rfl, np, fp, tp, vs, hp, kd, z⟩ := k1
            have st := so1.tag (t := (n, tgL b)) fp tp hp rfl (so.st.mn _ np) (fun j e m q => so.sl.apart (d := .lst l) (W := W1) (H := H1) ⟨p, rfl, np, fp, tp, vs, hp, kd, z⟩ j e m q)
            obtain ⟨a', dx, fs, h1, h2, h3, h4, h5⟩ := st.wo.obL es b
            rw [show (W1.tag p (n, tgL b)).ad n = some a from ha] at h1
            cases h1
            have le : Le W1 (W1.tag p (n, tgL b)) := ⟨fun _ _ h => h, fun _ _ h => h, rfl, fun _ _ h => h⟩
            exact ⟨_, eu, a, _, dx, fs, rfl, h3, c.cl, c.nLs b, h4, an1 _ _ σ (st.putT h2 h3 (And.intro (fun _ h => nomatch h) (ne_code fun _ h => nomatch h)) rfl (h5 p l vs (if_pos rfl) hp (kd.le le) z) rfl hpu) le⟩
        | _ => exact an1.elim
      · rw [q] at an1
        exact an1.elim
    | _ => exact an1.elim
end
/-! ### pop, append of list fields -/
def fPop (b : Bool) (fa : Ev D) : Ev D := b1 fa fun d S => onOb d S fun n ob => match getL b ob with
  | some l => (match l[l.length - 1]? with
    | some x => .ok x (S.set n (setL b ob l.dropLast))
    | none => .bad)
  | none => .bad
def fPush (b : Bool) (i j : Nat) : Ev D := fun ρ S => match ρ[j]? with
  | some (some w) => (var i ρ S).bind fun d S => onOb d S fun n ob => match getL b ob, ob.state with
    | some l, some st => if l.length < sizeLine then .ok .non (S.set n (setL b ob (l ++ [.tup [w, st]]))) else .bad
    | _, _ => .bad
  | _ => .bad
theorem Dens.dropLast {W : Wd} {l : List D} {vs : List V} (h : Dens W l vs) : Dens W l.dropLast vs.dropLast := by
  rw [List.dropLast_eq_take, List.dropLast_eq_take, h.length]
  exact h.take _
section
variable {X : Cx} {A : Amb} {Ex : XK} {Γ : List Nat} {o : Expr} {fo : Ev D} {pos apos fpos : Pos}
theorem de_pop {b : Bool} {f : Str} (hpu : A.pu = false) (hf : f = nmL b) (hK : A.K = X.K) (c : ShowC X.K A.cS) (ho : DV X A Ex Γ o fo) (hb : attributeBase o f X.env (eval o X.env) = eval o X.env := by rfl)
    (hbase : attributeBase (.Attribute o f fpos) "pop" X.env (eval (.Attribute o f fpos) X.env) = eval (.Attribute o f fpos) X.env := by rfl) (hline : (apos.endLine == pos.line) = true := by rfl) : DE X A Ex Γ (.Call (.Attribute (.Attribute o f fpos) "pop" apos) [] [] pos) (fPop b fo) :=
  (pe_bm0 PySem.F.plainAttrs_list PySem.F.slot_list_pop PySem.F.type_list_pop mt_pop (pe_fld ho hb) hbase hline).of fun σ H Q ⟨W, ρ, S, wo, sl, an⟩ => seqR shD wo sl an fun d S1 W1 H1 v s1 wo1 k1 sl1 an1 => by
    subst hf
    cases d with
    | obj n =>
      unfold onOb at an1
      simp only at an1
      cases es : S1[n]? with
      | none => rw [es] at an1; exact an1.elim
      | some ob =>
        rw [es] at an1
        simp only at an1
        cases eg : getL b ob with
        | none => rw [eg] at an1; exact an1.elim
        | some l =>
          rw [eg] at an1
          simp only at an1
          cases el : l[l.length - 1]? with
          | none => rw [el] at an1; exact an1.elim
          | some x =>
            rw [el] at an1
            obtain ⟨a, rfl, ha⟩ := View.obj k1
            obtain ⟨a', dx, fs, p, vs, h1, h3, e1, hp, kd, z, tp, _, mk⟩ := wo1.obC es b eg
            rw [ha] at h1
            cases h1
            obtain ⟨y, ey, ky⟩ := kd.get' el
            have ob' := mk W1 (upd H1 p (.lst vs.dropLast)) l.dropLast vs.dropLast (fun _ _ h => h) (fun _ _ h => h) rfl (fun _ _ h => h) (fun q o ne h => by rw [upd_ne ne]; exact h) upd_same kd.dropLast (Nat.le_trans (by simp) z)
            refine ⟨a, _, dx, fs, .ref p, rfl, h3, c.cl, c.nLs b, e1, .inl ⟨rfl, vs, SqL.of hp⟩, p, vs, y, rfl, rfl, hp, by rw [kd.length]; exact ey, ?_⟩
            exact an1 W1 _ y (Step.putT .refl (wo1.pu.trans hpu) tp) (wo1.putT tp hp (And.intro (fun _ h => nomatch h) (ne_code fun _ h => nomatch h)) rfl ob') ky
    | _ => exact an1.elim
theorem de_push {b : Bool} {f x w : Str} {i j x1 : Nat} {xp xp2 wp tpos fpos2 : Pos} (hpu : A.pu = false) (hf : f = nmL b) (hK : A.K = X.K) (c : ShowC X.K A.cS) (hi : i ∉ Γ) (hj : j ∉ Γ) (hx : PE X (.Name x xp) (tVar i)) (hx2 : PE X (.Name x xp2) (tVar i)) (hw : PE X (.Name w wp) (tVar j))
    (hb : attributeBase (.Name x xp) f X.env (eval (.Name x xp) X.env) = eval (.Name x xp) X.env := by rfl) (hb2 : attributeBase (.Name x xp2) "state" X.env (eval (.Name x xp2) X.env) = eval (.Name x xp2) X.env := by rfl)
    (hbase : attributeBase (.Attribute (.Name x xp) f fpos) "append" X.env (eval (.Attribute (.Name x xp) f fpos) X.env) = eval (.Attribute (.Name x xp) f fpos) X.env := by rfl)
    (hs1 : St1 X (.Tuple [.Name w wp, .Attribute (.Name x xp2) "state" fpos2] x1 tpos) := by rfl) (hs2 : St2 X (.Name w wp) (.Attribute (.Name x xp2) "state" fpos2) := by rfl) (hs3 : St1 X (.Attribute (.Name x xp2) "state" fpos2) := by rfl)
    (hfew : ((backTo pos (starEach [.Tuple [.Name w wp, .Attribute (.Name x xp2) "state" fpos2] x1 tpos] X.env)).all (fun x => !x.1) && (backToKw pos (keywordEach [] X.env)).all (fun x => x.1.isSome) && decide (([.Tuple [.Name w wp, .Attribute (.Name x xp2) "state" fpos2] x1 tpos] : List Expr).length + ([] : List Keyword).length + (if ([] : List Keyword).isEmpty then 0 else 1) < 30)) = true := by rfl)
    (hline : (apos.endLine == pos.line) = true := by rfl) (hpl : (backTo pos (starEach [] X.env)).any (·.1) = false := by rfl) :
    DE X A Ex Γ (.Call (.Attribute (.Attribute (.Name x xp) f fpos) "append" apos) [.Tuple [.Name w wp, .Attribute (.Name x xp2) "state" fpos2] x1 tpos] [] pos) (fPush b i j) :=
  (pe_bm PySem.F.plainAttrs_list PySem.F.slot_list_append PySem.F.type_list_append mt_append (pe_fld hx hb) (pa_cons (pe_tup (pa_cons hw (pa_cons (pe_fld hx2 hb2) pa_nil hs3) hs2)) pa_nil hs1) hbase hfew hline hs1 hpl).of fun σ H Q ⟨W, ρ, S, wo, sl, an⟩ => by
    subst hf
    unfold fPush at an
    cases ew : ρ[j]? with
    | none => rw [ew] at an; exact an.elim
    | some r => cases r with
      | none => rw [ew] at an; exact an.elim
      | some wd =>
        rw [ew] at an
        simp only at an
        rcases @var_cases i ρ S with ⟨d, ex, q⟩ | q
        · rw [q] at an
          simp only [Out.bind_ok] at an
          cases d with
          | obj n =>
            unfold onOb at an
            simp only at an
            cases es : S[n]? with
            | none => rw [es] at an; exact an.elim
            | some ob =>
              rw [es] at an
              simp only at an
              cases eg : getL b ob with
              | none => rw [eg] at an; exact an.elim
              | some l => cases est : ob.state with
                | none => rw [eg, est] at an; exact an.elim
                | some st =>
                  rw [eg, est] at an
                  simp only at an
                  split at an
                  · rename_i zl
                    obtain ⟨u, eu, a, rfl, ha⟩ := sl.den i _ ex hi
                    obtain ⟨wv, ewv, kw⟩ := sl.den j _ ew hj
                    obtain ⟨a', dx, fs, p, vs, h1, h3, e1, hp, kd, z, tp, hD, mk⟩ := wo.obC es b eg
                    rw [ha] at h1
                    cases h1
                    have hs := hD false
                    rw [show getD false ob = some st from est] at hs
                    obtain ⟨sv, esv, ks⟩ := hs
                    refine ⟨_, eu, a, _, dx, fs, .ref p, rfl, h3, c.cl, c.nLs b, e1, .inl ⟨rfl, vs, SqL.of hp⟩, wv, ewv, _, eu, a, _, dx, fs, sv, rfl, h3, c.cl, c.nS, esv, by show 2 ≤ sizeLine; decide, fun t nt => ?_⟩
                    have hpt : upd H t (.tup [wv, sv]) p = some (.lst vs) := keep_upd nt _ _ hp
                    refine ⟨p, vs, .ref t, rfl, rfl, hpt, by rw [kd.length]; exact zl, ?_⟩
                    have wt := (wo.lay (o := .tup [wv, sv]) nt).freeze upd_same (wo.tgNone nt) (show 2 ≤ sizeLine by decide) (wo.frNone nt)
                    have stp := (Step.lay (o := .tup [wv, sv]) wo nt).freeze (o := .tup [wv, sv]) (nw_of nt) (wo.frNone nt)
                    have le := frz_le (o := .tup [wv, sv]) (wo.frNone nt)
                    have kt : Den (W.frz t (.tup [wv, sv])) (.tup [wd, st]) (.ref t) := ⟨t, _, rfl, upd_same, _, _, rfl, Den.mono le (fun _ _ h => h) rfl _ _ kw, _, _, rfl, Den.mono le (fun _ _ h => h) rfl _ _ ks, rfl⟩
                    have ob' := mk (W.frz t (.tup [wv, sv])) (upd (upd H t (.tup [wv, sv])) p (.lst (vs ++ [.ref t]))) (l ++ [.tup [wd, st]]) (vs ++ [.ref t]) le (fun _ _ h => h) rfl (fun _ _ h => h) (fun q o ne h => by rw [upd_ne ne]; exact keep_upd nt _ _ h) upd_same ((Dens.mono le (fun _ _ h => h) rfl _ _ kd).append (Dens.one kt)) (by simp; rw [kd.length]; omega)
                    exact an _ _ .non (stp.putT (t := (n, tgL b)) (wo.pu.trans hpu) tp) (wt.putT (k := tgL b) tp hpt (And.intro (fun _ h => nomatch h) (ne_code fun _ h => nomatch h)) rfl ob') rfl
                  · exact an.elim
          | _ => exact an.elim
        · rw [q] at an
          exact an.elim
end
end Hr

set_option Elab.async false
set_option linter.all false
set_option maxRecDepth 100000
set_option maxHeartbeats 1000000
namespace Hr
open PySem PySem.Spec PyProof.Rows L2
/-- a method of the class keeps its meaning -/
def MOk (P : Program) (w : World) (K : PySem.W.Frag) (mg : Str → Option Value) (base : Heap) (A : Amb) (m : Str) (lvl : Nat) (ps : List Str) (Rt : RR D V) (mm : List D → Sto → Out D) : Prop :=
  Meth K A.cS m (He.ma K A.cS m) ∧ ∃ fd, Binds K fd ps [] ∧ FnOk P w K mg base (CX P w) lvl (He.ma K A.cS m) fd ps (spF A Rt ps.length mm)
theorem MOk.mono {P : Program} {w : World} {K : PySem.W.Frag} {mg : Str → Option Value} {base : Heap} {A : Amb} {x : Str} {j k : Nat} {ps : List Str} {Rt : RR D V} {m : List D → Sto → Out D} (h : MOk P w K mg base A x j ps Rt m) (l : j ≤ k) : MOk P w K mg base A x k ps Rt m := by
  obtain ⟨h1, fd, h3, h4⟩ := h
  exact ⟨h1, fd, h3, h4.mono l⟩
theorem fnM {P : Program} {w : World} {K : PySem.W.Frag} {mg : Str → Option Value} {base : Heap} {A : Amb} {x q : Str} {pa : Arguments} {bd : List Stmt} {sc : Scope} {N ps : List Str} {k : Nat} {Rt : RR D V} {F : Sv} {Go : List Nat} (hm : Meth K A.cS x (He.ma K A.cS x))
    (G : ∃ fd, FunD K x q pa bd sc [] [] (He.ma K A.cS x) fd) (S : FnScope N ps sc)
    (hb : ∀ (kV doc pm : Value) (an : Option Addr) (cdv ct : Value) (us : List Value), us.length = ps.length → bindArgs (PySem.W.fnOf x q pa bd sc .none kV doc pm an cdv ct) ⟨us, []⟩ = pure (ps.zip us))
    (hd : ∀ (H : Hp) (W' : Wd) (H' : Hp), Rt H W' H' .non .non ∨ Ends' F)
    (hbody : ∀ (cdv : Value) (Ar : Around) (outer : List Env) (s : Shared) (H : Hp) (E : XK) (W : Wd), FnCode K (He.ma K A.cS x) cdv → Room k (Ar.deeper (envOfC q sc s.heap.objs.size (He.ma K A.cS x) cdv)) →
      Takes (cxOf (L2.CX P w) P w K mg base N q sc (He.ma K A.cS x) cdv Ar outer s H E) (fun cls d _ H => E cls d H) →
      PassesOwn (model P w) (cxOf (L2.CX P w) P w K mg base N q sc (He.ma K A.cS x) cdv Ar outer s H E).A (cxOf (L2.CX P w) P w K mg base N q sc (He.ma K A.cS x) cdv Ar outer s H E).env (cxOf (L2.CX P w) P w K mg base N q sc (He.ma K A.cS x) cdv Ar outer s H E).xe →
      Passes (L2.CX P w) (cxOf (L2.CX P w) P w K mg base N q sc (He.ma K A.cS x) cdv Ar outer s H E) E →
      DSs (cxOf (L2.CX P w) P w K mg base N q sc (He.ma K A.cS x) cdv Ar outer s H E) ⟨A, E, Rt, W, H⟩ [] Go [] bd F) : MOk P w K mg base A x (k + 1) ps Rt (runB N.length F) := by
  obtain ⟨fd, G⟩ := G
  exact ⟨hm, fd, G.bindsN hb, fnG G S hd hbody⟩
/-- what is called is an instance -/
def mcl (fo : Ev D) (fas : Ev (List D)) (m : List D → Sto → Out D) : Ev D := fun ρ S => (fo ρ S).bind fun d S1 => onOb d S1 fun n _ => (fas ρ S1).bind fun ds S2 => m (.obj n :: ds) S2
section
variable {X : Cx} {A : Amb} {Ex : XK} {Γ : List Nat} {k lvl : Nat} {ps : List Str} {x m : Str} {p pos apos : Pos} {o e : Expr} {es : List Expr} {mm : List D → Sto → Out D} {fo : Ev D} {fas : Ev (List D)} {R : RR D V}
theorem meth_in {W : Wd} {S : Sto} {H : Hp} {n : Nat} {ob : Ob} {v : V} (wo : Wok A W S H) (k1 : View W H (.obj n) v) (es : S[n]? = some ob) (hn : m ≠ "own" ∧ m ≠ "state" ∧ m ≠ "past" ∧ m ≠ "later") : ∃ a dx fs, v = .ref a ∧ H a = some (.ins A.cS dx fs) ∧ fs.lookup m = none ∧ W.ad n = some a := by
  obtain ⟨a, rfl, ha⟩ := View.obj k1
  obtain ⟨a', dx, fs, h1, h2, h3, h4, h5, _⟩ := wo.ob n ob es
  rw [ha] at h1
  cases h1
  exact ⟨a, dx, fs, rfl, h3, ob_no h5 hn, ha⟩
theorem d_m {pl : Sem Bool} (hR : Shift R) (c : ShowC X.K A.cS) (F : MOk X.prog X.w X.K X.mg X.base A m lvl ps R mm) (hr : Room lvl X.A) (hx : Passes (CX X.prog X.w) X Ex) (ho : DV X A Ex Γ o fo) (ha : DA X A Ex Γ (e :: es) fas) (hn : (e :: es).length + 1 = ps.length := by rfl)
    (hm : m ≠ "own" ∧ m ≠ "state" ∧ m ≠ "past" ∧ m ≠ "later" := by decide) (he : starEach (e :: es) X.env = (false, eval e X.env) :: starEach es X.env := by rfl) (hpl : (backTo pos (starEach es X.env)).any (·.1) = false := by rfl)
    (ht : eval (.Call (.Attribute o m apos) (e :: es) [] pos) X.env = (do
      let r ← eval o X.env
      standAt apos.atName
      let (f, first) ← holding [r] (getMethod r m pl)
      callWith pos f first (backTo pos (starEach (e :: es) X.env)) (backToKw pos (keywordEach [] X.env))) := by rfl) : PE X (.Call (.Attribute o m apos) (e :: es) [] pos) (tR A Ex Γ R (mcl fo fas mm)) := by
  obtain ⟨h1, fd, h3, h4⟩ := F
  refine (pe_meth ho c.cl h1 h4 hr h3 .nil hx ha.pa he hpl ht).of fun σ H Q ⟨W, ρ, S, wo, sl, an⟩ => seqR hR wo sl an fun d S1 W1 H1 v s1 wo1 k1 sl1 an1 => ?_
  cases d with
  | obj n =>
    unfold onOb at an1
    simp only at an1
    cases es : S1[n]? with
    | none => rw [es] at an1; exact an1.elim
    | some ob =>
      rw [es] at an1
      obtain ⟨a, dx, fs, rfl, h5, h6, h7⟩ := meth_in wo1 k1 es hm
      refine ⟨a, dx, fs, rfl, h5, h6, ?_⟩
      have an2 : Ans A Ex R W1 H1 ((b1 fas fun ds S2 => mm (.obj n :: ds) S2) ρ S1) Q := an1
      rw [b1_len ha.le] at an2
      refine seqR hR wo1 sl1 an2 fun ds S2 W2 H2 vs s2 wo2 k2 sl2 an3 => ?_
      split at an3
      · rename_i ql
        exact ⟨W2, S2, .obj n :: ds, wo2, ⟨_, _, rfl, ⟨a, rfl, s2.ad _ _ h7⟩, by rw [List.append_nil]; exact k2⟩, by rw [List.length_cons, ql, hn], an3⟩
      · exact an3.elim
  | _ => exact an1.elim
theorem d_m0 {pl : Sem Bool} (hR : Shift R) (c : ShowC X.K A.cS) (F : MOk X.prog X.w X.K X.mg X.base A m lvl ps R mm) (hr : Room lvl X.A) (hx : Passes (CX X.prog X.w) X Ex) (ho : DV X A Ex Γ o fo) (hn : 1 = ps.length := by rfl)
    (hm : m ≠ "own" ∧ m ≠ "state" ∧ m ≠ "past" ∧ m ≠ "later" := by decide)
    (ht : eval (.Call (.Attribute o m apos) [] [] pos) X.env = (do
      let r ← eval o X.env
      standAt apos.atName
      let (f, first) ← holding [r] (getMethod r m pl)
      callWith pos f first (backTo pos (starEach [] X.env)) (backToKw pos (keywordEach [] X.env))) := by rfl) : PE X (.Call (.Attribute o m apos) [] [] pos) (tR A Ex Γ R (mcl fo aNil mm)) := by
  obtain ⟨h1, fd, h3, h4⟩ := F
  refine (pe_meth0 ho c.cl h1 h4 hr h3 .nil hx ht).of fun σ H Q ⟨W, ρ, S, wo, sl, an⟩ => seqR hR wo sl an fun d S1 W1 H1 v s1 wo1 k1 sl1 an1 => ?_
  cases d with
  | obj n =>
    unfold onOb at an1
    simp only at an1
    cases es : S1[n]? with
    | none => rw [es] at an1; exact an1.elim
    | some ob =>
      rw [es] at an1
      obtain ⟨a, dx, fs, rfl, h5, h6, h7⟩ := meth_in wo1 k1 es hm
      exact ⟨a, dx, fs, rfl, h5, h6, W1, S1, [.obj n], wo1, ⟨_, _, rfl, ⟨a, rfl, h7⟩, rfl⟩, hn, an1⟩
  | _ => exact an1.elim
/-! ### a new instance -/
def ob0 : Ob := ⟨none, none, none, none⟩
def Wd.new (W : Wd) (n : Nat) (x : Addr) : Wd := { W with ad := fun m => if m = n then some x else W.ad m, tg := fun a => if a = x then some (n, 0) else W.tg a }
theorem newI {W : Wd} {S : Sto} {H : Hp} {y dx : Addr} (wo : Wok A W S H) (ny : H y = none) (nd : H dx = none) (ne : dx ≠ y) :
    Step W H (W.new S.length y) (upd (upd H dx (.own y)) y (.ins A.cS dx [])) ∧ Wok A (W.new S.length y) (S ++ [ob0]) (upd (upd H dx (.own y)) y (.ins A.cS dx [])) := by
  have ny' : upd H dx (.own y) y = none := by rw [upd_ne (fun e => ne e.symm)]; exact ny
  have w2 := (wo.lay (o := .own y) nd).lay (o := .ins A.cS dx []) ny'
  have s2 := (Step.lay (o := .own y) wo nd).trans (Step.lay (o := .ins A.cS dx []) (wo.lay (o := .own y) nd) ny')
  have ty : W.tg y = none := wo.tgNone ny
  have adl : ∀ m a, W.ad m = some a → (W.new S.length y).ad m = some a := fun m a e => by
    show (if m = S.length then some y else W.ad m) = some a
    rw [if_neg (fun z => by rw [z, wo.al _ (Nat.le_refl _)] at e; exact nomatch e)]
    exact e
  have tgl : ∀ a t, W.tg a = some t → (W.new S.length y).tg a = some t := fun a t e => by
    show (if a = y then some (S.length, 0) else W.tg a) = some t
    rw [if_neg (fun z => by rw [z, ty] at e; exact nomatch e)]
    exact e
  refine ⟨⟨s2.fr, adl, s2.nf, fun a t e => ?_, s2.fm', s2.mn, rfl, s2.lk, tgl, rfl, s2.pp⟩, ⟨w2.fr, w2.sz, fun a o f => ?_, fun m b e => ?_, fun m l => ?_, fun a t e => ?_, w2.kk, w2.tb, w2.lk, w2.pu⟩⟩
  · by_cases q : a = y
    · exact .inr (q ▸ nw_of ny)
    · exact .inl (by rw [show (W.new S.length y).tg a = W.tg a from if_neg q] at e; exact e)
  · show (if a = y then some (S.length, 0) else W.tg a) = none
    rw [if_neg (fun z => by rw [z] at f; have f2 : W.Fr y = some o := f; rw [wo.frNone ny] at f2; exact nomatch f2)]
    exact wo.ft a o f
  · by_cases q : m < S.length
    · rw [List.getElem?_append_left q] at e
      exact (w2.ob m b e).mono2 (fun _ _ h => h) adl rfl tgl fun _ _ _ _ h => h
    · by_cases q2 : m = S.length
      · subst q2
        rw [List.getElem?_append_right (Nat.le_refl _), Nat.sub_self] at e
        cases e
        exact ⟨y, dx, [], if_pos rfl, if_pos rfl, upd_same, List.nodup_nil, fun f m => by simp at m, rfl, rfl, rfl, rfl⟩
      · rw [List.getElem?_eq_none (by simp; omega)] at e
        exact nomatch e
  · rw [List.length_append] at l
    show (if m = S.length then some y else W.ad m) = none
    simp only [List.length_cons, List.length_nil] at l
    rw [if_neg (by omega)]
    exact wo.al m (by omega)
  · by_cases q : a = y
    · exact ⟨_, by rw [q, upd_same], rfl⟩
    · exact w2.tn a t (by rw [show (W.new S.length y).tg a = W.tg a from if_neg q] at e; exact e)
def mkO (fas : Ev (List D)) (m : List D → Sto → Out D) : Ev D := b1 fas fun ds S => (m (.obj S.length :: ds) (S ++ [ob0])).bind fun d S2 => match d with
  | .non => .ok (.obj S.length) S2
  | _ => .bad
theorem de_mk (M : Mk X.K A.cS (He.ma X.K A.cS "__init__")) (F : MOk X.prog X.w X.K X.mg X.base A "__init__" lvl ps rD mm) (hr : Room (lvl + 1) X.A) (hg : Gl X x) (hmg : X.mg x = some (.ref A.cS)) (hx : Passes (CX X.prog X.w) X Ex) (ha : DA X A Ex Γ (e :: es) fas) (hn : (e :: es).length + 1 = ps.length := by rfl)
    (hdb : (x == ("__debug__" : Str)) = false := by decide) (he : starEach (e :: es) X.env = (false, eval e X.env) :: starEach es X.env := by rfl) (hpl : (backTo pos (starEach es X.env)).any (·.1) = false := by rfl) : DE X A Ex Γ (.Call (.Name x p) (e :: es) [] pos) (mkO fas mm) := by
  obtain ⟨h1, fd, h3, h4⟩ := F
  unfold mkO DE
  rw [b1_len ha.le]
  refine (pe_make M h4 hr hg hmg h3 .nil hx ha.pa hdb he hpl).of fun σ H Q ⟨W, ρ, S, wo, sl, an⟩ => seqR shD wo sl an fun ds S1 W1 H1 vs s1 wo1 k1 sl1 an1 => fun y dx ny nd ne => ?_
  split at an1
  · rename_i ql
    obtain ⟨s2, w2⟩ := newI wo1 ny nd ne
    refine ⟨W1.new S1.length y, S1 ++ [ob0], .obj S1.length :: ds, w2, ⟨_, _, rfl, ⟨y, rfl, if_pos rfl⟩, by rw [List.append_nil]; exact k1.step s2⟩, by rw [List.length_cons, ql, hn], ?_⟩
    generalize mm (.obj S1.length :: ds) (S1 ++ [ob0]) = r at an1
    cases r with
    | ok d S2 =>
      simp only [Out.bind_ok] at an1
      intro W3 H3 v s3 w3 kv
      cases d with
      | non => exact ⟨kv, an1 W3 H3 _ (s2.trans s3) w3 ⟨y, rfl, s3.ad _ _ (if_pos rfl)⟩⟩
      | _ => exact an1.elim
    | exc c S2 => exact fun W3 H3 s3 w3 => an1 W3 H3 (s2.trans s3) w3
    | bad => exact an1.elim
  · exact an1.elim
end
end Hr

set_option Elab.async false
set_option linter.all false
set_option maxRecDepth 100000
set_option maxHeartbeats 1000000
namespace Hr
open PySem PySem.Spec PyProof.Rows L2

/-! ### a told dict is locked, from then on -/
def tLk (te : TE) : TE := fun σ H Q => te σ H fun x H1 => ∃ d kvs, x = .ref d ∧ ((∃ o, H1 d = some (.frz o (.dK kvs)) ∧ Q x H1) ∨ (H1 d = some (.dK kvs) ∧ ∀ o, Q x (upd H1 d (.frz o (.dK kvs)))))
theorem pe_lk {X : Cx} {e : Expr} {te : TE} (he : PE X e te) : PE X e (tLk te) := ⟨fun pins s σ H Q I h => thn (he.run pins s σ H _ I h) fun u s1 ⟨x, H1, I1, rx, d, kvs, ex, q⟩ => by
  rcases q with ⟨o, _, q⟩ | ⟨hd, q⟩
  · exact ⟨x, H1, I1, rx, q⟩
  · obtain ⟨o, I2⟩ := I1.lock hd trivial
    exact ⟨x, _, I2, rx, q o⟩⟩
def Wd.lck (W : Wd) (d : Addr) (o : Obj) : Wd := { W with lk := fun a => if a = d then some o else W.lk a }
theorem Wok.lock {A : Amb} {W : Wd} {S : Sto} {H : Hp} {d : Addr} {kvs : List (Key × V)} {o : Obj} (wo : Wok A W S H) (f : W.Fr d = some (.dK kvs)) (h : H d = some (.dK kvs)) : Step W H (W.lck d o) (upd H d (.frz o (.dK kvs))) ∧ Wok A (W.lck d o) S (upd H d (.frz o (.dK kvs))) := by
  have td := wo.ft d _ f
  have nl : W.lk d = none := none_of_ne fun x e => by
    obtain ⟨k, _, q⟩ := wo.lk d x e
    rw [h] at q
    exact nomatch q
  refine ⟨⟨fun _ _ h => h, fun _ _ h => h, fun _ _ h => .inl h, fun _ _ h => .inl h, fun a u hu _ fa _ => ?_, fun a n u hu => ?_, rfl, fun a x e => ?_, fun _ _ h => h, rfl, fun _ a t u ht hu _ => by rw [upd_ne (fun z => by rw [z, td] at ht; exact nomatch ht)]; exact hu⟩, ⟨fun a u fa => ?_, wo.sz, wo.ft, fun m b e => ?_, wo.al, fun a t e => ?_, wo.kk, Tabs.upd wo.tb h (And.intro (fun _ h => nomatch h) (ne_code fun _ h => nomatch h)), fun a x e => ?_, wo.pu⟩⟩
  · rw [upd_ne (fun z => by rw [z, f] at fa; exact nomatch fa)]
    exact hu
  · by_cases q : a = d
    · subst q
      exact nomatch n _ upd_same
    · exact n u (by rw [upd_ne q]; exact hu)
  · show (if a = d then some o else W.lk a) = some x
    rw [if_neg (fun z => by rw [z, nl] at e; exact nomatch e)]
    exact e
  · have fa' : W.Fr a = some u := fa
    by_cases q : a = d
    · subst q
      rw [f] at fa'
      cases fa'
      exact .inr ⟨o, upd_same⟩
    · exact Held.keep (wo.fr a u fa') fun x hx => by rw [upd_ne q]; exact hx
  · exact (wo.ob m b e).mono2 (fun _ _ h => h) (fun _ _ h => h) rfl (fun _ _ h => h) fun a k x ta hx => by
      rw [upd_ne (fun z => by rw [z, td] at ta; exact nomatch ta)]
      exact hx
  · have e' : W.tg a = some t := e
    obtain ⟨x, hx, b⟩ := wo.tn a t e'
    exact ⟨x, by rw [upd_ne (fun z => by rw [z, td] at e'; exact nomatch e')]; exact hx, b⟩
  · by_cases q : a = d
    · subst q
      rw [show (W.lck a o).lk a = some o from if_pos rfl] at e
      cases e
      exact ⟨kvs, f, upd_same⟩
    · rw [show (W.lck d o).lk a = W.lk a from if_neg q] at e
      obtain ⟨k, q1, q2⟩ := wo.lk a x e
      exact ⟨k, q1, by rw [upd_ne q]; exact q2⟩
/-- a dict that stands locked is noted so -/
theorem Wok.note {A : Amb} {W : Wd} {S : Sto} {H : Hp} {d : Addr} {kvs : List (Key × V)} {o : Obj} (wo : Wok A W S H) (f : W.Fr d = some (.dK kvs)) (h : H d = some (.frz o (.dK kvs))) : Step W H (W.lck d o) H ∧ Wok A (W.lck d o) S H := by
  have same : ∀ x, W.lk d = some x → x = o := fun x e => by
    obtain ⟨k, _, q⟩ := wo.lk d x e
    rw [h] at q
    cases q
    rfl
  refine ⟨⟨fun _ _ h => h, fun _ _ h => h, fun _ _ h => .inl h, fun _ _ h => .inl h, fun _ _ h _ _ _ => h, fun _ h => h, rfl, fun a x e => ?_, fun _ _ h => h, rfl, fun _ _ _ _ _ h _ => h⟩, ⟨wo.fr, wo.sz, wo.ft, fun m b e => (wo.ob m b e).mono2 (fun _ _ h => h) (fun _ _ h => h) rfl (fun _ _ h => h) fun _ _ _ _ h => h, wo.al, wo.tn, wo.kk, wo.tb, fun a x e => ?_, wo.pu⟩⟩
  · show (if a = d then some o else W.lk a) = some x
    split
    · rename_i q; rw [same x (q ▸ e)]
    · exact e
  · by_cases q : a = d
    · subst q
      rw [show (W.lck a o).lk a = some o from if_pos rfl] at e
      cases e
      exact ⟨kvs, f, h⟩
    · rw [show (W.lck d o).lk a = W.lk a from if_neg q] at e
      exact wo.lk a x e
def keyOf : Key → D
  | .inl i => .int i
  | .inr s => .str s
theorem den_key {W : Wd} (k : Key) : Den W (keyOf k) (kV k) := by cases k <;> exact rfl
def asKeys (f : Ev D) : Ev (List D) := b1 f fun d S => match d with
  | .dK l => .ok (l.map fun kv => keyOf kv.1) S
  | _ => .bad
theorem DenK.keys {W : Wd} : ∀ {l : List (Key × D)} {vs : List (Key × V)}, DenK W l vs → vs.map (·.1) = l.map (·.1)
  | [], _, h => by cases h; rfl
  | (k, d) :: l, _, ⟨v, r, e, _, h2⟩ => by subst e; simp [DenK.keys h2]
theorem walks_keys {A : Amb} {W0 : Wd} {a : Addr} {vs : List (Key × V)} {ds : List (Key × D)} {o : Obj} (f : W0.Fr a = some (.dK vs)) (l : W0.lk a = some o) (k : DenK W0 ds vs) (z : vs.length ≤ sizeLine) : Walks A (Itk a o vs) (ds.map fun kv => keyOf kv.1) W0 where
  go := fun W S H i d wo le e => by
    obtain ⟨kv, q1, q2⟩ := wo.lk a o (le.lk _ _ l)
    rw [le.fr _ _ f] at q1
    cases q1
    have hk := k.keys
    have hi : i < ds.length := by
      obtain ⟨h, _⟩ := List.getElem?_eq_some_iff.mp e
      simpa using h
    refine ⟨⟨q2, by rw [k.length]; exact hi⟩, fun x H' ⟨h1, kk, v, h2, h3⟩ => ?_⟩
    subst h1 h3
    refine ⟨W, .refl, wo, ?_⟩
    have e1 : (vs.map (·.1))[i]? = some kk := by rw [List.getElem?_map, h2]; rfl
    rw [hk, List.getElem?_map] at e1
    rw [List.getElem?_map] at e
    cases ed : ds[i]? with
    | none => rw [ed] at e; exact nomatch e
    | some p =>
      rw [ed] at e e1
      simp only [Option.map_some, Option.some.injEq] at e e1
      subst e e1
      exact den_key _
  stop := fun W S H wo le => by
    obtain ⟨kv, q1, q2⟩ := wo.lk a o (le.lk _ _ l)
    rw [le.fr _ _ f] at q1
    cases q1
    exact ⟨q2, by rw [List.length_map, k.length]; exact Nat.le_refl _⟩
  sz := by rw [List.length_map, ← k.length]; exact z
section
variable {X : Cx} {A : Amb} {Ex : XK} {Γ : List Nat} {tg e e' : Expr} {f f' : Ev D} {p pos apos : Pos}
theorem di_keys (h : DE X A Ex Γ e f) : DI X A Ex Γ tg e (asKeys f) :=
  (pi_keys (pe_lk h)).of fun σ H R ⟨W, ρ, S, wo, sl, an⟩ => seqR shW wo sl an fun d S1 W1 H1 v s1 wo1 k1 sl1 an1 => by
    cases d with
    | dK ds =>
      obtain ⟨a, vs, rfl, fr, k⟩ := k1
      have z := wo1.sz a _ fr
      rcases wo1.fr a _ fr with h | ⟨o, h⟩
      · refine ⟨a, vs, rfl, .inr ⟨h, fun o => ⟨a, o, rfl, .inl ⟨vs, upd_same, ?_⟩⟩⟩⟩
        obtain ⟨s2, w2⟩ := wo1.lock (o := o) fr h
        exact an1 _ _ _ s2 w2 (walks_keys fr (if_pos rfl) (k.step s2) z)
      · refine ⟨a, vs, rfl, .inl ⟨o, h, a, o, rfl, .inl ⟨vs, h, ?_⟩⟩⟩
        obtain ⟨s2, w2⟩ := wo1.note fr h
        exact an1 _ _ _ s2 w2 (walks_keys fr (if_pos rfl) (k.step s2) z)
    | _ => exact an1.elim
/-- the signs of a text -/
def asSigns (f : Ev D) : Ev (List D) := b1 f fun d S => match d with
  | .str s => if s.length ≤ sizeLine then .ok (s.cps.toList.map fun c => .str ⟨#[c]⟩) S else .bad
  | _ => .bad
theorem walks_str {W0 : Wd} {s : Str} (z : s.length ≤ sizeLine) : Walks A (Its s) (s.cps.toList.map fun c => .str ⟨#[c]⟩) W0 where
  go := fun W S H i d wo le e => by
    have hi : i < s.cps.size := by
      obtain ⟨h, _⟩ := List.getElem?_eq_some_iff.mp e
      simpa using h
    refine ⟨hi, fun x H' ⟨h1, c, h2, h3⟩ => ?_⟩
    subst h1 h3
    refine ⟨W, .refl, wo, ?_⟩
    rw [List.getElem?_map, Array.getElem?_toList, h2] at e
    cases e
    exact rfl
  stop := fun W S H wo le => by simp [Its]
  sz := by rw [List.length_map, Array.length_toList]; exact z
theorem di_str (h : DE X A Ex Γ e f) : DI X A Ex Γ tg e (asSigns f) :=
  (pi_str h).of fun σ H R ⟨W, ρ, S, wo, sl, an⟩ => seqR shW wo sl an fun d S1 W1 H1 v s1 wo1 k1 sl1 an1 => by
    cases d with
    | str s =>
      cases (show v = .str s from k1)
      simp only at an1
      split at an1
      · rename_i z
        exact ⟨s, rfl, an1.done wo1 (walks_str z)⟩
      · exact an1.elim
    | _ => exact an1.elim
/-! ### dict(d), dict(pairs) -/
def pairsK : List D → Option (List (Key × D))
  | [] => some []
  | .tup [k, v] :: l => match keyD k, pairsK l with
    | some k, some r => some ((k, v) :: r)
    | _, _ => none
  | _ :: _ => none
def mergeD (l : List (Key × D)) : List (Key × D) := l.foldl (fun m kv => putD m kv.1 kv.2) []
def dDict : D → Sto → Out D
  | .dK l, S => .ok (.dK l) S
  | .lst l, S => match pairsK l with
    | some ps => if ps.length ≤ sizeLine then .ok (.dK (mergeD ps)) S else .bad
    | none => .bad
  | _, _ => .bad

theorem putD_len {κ : Type} [DecidableEq κ] (l : List (κ × D)) (k : κ) (d : D) : (putD l k d).length ≤ l.length + 1 := by
  unfold putD
  split <;> simp
theorem mergeD_len : ∀ (l m : List (Key × D)), (l.foldl (fun m kv => putD m kv.1 kv.2) m).length ≤ m.length + l.length
  | [], m => by simp
  | kv :: l, m => by
    have := mergeD_len l (putD m kv.1 kv.2)
    have := putD_len m kv.1 kv.2
    simp only [List.foldl_cons, List.length_cons]
    omega
theorem DenK.merge {W : Wd} : ∀ {l m : List (Key × D)} {vs us : List (Key × V)}, DenK W l vs → DenK W m us → DenK W (l.foldl (fun m kv => putD m kv.1 kv.2) m) (vs.foldl (fun m kv => putK m kv.1 kv.2) us)
  | [], _, _, _, h, h2 => by cases h; exact h2
  | (k, d) :: l, m, _, us, ⟨v, r, e, h1, h2⟩, h3 => by
    subst e
    simp only [List.foldl_cons]
    exact DenK.merge h2 (DenK.put h1 h3)
theorem pairs_of {W : Wd} {S : Sto} {H : Hp} {K : PySem.W.Frag} (wo : Wok A W S H) : ∀ {l : List D} {vs : List V} {ps : List (Key × D)}, Dens W l vs → pairsK l = some ps → ∃ as kvs, vs = as.map V.ref ∧ Paired (fun p kv => SqT K H p [kV kv.1, kv.2]) as kvs ∧ DenK W ps kvs
  | [], _, ps, h, e => by cases h; simp [pairsK] at e; subst e; exact ⟨[], [], rfl, .nil, rfl⟩
  | d :: l, _, ps, ⟨v, r, ev, h1, h2⟩, e => by
    subst ev
    match d, h1, e with
    | .tup [kd, vd], h1, e =>
      unfold pairsK at e
      split at e
      · rename_i k q e1 e2
        cases e
        obtain ⟨as, kvs, e3, e4, e5⟩ := pairs_of wo h2 e2
        obtain ⟨a, us, rfl, f, kv, r1, rfl, g1, vv, r2, rfl, g2, g3⟩ := h1
        cases g3
        have := keyD_ofD g1 e1
        subst this
        exact ⟨a :: as, (k, vv) :: kvs, by rw [e3]; rfl, .cons (SqT.of (wo.fr a _ f)) e4, vv, kvs, rfl, g2, e5⟩
      · exact nomatch e
    | .non, _, e => exact nomatch e
    | .bl _, _, e => exact nomatch e
    | .int _, _, e => exact nomatch e
    | .str _, _, e => exact nomatch e
    | .tup [], _, e => exact nomatch e
    | .tup [_], _, e => exact nomatch e
    | .tup (_ :: _ :: _ :: _), _, e => exact nomatch e
    | .lst _, _, e => exact nomatch e
    | .dK _, _, e => exact nomatch e
    | .dT _, _, e => exact nomatch e
    | .obj _, _, e => exact nomatch e
    | .scr _, _, e => exact nomatch e
    | .exn _, _, e => exact nomatch e
theorem dn_dict (hc : X.calm = true) (hgl : Gl X "dict") (hm : X.mg "dict" = none) (hv : bootBuiltins "dict" = some (.type "dict")) (ha : DV X A Ex Γ e f) (he : St1 X e := by rfl) : DN X A Ex Γ (.Call (.Name "dict" p) [e] [] pos) (b1 f dDict) :=
  d_t1 (he := he) shN (call_dictD.or (call_dictP hc)) hgl hm hv ha fun W S H v d Q wo k an => by
    cases d with
    | dK l =>
      obtain ⟨a, vs, rfl, h, kd, z⟩ := k.dK wo
      exact .inl ⟨a, vs, rfl, h, Ans.newK (l := l) an wo kd z⟩
    | lst l =>
      obtain ⟨a, vs, rfl, h, kd, z⟩ := k.lst wo
      unfold dDict at an
      cases ep : pairsK l with
      | none => simp only [ep] at an; exact an.elim
      | some ps =>
        simp only [ep] at an
        split at an
        · rename_i zl
          obtain ⟨as, kvs, e1, e2, e3⟩ := pairs_of (K := X.K) wo kd ep
          subst e1
          have dk := DenK.merge e3 (show DenK W [] [] from rfl)
          refine .inr ⟨a, as, kvs, rfl, SqL.of h, e2, Ans.newK (l := mergeD ps) an wo dk ?_⟩
          rw [show mergeK [] kvs = kvs.foldl (fun m kv => putK m kv.1 kv.2) [] from rfl, dk.length]
          have := mergeD_len ps []
          simp only [List.length_nil] at this
          omega
        · exact an.elim
    | _ => exact an.elim
/-! ### d.get(k, x) -/
def dGet2 (f fk fx : Ev D) : Ev D := fun ρ S => (f ρ S).bind fun d S1 => match d with
  | .dK l => (fk ρ S1).bind fun k S2 => (fx ρ S2).bind fun x S3 => match keyD k with
    | some k => .ok ((lookK l k).getD x) S3
    | none => .bad
  | _ => .bad
theorem de_get2 {e2 : Expr} {f2 : Ev D} (hu : X.A.units + 1 < cLine) (ho : DV X A Ex Γ e f) (hk : DV X A Ex Γ e' f') (hx : DE X A Ex Γ e2 f2) (m : M2 X e "get" apos e' e2 pos := by exact ⟨rfl, rfl, rfl, rfl⟩) : DE X A Ex Γ (.Call (.Attribute e "get" apos) [e', e2] [] pos) (dGet2 f f' f2) :=
  (pe_dget2 hu ho hk hx m).of fun σ H Q ⟨W, ρ, S, wo, sl, an⟩ => seqR shD wo sl an fun d S1 W1 H1 v s1 wo1 k1 sl1 an1 => by
    cases d with
    | dK l =>
      have k1' : View W1 H1 (.dK l) v := k1
      obtain ⟨a, vs, rfl, rd, kd, z⟩ := k1'.dK wo1
      refine ⟨a, rfl, .inl ⟨vs, rd⟩, seqR shD wo1 sl1 an1 fun kd2 S2 W2 H2 y s2 wo2 k2 sl2 an2 => seqR shD wo2 sl2 an2 fun xd S3 W3 H3 z s3 wo3 k3 sl3 an3 => ?_⟩
      cases ek : keyD kd2 with
      | none => rw [ek] at an3; exact an3.elim
      | some kk =>
        rw [ek] at an3
        simp only at an3
        have := keyD_of k2 ek
        subst this
        obtain ⟨a', us, ea, rd3, kd3, _⟩ := ((k1'.step s2).step s3).dK wo3
        cases ea
        obtain ⟨v1, v2⟩ := DenK.val kk kd3
        refine ⟨valV us kk, .inl ⟨us, kk, rd3, rfl, rfl⟩, ?_⟩
        cases el : lookK l kk with
        | none => rw [v2 el]; rw [el] at an3; exact an3.done wo3 k3
        | some x =>
          obtain ⟨u, eu, ku⟩ := v1 x el
          rw [eu]
          rw [el] at an3
          exact an3.done wo3 ku
    | _ => exact an1.elim
/-! ### x or y, by truth -/
def truD : D → Option Bool
  | .non => some false
  | .bl b => some b
  | .int i => some (i != 0)
  | .str s => if s.length ≤ sizeLine then some ((s.length : Int) != 0) else none
  | .lst l => some (!l.isEmpty)
  | .tup l => some (!l.isEmpty)
  | _ => none
theorem View.tru {W : Wd} {S : Sto} {H : Hp} {K : PySem.W.Frag} {d : D} {v : V} {b : Bool} (wo : Wok A W S H) (k : View W H d v) (e : truD d = some b) : TruV K v H b := by
  have emp : ∀ {l : List D} {vs : List V}, Dens W l vs → l.isEmpty = vs.isEmpty := fun h => by
    have := h.length
    cases ‹List D› <;> cases ‹List V› <;> simp_all
  cases d with
  | non => cases k.non; cases e; exact rfl
  | bl b => cases k.bl; cases e; exact rfl
  | int i => cases k.int; cases e; exact rfl
  | str s =>
    cases k.str
    have e : (if s.length ≤ sizeLine then some ((s.length : Int) != 0) else none) = some b := e
    split at e
    · rename_i z; cases e; exact ⟨z, rfl⟩
    · exact nomatch e
  | lst l =>
    obtain ⟨a, vs, rfl, h, kd, z⟩ := k.lst wo
    cases e
    exact .inl ⟨vs, SqL.of h, by rw [emp kd]⟩
  | tup l =>
    obtain ⟨a, vs, rfl, h, kd, z, _⟩ := k.tup wo
    cases e
    exact .inr (.inl ⟨vs, SqT.of h, by rw [emp kd]⟩)
  | _ => exact nomatch e
def tOr (f g : Ev D) : Ev D := fun ρ S => (f ρ S).bind fun d S1 => match truD d with
  | some true => .ok d S1
  | some false => g ρ S1
  | none => .bad
theorem de_orT {b : Expr} {rest : List Expr} (ha : DE X A Ex Γ e f) (hb : DE X A Ex Γ (.BoolOp .Or (b :: rest) pos) f') : DE X A Ex Γ (.BoolOp .Or (e :: b :: rest) pos) (tOr f f') :=
  (pe_orT ha hb).of fun σ H Q ⟨W, ρ, S, wo, sl, an⟩ => seqR shD wo sl an fun d S1 W1 H1 v s1 wo1 k1 sl1 an1 => by
    cases et : truD d with
    | none => rw [et] at an1; exact an1.elim
    | some b =>
      rw [et] at an1
      refine ⟨b, View.tru wo1 (.inl k1) et, ?_⟩
      cases b
      · rw [if_neg Bool.false_ne_true]; exact ⟨W1, ρ, S1, wo1, sl1, an1⟩
      · rw [if_pos rfl]; exact an1.done wo1 k1
/-- a sign in a text -/
def dInS : D → D → Sto → Out D
  | .str x, .str y, S => match x.cps.toList with
    | [c] => .ok (.bl (decide (c ∈ y.cps.toList))) S
    | _ => .bad
  | _, _, _ => .bad
theorem ck_inS {b : Expr} (hm : behindInMarks .In b = false := by with_unfolding_all rfl) : Ck X A Ex .In b dInS :=
  d_cmp op_in_sign hm fun W S H x y dx dy Q wo kx ky an => by
    cases dx with
    | str x => cases dy with
      | str y =>
        cases kx.str
        cases ky.str
        unfold dInS at an
        simp only at an
        split at an
        · rename_i c ec
          refine ⟨c, y, ?_, rfl, an.done wo rfl⟩
          have : x.cps = #[c] := by have := congrArg List.toArray ec; simpa using this
          cases x
          simp only at this
          rw [this]
        · exact an.elim
      | _ => exact an.elim
    | _ => exact an.elim
end
end Hr

set_option Elab.async false
set_option linter.all false
set_option maxRecDepth 100000
set_option maxHeartbeats 1000000
namespace Hr
open PySem PySem.Spec PyProof.Rows L2
/-! ### a <= b <= c <= d, as a test -/
def leI (fa : Ev D) (k : Int → Sto → Out Bool) (x : Int) (ρ : Rho) (S : Sto) : Out Bool := (fa ρ S).bind fun y S1 => match y with
  | .int j => if x ≤ j then k j S1 else .ok false S1
  | _ => .bad
def ch3 (fa fb fc fd : Ev D) : Ev Bool := fun ρ S => (fa ρ S).bind fun x S1 => match x with
  | .int i => leI fb (fun j S2 => leI fc (fun k S3 => leI fd (fun _ S4 => .ok true S4) k ρ S3) j ρ S2) i ρ S1
  | _ => .bad
section
variable {X : Cx} {A : Amb} {Ex : XK} {Γ : List Nat} {a b c d : Expr} {fa fb fc fd : Ev D} {pos : Pos}
theorem dt_chain3 (ha : DV X A Ex Γ a fa) (hb : DV X A Ex Γ b fb) (hc : DV X A Ex Γ c fc) (hd : DV X A Ex Γ d fd) (hm : lastMarks [.LtE, .LtE, .LtE] [b, c, d] = false := by with_unfolding_all rfl) :
    DT X A Ex Γ (.Compare a [.LtE, .LtE, .LtE] [b, c, d] pos) (ch3 fa fb fc fd) := by
  refine ⟨fun pins s σ H Q I ⟨W, ρ, S, wo, sl, an⟩ => ?_⟩
  have cmp : ∀ (i j : Int) (u v : Value) (s : Shared) (H : Hp) (R : Bool → Prop) (K : Bool → Shared → Prop), Inv X pins σ H s → RelV (.int i) u → RelV (.int j) v → (∀ s', Inv X pins σ H s' → K (decide (i ≤ j)) s') → wpAny (model X.prog X.w) X.A (compareOp .LtE u v) (fun r s1 => wpAny (model X.prog X.w) X.A (truthy r) (fun t s2 => K t s2) X.xe s1) X.xe s := fun i j u v s H R K I ru rv hk => by
    refine thn (op_le pins s σ H (.int i) (.int j) u v (fun z H' => z = .bl (decide (i ≤ j)) ∧ H' = H) I ru rv ⟨i, j, rfl, rfl, rfl, rfl⟩) fun r s1 ⟨z, H1, I1, r1, e1, e2⟩ => ?_
    subst e1 e2
    cases r1
    exact wpAny_truthy_bool (hk s1 I1)
  -- what a reading leaves
  have go : ∀ {e : Expr} {f : Ev D} (he : DV X A Ex Γ e f) {W : Wd} {S : Sto} {H : Hp} {s : Shared} {k : Int → Sto → Out Bool} {i : Int} (I : Inv X pins σ H s) (wo : Wok A W S H) (sl : Sl Γ W H σ ρ) (an : Ans A Ex rB W H (leI f k i ρ S) Q) {K : Value → Shared → Prop},
      (∀ u s1 j H1 W1 S1, RelV (.int j) u → Inv X pins σ H1 s1 → Wok A W1 S1 H1 → Sl Γ W1 H1 σ ρ → Ans A Ex rB W1 H1 (if i ≤ j then k j S1 else .ok false S1) Q → K u s1) → wpAny (model X.prog X.w) X.A (eval e X.env) K X.xe s := fun he W S H s k i I wo sl an K hK => by
    refine thn (he.run pins s σ H (fun v H1 => ∃ x S1 W1, Wok A W1 S1 H1 ∧ View W1 H1 x v ∧ Sl Γ W1 H1 σ ρ ∧ Ans A Ex rB W1 H1 (match x with | .int j => if i ≤ j then k j S1 else .ok false S1 | _ => .bad) Q) I (seqR shB wo sl an fun x S1 W1 H1 v s1 wo1 k1 sl1 an1 => ⟨x, S1, W1, wo1, k1, sl1, an1⟩)) fun u s1 ⟨v, H1, I1, r1, x, S1, W1, wo1, k1, sl1, an1⟩ => ?_
    cases x with
    | int j =>
      cases View.int k1
      exact hK u s1 j H1 W1 S1 r1 I1 wo1 sl1 an1
    | _ => exact an1.elim
  have fin : ∀ {s : Shared} {H : Hp} {W : Wd} {S : Sto} {t : Bool}, Inv X pins σ H s → Wok A W S H → Ans A Ex rB W H (.ok t S) Q → ∃ H', Inv X pins σ H' s ∧ Q t H' := fun I wo an => ⟨_, I, an.done wo rfl⟩
  refine isTrue_chain (thn (ha.run pins s σ H (fun v H1 => ∃ x S1 W1, Wok A W1 S1 H1 ∧ View W1 H1 x v ∧ Sl Γ W1 H1 σ ρ ∧ Ans A Ex rB W1 H1 (match x with | .int i => leI fb (fun j S2 => leI fc (fun k S3 => leI fd (fun _ S4 => .ok true S4) k ρ S3) j ρ S2) i ρ S1 | _ => .bad) Q) I (seqR shB wo sl an fun x S1 W1 H1 v s1 wo1 k1 sl1 an1 => ⟨x, S1, W1, wo1, k1, sl1, an1⟩)) fun v s1 ⟨xv, H1, I1, r1, x, S1, W1, wo1, k1, sl1, an1⟩ => ?_) hm
  cases x with
  | int i =>
    cases View.int k1
    refine test_link (go hb I1 wo1 sl1 an1 fun u s2 j H2 W2 S2 r2 I2 wo2 sl2 an2 => cmp i j v u s2 H2 (fun _ => True) _ I2 r1 r2 fun s3 I3 => ?_)
    by_cases q : i ≤ j
    · rw [if_pos q] at an2
      rw [decide_eq_true q]
      refine test_link (go hc I3 wo2 sl2 an2 fun u3 s4 k H4 W4 S4 r4 I4 wo4 sl4 an4 => cmp j k u u3 s4 H4 (fun _ => True) _ I4 r2 r4 fun s5 I5 => ?_)
      by_cases q2 : j ≤ k
      · rw [if_pos q2] at an4
        rw [decide_eq_true q2]
        refine test_last (go hd I5 wo4 sl4 an4 fun u5 s6 l H6 W6 S6 r6 I6 wo6 sl6 an6 => cmp k l u3 u5 s6 H6 (fun _ => True) _ I6 r4 r6 fun s7 I7 => ?_)
        by_cases q3 : k ≤ l
        · rw [if_pos q3] at an6
          rw [decide_eq_true q3]
          exact fin I7 wo6 an6
        · rw [if_neg q3] at an6
          rw [decide_eq_false q3]
          exact fin I7 wo6 an6
      · rw [if_neg q2] at an4
        rw [decide_eq_false q2]
        exact fin I5 wo4 an4
    · rw [if_neg q] at an2
      rw [decide_eq_false q]
      exact fin I3 wo2 an2
  | _ => exact an1.elim
end
end Hr

set_option Elab.async false
set_option linter.all false
set_option maxRecDepth 100000
set_option maxHeartbeats 1000000
namespace Hr
open PySem PySem.Spec PyProof.Rows L2
section
variable {α : Type} {lt : α → α → Bool}
/-! ### one sort for all orders -/
def insG (lt : α → α → Bool) (x : α) : List α → List α
  | [] => [x]
  | y :: l => if lt y x = true then y :: insG lt x l else x :: y :: l
def sortG (lt : α → α → Bool) (l : List α) : List α := l.foldr (insG lt) []
theorem insG_perm (lt : α → α → Bool) (x : α) : ∀ l : List α, (insG lt x l).Perm (x :: l)
  | [] => .refl _
  | y :: l => by
    unfold insG
    split
    · exact ((insG_perm lt x l).cons y).trans (.swap x y l)
    · exact .refl _
theorem sortG_perm (lt : α → α → Bool) : ∀ l : List α, (sortG lt l).Perm l
  | [] => .refl _
  | x :: l => (insG_perm lt x (sortG lt l)).trans ((sortG_perm lt l).cons x)
abbrev Up (lt : α → α → Bool) (l : List α) : Prop := l.Pairwise fun a b => lt b a = false
theorem Ord.le_tr (o : Ord lt) {x y z : α} (h1 : lt y x = false) (h2 : lt z y = false) : lt z x = false := by
  by_cases e : lt z x = true
  · by_cases q : x = y
    · subst q; rw [e] at h2; exact nomatch h2
    · have := o.tot _ _ h1 (fun e => q e.symm)
      rw [o.tr _ _ _ e this] at h2
      exact nomatch h2
  · simpa using e
theorem Ord.asym (o : Ord lt) {x y : α} (h : lt x y = true) : lt y x = false := by
  by_cases e : lt y x = true
  · have := o.tr _ _ _ h e
    rw [o.irr] at this
    exact nomatch this
  · simpa using e
theorem insG_up (o : Ord lt) (x : α) : ∀ l : List α, Up lt l → Up lt (insG lt x l)
  | [], _ => List.pairwise_singleton _ _
  | y :: l, h => by
    obtain ⟨h1, h2⟩ := List.pairwise_cons.mp h
    unfold insG
    split
    · rename_i q
      refine List.pairwise_cons.mpr ⟨fun z m => ?_, insG_up o x l h2⟩
      rcases List.mem_cons.mp ((insG_perm lt x l).mem_iff.mp m) with e | e
      · subst e; exact o.asym q
      · exact h1 z e
    · rename_i q
      have q : lt y x = false := by simpa using q
      refine List.pairwise_cons.mpr ⟨fun z m => ?_, h⟩
      rcases List.mem_cons.mp m with e | e
      · subst e; exact q
      · exact o.le_tr q (h1 z e)
theorem sortG_up (o : Ord lt) : ∀ l : List α, Up lt (sortG lt l)
  | [] => List.Pairwise.nil
  | x :: l => insG_up o x _ (sortG_up o l)
theorem up_uniq (o : Ord lt) : ∀ (l m : List α), l.Perm m → Up lt l → Up lt m → l = m
  | [], m, p, _, _ => by rw [List.nil_perm.mp p]
  | x :: l, [], p, _, _ => by have := p.length_eq; simp at this
  | x :: l, y :: m, p, h1, h2 => by
    obtain ⟨a1, a2⟩ := List.pairwise_cons.mp h1
    obtain ⟨b1, b2⟩ := List.pairwise_cons.mp h2
    have e : x = y := by
      by_cases q : x = y
      · exact q
      · have mx : x ∈ m := (List.mem_cons.mp (p.mem_iff.mp List.mem_cons_self)).resolve_left q
        have my : y ∈ l := (List.mem_cons.mp (p.mem_iff.mpr List.mem_cons_self)).resolve_left (fun e => q e.symm)
        have := o.tot _ _ (b1 x mx) q
        rw [a1 y my] at this
        exact nomatch this
    subst e
    rw [up_uniq o l m ((List.perm_cons x).mp p) a2 b2]
/-! ### texts -/
theorem ltC_irr : ∀ x : List Nat, ltCps x x = false
  | [] => rfl
  | a :: x => by simp [ltCps, ltC_irr x]
theorem ltC_tr : ∀ x y z : List Nat, ltCps x y = true → ltCps y z = true → ltCps x z = true
  | [], [], _, h, _ => by simp [ltCps] at h
  | [], _ :: _, [], _, h => by simp [ltCps] at h
  | [], _ :: _, _ :: _, _, _ => by simp [ltCps]
  | _ :: _, [], _, h, _ => by simp [ltCps] at h
  | _ :: _, _ :: _, [], _, h => by simp [ltCps] at h
  | a :: x, b :: y, c :: z, h1, h2 => by
    simp only [ltCps, Bool.or_eq_true, Bool.and_eq_true, decide_eq_true_eq, beq_iff_eq] at h1 h2 ⊢
    rcases h1 with h1 | ⟨e1, h1⟩ <;> rcases h2 with h2 | ⟨e2, h2⟩
    · exact .inl (by omega)
    · exact .inl (by omega)
    · exact .inl (by omega)
    · exact .inr ⟨by omega, ltC_tr x y z h1 h2⟩
theorem ltC_tot : ∀ x y : List Nat, ltCps x y = false → x ≠ y → ltCps y x = true
  | [], [], _, h => absurd rfl h
  | [], _ :: _, h, _ => by simp [ltCps] at h
  | _ :: _, [], _, _ => by simp [ltCps]
  | a :: x, b :: y, h1, h2 => by
    simp only [ltCps, Bool.or_eq_false_iff, Bool.and_eq_false_iff, decide_eq_false_iff_not, Bool.or_eq_true, Bool.and_eq_true, decide_eq_true_eq, beq_iff_eq, beq_eq_false_iff_ne] at h1 ⊢
    obtain ⟨h3, h4⟩ := h1
    by_cases e : a = b
    · subst e
      rcases h4 with h4 | h4
      · exact absurd rfl h4
      · exact .inr ⟨rfl, ltC_tot x y h4 fun q => h2 (by rw [q])⟩
    · exact .inl (by omega)
def ltS (x y : Str) : Bool := ltCps x.cps.toList y.cps.toList
theorem str_ext {x y : Str} (h : x.cps.toList = y.cps.toList) : x = y := by
  cases x; cases y
  simp only at h
  have := Array.toList_inj.mp h
  subst this
  rfl
theorem ordS : Ord ltS := ⟨fun x => ltC_irr _, fun x y z h1 h2 => ltC_tr _ _ _ h1 h2, fun x y h1 h2 => ltC_tot _ _ h1 fun e => h2 (str_ext e)⟩
theorem rising_up : ∀ (l : List Str) (p : Str), risingS p l = true → Up ltS (p :: l)
  | [], p, _ => List.pairwise_singleton _ _
  | x :: l, p, h => by
    unfold risingS at h
    rw [Bool.and_eq_true] at h
    have ih := rising_up l x h.2
    have q : ltS x p = false := by have := h.1; simpa [ltS] using this
    refine List.pairwise_cons.mpr ⟨fun z m => ?_, ih⟩
    rcases List.mem_cons.mp m with e | e
    · subst e; exact q
    · exact ordS.le_tr q ((List.pairwise_cons.mp ih).1 z e)
theorem sortedS_up : ∀ (l : List Str), sortedS l = true → Up ltS l
  | [], _ => List.Pairwise.nil
  | x :: l, h => rising_up l x h
end
def keysS : List (Key × D) → Option (List Str)
  | [] => some []
  | (.inr s, _) :: l => (keysS l).map (s :: ·)
  | _ :: _ => none
theorem keysS_of {W : Wd} : ∀ {l : List (Key × D)} {vs : List (Key × V)} {ks : List Str}, DenK W l vs → keysS l = some ks → vs.map (·.1) = ks.map Sum.inr
  | [], _, ks, h, e => by cases h; simp [keysS] at e; subst e; rfl
  | (k, d) :: l, _, ks, ⟨v, r, ev, h1, h2⟩, e => by
    cases k with
    | inl x => simp [keysS] at e
    | inr i =>
      simp [keysS] at e
      obtain ⟨c, e1, e2⟩ := e
      subst ev e2
      simp [keysS_of h2 e1]
theorem dens_strs {W : Wd} : ∀ z : List Str, Dens W (z.map D.str) (z.map V.str)
  | [] => rfl
  | x :: z => ⟨_, _, rfl, rfl, dens_strs z⟩
/-- the ints of a told tuple -/
def intsAt (W : Wd) : V → List Int
  | .ref a => match W.Fr a with
    | some (.tup vs) => vs.filterMap fun v => match v with
      | .int i => some i
      | _ => none
    | _ => []
  | _ => []
theorem ints_map : ∀ n : List Int, ints? (n.map D.int) = some n
  | [] => rfl
  | x :: n => by simp [ints?, ints_map n]
theorem intsAt_of {W : Wd} {n : List Int} {v : V} (h : Den W (tupI n) v) : intsAt W v = n := by
  obtain ⟨a, vs, rfl, f, k⟩ := h
  have : vs = n.map V.int := by
    exact ints_of k (ints_map n)
  subst this
  unfold intsAt
  simp only
  rw [f]
  simp only [List.filterMap_map]
  exact List.filterMap_some
theorem dens_at {W : Wd} : ∀ (ys : List V), (∀ y ∈ ys, Den W (tupI (intsAt W y)) y) → Dens W ((ys.map (intsAt W)).map tupI) ys
  | [], _ => rfl
  | y :: ys, h => ⟨_, _, rfl, h y List.mem_cons_self, dens_at ys fun z m => h z (List.mem_cons_of_mem _ m)⟩
def rSortA (K : PySem.W.Frag) : List V → Hp → VK → Prop := fun vs H Q => ∃ d B, 1 ≤ d ∧ rSortU K d B vs H Q
theorem cr_sortA {X : Cx} : CallR X (.builtin "sorted") (rSortA X.K) := fun pins s σ H xs us Q I r ⟨d, B, hd, h⟩ => cr_sortT hd pins s σ H xs us Q I r h
def dSortA : D → Sto → Out D
  | .dK l, S => match keysI l with
    | some ks => if ks.length < 64 then .ok (.lst ((sortI ks).map .int)) S else .bad
    | none => match keysS l with
      | some ks => if ks.length < 64 then .ok (.lst ((sortG ltS ks).map .str)) S else .bad
      | none => .bad
  | .lst l, S => match ints? l with
    | some ns => .ok (.lst ((sortI ns).map .int)) S
    | none => match tups? l with
      | some (t :: ts) => if l.length < 64 ∧ t.isEmpty = false ∧ okTs t.length (t :: ts) = true then .ok (.lst ((sortG HT.lexLt (t :: ts)).map tupI)) S else .bad
      | _ => .bad
  | _, _ => .bad
section
variable {X : Cx} {A : Amb} {Ex : XK} {Γ : List Nat} {e : Expr} {f : Ev D} {p pos : Pos}
theorem sortA_sem (hc : X.calm = true) {W : Wd} {S : Sto} {H : Hp} {v : V} {d : D} {Q : VK} (wo : Wok A W S H) (k : View W H d v) (an : Ans A Ex rN W H (dSortA d S) Q) :
    ((fun xs H Q => (fun xs H Q => (∃ (a : Addr) (kvs : List (Key × V)) (ks : List Int), xs = [.ref a] ∧ Rd H a (.dK kvs) ∧ kvs.map (·.1) = ks.map Sum.inl ∧ ks.length < 64 ∧ ∀ (ys : List Int) (p : Addr), ys.Perm ks → ys.Pairwise (· ≤ ·) → H p = none → Q (.ref p) (upd H p (.lst (ys.map V.int)))) ∨ (∃ (a : Addr) (kvs : List (Key × V)) (ks : List Str), xs = [.ref a] ∧ Rd H a (.dK kvs) ∧ kvs.map (·.1) = ks.map Sum.inr ∧ ks.length < 64 ∧ ∀ ys p, ys.Perm ks → sortedS ys = true → H p = none → Q (.ref p) (upd H p (.lst (ys.map V.str))))) xs H Q ∨ (fun xs H Q => rSortedI X.K xs H Q ∨ rSortA X.K xs H Q) xs H Q) : List V → Hp → VK → Prop) [v] H Q := by
  cases d with
  | dK l =>
    obtain ⟨a, vs, rfl, h, kk, z⟩ := k.dK wo
    unfold dSortA at an
    cases e1 : keysI l with
    | some ks =>
      simp only [e1] at an
      split at an
      · rename_i h64
        refine .inl (.inl ⟨a, vs, ks, rfl, h, keysI_of kk e1, h64, fun ys b pm pw nb => ?_⟩)
        have e2 : ys = sortI ks := perm_uniq _ _ (pm.trans (sortI_perm ks).symm) pw (sortI_pw ks)
        subst e2
        exact Ans.newL an wo (dens_ints _) (by rw [List.length_map, (sortI_perm ks).length_eq, sizeLine_eq]; omega) b nb
      · exact an.elim
    | none =>
      simp only [e1] at an
      cases e3 : keysS l with
      | none => simp only [e3] at an; exact an.elim
      | some ks =>
        simp only [e3] at an
        split at an
        · rename_i h64
          refine .inl (.inr ⟨a, vs, ks, rfl, h, keysS_of kk e3, h64, fun ys b pm pw nb => ?_⟩)
          have e2 : ys = sortG ltS ks := up_uniq ordS _ _ (pm.trans (sortG_perm ltS ks).symm) (sortedS_up _ pw) (sortG_up ordS ks)
          subst e2
          exact Ans.newL an wo (dens_strs _) (by rw [List.length_map, (sortG_perm ltS ks).length_eq, sizeLine_eq]; omega) b nb
        · exact an.elim
  | lst l =>
    obtain ⟨a, vs, rfl, h, kk, z⟩ := k.lst wo
    unfold dSortA at an
    cases e1 : ints? l with
    | some ns =>
      simp only [e1] at an
      have hus := ints_of kk e1
      subst hus
      refine .inr (.inl ⟨a, ns, rfl, SqL.of h, fun ys b pm pw nb => ?_⟩)
      have e2 : ys = sortI ns := perm_uniq _ _ (pm.trans (sortI_perm ns).symm) pw (sortI_pw ns)
      subst e2
      exact Ans.newL an wo (dens_ints _) (by rw [List.length_map, (sortI_perm ns).length_eq]; rw [List.length_map] at z; exact z) b nb
    | none =>
      simp only [e1] at an
      cases e3 : tups? l with
      | none => simp only [e3] at an; exact an.elim
      | some ts => cases ts with
        | nil => simp only [e3] at an; exact an.elim
        | cons t ts =>
          simp only [e3] at an
          split at an
          · rename_i ok
            obtain ⟨h64, ht, okt⟩ := ok
            obtain ⟨L, e4, e5, e6⟩ := tups_of wo kk e3
            have bd := bd_of okt
            have hden : ∀ y ∈ vs, Den W (tupI (intsAt W y)) y ∧ ∃ q ∈ L, y = .ref q.1 ∧ intsAt W y = q.2 := fun y my => by
              rw [e4] at my
              obtain ⟨q, mq, rfl⟩ := List.mem_map.mp my
              have := intsAt_of (e6 q mq).2
              exact ⟨by rw [this]; exact (e6 q mq).2, q, mq, rfl, this⟩
            have mem : ∀ q ∈ L, q.2 ∈ t :: ts := fun q mq => by rw [← e5]; exact List.mem_map.mpr ⟨q, mq, rfl⟩
            have maps : vs.map (intsAt W) = t :: ts := by
              rw [← e5, e4, List.map_map]
              exact List.map_congr_left fun q mq => intsAt_of (e6 q mq).2
            have h1 : 1 ≤ t.length := by cases t with
              | nil => simp at ht
              | cons x t => simp
            refine .inr (.inr ⟨t.length, 1000000, h1, a, vs, rfl, SqL.of h, by rw [kk.length]; exact h64, fun y my => ?_, fun ys b pm pw nb => ?_⟩)
            · obtain ⟨_, q, mq, rfl, _⟩ := hden y my
              exact ⟨q.2, ⟨q.1, rfl, SqT.of (e6 q mq).1⟩, bd q.2 (mem q mq)⟩
            · have hy : ∀ y ∈ ys, y ∈ vs := fun y my => pm.mem_iff.mp my
              have e7 : ys.map (intsAt W) = sortG HT.lexLt (t :: ts) := by
                refine up_uniq ordT _ _ ?_ ?_ (sortG_up ordT _)
                · rw [← maps]
                  exact (pm.map _).trans (sortG_perm _ _).symm
                · refine List.pairwise_map.mpr (pw.imp_of_mem fun {y z} my mz hyz => ?_)
                  obtain ⟨_, q, mq, ey, iy⟩ := hden y (hy y my)
                  obtain ⟨_, r, mr, ez, iz⟩ := hden z (hy z mz)
                  subst ey ez
                  have cl := hyz q.2 r.2 ⟨q.1, rfl, SqT.of (e6 q mq).1⟩ ⟨r.1, rfl, SqT.of (e6 r mr).1⟩
                  rw [iy, iz]
                  obtain ⟨l1, b1⟩ := bd q.2 (mem q mq)
                  obtain ⟨l2, b2⟩ := bd r.2 (mem r mr)
                  by_cases eq : q.2 = r.2
                  · rw [eq]; exact lex_irr _
                  · exact ordT.asym (lex_of_code q.2 r.2 (by rw [l1, l2]) b1 b2 cl eq)
              have dy := dens_at (W := W) ys fun y my => (hden y (hy y my)).1
              rw [e7] at dy
              exact Ans.newL an wo dy (by rw [pm.length_eq]; exact z) b nb
          · exact an.elim
  | _ => exact an.elim
theorem dn_sortA (hc : X.calm = true) (hg : Gl X "sorted") (hm : X.mg "sorted" = none) (hv : bootBuiltins "sorted" = some (.builtin "sorted")) (ha : DV X A Ex Γ e f) (he : St1 X e := by rfl) : DN X A Ex Γ (.Call (.Name "sorted" p) [e] [] pos) (b1 f dSortA) :=
  d_b1 (he := he) shN (((call_sortedDI hc).or (call_sortedD hc)).or (cr_sortedI.or cr_sortA)) hg hm hv ha fun W S H v d Q wo k an => sortA_sem hc wo k an
end
end Hr

set_option Elab.async false
set_option linter.all false
set_option maxRecDepth 100000
set_option maxHeartbeats 1000000
namespace HrEqT
open PySem PySem.Spec PyProof.Rows L2 GQ
variable {prog : Program} {w : World} {A : Around} {E : Value → Shared → Prop}
/-- two pairs whose items are the same: they are not unlike -/
theorem pair_same {l b : Addr} {x1 x2 y1 y2 : Value} {s : Shared} {Q : Value → Shared → Prop} (ho : s.heap.IsTuple l #[x1, x2]) (hb : s.heap.IsTuple b #[y1, y2]) (hu : A.units < cLine)
    (e1 : SeqAt.EqP prog w A.in1 s x1 y1 true) (e2 : SeqAt.EqP prog w A.in1 s x2 y2 true) (q : Q (.bool false) s) : wpAny (model prog w) A (richCompare .NotEq (.ref l) (.ref b)) Q E s := by
  obtain ⟨⟨cls, dd, data, sl⟩, o1, hc, n, hd⟩ := id ho
  obtain ⟨⟨cls2, dd2, data2, sl2⟩, o2, hc2, n2, hd2⟩ := id hb
  simp only at hc hd hc2 hd2
  subst hc hd hc2 hd2
  refine wpAny_richCompare_same_room (op := .NotEq) ⟨_, o1, rfl⟩ ⟨_, o2, rfl⟩ F.slot_tuple_ne (call_here F.slot_tuple_ne ⟨_, o1, rfl⟩ F.entry_tuple_ne (F.args_tuple_ne_2 _ _) ?_) hu
  have f2 := AutoSeq1.sub_tuple_tuple
  have fin : wants (fun v s' => v ≠ .notImplemented ∧ Q v s') E (.ok (.ret (.bool false))) s := ⟨(fun x => nomatch x), q⟩
  obtain ⟨hp, g, d, tk, os⟩ := s
  wp_walk using wpAny_loadPart' o1, wpAny_loadPart' o2, wpAny_forIn_list _ (fun rest r s' => r.1 = none ∧ s' = ⟨hp, g, d, tk, os⟩ ∧ (rest = [(x1, y1), (x2, y2)] ∨ rest = [(x2, y2)] ∨ rest = [])) _
  case turn =>
    rintro ⟨y, x⟩ rest r s' ⟨hr, rfl, hz⟩
    rcases hz with hz | hz | hz
    · cases hz
      refine wpAny_bind (e1 _ _ ?_)
      wp_walk
      exact ⟨rfl, rfl, .inr (.inl rfl)⟩
    · cases hz
      refine wpAny_bind (e2 _ _ ?_)
      wp_walk
      exact ⟨rfl, rfl, .inr (.inr rfl)⟩
    · exact nomatch hz
  case fin =>
    rintro ⟨r1, r2⟩ s' ⟨hr, rfl, hz⟩
    simp only at hr
    subst hr
    wp_walk
    exact ⟨(fun x => nomatch x), q⟩
  case h => exact ⟨rfl, rfl, .inl rfl⟩
end HrEqT
namespace Hr
open PySem PySem.Spec PyProof.Rows L2
def okV (l : List (Key × D)) : Bool := l.all fun kv => okE kv.2 50
def eqK (l m : List (Key × D)) : Bool := l.length == m.length && l.all fun kv => match lookK m kv.1 with
  | some u => D.eqv kv.2 u
  | none => false
def dEqA : D → D → Sto → Out D := fun x y S => match x, y with
  | .dK l, .dK m => if okV l = true ∧ okV m = true then .ok (.bl (eqK l m)) S else .bad
  | .tup [.dK l1, .dK l2], .tup [.dK m1, .dK m2] => if (okV l1 = true ∧ okV l2 = true ∧ okV m1 = true ∧ okV m2 = true) ∧ eqK l1 m1 = true ∧ eqK l2 m2 = true then .ok (.bl true) S else .bad
  | x, y => dEq x y S
def dNeA : D → D → Sto → Out D := fun x y S => match x, y with
  | .tup [.dK l1, .dK l2], .tup [.dK m1, .dK m2] => if (okV l1 = true ∧ okV l2 = true ∧ okV m1 = true ∧ okV m2 = true) ∧ eqK l1 m1 = true ∧ eqK l2 m2 = true then .ok (.bl false) S else .bad
  | x, y => dNe x y S
section
variable {X : Cx} {A : Amb} {Ex : XK}
/-- two values that are data, read -/
theorem eqP_data {pins : List (Addr × Obj)} {σ : L2.St} {H : Hp} {s : Shared} {Ar : Around} {W : Wd} {S : Sto} {d e : D} {x y : V} {v u : Value} (I : Inv X pins σ H s) (wo : Wok A W S H) (hd : Den W d x) (he : Den W e y) (od : okE d 50 = true) (oe : okE e 50 = true) (rx : RelV x v) (ry : RelV y u) (hu : Ar.units + 60 < cLine) :
    SeqAt.EqP X.prog X.w Ar s v u (D.eqv d e) := by
  obtain ⟨as, r1⟩ := Dp.reads I (D.py d) x v (Den.dp (K := X.K) wo d 50 x od hd) rx
  obtain ⟨bs, r2⟩ := Dp.reads I (D.py e) y u (Den.dp (K := X.K) wo e 50 y oe he) ry
  obtain ⟨l1, l2⟩ := okE.lay d 50 od
  obtain ⟨m1, m2⟩ := okE.lay e 50 oe
  have := SeqAt.eqAt_reads (D.py d) (D.py e) Ar s v u as bs r1 r2 l1 m1 (by have := Nat.min_le_left (D.py d).depth (D.py e).depth; omega)
  rw [eqv_py d e 50 50 od oe] at this
  exact this.eqP
theorem look_val {W : Wd} {k : Key} {m : List (Key × D)} {us : List (Key × V)} {vb : List (Key × Value)} (h : DenK W m us) (r : KV us vb) : (∀ d, lookK m k = some d → ∃ y u, valV us k = some y ∧ valueAt vb k = some u ∧ Den W d y ∧ RelV y u) ∧ (lookK m k = none → valueAt vb k = none) := by
  obtain ⟨h1, h2⟩ := DenK.val k h
  have rr := r.val k
  refine ⟨fun d e => ?_, fun e => ?_⟩
  · obtain ⟨y, e1, kd⟩ := h1 d e
    rw [e1] at rr
    obtain ⟨u, hu, ry⟩ := rr.some_of
    exact ⟨y, u, e1, hu, kd, ry⟩
  · rw [h2 e] at rr
    cases eq : valueAt vb k with
    | none => rfl
    | some u => rw [eq] at rr; exact rr.elim
theorem hits_eq {pins : List (Addr × Obj)} {σ : L2.St} {H : Hp} {s : Shared} {Ar : Around} {W : Wd} {S : Sto} {m : List (Key × D)} {us : List (Key × V)} {vb : List (Key × Value)} (I : Inv X pins σ H s) (wo : Wok A W S H) (hm : DenK W m us) (rm : KV us vb) (om : okV m = true) (hu : Ar.units + 60 < cLine) :
    ∀ {l : List (Key × D)} {vs : List (Key × V)} {va : List (Key × Value)}, DenK W l vs → KV vs va → okV l = true → PySem.W.KeqHitsP X.prog X.w Ar s vb va (l.all fun kv => match lookK m kv.1 with | some u => D.eqv kv.2 u | none => false)
  | [], _, va, h, r, _ => by
    cases h
    unfold KV at r
    cases r
    exact .nil
  | (k, d) :: l, _, va, ⟨v, rest, ev, h1, h2⟩, r, o => by
    subst ev
    unfold KV at r
    cases r with
    | @cons _ q _ qs h3 h4 =>
      obtain ⟨e1, e2⟩ := h3
      obtain ⟨qk, qv⟩ := q
      obtain ⟨o1, o2⟩ := Bool.and_eq_true_iff.mp (show (okE d 50 && okV l) = true from o)
      have e1' : k = qk := e1
      subst e1'
      have ih := hits_eq I wo hm rm om hu h2 h4 o2
      obtain ⟨g1, g2⟩ := look_val (k := k) hm rm
      rw [List.all_cons]
      cases el : lookK m k with
      | none =>
        simp only [Bool.false_and]
        exact .miss (g2 el)
      | some u =>
        obtain ⟨y, uv, _, hy, kd, ry⟩ := g1 u el
        have ou : okE u 50 = true := by
          clear g1 g2 ih kd
          induction m generalizing us vb with
          | nil => exact nomatch el
          | cons p m ihm =>
            obtain ⟨pk, pd⟩ := p
            obtain ⟨p1, p2⟩ := Bool.and_eq_true_iff.mp (show (okE pd 50 && okV m) = true from om)
            unfold lookK at el
            split at el
            · cases el; exact p1
            · obtain ⟨v', r', e', h1', h2'⟩ := hm
              subst e'
              unfold KV at rm
              cases rm with
              | cons _ t =>
                have : ∀ m' : List (Key × D), okV m' = true → lookK m' k = some u → okE u 50 = true := fun m' => by
                  induction m' with
                  | nil => exact fun _ z => nomatch z
                  | cons p' m' ih' =>
                    intro z1 z2
                    obtain ⟨w1, w2⟩ := Bool.and_eq_true_iff.mp (show (okE p'.2 50 && okV m') = true from z1)
                    unfold lookK at z2
                    split at z2
                    · cases z2; exact w1
                    · exact ih' w2 z2
                exact this m p2 el
        exact .hit hy (eqP_data I wo h1 kd o1 ou e2 ry hu) ih
theorem View.dKo {W : Wd} {S : Sto} {H : Hp} {pins : List (Addr × Obj)} {σ : L2.St} {s : Shared} {l : List (Key × D)} {v : V} (I : Inv X pins σ H s) (wo : Wok A W S H) (k : View W H (.dK l) v) : ∃ a vs va, v = .ref a ∧ DenK W l vs ∧ (a == sysModules) = false ∧ KV vs va ∧ s.heap.DictOf (mixKind X.prog X.w) a va := by
  obtain ⟨a, vs, rfl, h, kd, z⟩ := k.dK wo
  obtain ⟨_, ya, va, ra, da⟩ := (show ObjOk X.prog X.w H s.heap a (.dK vs) from h.ok I.hok)
  exact ⟨a, vs, va, rfl, kd, ya, ra, da⟩
theorem dicts_rc {W : Wd} {S : Sto} {H : Hp} {pins : List (Addr × Obj)} {σ : L2.St} {s : Shared} {Ar : Around} {l m : List (Key × D)} {x y : V} {v u : Value} (I : Inv X pins σ H s) (wo : Wok A W S H) (kx : View W H (.dK l) x) (ky : View W H (.dK m) y) (ol : okV l = true) (om : okV m = true) (rx : RelV x v) (ry : RelV y u) (hu : Ar.units + 61 < cLine) (E Q : Value → Shared → Prop) (q : Q (.bool (eqK l m)) s) :
    wpAny (model X.prog X.w) Ar (richCompare .Eq v u) Q E s := by
  obtain ⟨a, vs, va, rfl, ka, ya, ra, da⟩ := kx.dKo I wo
  obtain ⟨b, us, vb, rfl, kb, yb, rb, db⟩ := ky.dKo I wo
  cases rx
  cases ry
  refine PySem.W.rcP_dicts (knd := mixKind X.prog X.w) ya yb da db (by omega) (fun _ => hits_eq I wo kb rb om (by show Ar.units + 1 + 60 < cLine; omega) ka ra ol) E Q ?_
  have e1 : va.length = l.length := by rw [← ka.length]; exact (Paired.length ra).symm
  have e2 : vb.length = m.length := by rw [← kb.length]; exact (Paired.length rb).symm
  rw [e1, e2]
  exact q
theorem dicts_eqP {W : Wd} {S : Sto} {H : Hp} {pins : List (Addr × Obj)} {σ : L2.St} {s : Shared} {Ar : Around} {l m : List (Key × D)} {x y : V} {v u : Value} (I : Inv X pins σ H s) (wo : Wok A W S H) (kx : View W H (.dK l) x) (ky : View W H (.dK m) y) (ol : okV l = true) (om : okV m = true) (rx : RelV x v) (ry : RelV y u) (hu : Ar.units + 61 < cLine) (e : eqK l m = true) :
    SeqAt.EqP X.prog X.w Ar s v u true := by
  have rc := dicts_rc I wo kx ky ol om rx ry hu
  rw [e] at rc
  obtain ⟨a, vs, va, rfl, _⟩ := kx.dKo I wo
  obtain ⟨b, us, vb, rfl, _⟩ := ky.dKo I wo
  cases rx
  cases ry
  by_cases q : a = b
  · subst q; exact (SeqAt.EqAt.same _).eqP
  · exact SeqAt.eqP_refs q rc
def rEqT (A : Amb) (K : PySem.W.Frag) (g : D → D → Option Bool) : R2 := fun x y H Q => ∃ W S dx dy r, Wok A W S H ∧ View W H dx x ∧ View W H dy y ∧ g dx dy = some r ∧ Q (.bl r) H
def eqT (x y : D) : Option Bool := match x, y with
  | .dK l, .dK m => if okV l = true ∧ okV m = true then some (eqK l m) else none
  | .tup [.dK l1, .dK l2], .tup [.dK m1, .dK m2] => if (okV l1 = true ∧ okV l2 = true ∧ okV m1 = true ∧ okV m2 = true) ∧ eqK l1 m1 = true ∧ eqK l2 m2 = true then some true else none
  | _, _ => none
def neT (x y : D) : Option Bool := match x, y with
  | .tup [.dK l1, .dK l2], .tup [.dK m1, .dK m2] => if (okV l1 = true ∧ okV l2 = true ∧ okV m1 = true ∧ okV m2 = true) ∧ eqK l1 m1 = true ∧ eqK l2 m2 = true then some false else none
  | _, _ => none
theorem pairD {W : Wd} {S : Sto} {H : Hp} {pins : List (Addr × Obj)} {σ : L2.St} {s : Shared} {l1 l2 : List (Key × D)} {v : V} {u : Value} (I : Inv X pins σ H s) (wo : Wok A W S H) (k : View W H (.tup [.dK l1, .dK l2]) v) (r : RelV v u) :
    ∃ a x1 x2 v1 v2, u = .ref a ∧ s.heap.IsTuple a #[x1, x2] ∧ Den W (.dK l1) v1 ∧ Den W (.dK l2) v2 ∧ RelV v1 x1 ∧ RelV v2 x2 := by
  obtain ⟨a, vs, rfl, h, kd, z, _⟩ := k.tup wo
  obtain ⟨v1, _, rfl, d1, v2, _, rfl, d2, e⟩ := kd
  cases e
  cases r
  obtain ⟨its, rv, p, hz⟩ := I.tuple (SqT.of (K := X.K) h)
  obtain ⟨x1, x2, rfl, r1, r2⟩ := vals2 rv
  exact ⟨a, x1, x2, v1, v2, rfl, p, d1, d2, r1, r2⟩
theorem op_eqT (hu : X.A.units + 64 < cLine) : OpR X (compareOp .Eq) (rEqT A X.K eqT) := by
  intro pins s σ H x y v u Q I rx ry ⟨W, S, dx, dy, r, wo, kx, ky, e, q⟩
  unfold eqT at e
  split at e
  · split at e
    · rename_i ok
      cases e
      exact dicts_rc I wo kx ky ok.1 ok.2 rx ry (by omega) _ _ ⟨.bl _, H, I, rfl, q⟩
    · exact nomatch e
  · split at e
    · rename_i ok
      cases e
      obtain ⟨⟨o1, o2, o3, o4⟩, e1, e2⟩ := ok
      obtain ⟨a, x1, x2, v1, v2, rfl, p, d1, d2, r1, r2⟩ := pairD I wo kx rx
      obtain ⟨b, y1, y2, w1, w2, rfl, p', d1', d2', r1', r2'⟩ := pairD I wo ky ry
      have q1 := dicts_eqP (Ar := X.A.in1) I wo (.inl d1) (.inl d1') o1 o3 r1 r1' (by show X.A.units + 1 + 61 < cLine; omega) e1
      have q2 := dicts_eqP (Ar := X.A.in1) I wo (.inl d2) (.inl d2') o2 o4 r2 r2' (by show X.A.units + 1 + 61 < cLine; omega) e2
      refine GQ.rc_tupG (items := #[x1, x2]) (items2 := #[y1, y2]) rfl (by omega) (fun _ s' => s' = s) p p' (fun i h1 h2 s' es => ?_) (fun s' es => by subst es; exact ⟨.bl true, H, I, rfl, q⟩) rfl
      subst es
      have h1 : i < 2 := h1
      match i, h1 with
      | 0, _ => exact q1 _ _ ⟨rfl, rfl⟩
      | 1, _ => exact q2 _ _ ⟨rfl, rfl⟩
    · exact nomatch e
  · exact nomatch e
theorem op_neT (hu : X.A.units + 64 < cLine) : OpR X (compareOp .NotEq) (rEqT A X.K neT) := by
  intro pins s σ H x y v u Q I rx ry ⟨W, S, dx, dy, r, wo, kx, ky, e, q⟩
  unfold neT at e
  split at e
  · split at e
    · rename_i ok
      cases e
      obtain ⟨⟨o1, o2, o3, o4⟩, e1, e2⟩ := ok
      obtain ⟨a, x1, x2, v1, v2, rfl, p, d1, d2, r1, r2⟩ := pairD I wo kx rx
      obtain ⟨b, y1, y2, w1, w2, rfl, p', d1', d2', r1', r2'⟩ := pairD I wo ky ry
      have q1 := dicts_eqP (Ar := X.A.in1) I wo (.inl d1) (.inl d1') o1 o3 r1 r1' (by show X.A.units + 1 + 61 < cLine; omega) e1
      have q2 := dicts_eqP (Ar := X.A.in1) I wo (.inl d2) (.inl d2') o2 o4 r2 r2' (by show X.A.units + 1 + 61 < cLine; omega) e2
      exact HrEqT.pair_same p p' (by omega) q1 q2 ⟨.bl false, H, I, rfl, q⟩
    · exact nomatch e
  · exact nomatch e
theorem ck_eqA {b : Expr} (hK : A.K = X.K) (hu : X.A.units + 64 < cLine) : Ck X A Ex .Eq b dEqA := by
  obtain ⟨⟨r, ho, hg⟩, hm⟩ := ck_eq (X := X) (A := A) (Ex := Ex) (b := b) hK hu
  refine d_cmp (ho.or (op_eqT (A := A) hu)) hm fun W S H x y dx dy Q wo kx ky an => ?_
  have key : (∃ t, eqT dx dy = some t ∧ dEqA dx dy S = .ok (.bl t) S) ∨ (dEqA dx dy S = dEq dx dy S) ∨ dEqA dx dy S = .bad := by
    unfold dEqA eqT
    split
    · split
      · exact .inl ⟨_, rfl, rfl⟩
      · exact .inr (.inr rfl)
    · split
      · exact .inl ⟨_, rfl, rfl⟩
      · exact .inr (.inr rfl)
    · exact .inr (.inl rfl)
  rcases key with ⟨t, e1, e2⟩ | e | e
  · rw [e2] at an
    exact .inr ⟨W, S, dx, dy, t, wo, kx, ky, e1, an.done wo rfl⟩
  · rw [e] at an
    exact .inl (hg W S H x y dx dy Q wo kx ky an)
  · rw [e] at an
    exact an.elim
theorem ck_neA {b : Expr} (hK : A.K = X.K) (hu : X.A.units + 64 < cLine) : Ck X A Ex .NotEq b dNeA := by
  obtain ⟨⟨r, ho, hg⟩, hm⟩ := ck_ne (X := X) (A := A) (Ex := Ex) (b := b) hK hu
  refine d_cmp (ho.or (op_neT (A := A) hu)) hm fun W S H x y dx dy Q wo kx ky an => ?_
  have key : (∃ t, neT dx dy = some t ∧ dNeA dx dy S = .ok (.bl t) S) ∨ (dNeA dx dy S = dNe dx dy S) ∨ dNeA dx dy S = .bad := by
    unfold dNeA neT
    split
    · split
      · exact .inl ⟨_, rfl, rfl⟩
      · exact .inr (.inr rfl)
    · exact .inr (.inl rfl)
  rcases key with ⟨t, e1, e2⟩ | e | e
  · rw [e2] at an
    exact .inr ⟨W, S, dx, dy, t, wo, kx, ky, e1, an.done wo rfl⟩
  · rw [e] at an
    exact .inl (hg W S H x y dx dy Q wo kx ky an)
  · rw [e] at an
    exact an.elim
end
end Hr

set_option Elab.async false
set_option linter.all false
set_option maxRecDepth 100000
set_option maxHeartbeats 1000000
namespace Hr
open PySem PySem.Spec PyProof.Rows L2
/-! ### try: body; except x: return b -/
def tryB (ca : Nat → Option Bool) (r : D) (F : Sv) : Sv := fun ρ S => match F ρ S with
  | .exc c S' => match ca c with
    | some true => .ok (.ret r) S'
    | some false => .exc c S'
    | none => .bad
  | o => o
section
variable {X : Cx} {E : En} {Γ Γ' Γc : List Nat} {x : Str} {body : List Stmt} {np rp pos' pos cp : Pos} {F : Sv} {ca : Nat → Option Bool}
theorem ds_try {r : Bool} {j : Nat} {CS : Addr} (hE : E.Rt = rD) (hs : X.stack = X.env :: X.outer) (hf : X.env.frame = some X.env.locals) (hc : Names X x (.ref CS)) (tk : Takes X fun cls d _ H => E.Ex cls d H) (hca : ∀ c b, ca c = some b → PySem.W.exmOne X.K (.ref (E.A.cl c)) (.ref CS) = some b)
    (hb : ∀ (pn : List (Addr × Obj)) (xe : Value → Shared → Prop) (Ec : XK), Takes (X.tr pn xe) (fun cls d _ H => Ec cls d H) → PassesOwn (model X.prog X.w) X.A X.env xe → Passes (L2.CX X.prog X.w) (X.tr pn xe) Ec → DSs (X.tr pn xe) ⟨E.A, Ec, E.Rt, E.W, E.H⟩ Γ Γ' Γc body F) :
    DS X E Γ Γ' Γc (.Try body [.ExceptHandler (some (.Name x np)) none [.Return (some (.Constant (.bool r) j cp)) rp] pos'] [] [] pos) (tryB ca (.bl r) F) := by
  refine (ps_try_only (X := X) (c := .ref CS) (Wout := fun cls d _ H => E.Ex cls d H) (ts := fun a cls d D σ H => D.rt (.bl r) H)
    (tb := fun W D σ H => ∃ Ec : XK, (∀ cls d σ' H', Ec cls d H' → W cls d σ' H') ∧ tS ⟨E.A, Ec, E.Rt, E.W, E.H⟩ Γ Γ' Γc F D σ H) hs hf hc tk (fun W pn xe tk2 po2 => ?_) (fun a oe cls d pn _ _ => ?_)).of fun D σ H ⟨W, ρ, S, so, an⟩ => ?_
  · refine ⟨fun pins s σ H D I h => ?_⟩
    obtain ⟨Ec, hW, h⟩ := h
    have tk3 : Takes (X.tr pn xe) (fun cls d _ H => Ec cls d H) := tk2.imp fun cls d σ H h => hW cls d σ H h
    exact (hb pn xe Ec tk3 po2 (passes_call tk3 fun _ _ _ _ h => h)).run pins s σ H D I h
  · exact (pss_one (ps_ret pe_bl)).of fun D σ H h => h
  · refine ⟨fun cls d H' => ∃ b, PySem.W.exmOne X.K cls (.ref CS) = some b ∧ (b = true → D.rt (.bl r) H') ∧ (b = false → E.Ex cls d H'), fun cls d σ' H' ⟨b, e, h1, h2⟩ => ⟨b, e, fun q a _ => h1 q, h2⟩, W, ρ, S, ⟨so.wo, so.sl, so.st, so.nw⟩, ?_⟩
    unfold tryB at an
    cases eF : F ρ S with
    | ok fl S1 =>
      rw [eF] at an
      cases fl with
      | nx ρ1 => exact fun W1 H1 σ1 so1 le => an W1 H1 σ1 ⟨so1.wo, so1.sl, so1.st, so1.nw⟩ le
      | ct ρ1 => exact fun W1 H1 σ1 so1 le => an W1 H1 σ1 ⟨so1.wo, so1.sl, so1.st, so1.nw⟩ le
      | ret d => exact an
    | exc c S1 =>
      rw [eF] at an
      simp only at an
      intro W1 H1 wo1 s1
      cases eb : ca c with
      | none => rw [eb] at an; exact an.elim
      | some b =>
        rw [eb] at an
        refine ⟨b, hca c b eb, fun q => ?_, fun q => ?_⟩
        · subst q
          refine an W1 H1 (.bl r) wo1 s1 ?_
          rw [hE]
          exact rfl
        · subst q
          exact an W1 H1 wo1 s1
    | bad => rw [eF] at an; exact an
end
end Hr

set_option Elab.async false
set_option linter.all false
set_option maxRecDepth 100000
set_option maxHeartbeats 1000000
namespace Hr
open PySem PySem.Spec PyProof.Rows L2
/-! ### what is known of the classes of refusals -/
def eqOV (a b : Option (Option Value)) : Bool := He.eqO a b
theorem oneB_ok {K : PySem.W.Frag} {D : Addr} (h : oneB K D = true) : ExcC K D := by
  unfold oneB at h
  simp only [Bool.and_eq_true, decide_eq_true_eq] at h
  obtain ⟨⟨⟨⟨⟨⟨⟨h1, h2⟩, h3⟩, h4⟩, h5⟩, h6⟩, h7⟩, h8⟩ := h
  exact ⟨He.eqO_ok h1, He.eqO_ok h2, h3, h4, He.eqO_ok h5, He.eqO_ok h6, h7, h8⟩
structure ExcAll (K : PySem.W.Frag) : Prop where
  one : ∀ c, c < 15 → ExcC K (clA K c)
  ve : ∀ c, c < 15 → PySem.W.kitOne K (.ref (clA K c)) (.type "ValueError") = some true
  se : ∀ c, c < 15 → PySem.W.exmOne K (.ref (clA K c)) (.ref (He.ga K "ShowError")) = some true
  kit : ∀ c k, c < 15 → k < 15 → PySem.W.kitOne K (.ref (clA K c)) (.ref (clA K k)) = some (c == k)
theorem excB_ok {K : PySem.W.Frag} (h : excB K = true) : ExcAll K := by
  have key : ∀ c, c < 15 → _ := fun c hc => List.all_eq_true.mp h c (List.mem_range.mpr hc)
  simp only [Bool.and_eq_true, decide_eq_true_eq] at key
  exact ⟨fun c hc => oneB_ok (key c hc).1.1.1, fun c hc => (key c hc).1.1.2, fun c hc => (key c hc).1.2, fun c k hc hk => of_decide_eq_true (List.all_eq_true.mp (key c hc).2 k (List.mem_range.mpr hk))⟩
/-- the words of _law_class, by class -/
def words : List Str := ["no house", "no picture", "no room", "no wall", "no name", "no days", "is taken", "no hanging", "too bright", "no way", "is elsewhere", "no space", "too heavy", "no back", "no text"]
def tw (c : Nat) : Option Str := words[c]?
theorem tw_lt {c : Nat} {z : Str} (h : tw c = some z) : c < 15 := by
  obtain ⟨q, _⟩ := List.getElem?_eq_some_iff.mp h
  exact q
def caS (c : Nat) : Option Bool := if c < 15 then some true else none
/-! ### the end -/
def tabT (K : PySem.W.Frag) (tf : List He.Defn) : List (Addr × Str) := tf.map fun p => ((He.cT K p).2, lamQ p.1)
theorem tab_is {K : PySem.W.Frag} {mg : Str → Option Value} {base : Heap} {A : Amb} {tf : List He.Defn} {x : Str} (hA : A.T = tabT K tf) (nd : ndB tf K = true) (hx : (x, none) ∈ tf) (hT : ∀ p ∈ tf.map (He.cT K), LamX.TabB base mg p.1 p.2) : TabIs K mg base A x := by
  obtain ⟨n1, n2⟩ := Bool.and_eq_true_iff.mp nd
  have n1 := of_decide_eq_true n1
  refine ⟨hT _ (List.mem_map.mpr ⟨_, hx, rfl⟩), by rw [hA]; exact List.mem_map.mpr ⟨_, hx, rfl⟩, fun p hp e => ?_⟩
  rw [hA] at hp
  obtain ⟨q, hq, rfl⟩ := List.mem_map.mp hp
  have : ∀ (l : List He.Defn), (l.map fun p => (He.cT K p).2).Nodup → ∀ a ∈ l, ∀ b ∈ l, (He.cT K a).2 = (He.cT K b).2 → a = b := fun l => by
    induction l with
    | nil => exact fun _ a ha => nomatch ha
    | cons c l ih =>
      intro nd a ha b hb e
      obtain ⟨d1, d2⟩ := List.nodup_cons.mp nd
      rcases List.mem_cons.mp ha with q1 | q1 <;> rcases List.mem_cons.mp hb with q2 | q2
      · rw [q1, q2]
      · exact absurd (List.mem_map.mpr ⟨b, q2, by rw [← e, q1]⟩) d1
      · exact absurd (List.mem_map.mpr ⟨a, q1, by rw [e, q2]⟩) d1
      · exact ih d2 a q1 b q2 e
  rw [this tf n1 q hq (x, none) hx e]
theorem tabs_nil {K : PySem.W.Frag} {tf : List He.Defn} {H : Hp} (h : ∀ p ∈ tf.map (He.cT K), H p.2 = some (.tbl #[])) : LamX.Tabs (tabT K tf) H := fun p hp => by
  obtain ⟨q, hq, rfl⟩ := List.mem_map.mp hp
  exact LamX.TabS.nil (h _ (List.mem_map.mpr ⟨q, hq, rfl⟩))
theorem law_at {l : PySem.W.OpenLaw} {w : World} {K : PySem.W.Frag} {k : Nat} {mg : Str → Option Value} {fa : Addr} {h : Heap} {fas : List He.Fa} {fn : List He.DefD} {tf : List He.Defn} {ex : PySem.W.Frag → Bool} {m : List D → Sto → Out D} {fd : FuncData}
    (KX : K.In h) (c : He.SaysX fas fn [] tf ex w h K) (hm : ∀ ns : List Int, ns.length ≤ 63 → (∀ z ∈ ns, Builtin.Int.intBits z ≤ 1048576) → ∃ S', m [.scr ns] [] = .ok (.bl true) S') (hb : ∀ (s : Shared) (u : Value), BindsTo s fd ⟨[u], []⟩ [("script", u)])
    (F : ∀ base : Heap, (∀ p ∈ tf.map (He.cT K), LamX.TabB base mg p.1 p.2) → FnOk l.prog w K mg base CX0 k fa fd ["script"] (fun vs H Q _ => spF (amb K (tabT K tf)) rD 1 m vs H Q XF)) : LamX.LawAtS l w K CX0 k 63 "script" mg fa h := by
  refine ⟨fd, tf.map (He.cT K), fun vs H Q _ => spF (amb K (tabT K tf)) rD 1 m vs H Q XF, fun p hp => ?_, fun p hp => ?_, fun p hp => ?_, hb, fun H a ns hl hbits hH hS => law_sp rfl rfl (hm ns hl hbits) (tabs_nil hH) hS hl, fun base _ _ hT => F base hT⟩
  · obtain ⟨q, hq, rfl⟩ := List.mem_map.mp hp; exact c.empty q hq
  · obtain ⟨q, hq, rfl⟩ := List.mem_map.mp hp; exact c.out q hq
  · obtain ⟨q, hq, rfl⟩ := List.mem_map.mp hp; exact PySem.W.codeHd_of_K KX (c.hd q hq)

theorem hu64h {A : Around} {k : Nat} (hr : L2H.RoomH k A) : A.units + 64 < cLine := by have := hr.un; omega
theorem hu65h {A : Around} {k : Nat} (hr : L2H.RoomH k A) : A.units + 65 < cLine := by have := hr.un; omega
theorem hu1h {A : Around} {k : Nat} (hr : L2H.RoomH k A) : A.units + 1 < cLine := by have := hr.un; omega
theorem hu0 {A : Around} {k : Nat} (hr : Room k A) : A.units < cLine := by have := hr.un; omega
theorem bt_ValueError : bootBuiltins "ValueError" = some (.type "ValueError") := by decide +kernel
theorem caS_ok {K : PySem.W.Frag} {T : List (Addr × Str)} {c : Nat} {b : Bool} (E : ExcAll K) (h : caS c = some b) : PySem.W.exmOne K (.ref ((amb K T).cl c)) (.ref (He.ga K "ShowError")) = some b := by
  unfold caS at h
  split at h
  · rename_i q; cases h; exact E.se c q
  · exact nomatch h
structure ExcS (K : PySem.W.Frag) : Prop where
  se : ∀ c, c < 15 → PySem.W.exmOne K (.ref (clA K c)) (.ref (He.ga K "ShowError")) = some true
theorem excS_ok {K : PySem.W.Frag} (h : excS K = true) : ExcS K := ⟨fun c hc => of_decide_eq_true (List.all_eq_true.mp h c (List.mem_range.mpr hc))⟩
theorem caS_okS {K : PySem.W.Frag} {T : List (Addr × Str)} {c : Nat} {b : Bool} (E : ExcS K) (h : caS c = some b) : PySem.W.exmOne K (.ref ((amb K T).cl c)) (.ref (He.ga K "ShowError")) = some b := by
  unfold caS at h
  split at h
  · rename_i q; cases h; exact E.se c q
  · exact nomatch h
end Hr

set_option Elab.async false
set_option linter.all false
set_option maxRecDepth 100000
set_option maxHeartbeats 1000000
namespace Hr
open PySem PySem.Spec PyProof.Rows L2
/-! ### tuples of ints and texts, sorted -/
abbrev It1 := Int ⊕ List Nat
abbrev ltM (a b : List It1) : Bool := (listOrd itemOrd).blt a b
theorem ordM : Ord ltM := ⟨fun x => (listOrd itemOrd).irrefl x, fun x y z h1 h2 => (listOrd itemOrd).trans x y z h1 h2, fun x y h1 h2 => by
    cases q : ltM y x with
    | true => rfl
    | false => exact absurd ((listOrd itemOrd).total x y h1 q) h2⟩
theorem swoM {α : Type} (k : α → List It1) : SrtO.Swo fun v u => ltM (k v) (k u) := ⟨fun x y h => ordM.asym h, fun x y z h1 h2 => by
  cases q : ltM (k z) (k x) with
  | false => first | exact q | rfl
  | true => first
    | (rcases (listOrd itemOrd).negTrans (k z) (k y) (k x) q with e | e
       · rw [show ltM (k z) (k y) = true from e] at h2; exact nomatch h2
       · rw [show ltM (k y) (k x) = true from e] at h1; exact nomatch h1)
    | (rcases (listOrd itemOrd).negTrans (k z) (k y) (k x) q with e | e
       · rw [show ltM (k z) (k y) = true from e] at h1; exact nomatch h1
       · rw [show ltM (k y) (k x) = true from e] at h2; exact nomatch h2)⟩
/-- the items of a tuple and their key -/
def KeyV : List Bool → List V → List It1 → Prop
  | [], [], [] => True
  | false :: sh, .int i :: ys, .inl j :: k => i = j ∧ KeyV sh ys k
  | true :: sh, .str s :: ys, .inr c :: k => c = s.cps.toList ∧ KeyV sh ys k
  | _, _, _ => False
theorem KeyV.items : ∀ {sh : List Bool} {ys : List V} {k : List It1} {us : List Value} (g : Nat → Bool) (i : Nat), (∀ j b, sh[j]? = some b → g (i + j) = b) → KeyV sh ys k → Vals ys us → tupItems g i us = some k
  | [], [], [], us, g, i, _, _, r => by cases r; rfl
  | false :: sh, .int x :: ys, .inl j :: k, us, g, i, hg, ⟨e, h⟩, r => by
    cases r with
    | cons r1 r2 =>
      obtain ⟨t, rfl⟩ := r1
      subst e
      have g0 : g i = false := by simpa using hg 0 false rfl
      have ih := KeyV.items g (i + 1) (fun j b e => by have := hg (j + 1) b (by simpa using e); rw [show i + 1 + j = i + (j + 1) by omega]; exact this) h r2
      simp only [tupItems, g0, ih]
      rfl
  | true :: sh, .str s :: ys, .inr c :: k, us, g, i, hg, ⟨e, h⟩, r => by
    cases r with
    | cons r1 r2 =>
      obtain ⟨t, rfl⟩ := r1
      subst e
      have g0 : g i = true := by simpa using hg 0 true rfl
      have ih := KeyV.items g (i + 1) (fun j b e => by have := hg (j + 1) b (by simpa using e); rw [show i + 1 + j = i + (j + 1) by omega]; exact this) h r2
      simp only [tupItems, g0, ih]
      rfl
def rSortM (K : PySem.W.Frag) : List V → Hp → VK → Prop := fun vs H Q => ∃ (a : Addr) (xs : List V) (key : V → List It1) (b : Bool) (sh : List Bool), vs = [V.ref a] ∧ SqL K H a xs ∧ (∀ x ∈ xs, ∃ t ys, x = .ref t ∧ H t = some (.tup ys) ∧ KeyV (b :: sh) ys (key x)) ∧
  ∀ ys p, ys.Perm xs → ys.Pairwise (fun x y => ltM (key y) (key x) = false) → H p = none → Q (.ref p) (upd H p (.lst ys))
/-- an item of the list: its tuple in the heap -/
def MixAt (h : Heap) (g : Nat → Bool) (v : Value) (k : List It1) : Prop := ∃ a o us n, v = .ref a ∧ h.get? a = some o ∧ o.cls = .type "tuple" ∧ o.data = .seq us n ∧ tupItems g 0 us.toList = some k ∧ ∃ f, us[0]? = some f ∧ (g 0 = false → ∃ k t, f = .int k t) ∧ (g 0 = true → ∃ x t, f = .str x t)
theorem MixAt.keeps {h h' : Heap} {g : Nat → Bool} {v : Value} {k : List It1} (p : MixAt h g v k) (kk : ∀ b o, h.get? b = some o → o.cls = .type "tuple" → h'.get? b = some o) : MixAt h' g v k := by
  obtain ⟨a, o, us, n, e, ho, hc, hd, hi, hf⟩ := p
  exact ⟨a, o, us, n, e, kk _ _ ho hc, hc, hd, hi, hf⟩
theorem MixAt.key {h : Heap} {g : Nat → Bool} {v : Value} {k : List It1} (p : MixAt h g v k) : tupKey h g v = some k := by
  obtain ⟨a, o, us, n, rfl, ho, hc, hd, hi, _⟩ := p
  simp only [tupKey, ho, hd]
  exact hi
theorem mix_tups {h : Heap} {g : Nat → Bool} {k : Value → List It1} : ∀ {vs : List Value}, (∀ v ∈ vs, MixAt h g v (k v)) → ∃ fs, TupsOf h g vs fs ∧ fs.length = vs.length
  | [], _ => ⟨[], .nil, rfl⟩
  | v :: vs, hp => by
    obtain ⟨fs, h1, h2⟩ := mix_tups (vs := vs) fun u m => hp u (List.mem_cons_of_mem _ m)
    obtain ⟨a, o, us, n, e, ho, hc, hd, _, f, hf, q1, q2⟩ := hp v List.mem_cons_self
    exact ⟨f :: fs, .cons ⟨a, o, us, n, e, ho, hc, hd, hf, q1, q2⟩ h1, by simp [h2]⟩
section
variable {X : Cx}
theorem mix_sortable {prog : Program} {w : World} {A : Around} {s : Shared} {a : Addr} {vs : List Value} {g : Nat → Bool} {k : Value → List It1} (h0 : 0 < vs.length) (hp : ∀ v ∈ vs, MixAt s.heap g v (k v)) (ha : ∀ o, s.heap.get? a = some o → o.cls ≠ .type "tuple") : SrtO.SortableO prog w A s a vs fun v u => ltM (k v) (k u) := by
  intro h' keep
  have hp' : ∀ v ∈ vs, MixAt h' g v (k v) := fun v hm => (hp v hm).keeps fun b o e c => keep b o (fun z => by subst z; exact ha o e c) e
  obtain ⟨fs, t1, t2⟩ := mix_tups hp'
  refine ⟨tuples' true, fun Q E hq => tup_kind (s := { s with heap := h' }) (by omega) t1 hq, fun p q m1 m2 => ?_⟩
  exact tup_ltAt (s := { s with heap := h' }) true A _ p.1 q.1 (k p.1) (k q.1) (hp' _ m1).key (hp' _ m2).key ⟨rfl, rfl⟩
theorem cr_sortM : CallR X (.builtin "sorted") (rSortM X.K) := by
  intro pins s σ H vs us Q I r h
  obtain ⟨a, xs, key, b, sh, rfl, hs, hx, q⟩ := h
  obtain ⟨its, rv, hl, hz⟩ := I.list hs
  obtain ⟨u, rfl, ru⟩ := vals1 r
  cases ru
  obtain ⟨e1, e2⟩ := refs_back rv fun x m => by
    obtain ⟨t, ys, e, _⟩ := hx x m
    exact ⟨t, e⟩
  have hg : ∀ j c, (b :: sh)[j]? = some c → (fun i => (b :: sh).getD i false) (0 + j) = c := fun j c e => by
    simp only [Nat.zero_add, List.getD_eq_getElem?_getD, e, Option.getD_some]
  have mx : ∀ v ∈ its, MixAt s.heap (fun i => (b :: sh).getD i false) v (key (backV v)) := fun v hv => by
    obtain ⟨t, rfl⟩ := e2 v hv
    have hm : V.ref t ∈ xs := by rw [e1]; exact List.mem_map.mpr ⟨_, hv, rfl⟩
    obtain ⟨t', ys, e, ht, kv⟩ := hx _ hm
    cases e
    obtain ⟨_, us, r2, o, ho, hc, n, hd⟩ := I.hok _ _ ht
    have ki : tupItems (fun i => (b :: sh).getD i false) 0 us.toArray.toList = some (key (V.ref t)) := KeyV.items _ 0 hg kv r2
    refine ⟨t, o, us.toArray, n, rfl, ho, hc, hd, ki, ?_⟩
    generalize key (V.ref t) = kk at kv
    match b, ys, kk, kv, r2 with
    | false, .int i :: ys, .inl j :: k, kv, .cons r3 r4 =>
      obtain ⟨tt, rfl⟩ := r3
      exact ⟨.int i tt, by simp, fun _ => ⟨_, _, rfl⟩, fun z => nomatch z⟩
    | true, .str z :: ys, .inr c :: k, kv, .cons r3 r4 =>
      obtain ⟨tt, rfl⟩ := r3
      exact ⟨.str z tt, by simp, fun z => (nomatch z), fun _ => ⟨_, _, rfl⟩⟩
  refine SrtO.sorted_ord (swoM fun v => key (backV v)) hl.isList (by rw [← rv.length]; exact hz) (fun h2 h₁ c hc kk => ?_) fun out hs hb => ?_
  · refine mix_sortable (s := { s with heap := h₁ }) (by omega) (fun v m => (mx v m).keeps fun b o e _ => (kk b o e).2) fun o e => ?_
    have e' : some o = some (seqObj "list" its.toArray 0) := e.symm.trans hc
    cases e'
    intro z
    exact absurd (Value.type.inj z) (by decide)
  · have h3 : ∀ u ∈ out, ∃ a, u = Value.ref a := fun u hu => e2 u (hb.perm.mem_iff.mp hu)
    obtain ⟨n, hn⟩ := sortedAll_at s.heap its out.toArray
    have pm : (out.map backV).Perm xs := by rw [e1]; exact hb.perm.map _
    refine ⟨.ref (s.heap.objs.size + 1), upd H (s.heap.objs.size + 1) (.lst (out.map backV)), I.laid (t' := s.toks) (fun b o e => sortedAll_old e) (Nat.le_succ _) ⟨?_, out, n, vals_back h3, hn⟩, rfl, q _ _ pm (List.pairwise_map.mpr hs) (I.hok.fresh (Nat.le_succ _))⟩
    rw [pm.length_eq]
    exact hz
end

def itD : D → Option It1
  | .int i => some (.inl i)
  | .str s => some (.inr s.cps.toList)
  | _ => none
def itsD : List D → Option (List It1)
  | [] => some []
  | d :: l => match itD d, itsD l with
    | some k, some r => some (k :: r)
    | _, _ => none
def mixes? : List D → Option (List (List It1))
  | [] => some []
  | .tup l :: r => match itsD l, mixes? r with
    | some k, some m => some (k :: m)
    | _, _ => none
  | _ :: _ => none
def unIt : It1 → D
  | .inl i => .int i
  | .inr c => .str ⟨c.toArray⟩
def unM (k : List It1) : D := .tup (k.map unIt)
def shOf (k : List It1) : List Bool := k.map Sum.isRight
theorem unIt_of {d : D} {k : It1} (h : itD d = some k) : unIt k = d := by
  cases d <;> simp [itD] at h
  · subst h; rfl
  · subst h; simp [unIt]
theorem unIts_of : ∀ {l : List D} {k : List It1}, itsD l = some k → k.map unIt = l
  | [], k, h => by cases h; rfl
  | d :: l, k, h => by
    unfold itsD at h
    split at h
    · rename_i a b e1 e2
      cases h
      rw [List.map_cons, unIt_of e1, unIts_of e2]
    · exact nomatch h
theorem keyV_of {W : Wd} : ∀ {l : List D} {k : List It1} {vs : List V}, itsD l = some k → Dens W l vs → KeyV (shOf k) vs k
  | [], k, vs, h, d => by cases h; cases d; exact trivial
  | d :: l, k, vs, h, ⟨v, r, ev, k1, k2⟩ => by
    subst ev
    unfold itsD at h
    split at h
    · rename_i a b e1 e2
      cases h
      have ih := keyV_of e2 k2
      cases d <;> simp [itD] at e1
      · subst e1; cases k1; exact ⟨rfl, ih⟩
      · subst e1; cases k1; exact ⟨rfl, ih⟩
    · exact nomatch h
/-- the key of a told tuple, read off its place -/
def keyAt (W : Wd) : V → List It1
  | .ref a => match W.Fr a with
    | some (.tup vs) => vs.filterMap fun v => match v with
      | .int i => some (.inl i)
      | .str s => some (.inr s.cps.toList)
      | _ => none
    | _ => []
  | _ => []
theorem keyAt_fm {W : Wd} : ∀ {l : List D} {k : List It1} {vs : List V}, itsD l = some k → Dens W l vs → (vs.filterMap fun v => match v with
      | .int i => some (.inl i)
      | .str s => some (.inr s.cps.toList)
      | _ => none) = k
  | [], k, vs, h, d => by cases h; cases d; rfl
  | d :: l, k, vs, h, ⟨v, r, ev, k1, k2⟩ => by
    subst ev
    unfold itsD at h
    split at h
    · rename_i a b e1 e2
      cases h
      have ih := keyAt_fm e2 k2
      cases d <;> simp [itD] at e1
      · subst e1; cases k1; simp [ih]
      · subst e1; cases k1; simp [ih]
    · exact nomatch h
theorem mixes_of {A : Amb} {W : Wd} {S : Sto} {H : Hp} (wo : Wok A W S H) : ∀ {l : List D} {vs : List V} {ks : List (List It1)}, Dens W l vs → mixes? l = some ks →
    vs.map (keyAt W) = ks ∧ ∀ v ∈ vs, ∃ t ys, v = .ref t ∧ H t = some (.tup ys) ∧ KeyV (shOf (keyAt W v)) ys (keyAt W v) ∧ Den W (unM (keyAt W v)) v
  | [], _, ks, h, e => by cases h; simp [mixes?] at e; subst e; exact ⟨rfl, fun p m => by simp at m⟩
  | d :: l, _, ks, ⟨v, r, ev, k1, k2⟩, e => by
    subst ev
    cases d <;> simp [mixes?] at e
    rename_i q
    split at e
    · rename_i k m e1 e2
      cases e
      obtain ⟨h1, h2⟩ := mixes_of wo k2 e2
      obtain ⟨a, us, rfl, hf, kq⟩ := k1
      have ka : keyAt W (.ref a) = k := by
        unfold keyAt
        simp only
        rw [hf]
        exact keyAt_fm e1 kq
      refine ⟨by rw [List.map_cons, ka, h1], fun u mu => ?_⟩
      rcases List.mem_cons.mp mu with e3 | e3
      · subst e3
        rw [ka]
        exact ⟨a, us, rfl, wo.fr a _ hf, keyV_of e1 kq, a, us, rfl, hf, by rw [unIts_of e1]; exact kq⟩
      · exact h2 u e3
    · exact nomatch e
theorem dens_key {W : Wd} : ∀ (ys : List V), (∀ y ∈ ys, Den W (unM (keyAt W y)) y) → Dens W ((ys.map (keyAt W)).map unM) ys
  | [], _ => rfl
  | y :: ys, h => ⟨_, _, rfl, h y List.mem_cons_self, dens_key ys fun z m => h z (List.mem_cons_of_mem _ m)⟩
def strs? : List D → Option (List Str)
  | [] => some []
  | .str s :: l => match strs? l with
    | some ks => some (s :: ks)
    | none => none
  | _ :: _ => none
theorem strs_of {W : Wd} : ∀ {l : List D} {vs : List V} {ks : List Str}, Dens W l vs → strs? l = some ks → vs = ks.map V.str
  | [], _, _, h, e => by cases h; cases e; rfl
  | d :: l, _, ks, ⟨v, r, e, h1, h2⟩, q => by
    subst e
    cases d with
    | str s =>
      simp only [strs?] at q
      cases e2 : strs? l with
      | none => rw [e2] at q; exact nomatch q
      | some ks' =>
        rw [e2] at q
        cases q
        cases h1
        rw [strs_of h2 e2]; rfl
    | _ => exact nomatch q
def dSortC : D → Sto → Out D
  | .lst l, S => match ints? l with
    | some ns => dSortA (.lst l) S
    | none => match tups? l with
      | some _ => dSortA (.lst l) S
      | none => match mixes? l with
        | some ((x :: k) :: ks) => if ks.all (fun m => shOf m == shOf (x :: k)) = true then .ok (.lst ((sortG ltM ((x :: k) :: ks)).map unM)) S else .bad
        | _ => match strs? l with
          | some ks => if ks.length < 64 then .ok (.lst ((sortG ltS ks).map .str)) S else .bad
          | none => .bad
  | d, S => dSortA d S
section
variable {X : Cx} {A : Amb} {Ex : XK} {Γ : List Nat} {e : Expr} {f : Ev D} {p pos : Pos}
theorem dn_sortC (hc : X.calm = true) (hg : Gl X "sorted") (hm : X.mg "sorted" = none) (hv : bootBuiltins "sorted" = some (.builtin "sorted")) (ha : DV X A Ex Γ e f) (he : St1 X e := by rfl) : DN X A Ex Γ (.Call (.Name "sorted" p) [e] [] pos) (b1 f dSortC) := by
  refine d_b1 (he := he) shN (((((call_sortedDI hc).or (call_sortedD hc)).or (cr_sortedI.or cr_sortA)).or cr_sortM).or cr_sortedS) hg hm hv ha fun W S H v d Q wo k an => ?_
  have old : Ans A Ex rN W H (dSortA d S) Q → _ := fun an => sortA_sem hc wo k an
  cases d with
  | lst l =>
    unfold dSortC at an
    simp only at an
    cases e1 : ints? l with
    | some ns => rw [e1] at an; exact .inl (.inl (old an))
    | none =>
      rw [e1] at an
      simp only at an
      cases e2 : tups? l with
      | some ts => rw [e2] at an; exact .inl (.inl (old an))
      | none =>
        rw [e2] at an
        simp only at an
        have sts : ∀ {α : Sort _}, Ans A Ex rN W H (match strs? l with | some ks => if ks.length < 64 then Out.ok (D.lst ((sortG ltS ks).map .str)) S else .bad | none => .bad) Q → rSortedS X.K [v] H Q := fun {_} an => by
          cases e4 : strs? l with
          | none => rw [e4] at an; exact an.elim
          | some ks =>
            rw [e4] at an
            simp only at an
            split at an
            · rename_i h64
              obtain ⟨a, vs, rfl, h, kk, z⟩ := k.lst wo
              have e5 := strs_of kk e4
              subst e5
              refine ⟨a, ks, rfl, SqL.of h, h64, fun ys b pm so nb => ?_⟩
              have e7 : ys = sortG ltS ks := up_uniq ordS _ _ (pm.trans (sortG_perm _ _).symm) (sortedS_up _ so) (sortG_up ordS _)
              subst e7
              exact Ans.newL an wo (dens_strs _) (by rw [List.length_map, pm.length_eq]; exact small64 h64) b nb
            · exact an.elim
        cases e3 : mixes? l with
        | none => rw [e3] at an; exact .inr (sts (α := Prop) an)
        | some ks => match ks with
          | [] => rw [e3] at an; exact .inr (sts (α := Prop) an)
          | [] :: ks => rw [e3] at an; exact .inr (sts (α := Prop) an)
          | (x :: k1) :: ks =>
            rw [e3] at an
            simp only at an
            split at an
            · rename_i ok
              obtain ⟨a, vs, rfl, h, kk, z⟩ := k.lst wo
              obtain ⟨m1, m2⟩ := mixes_of wo kk e3
              have shp : ∀ v ∈ vs, shOf (keyAt W v) = Sum.isRight x :: shOf k1 := fun v mv => by
                have : keyAt W v ∈ (x :: k1) :: ks := by rw [← m1]; exact List.mem_map.mpr ⟨v, mv, rfl⟩
                rcases List.mem_cons.mp this with q | q
                · rw [q]; rfl
                · have := List.all_eq_true.mp ok _ q
                  rw [beq_iff_eq.mp this]; rfl
              refine .inl (.inr ⟨a, vs, keyAt W, Sum.isRight x, shOf k1, rfl, SqL.of h, fun v mv => ?_, fun ys b pm pw nb => ?_⟩)
              · obtain ⟨t, us, e4, e5, e6, _⟩ := m2 v mv
                exact ⟨t, us, e4, e5, by rw [← shp v mv]; exact e6⟩
              · have e7 : ys.map (keyAt W) = sortG ltM ((x :: k1) :: ks) := up_uniq ordM _ _ (by rw [← m1]; exact (pm.map _).trans (sortG_perm _ _).symm) (List.pairwise_map.mpr pw) (sortG_up ordM _)
                have dy := dens_key (W := W) ys fun y my => by
                  obtain ⟨_, _, _, _, _, q⟩ := m2 y (pm.mem_iff.mp my)
                  exact q
                rw [e7] at dy
                exact Ans.newL an wo dy (by rw [pm.length_eq]; exact z) b nb
            · exact an.elim
  | _ => exact .inl (.inl (old an))
end
end Hr

set_option Elab.async false
set_option linter.all false
set_option maxRecDepth 100000
set_option maxHeartbeats 1000000
namespace Hr
open PySem PySem.Spec PyProof.Rows L2
/-! ### a dict of one's own is lent to a pure call -/
mutual
def noK : D → Bool
  | .non => true
  | .bl _ => true
  | .int _ => true
  | .str _ => true
  | .tup l => noKs l
  | .lst l => noKs l
  | _ => false
def noKs : List D → Bool
  | [] => true
  | d :: l => noK d && noKs l
end
mutual
theorem Den.noK {W W2 : Wd} (h1 : ∀ a vs, W2.Fr a = some (.tup vs) → W.Fr a = some (.tup vs)) (h2 : ∀ a vs, W2.Fr a = some (.lst vs) → W.Fr a = some (.lst vs)) : ∀ (d : D) (v : V), Hr.noK d = true → Den W2 d v → Den W d v
  | .non, _, _, h => h
  | .bl _, _, _, h => h
  | .int _, _, _, h => h
  | .str _, _, _, h => h
  | .tup l, _, n, ⟨a, vs, e, f, h⟩ => ⟨a, vs, e, h1 _ _ f, Dens.noK h1 h2 l vs (by simpa [Hr.noK] using n) h⟩
  | .lst l, _, n, ⟨a, vs, e, f, h⟩ => ⟨a, vs, e, h2 _ _ f, Dens.noK h1 h2 l vs (by simpa [Hr.noK] using n) h⟩
  | .dK _, _, n, _ => by simp [Hr.noK] at n
  | .dT _, _, n, _ => by simp [Hr.noK] at n
  | .obj _, _, n, _ => by simp [Hr.noK] at n
  | .scr _, _, n, _ => by simp [Hr.noK] at n
  | .exn _, _, n, _ => by simp [Hr.noK] at n
theorem Dens.noK {W W2 : Wd} (h1 : ∀ a vs, W2.Fr a = some (.tup vs) → W.Fr a = some (.tup vs)) (h2 : ∀ a vs, W2.Fr a = some (.lst vs) → W.Fr a = some (.lst vs)) : ∀ (l : List D) (vs : List V), Hr.noKs l = true → Dens W2 l vs → Dens W l vs
  | [], _, _, h => h
  | d :: l, _, n, ⟨v, r, e, k1, k2⟩ => by
    obtain ⟨n1, n2⟩ := Bool.and_eq_true_iff.mp (show (Hr.noK d && Hr.noKs l) = true from n)
    exact ⟨v, r, e, Den.noK h1 h2 d v n1 k1, Dens.noK h1 h2 l r n2 k2⟩
end
def tUnl (H0 : Hp) (t : TS) : TS := fun D σ H => t { D with nx := fun σ' H' => ∃ d u, (H' d = some u ∧ D.nx σ' H') ∨ (∃ o, H' d = some (.frz o u) ∧ (∀ o' u', H0 d ≠ some (.frz o' u')) ∧ D.nx σ' (upd H' d u)) } σ H
theorem ps_unl {X : Cx} {st : Stmt} {t : TS} (h : PS X st t) : PS X st (tUnl X.H_0 t) := ⟨fun pins s σ H D I q => by
  refine wpAny_mono (h.run pins s σ H _ I q) (fun f s1 hs => ?_) fun _ _ x => x
  match f, hs with
  | .next, ⟨σ', H', J, d, u, q⟩ =>
    rcases q with ⟨_, q⟩ | ⟨o, hd, hn, q⟩
    · exact ⟨σ', H', J, q⟩
    · exact ⟨σ', _, J.unlock hd hn, q⟩
  | .ret v, hs => exact hs
  | .brk, hs => exact hs
  | .cont, hs => exact hs⟩
theorem Wok.setPu {A : Amb} {W : Wd} {S : Sto} {H : Hp} (wo : Wok A W S H) (b : Bool) : Wok { A with pu := b } { W with pu := b } S H where
  fr := wo.fr
  sz := wo.sz
  ft := wo.ft
  ob := fun n ob e => by
    have := (wo.ob n ob e).mono2 (W' := { W with pu := b }) (H' := H) (fun _ _ h => h) (fun _ _ h => h) rfl (fun _ _ h => h) fun _ _ _ _ h => h
    exact this
  al := wo.al
  tn := wo.tn
  kk := wo.kk
  tb := wo.tb
  lk := wo.lk
  pu := rfl
theorem Sl.setPu {Γ : List Nat} {W : Wd} {H : Hp} {σ : L2.St} {ρ : Rho} (sl : Sl Γ W H σ ρ) (b : Bool) : Sl Γ { W with pu := b } H σ ρ where
  den := fun i d e n => by
    obtain ⟨v, q, k⟩ := sl.den i d e n
    exact ⟨v, q, Den.mono (W := W) (W' := { W with pu := b }) (fun _ _ h => h) (fun _ _ h => h) rfl d v k⟩
  own := fun i d e n => by
    obtain ⟨v, q, a, ea, fa, ta, tp⟩ := sl.own i d e n
    refine ⟨v, q, a, ea, fa, ta, ?_⟩
    cases d <;> first | exact tp.elim | skip
    · obtain ⟨vs, h, k, z⟩ := tp; exact ⟨vs, h, Dens.mono (W := W) (W' := { W with pu := b }) (fun _ _ h => h) (fun _ _ h => h) rfl _ _ k, z⟩
    · obtain ⟨vs, h, k, z⟩ := tp; exact ⟨vs, h, DenK.mono (W := W) (W' := { W with pu := b }) (fun _ _ h => h) (fun _ _ h => h) rfl _ _ k, z⟩
    · obtain ⟨vs, h, k, z⟩ := tp; exact ⟨vs, h, DenT.mono (W := W) (W' := { W with pu := b }) (fun _ _ h => h) (fun _ _ h => h) rfl _ _ k, z⟩
    · obtain ⟨vs, h, k, z⟩ := tp; exact ⟨vs, h, DenN.mono (W := W) (W' := { W with pu := b }) (fun _ _ h => h) k, z⟩
  dj := sl.dj
  len := sl.len
/-- slots where an owned dict is frozen -/
theorem Sl.frzK {E : En} {Γ : List Nat} {W : Wd} {S : Sto} {H : Hp} {σ : L2.St} {ρ : Rho} {i : Nat} {a : Addr} {l : List (Key × D)} {vs : List (Key × V)} (so : SOk E Γ W S H σ ρ) (m : i ∈ Γ) (e : ρ[i]? = some (some (.dK l))) (ev : σ[i]? = some (some (.ref a))) (f : W.Fr a = none) (k : DenK W l vs) : Sl (rem Γ i) (W.frz a (.dK vs)) H σ ρ where
  den := fun j d q n => by
    by_cases z : j = i
    · subst z
      rw [e] at q; cases q
      exact ⟨_, ev, a, vs, rfl, upd_same, k.frz f⟩
    · obtain ⟨u, w1, w2⟩ := so.sl.den j d q fun mm => n (mem_rem.mpr ⟨mm, z⟩)
      exact ⟨u, w1, Den.mono (frz_le f) (fun _ _ h => h) rfl d u w2⟩
  own := fun j d q mm => by
    obtain ⟨m1, z⟩ := mem_rem.mp mm
    obtain ⟨u, w1, b, eb, f2, t2, p2⟩ := so.sl.own j d q m1
    have nb : b ≠ a := fun z2 => by
      subst z2; subst eb
      exact so.sl.dj i j _ d _ m m1 (fun z3 => z z3.symm) e q ev w1
    refine ⟨u, w1, b, eb, by show upd W.Fr a (.dK vs) b = none; rw [upd_ne nb]; exact f2, t2, ?_⟩
    cases d <;> first | exact p2.elim | skip
    · obtain ⟨vs, h, k, z⟩ := p2; exact ⟨vs, h, k.frz f, z⟩
    · obtain ⟨vs, h, k, z⟩ := p2; exact ⟨vs, h, k.frz f, z⟩
    · obtain ⟨vs, h, k, z⟩ := p2; exact ⟨vs, h, k.frz f, z⟩
    · obtain ⟨vs, h, k, z⟩ := p2; exact ⟨vs, h, k.frz f, z⟩
  dj := fun x y dx dy u hx hy => so.sl.dj x y dx dy u (mem_rem.mp hx).1 (mem_rem.mp hy).1
  len := so.sl.len
def sBor (i j : Nat) (f : Ev D) : Sv := fun ρ S => match ρ[i]? with
  | some (some (.dK _)) => (match f ρ S with
    | .ok d _ => if noK d = true then .ok (.nx (ρ.set j (some d))) S else .bad
    | _ => .bad)
  | _ => .bad
section
variable {X : Cx} {E : En} {Γ Γc : List Nat}
theorem ds_setBor {st : Stmt} {i j : Nat} {f : Ev D} {A' : Amb} (hA : A' = { E.A with pu := true }) (hX : X.H_0 = E.H) (m : i ∈ Γ) (hij : j ≠ i) (h : PS X st (tAsg (tR A' E.Ex (rem Γ i) rD f) (gName j))) : DS X E Γ (rem Γ j) Γc st (sBor i j f) := by
  subst hA
  refine (ps_unl h).of fun D σ H ⟨W, ρ, S, so, an⟩ => ?_
  unfold sBor at an
  split at an
  · rename_i l e
    obtain ⟨v0, ev, a, rfl, fa, ta, vs, ha, ka, za⟩ := so.sl.own i _ e m
    have na := so.nw i _ a m e ev
    have wo1 := (so.wo.freeze (o := .dK vs) ha ta za fa).setPu true
    have sl1 := (Sl.frzK so m e ev fa ka).setPu true
    refine ⟨{ W.frz a (.dK vs) with pu := true }, ρ, S, wo1, sl1, ?_⟩
    cases ef : f ρ S with
    | ok d S' =>
      rw [ef] at an
      simp only at an
      split at an
      · rename_i nk
        intro W2 H2 v s2 wo2 kv
        have fr2 : W2.Fr a = some (.dK vs) := s2.fr a _ upd_same
        have tg2 : W2.tg a = none := wo2.ft a _ fr2
        -- the world behind
        have core : ∀ H3 : Hp, H3 a = some (.dK vs) → (∀ b, b ≠ a → H3 b = H2 b) → LamX.Tabs E.A.T H3 → D.nx (σ.set j (some v)) H3 := fun H3 h3a h3 t3 => by
          have frW : ∀ b o, W.Fr b = some o → b ≠ a := fun b o q z => by rw [z, fa] at q; exact nomatch q
          have fr1 : ∀ b, b ≠ a → (W.frz a (.dK vs)).Fr b = W.Fr b := fun b q => upd_ne q
          have st3 : Step W H ⟨fun b => if b = a then none else W2.Fr b, W.ad, W2.tg, W2.K, fun b => if b = a then none else W2.lk b, W.pu⟩ H3 := by
            refine ⟨fun b o q => ?_, fun _ _ h => h, fun b o q => ?_, fun b t q => s2.nt b t q, fun b o hb tb fb nb => ?_, fun b nb => ?_, s2.kk, fun b o q => ?_, fun b t q => s2.tp b t q, rfl, fun _ b t o tb hb nb => ?_⟩
            · have nb := frW b o q
              show (if b = a then none else W2.Fr b) = some o
              rw [if_neg nb]
              exact s2.fr b o (by show (W.frz a (.dK vs)).Fr b = some o; rw [fr1 b nb]; exact q)
            · change (if b = a then none else W2.Fr b) = some o at q
              by_cases z : b = a
              · rw [if_pos z] at q; exact nomatch q
              · rw [if_neg z] at q
                rcases s2.nf b o q with k | k
                · exact .inl (by rw [← fr1 b z]; exact k)
                · exact .inr k
            · by_cases z : b = a
              · subst z; rw [ha] at hb; cases hb; exact h3a
              · rw [h3 b z]
                exact s2.fm' b o hb tb (by show (W.frz a (.dK vs)).Fr b = none; rw [fr1 b z]; exact fb) nb
            · by_cases z : b = a
              · subst z; exact nomatch nb _ h3a
              · exact s2.mn b fun o q => nb o (by rw [h3 b z]; exact q)
            · have nb : b ≠ a := fun z => by
                obtain ⟨k, q1, _⟩ := so.wo.lk b o q
                rw [z, fa] at q1; exact nomatch q1
              show (if b = a then none else W2.lk b) = some o
              rw [if_neg nb]
              exact s2.lk b o q
            · have nb2 : b ≠ a := fun z => by rw [z, ta] at tb; exact nomatch tb
              rw [h3 b nb2]
              exact s2.pp rfl b t o tb hb nb
          have w3 : Wok E.A ⟨fun b => if b = a then none else W2.Fr b, W.ad, W2.tg, W2.K, fun b => if b = a then none else W2.lk b, W.pu⟩ S H3 := by
            refine ⟨fun b o q => ?_, fun b o q => ?_, fun b o q => ?_, fun n ob q => ?_, so.wo.al, fun b t q => ?_, wo2.kk, t3, fun b o q => ?_, so.wo.pu⟩
            · change (if b = a then none else W2.Fr b) = some o at q
              by_cases z : b = a
              · rw [if_pos z] at q; exact nomatch q
              · rw [if_neg z] at q
                exact Held.keep (wo2.fr b o q) fun x hx => by rw [h3 b z]; exact hx
            · change (if b = a then none else W2.Fr b) = some o at q
              by_cases z : b = a
              · rw [if_pos z] at q; exact nomatch q
              · rw [if_neg z] at q
                exact wo2.sz b o q
            · change (if b = a then none else W2.Fr b) = some o at q
              by_cases z : b = a
              · rw [if_pos z] at q; exact nomatch q
              · rw [if_neg z] at q
                exact wo2.ft b o q
            · refine (so.wo.ob n ob q).mono2 st3.fr st3.ad st3.kk st3.tp fun b k o tb hb => ?_
              have nb2 : b ≠ a := fun z => by rw [z, ta] at tb; exact nomatch tb
              obtain ⟨o', hb', nbl⟩ := so.wo.tn b _ tb
              rw [hb] at hb'; cases hb'
              rw [h3 b nb2]
              exact s2.pp rfl b _ o tb hb nbl
            · change W2.tg b = some t at q
              have nb2 : b ≠ a := fun z => by rw [z, tg2] at q; exact nomatch q
              obtain ⟨o, q1, q2⟩ := wo2.tn b t q
              exact ⟨o, by rw [h3 b nb2]; exact q1, q2⟩
            · change (if b = a then none else W2.lk b) = some o at q
              by_cases z : b = a
              · rw [if_pos z] at q; exact nomatch q
              · rw [if_neg z] at q
                obtain ⟨k, q1, q2⟩ := wo2.lk b o q
                exact ⟨k, by show (if b = a then none else W2.Fr b) = _; rw [if_neg z]; exact q1, by rw [h3 b z]; exact q2⟩
          have kd : Den ⟨fun b => if b = a then none else W2.Fr b, W.ad, W2.tg, W2.K, fun b => if b = a then none else W2.lk b, W.pu⟩ d v := Den.noK (W2 := W2) (fun b us q => by
              have z : b ≠ a := fun z => by rw [z, fr2] at q; exact nomatch q
              show (if b = a then none else W2.Fr b) = _
              rw [if_neg z]; exact q) (fun b us q => by
              have z : b ≠ a := fun z => by rw [z, fr2] at q; exact nomatch q
              show (if b = a then none else W2.Fr b) = _
              rw [if_neg z]; exact q) d v nk kv
          have so3 : SOk E Γ _ S H3 σ ρ := ⟨w3, so.sl.step st3, so.st.trans st3, so.nw⟩
          exact an _ H3 _ (so3.setD kd) st3.le
        rcases wo2.fr a _ fr2 with hd | ⟨o, hd⟩
        · exact ⟨a, .dK vs, .inl ⟨hd, core H2 hd (fun _ _ => rfl) wo2.tb⟩⟩
        · refine ⟨a, .dK vs, .inr ⟨o, hd, fun o' u' q => ?_, core _ upd_same (fun b z => upd_ne z) (Tabs.upd wo2.tb hd (And.intro (fun _ h => nomatch h) (ne_code fun _ h => nomatch h)))⟩⟩
          rw [hX] at q
          exact na.no q rfl
      · exact an.elim
    | exc c S' => rw [ef] at an; exact an.elim
    | bad => rw [ef] at an; exact an.elim
  · exact an.elim
end
end Hr

set_option Elab.async false
set_option linter.all false
set_option maxRecDepth 100000
set_option maxHeartbeats 1000000
namespace Hr
open PySem PySem.Spec PyProof.Rows L2
/-! ### stores side by side, by a tuple -/
def gsN : List Nat → TGs
  | [] => gNil
  | i :: is => gCons (gName i) (gsN is)
theorem gsN_of {H : Hp} {Q : L2.St → Hp → Prop} : ∀ (is : List (Nat × Bool)) {vs : List V} {σ : L2.St}, vs.length = is.length → Q (stV is vs σ) H → gsN (is.map (·.1)) vs σ H Q
  | [], [], σ, _, q => ⟨rfl, q⟩
  | [], _ :: _, _, h, _ => by simp at h
  | _ :: _, [], _, h, _ => by simp at h
  | (i, m) :: is, v :: vs, σ, h, q => ⟨v, vs, rfl, gsN_of is (by simpa using h) q⟩
theorem rM_len : ∀ {ms : List Bool} {H0 : Hp} {W : Wd} {H : Hp} {ds : List D} {vs : List V}, rM ms H0 W H ds vs → vs.length = ms.length
  | [], _, _, _, _, _, ⟨_, e⟩ => by subst e; rfl
  | m :: ms, _, _, _, _, _, ⟨d, l, v, r, _, e2, _, k⟩ => by subst e2; simp [rM_len k]
theorem SOk.lay {E : En} {Γ : List Nat} {W : Wd} {S : Sto} {H : Hp} {σ : L2.St} {ρ : Rho} {p : Addr} {o : HO} (so : SOk E Γ W S H σ ρ) (n : H p = none) : SOk E Γ W S (upd H p o) σ ρ :=
  ⟨so.wo.lay n, so.sl.step (Step.lay so.wo n), so.st.trans (Step.lay so.wo n), so.nw⟩
section
variable {X : Cx} {E : En} {Γ Γc : List Nat} {f : Ev (List D)}
theorem ds_parT {st : Stmt} (is : List (Nat × Bool)) (hz : is.length ≤ 100) (h : PS X st (tAsg (tTup (tR E.A E.Ex Γ (rM (is.map (·.2))) f)) (gTup X.K is.length (gsN (is.map (·.1)))))) : DS X E Γ (gaR is Γ) Γc st (sPar is f) :=
  h.of fun D σ H ⟨W, ρ, S, so, an⟩ => seqS so an fun ds S1 W1 H1 vs s1 so1 k1 an1 => by
    have hl : vs.length = is.length := by rw [rM_len k1, List.length_map]
    refine ⟨by rw [hl, sizeLine_eq]; omega, fun p n => ⟨p, vs, rfl, SqT.of upd_same, hl, gsN_of is hl ?_⟩⟩
    have so2 := SOk.sets (fun a n => so.st.mn a n) is so1 k1 fun v m j e mj q z => by
      obtain ⟨a, ea, n0⟩ := rM_news k1 v m
      obtain ⟨u, q1, b, eb, _, _, t⟩ := so.sl.own j e q mj
      rw [q1] at z
      cases z
      rw [ea] at eb
      cases eb
      obtain ⟨o, q, nb⟩ := t.noB
      exact n0.no q nb
    exact an1 W1 _ _ (so2.lay n) .refl
/-! ### x[k], y[k'] = e, e' -/
def sPut2 (i j p q : Nat) (f1 f2 : Ev D) : Sv := fun ρ S => (f1 ρ S).bind fun d1 S1 => (f2 ρ S1).bind fun d2 S2 => match ρ[i]?, ρ[j]?, ρ[p]?, ρ[q]? with
  | some (some (.dK l)), some (some (.dK m)), some (some x), some (some y) => (match keyD x, keyD y with
    | some k, some k' => if l.length < sizeLine ∧ m.length < sizeLine then .ok (.nx ((ρ.set i (some (.dK (putD l k d1)))).set j (some (.dK (putD m k' d2))))) S2 else .bad
    | _, _ => .bad)
  | _, _, _, _ => .bad
theorem ds_put2 {x y k k' : Str} {i j p q x1 x2 : Nat} {xp yp kp kp' sp sp' tp tp' pos : Pos} {e1 e2 : Expr} {f1 f2 : Ev D} (hu : X.A.units + 1 < cLine) (hc : X.calm = true) (mi : i ∈ Γ) (mj : j ∈ Γ) (hij : i ≠ j) (hp : p ∉ Γ) (hq : q ∉ Γ) (hx : PE X (.Name x xp) (tVar i)) (hy : PE X (.Name y yp) (tVar j)) (hk : PE X (.Name k kp) (tVar p)) (hk' : PE X (.Name k' kp') (tVar q))
    (h1 : DE X E.A E.Ex Γ e1 f1) (h2 : DE X E.A E.Ex Γ e2 f2) (hs1 : St2 X e1 e2 := by rfl) (hs2 : St1 X e2 := by rfl)
    (hl : (assignEach [.Subscript (.Name x xp) (.Name k kp) sp, .Subscript (.Name y yp) (.Name k' kp') sp'] X.env).length = 2 := by rfl) (hst : (assignEach [.Subscript (.Name x xp) (.Name k kp) sp, .Subscript (.Name y yp) (.Name k' kp') sp'] X.env).findIdx? (·.1) = none := by rfl)
    (ha1 : (assignEach [.Subscript (.Name x xp) (.Name k kp) sp, .Subscript (.Name y yp) (.Name k' kp') sp'] X.env).map (·.2) = assign (.Subscript (.Name x xp) (.Name k kp) sp) X.env :: (assignEach [.Subscript (.Name y yp) (.Name k' kp') sp'] X.env).map (·.2) := by rfl)
    (ha2 : (assignEach [.Subscript (.Name y yp) (.Name k' kp') sp'] X.env).map (·.2) = assign (.Subscript (.Name y yp) (.Name k' kp') sp') X.env :: (assignEach [] X.env).map (·.2) := by rfl)
    (hg1 : PG X (.Subscript (.Name x xp) (.Name k kp) sp) (gSub (tVar i) (tVar p) rSetD)) (hg2 : PG X (.Subscript (.Name y yp) (.Name k' kp') sp') (gSub (tVar j) (tVar q) rSetD))
    (hsw : swapsWithSole [.Tuple [.Subscript (.Name x xp) (.Name k kp) sp, .Subscript (.Name y yp) (.Name k' kp') sp'] x1 tp] (.Tuple [e1, e2] x2 tp') pos.line X.env = pure false := by rfl) (hss : swappedStores [.Tuple [.Subscript (.Name x xp) (.Name k kp) sp, .Subscript (.Name y yp) (.Name k' kp') sp'] x1 tp] (.Tuple [e1, e2] x2 tp') X.env = pure none := by rfl)
    (hae : (assignEach [.Tuple [.Subscript (.Name x xp) (.Name k kp) sp, .Subscript (.Name y yp) (.Name k' kp') sp'] x1 tp] X.env).map (·.2) = [assign (.Tuple [.Subscript (.Name x xp) (.Name k kp) sp, .Subscript (.Name y yp) (.Name k' kp') sp'] x1 tp) X.env] := by rfl) :
    DS X E Γ Γ Γc (.Assign [.Tuple [.Subscript (.Name x xp) (.Name k kp) sp, .Subscript (.Name y yp) (.Name k' kp') sp'] x1 tp] (.Tuple [e1, e2] x2 tp') pos) (sPut2 i j p q f1 f2) :=
  (ps_asg (pe_tup (pa_cons h1 (pa_cons h2 pa_nil hs2) hs1)) (pg_tup hc (pgs_cons hg1 (pgs_cons hg2 pgs_nil ha2) ha1) hl hst) hsw hss hae).of fun D σ H ⟨W, ρ, S, so, an⟩ => seqS so an fun d1 S1 W1 H1 v1 s1 so1 k1 an1 => seqS so1 an1 fun d2 S2 W2 H2 v2 s2 so2 k2 an2 => by
    refine ⟨by show 2 ≤ sizeLine; decide, fun t nt => ?_⟩
    have k1 := Den.step k1 s2
    split at an2
    · rename_i l m dx dy ei ej ep eq
      split at an2
      · rename_i ka kb eka ekb
        split at an2
        · rename_i zz
          have so3 := so2.lay (o := .tup [v1, v2]) nt
          have st := Step.lay (o := .tup [v1, v2]) so2.wo nt
          obtain ⟨vi, evi, a, rfl, fa, ta, us, ha, kd, za⟩ := so3.sl.own i _ ei mi
          obtain ⟨vj, evj, b, rfl, fb, tb, ws, hb, kd', zb⟩ := so3.sl.own j _ ej mj
          obtain ⟨vp, evp, kp⟩ := so3.sl.den p _ ep hp
          obtain ⟨vq, evq, kq⟩ := so3.sl.den q _ eq hq
          have := keyD_ofD kp eka
          subst this
          have := keyD_ofD kq ekb
          subst this
          have nab : b ≠ a := fun z => by subst z; exact so3.sl.dj i j _ _ _ mi mj hij ei ej evi evj
          have zu : us.length < sizeLine := by rw [kd.length]; exact zz.1
          have zw : ws.length < sizeLine := by rw [kd'.length]; exact zz.2
          have p1 := so3.put mi ei evi (d' := .dK (putD l ka d1)) (o := .dK (putK us ka v1)) ⟨_, upd_same, kd.put (Den.step k1 st), Nat.le_trans (length_putK us ka v1) zu⟩ fa ta
          have ej' : (ρ.set i (some (.dK (putD l ka d1))))[j]? = some (some (.dK m)) := by rw [set_ne (fun z => hij z.symm)]; exact ej
          have hb' : upd (upd H2 t (.tup [v1, v2])) a (.dK (putK us ka v1)) b = some (.dK ws) := by rw [upd_ne nab]; exact hb
          have p2 := p1.put mj ej' evj (d' := .dK (putD m kb d2)) (o := .dK (putK ws kb v2)) ⟨_, upd_same, kd'.put (Den.step k2 st), Nat.le_trans (length_putK ws kb v2) zw⟩ fb tb
          refine ⟨t, [v1, v2], rfl, SqT.of upd_same, rfl, v1, [v2], rfl, _, evi, _, evp, ?_⟩
          refine ⟨a, _, rfl, DPut.k ha zu, v2, [], rfl, _, evj, _, evq, b, _, rfl, DPut.k hb' zw, rfl, ?_⟩
          exact an2 W2 _ σ p2 .refl
        · exact an2.elim
      · exact an2.elim
    · exact an2.elim
end
end Hr

set_option Elab.async false
set_option linter.all false
set_option maxRecDepth 100000
set_option maxHeartbeats 1000000
namespace Hr
open PySem PySem.Spec PyProof.Rows L2
/-! ### list(d) of a dict, also of one that is walked -/
def rLsK : List V → Hp → VK → Prop := fun args H Q => ∃ (d : Addr) (l : List (Key × V)), args = [V.ref d] ∧ Rd H d (.dK l) ∧ ∀ new, H new = none → Q (.ref new) (upd H new (.lst (l.map fun e => kV e.1)))
theorem cr_lsK {X : Cx} (calm : X.calm = true) : CallR X (.type "list") rLsK := by
  intro pins s σ H args us Q I rel hyp
  obtain ⟨d, l, rfl, rd, post⟩ := hyp
  obtain ⟨u, rfl, ru⟩ := vals1 rel
  cases ru
  obtain ⟨small, low, ps, pr, at0⟩ := (show ObjOk X.prog X.w H s.heap d (.dK l) from Rd.ok rd I.hok)
  obtain ⟨e0, at1⟩ := at0.dictAt
  have len : l.length = ps.length := Paired.length pr
  have src := PySem.W.kdl_dict (knd := mixKind X.prog X.w) (kvs := ps) (ep := e0) low
  refine PySem.W.kdl_call src (I.ok.hd calm) at1 (by omega) fun hp _ got cap old isS all => ?_
  have made : ObjOk X.prog X.w (upd H s.heap.objs.size (.lst (l.map fun e => kV e.1))) hp s.heap.objs.size (.lst (l.map fun e => kV e.1)) := by
    refine ⟨by simpa using small, got.toList, cap, ?_, by simpa using isS⟩
    refine vals_of_at (by simp [all.1, len]) fun j x v hx hv => ?_
    obtain ⟨k, y, e1, e2⟩ := all.2 j v (by simpa using hv)
    have e3 : (l.map (·.1))[j]? = some k := by rw [KV.keys pr]; simp [e1]
    have e4 : (l.map fun e => kV e.1)[j]? = some (kV k) := by
      have := congrArg (Option.map kV) e3
      simpa [Function.comp_def] using this
    rw [e4] at hx
    cases hx
    exact keyIs_rel e2
  exact ⟨.ref _, _, I.laid old (Nat.le_refl _) made, rfl, post _ (I.hok.fresh (Nat.le_refl _))⟩
def dListK : D → Sto → Out D
  | .dK l, S => .ok (.lst (l.map fun e => keyOf e.1)) S
  | _, _ => .bad
theorem dens_keys {W : Wd} : ∀ {l : List (Key × D)} {vs : List (Key × V)}, DenK W l vs → Dens W (l.map fun e => keyOf e.1) (vs.map fun e => kV e.1)
  | [], _, h => by cases h; exact rfl
  | (k, d) :: l, _, ⟨v, r, e, h1, h2⟩ => by cases e; exact ⟨_, _, rfl, den_key k, dens_keys h2⟩
section
variable {X : Cx} {A : Amb} {Ex : XK} {Γ : List Nat} {e : Expr} {f : Ev D} {p pos : Pos}
theorem dn_listK (calm : X.calm = true) (hgl : Gl X "list") (hm : X.mg "list" = none) (hv : bootBuiltins "list" = some (.type "list")) (ha : DV X A Ex Γ e f) (he : St1 X e := by rfl) : DN X A Ex Γ (.Call (.Name "list" p) [e] [] pos) (b1 f dListK) :=
  d_t1 (he := he) shN (cr_lsK calm) hgl hm hv ha fun W S H v d Q wo k an => by
    cases d with
    | dK l =>
      obtain ⟨a, vs, rfl, h, k1, z⟩ := k.dK wo
      exact ⟨a, vs, rfl, h, Ans.newL (l := l.map fun e => keyOf e.1) an wo (dens_keys k1) (by rw [List.length_map]; exact z)⟩
    | _ => exact an.elim
end
end Hr

set_option Elab.async false
set_option linter.all false
set_option maxRecDepth 100000
set_option maxHeartbeats 1000000
namespace Hr
open PySem PySem.Spec PyProof.Rows L2
/-! ### x[lo:hi:st] of a list -/
def idxS (n : Nat) (lo hi st : Option Int) : List Nat := sliceRange (sliceBounds lo hi st n).1 (sliceBounds lo hi st n).2.1 (sliceBounds lo hi st n).2.2
def pickA {α : Type} (l : List α) (ix : List Nat) : List α := ix.filterMap (l[·]?)
theorem pick_len {α : Type} (l : List α) (ix : List Nat) : (pickA l ix).length ≤ ix.length := List.length_filterMap_le _ _
theorem vals_pick {xs : List V} {us : List Value} (h : Vals xs us) : ∀ ix : List Nat, Vals (pickA xs ix) (pickA us ix)
  | [] => .nil
  | i :: ix => by
    have ih := vals_pick h ix
    have hl := h.length
    unfold pickA at ih ⊢
    rw [List.filterMap_cons, List.filterMap_cons]
    cases e : xs[i]? with
    | none =>
      have : us[i]? = none := by
        rw [List.getElem?_eq_none_iff] at e ⊢
        omega
      rw [this]; exact ih
    | some x =>
      obtain ⟨u, e2, r⟩ := h.get e
      rw [e2]; exact .cons r ih
theorem dens_pick {W : Wd} {l : List D} {vs : List V} (h : Dens W l vs) : ∀ ix : List Nat, Dens W (pickA l ix) (pickA vs ix)
  | [] => rfl
  | i :: ix => by
    have ih := dens_pick h ix
    have hl := h.length
    unfold pickA at ih ⊢
    rw [List.filterMap_cons, List.filterMap_cons]
    cases e : l[i]? with
    | none =>
      have : vs[i]? = none := by
        rw [List.getElem?_eq_none_iff] at e ⊢
        omega
      rw [this]; exact ih
    | some d =>
      obtain ⟨v, e2, r⟩ := h.get' e
      rw [e2]; exact ⟨_, _, rfl, r, ih⟩
def rPick (K : PySem.W.Frag) : V → Option Int → Option Int → Option Int → Hp → VK → Prop := fun x lo hi st H Q => ∃ a xs, x = .ref a ∧ SqL K H a xs ∧ st ≠ some 0 ∧ (idxS xs.length lo hi st).length ≤ sizeLine ∧ ∀ q, H q = none → Q (.ref q) (upd H q (.lst (pickA xs (idxS xs.length lo hi st))))
section
variable {X : Cx} {A : Amb} {Ex : XK} {Γ : List Nat} {e : Expr} {te : TE} {lo hi : Option Expr} {st : Expr} {tl th tst : TO} {pos p2 : Pos} {f : Ev D} {flo fhi fst : Ev (Option Int)}
theorem pe_slice3 (he : PE X e te) (hl : PO X lo tl) (hu : PO X hi th) (hs : PO X (some st) tst) : PE X (.Subscript e (.Slice lo hi (some st) p2) pos) (fun σ H Q => te σ H fun x H1 => tl σ H1 fun l H2 => th σ H2 fun u H3 => tst σ H3 fun c H4 => rPick X.K x l u c H4 Q) := by
  constructor
  intro pins s σ H Q I want
  refine Subscript_ (thn (he.run pins s σ H _ I want) fun v s1 ⟨x, H1, I1, rx, w1⟩ => ?_)
  refine wpAny_Slice (thn (hl.run pins s1 σ H1 _ I1 w1) fun vl s2 ⟨l, H2, I2, pl, w2⟩ => thn (hu.run pins s2 σ H2 _ I2 w2) fun vu s3 ⟨u, H3, I3, pu, w3⟩ => thn (hs.run pins s3 σ H3 _ I3 w3) fun vs s4 ⟨c, H4, I4, ps, w4⟩ => ?_)
  obtain ⟨a, xs, rfl, hx, c0, fits, post⟩ := w4
  cases rx
  have I5 : Inv X pins σ H4 { s4 with heap := s4.heap.push { cls := .type "slice", data := .fields #[vl, vu, vs] } } := I4.kept (t' := s4.toks) fun b ob q => Heap.get?_push_of_some _ q
  obtain ⟨its, rel, isl, small⟩ := I5.list hx
  have len := rel.length
  have item : wpAny (model X.prog X.w) X.A (getItem (.ref a) (.ref s4.heap.objs.size)) (EP X pins σ Q) X.xe { s4 with heap := s4.heap.push { cls := .type "slice", data := .fields #[vl, vu, vs] } } := by
    refine wpAny_getItem_list_slice isl.isList (Heap.IsSliceOf.new ..) pl pu ps c0 ?_ (by rw [List.size_toArray]; omega)
    have ep : slicePick its.toArray l u c = (pickA its (idxS xs.length l u c)).toArray := by
      unfold slicePick pickA idxS
      rw [List.size_toArray, ← len]
      simp only [List.getElem?_toArray]
    rw [ep]
    refine ⟨.ref _, _, I5.laid (o := .lst (pickA xs (idxS xs.length l u c))) (fun b ob q => Heap.get?_push_of_some _ q) (Nat.le_refl _) ?_, rfl, post _ (I5.hok.fresh (Nat.le_refl _))⟩
    exact ⟨Nat.le_trans (pick_len _ _) fits, _, 0, vals_pick rel _, Heap.get?_push_size _ rfl⟩
  show wpAny (model X.prog X.w) X.A (subscriptTail e (.Slice lo hi (some st) p2) (.ref a) (.ref s4.heap.objs.size)) (EP X pins σ Q) X.xe _
  exact tail_any (ops := [.ref a, .ref s4.heap.objs.size]) isl.isList.typeIs slot_list_getitem.lookup item (by with_unfolding_all rfl)
def dSl3 : D → Option Int → Option Int → Option Int → Sto → Out D
  | .lst l, lo, hi, st, S => if st ≠ some 0 ∧ (idxS l.length lo hi st).length ≤ sizeLine then .ok (.lst (pickA l (idxS l.length lo hi st))) S else .bad
  | _, _, _, _, _ => .bad
def b4 {α β γ δ ε : Type} (f : Ev α) (g : Ev β) (h : Ev γ) (k : Ev δ) (j : α → β → γ → δ → Sto → Out ε) : Ev ε := fun ρ S => (f ρ S).bind fun a S1 => (g ρ S1).bind fun b S2 => (h ρ S2).bind fun c S3 => (k ρ S3).bind fun d S4 => j a b c d S4
theorem de_slice3 (ha : DV X A Ex Γ e f) (hl : DO X A Ex Γ lo flo) (hh : DO X A Ex Γ hi fhi) (hs : DO X A Ex Γ (some st) fst) : DE X A Ex Γ (.Subscript e (.Slice lo hi (some st) p2) pos) (b4 f flo fhi fst dSl3) :=
  (pe_slice3 ha hl hh hs).of fun σ H Q ⟨W, ρ, S, wo, sl, an⟩ => seqR shD wo sl an fun dx S1 W1 H1 x s1 wo1 vx sl1 an1 => seqR shD wo1 sl1 an1 fun o1 S2 W2 H2 o1' s2 wo2 e1 sl2 an2 => seqR shD wo2 sl2 an2 fun o2 S3 W3 H3 o2' s3 wo3 e2 sl3 an3 => seqR shD wo3 sl3 an3 fun o3 S4 W4 H4 o3' s4 wo4 e3 sl4 an4 => by
    cases e1; cases e2; cases e3
    have vx := ((View.step vx s2).step s3).step s4
    cases dx with
    | lst l =>
      obtain ⟨q, vs, rfl, h, k, z⟩ := vx.lst wo4
      unfold dSl3 at an4
      simp only at an4
      split at an4
      · rename_i ok
        have hlen := k.length
        refine ⟨q, vs, rfl, SqL.of h, ok.1, by rw [hlen]; exact ok.2, ?_⟩
        rw [hlen]
        exact Ans.newLD (l := pickA l (idxS l.length o1 o2 o3)) an4 wo4 (dens_pick k _) (Nat.le_trans (pick_len _ _) ok.2)
      · exact an4.elim
    | _ => exact an4.elim
end
end Hr

set_option Elab.async false
set_option linter.all false
set_option maxRecDepth 100000
set_option maxHeartbeats 1000000
namespace Hr
open PySem PySem.Spec PyProof.Rows L2
/-! ### x in (a, b, ..), the items data of any depth -/
section
variable {X : Cx} {A : Amb} {Ex : XK} {b : Expr}
def rInTD (K : PySem.W.Frag) : R2 := fun x y H Q => ∃ d ds, Dp K H x d ∧ Dp K H y (.tuple ds) ∧ SeqAt.shaped d = true ∧ SeqAt.shaped (.tuple ds) = true ∧ Q (.bl (ds.any fun z => PyData.eqv z d)) H
theorem op_inTD (hu : X.A.units + 65 < cLine) : OpR X (compareOp .In) (rInTD X.K) := by
  intro pins s σ H x y v u Q I rx ry h
  obtain ⟨d, ds, hd, he, sd, se, q⟩ := h
  obtain ⟨as, r1⟩ := Dp.reads I d x v hd rx
  obtain ⟨bs, r2⟩ := Dp.reads I (.tuple ds) y u he ry
  exact SeqAt.in_tuple_reads r2 r1 (SeqAt.canLay_of_shaped se) (SeqAt.canLay_of_shaped sd) (room_in_shaped sd hu) ⟨.bl _, H, I, rfl, q⟩
def dInT : D → D → Sto → Out D := fun x y S => match y with
  | .tup l => if okE x 60 && okEs l 59 then .ok (.bl (l.any fun z => D.eqv z x)) S else .bad
  | _ => .bad
theorem ck_inT (hu : X.A.units + 65 < cLine) (hm : behindInMarks .In b = false := by with_unfolding_all rfl) : Ck X A Ex .In b dInT :=
  d_cmp (op_inTD hu) hm fun W S H x y dx dy Q wo vx vy an => by
    cases dy with
    | tup l =>
      unfold dInT at an
      simp only at an
      split at an
      · rename_i z
        have z' : okE dx 60 = true ∧ okEs l 59 = true := by simpa using z
        have o' : okE (.tup l) 60 = true := by simpa [okE] using z'.2
        refine ⟨_, _, vx.dp wo z'.1, vy.dp wo o', okE.shaped z'.1, okE.shaped o', ?_⟩
        rw [any_eqv z'.1 l 59 z'.2]
        exact an.done wo rfl
      · exact an.elim
    | _ => exact an.elim
end
end Hr

set_option Elab.async false
set_option linter.all false
set_option maxRecDepth 100000
set_option maxHeartbeats 1000000
namespace Hr
open PySem PySem.Spec PyProof.Rows L2
/-! ### min(xs), xs a list of pairs of ints -/
def prI (p : Int × Int) : D := .tup [.int p.1, .int p.2]
def prsI : List D → Option (List (Int × Int))
  | [] => some []
  | .tup [.int a, .int b] :: l => match prsI l with
    | some r => some ((a, b) :: r)
    | none => none
  | _ :: _ => none
def ltP (a b : Int × Int) : Bool := decide (a.1 < b.1 ∨ (a.1 = b.1 ∧ a.2 < b.2))
def minP (x : Int × Int) (xs : List (Int × Int)) : Int × Int := xs.foldl (fun a y => if ltP y a = true then y else a) x
def dMinP : D → Sto → Out D
  | .lst l, S => match prsI l with
    | some (x :: xs) => .ok (prI (minP x xs)) S
    | _ => .bad
  | _, _ => .bad
theorem prsI_eq : ∀ {l : List D} {ps : List (Int × Int)}, prsI l = some ps → l = ps.map prI
  | [], ps, h => by cases h; rfl
  | d :: l, ps, h => by
    unfold prsI at h
    split at h
    · rename_i e
      cases e
    · rename_i a b r e
      cases e
      split at h
      · rename_i q e
        cases h
        rw [prsI_eq e]
        rfl
      · exact nomatch h
    · exact nomatch h
def pyP (p : Int × Int) : PyData := .tuple [.int p.1, .int p.2]
theorem minD_pairs (x : Int × Int) : ∀ xs : List (Int × Int), PySem.W.minD (pyP x) (xs.map pyP) = pyP (minP x xs) := by
  intro xs
  unfold PySem.W.minD minP
  induction xs generalizing x with
  | nil => rfl
  | cons y r ih =>
    rw [List.map_cons, List.foldl_cons, List.foldl_cons]
    have e : (if PySem.W.dataLt (pyP y) (pyP x) = true then pyP y else pyP x) = pyP (if ltP y x = true then y else x) := by
      have : PySem.W.dataLt (pyP y) (pyP x) = ltP y x := PySem.W.dataLt_ii _ _ _ _
      rw [this]
      split <;> rfl
    rw [e]
    exact ih _
theorem dpAll_get {K : PySem.W.Frag} {H : Hp} : ∀ {xs : List V} {ds : List PyData} {i : Nat} {v : V}, DpAll K H xs ds → xs[i]? = some v → ∃ d, ds[i]? = some d ∧ Dp K H v d
  | _, _, _, _, .nil, e => by simp at e
  | _, _, 0, _, .cons h t, e => by simp at e; subst e; exact ⟨_, rfl, h⟩
  | _, _, i + 1, _, .cons h t, e => by simp at e; simpa using dpAll_get t e
section
variable {X : Cx} {A : Amb} {Ex : XK} {Γ : List Nat} {e : Expr} {f : Ev D} {p pos : Pos}
def rMinD (K : PySem.W.Frag) : List V → Hp → VK → Prop := fun vs H Q => ∃ (a : Addr) (xs : List V) (x : PyData) (rest : List PyData), vs = [V.ref a] ∧ SqL K H a xs ∧ DpAll K H xs (x :: rest) ∧ PySem.W.AlikeAll (x :: rest) ∧ PyData.canLayAll0 (x :: rest) = true ∧ PyData.depthAll (x :: rest) ≤ 3 ∧
  ∀ (i : Nat) (v : V), xs[i]? = some v → (x :: rest)[i]? = some (PySem.W.minD x rest) → Q v H
theorem canLay_get : ∀ {ds : List PyData} {i : Nat} {d : PyData}, PyData.canLayAll0 ds = true → ds[i]? = some d → d.canLay0 = true
  | [], _, _, _, e => by simp at e
  | d :: ds, 0, _, h, e => by simp at e; subst e; simp [PyData.canLayAll0] at h; exact h.1
  | d :: ds, i + 1, _, h, e => by simp at e; simp [PyData.canLayAll0] at h; exact canLay_get h.2 e
theorem cr_minD (hc : X.calm = true) (hu : X.A.units + 65 < cLine) : CallR X (.builtin "min") (rMinD X.K) := by
  intro pins s σ H vs us Q I r h
  obtain ⟨a, xs, x, rest, rfl, hs, hd, ha, hcl, hdp, q⟩ := h
  obtain ⟨its, rv, hl, hz⟩ := I.list hs
  rw [Vals.ref1 r]
  obtain ⟨as, hr⟩ := Dp.readsAll I _ xs its hd rv
  refine PySem.W.min_list_data (I.ok.hd hc) hl.isList hr ha (by omega) fun i v h' tk bs hv hrd hk => ?_
  have hv' : its[i]? = some v := by simpa using hv
  have hlen := rv.length
  obtain ⟨hi, _⟩ := List.getElem?_eq_some_iff.mp hv'
  have hx : xs[i]? = some (xs[i]'(by omega)) := List.getElem?_eq_getElem (by omega)
  obtain ⟨u, hu1, hu2⟩ := rv.get hx
  have : u = v := Option.some.inj (hu1.symm.trans hv')
  subst this
  obtain ⟨d, hd1, hd2⟩ := dpAll_get hd hx
  obtain ⟨as', r1⟩ := Dp.reads I d _ u hd2 hu2
  have r2 := PyProof.Rows.Reads.keeps hk r1
  have := PySem.SeqAt.Reads.unique _ _ _ _ _ (canLay_get hcl hd1) r2 hrd
  subst this
  exact ⟨_, H, I.kept hk, hu2, q i _ hx hd1⟩
theorem pys_prs : ∀ ps : List (Int × Int), D.pys (ps.map prI) = ps.map pyP
  | [] => rfl
  | p :: ps => by simp [D.pys, pys_prs ps]; rfl
theorem okEs_prs : ∀ (ps : List (Int × Int)) (n : Nat), okEs (ps.map prI) (n + 1) = true
  | [], _ => rfl
  | p :: ps, n => by
    show (okE (prI p) (n + 1) && okEs (ps.map prI) (n + 1)) = true
    rw [okEs_prs ps n]
    rfl
theorem de_minP (hc : X.calm = true) (hu : X.A.units + 65 < cLine) (hgl : Gl X "min") (hm : X.mg "min" = none) (hv : bootBuiltins "min" = some (.builtin "min")) (ha : DV X A Ex Γ e f) (he : St1 X e := by rfl) : DE X A Ex Γ (.Call (.Name "min" p) [e] [] pos) (b1 f dMinP) :=
  d_b1 (he := he) shD (cr_minD hc hu) hgl hm hv ha fun W S H v d Q wo k an => by
    cases d with
    | lst l =>
      obtain ⟨a, vs, rfl, h, k1, z⟩ := k.lst wo
      unfold dMinP at an
      cases eb : prsI l with
      | none => simp only [eb] at an; exact an.elim
      | some bs =>
        simp only [eb] at an
        cases bs with
        | nil => exact an.elim
        | cons b bs =>
          have el := prsI_eq eb
          have o : okEs l 1 = true := by rw [el]; exact okEs_prs _ 0
          have dp := Dens.dp (K := X.K) wo l 1 vs o k1
          rw [el, pys_prs] at dp
          refine ⟨a, vs, pyP b, bs.map pyP, rfl, SqL.of h, dp, ⟨?_, ?_⟩, ?_, ?_, fun i v hi hd => ?_⟩
          · intro x mx y my
            rw [← List.map_cons] at mx my
            obtain ⟨p, _, rfl⟩ := List.mem_map.mp mx
            obtain ⟨q, _, rfl⟩ := List.mem_map.mp my
            rfl
          · intro x mx
            rw [← List.map_cons] at mx
            obtain ⟨p, _, rfl⟩ := List.mem_map.mp mx
            exact fun e => nomatch e
          · rw [← List.map_cons]
            generalize b :: bs = m
            induction m with
            | nil => rfl
            | cons p m ih => simp only [List.map_cons, PyData.canLayAll0, ih]; rfl
          · rw [← List.map_cons]
            generalize b :: bs = m
            induction m with
            | nil => simp [PyData.depthAll]
            | cons p m ih =>
              have : (pyP p).depth = 1 := by simp [pyP, PyData.depth, PyData.depthAll]
              simp only [List.map_cons, PyData.depthAll]
              omega
          · obtain ⟨d, hd1, hd2⟩ := Dens.get k1 hi
            rw [el] at hd1
            rw [minD_pairs, ← List.map_cons, List.getElem?_map] at hd
            rw [List.getElem?_map] at hd1
            obtain ⟨p, hp, e1⟩ := Option.map_eq_some_iff.mp hd
            rw [hp] at hd1
            have : p = minP b bs := by
              have := e1
              unfold pyP at this
              injection this with this
              injection this with h1 h2
              injection h1 with h1
              injection h2 with h2 _
              injection h2 with h2
              exact Prod.ext h1 h2
            subst this
            have : d = prI (minP b bs) := (Option.some.inj hd1).symm
            subst this
            exact an.done wo hd2
    | _ => exact an.elim
end
end Hr

set_option Elab.async false
set_option linter.all false
set_option maxRecDepth 100000
set_option maxHeartbeats 1000000
namespace Hr
open PySem PySem.Spec PyProof.Rows L2
section
variable {X : Cx} {E : En} {Γ Γc : List Nat} {pos : Pos}
/-! ### xs[i] = e -/
def sPutL (i : Nat) (fk fv : Ev D) : Sv := fun ρ S => match ρ[i]? with
  | some (some (.lst l)) => (fv ρ S).bind fun d S1 => (fk ρ S1).bind fun x S2 => match x with
    | .int n => (match ixN l.length n with
      | some j => .ok (.nx (ρ.set i (some (.lst (l.set j d))))) S2
      | none => .bad)
    | _ => .bad
  | _ => .bad
theorem ds_putL {x : Str} {i : Nat} {xp sp : Pos} {ek ev : Expr} {fk fv : Ev D} (m : i ∈ Γ) (hv : DE X E.A E.Ex Γ ev fv) (hg : PG X (.Subscript (.Name x xp) ek sp) (gSub (tVar i) (tR E.A E.Ex Γ rV fk) rSetL))
    (hs : swapsWithSole [.Subscript (.Name x xp) ek sp] ev pos.line X.env = pure false := by rfl) (hw : swappedStores [.Subscript (.Name x xp) ek sp] ev X.env = pure none := by rfl)
    (h1 : (assignEach [.Subscript (.Name x xp) ek sp] X.env).map (·.2) = [assign (.Subscript (.Name x xp) ek sp) X.env] := by rfl) : DS X E Γ Γ Γc (.Assign [.Subscript (.Name x xp) ek sp] ev pos) (sPutL i fk fv) :=
  (ps_asg hv hg hs hw h1).of fun D σ H ⟨W, ρ, S, so, an⟩ => by
    unfold sPutL at an
    split at an
    · rename_i l el
      obtain ⟨a, vs, evx, ff, tt, h, k, z⟩ := so.lst m el
      refine seqS so an fun d S1 W1 H1 v s1 so1 k1 an1 => ⟨_, evx, seqS so1 an1 fun x S2 W2 H2 y s2 so2 k2 an2 => ?_⟩
      have s12 := s1.trans s2
      have h2 := s12.fm _ _ h tt ff
      have k1 := Den.step k1 s2
      cases x with
      | int n =>
        cases View.int k2
        simp only at an2
        split at an2
        · rename_i j ej
          refine ⟨a, vs, n, j, rfl, rfl, h2, by rw [k.length]; exact ej, an2 W2 _ σ (so2.put m el evx (d' := .lst (l.set j d)) ⟨_, upd_same, (k.step s12).set k1 j, by rw [List.length_set]; exact z⟩ (s12.frn h ff) (s12.tgn h tt)) .refl⟩
        · exact an2.elim
      | _ => exact an2.elim
    · exact an.elim
/-! ### d.pop(k, x), the word alone -/
def dropD {κ : Type} [DecidableEq κ] (l : List (κ × D)) (k : κ) : List (κ × D) := l.filter fun kv => decide (kv.1 ≠ k)
theorem DenK.drop {W : Wd} {k : Key} : ∀ {l : List (Key × D)} {vs : List (Key × V)}, DenK W l vs → DenK W (dropD l k) (dropK vs k)
  | [], _, h => by cases h; exact rfl
  | (j, d) :: l, _, ⟨v, r, e, h1, h2⟩ => by
    subst e
    unfold dropD dropK
    by_cases q : j = k
    · rw [List.filter_cons_of_neg (by simp [q]), List.filter_cons_of_neg (by simp [q])]
      exact DenK.drop h2
    · rw [List.filter_cons_of_pos (by simp [q]), List.filter_cons_of_pos (by simp [q])]
      exact ⟨v, _, rfl, h1, DenK.drop h2⟩
theorem dropD_none {l : List (Key × D)} {vs : List (Key × V)} {W : Wd} {k : Key} (h : DenK W l vs) (e : valV vs k = none) : dropD l k = l := by
  induction l generalizing vs with
  | nil => rfl
  | cons a l ih =>
    obtain ⟨j, d⟩ := a
    obtain ⟨v, r, ev, h1, h2⟩ := h
    subst ev
    by_cases q : j = k
    · rw [valV_pos q] at e; exact nomatch e
    · rw [valV_neg q] at e
      unfold dropD
      rw [List.filter_cons_of_pos (by simp [q])]
      exact congrArg _ (ih h2 e)
def sPop2 (i : Nat) (fk fx : Ev D) : Sv := fun ρ S => match ρ[i]? with
  | some (some (.dK l)) => (fk ρ S).bind fun x S1 => (fx ρ S1).bind fun _ S2 => match keyD x with
    | some k => .ok (.nx (ρ.set i (some (.dK (dropD l k))))) S2
    | none => .bad
  | _ => .bad
theorem ds_pop2 {x : Str} {i : Nat} {xp apos cpos : Pos} {ek ex : Expr} {fk fx : Ev D} (mi : i ∈ Γ) (hx : PE X (.Name x xp) (tVar i)) (hk : DV X E.A E.Ex Γ ek fk) (he : DE X E.A E.Ex Γ ex fx)
    (m : M2 X (.Name x xp) "pop" apos ek ex cpos := by exact ⟨rfl, rfl, rfl, rfl⟩) (hsw : swapsWith (.Call (.Attribute (.Name x xp) "pop" apos) [ek, ex] [] cpos) none pos.line X.env = pure false := by rfl) :
    DS X E Γ Γ Γc (.Expr (.Call (.Attribute (.Name x xp) "pop" apos) [ek, ex] [] cpos) pos) (sPop2 i fk fx) :=
  (ps_expr (pe_dpop2 hx hk he m) hsw).of fun D σ H ⟨W, ρ, S, so, an⟩ => by
    unfold sPop2 at an
    split at an
    · rename_i l el
      obtain ⟨vx, evx, a, rfl, ff, tt, vs, h, k, z⟩ := so.sl.own i _ el mi
      refine ⟨_, evx, a, rfl, .inl ⟨vs, .inl h⟩, seqS so an fun d S1 W1 H1 y s1 so1 k1 an1 => seqS so1 an1 fun q S2 W2 H2 v s2 so2 k2 an2 => ?_⟩
      have s12 := s1.trans s2
      have h2 := s12.fm _ _ h tt ff
      cases ek : keyD d with
      | none => simp only [ek] at an2; exact an2.elim
      | some kk =>
        simp only [ek] at an2
        cases keyD_of (k1.step s2) ek
        refine ⟨vs, kk, h2, rfl, fun v' hv => ?_, fun hn => ?_⟩
        · exact an2 W2 _ σ (so2.put mi el evx (d' := .dK (dropD l kk)) ⟨_, upd_same, DenK.drop (k.step s12), Nat.le_trans (dropK_le vs kk) z⟩ (s12.frn h ff) (s12.tgn h tt)) .refl
        · have e0 := dropD_none k hn
          have so3 := so2
          refine an2 W2 H2 σ ?_ .refl
          have : ρ.set i (some (.dK (dropD l kk))) = ρ := by
            rw [e0]
            apply List.ext_getElem?
            intro n
            by_cases c : n = i
            · subst c
              rw [List.getElem?_set_self (by
                obtain ⟨q, _⟩ := List.getElem?_eq_some_iff.mp el
                exact q), el]
            · rw [List.getElem?_set_ne (fun e => c e.symm)]
          rw [this]
          exact so2
    · exact an.elim
end
/-! ### [..] * n, a list of one's own -/
section
variable {X : Cx} {A : Amb} {Ex : XK} {Γ : List Nat} {a b : Expr} {fa fb : Ev D} {pos : Pos}
def dMulL : D → D → Sto → Out D
  | .lst l, .int k, S => if (-1000 ≤ k ∧ k ≤ 1000) ∧ l.length ≤ 1000 then .ok (.lst (List.replicate k.toNat l).flatten) S else .bad
  | _, _, _ => .bad
theorem dn_mulL (ha : DV X A Ex Γ a fa) (hb : DV X A Ex Γ b fb) : DN X A Ex Γ (.BinOp a .Mult b pos) (b2 fa fb dMulL) :=
  d_op shN op_rep ha hb fun W S H x y dx dy Q wo vx vy an => by
    unfold dMulL at an
    split at an
    · split at an
      · rename_i z
        obtain ⟨p, vs, rfl, h1, k1, z1⟩ := vx.lst wo
        cases vy.int
        have e1 := k1.length
        have zz : ∀ n : Nat, n ≤ 1000 → vs.length * n ≤ sizeLine := fun n hn => by
          have : vs.length * n ≤ 1000 * 1000 := Nat.mul_le_mul (by omega) hn
          rw [sizeLine_eq]; omega
        refine ⟨p, _, vs, rfl, rfl, h1, by omega, by omega, zz _ (by omega), an.newL wo (k1.flatRep _) ?_⟩
        rw [flat_len, Nat.mul_comm]; exact zz _ (by omega)
      · exact an.elim
    · exact an.elim
end
/-! ### for k in range(a, b, c) -/
section
variable {X : Cx} {A : Amb} {Ex : XK} {Γ : List Nat} {tg : Expr}
def rngC (i c : Int) (n : Nat) : List D := (List.range n).map fun k => .int (i + (k : Nat) * c)
def rng3 (fas : Ev (List D)) : Ev (List D) := b1 fas fun l S => match l with
  | [.int i, .int j, .int c] => if c ≠ 0 ∧ c.natAbs < 1000 ∧ Builtin.Range.small i j c = true ∧ 0 ≤ Builtin.Range.rangeSize i j c ∧ Builtin.Range.rangeSize i j c ≤ 100000 then .ok (rngC i c (Builtin.Range.rangeSize i j c).toNat) S else .bad
  | _ => .bad
theorem walks_rngC {W : Wd} {i c : Int} {n : Nat} (hz : n ≤ sizeLine) : Walks A (Itc i c n) (rngC i c n) W where
  go := fun W1 S H k d wo _ e => by
    have hk : k < n := by
      obtain ⟨q, _⟩ := List.getElem?_eq_some_iff.mp e
      simpa [rngC] using q
    have ed : d = .int (i + (k : Nat) * c) := by
      unfold rngC at e
      rw [List.getElem?_map, List.getElem?_range hk] at e
      exact (Option.some.inj e).symm
    subst ed
    refine ⟨hk, fun x H' y => ?_⟩
    obtain ⟨rfl, rfl⟩ := y
    exact ⟨W1, Step.refl, wo, rfl⟩
  stop := fun W1 S H wo _ => by
    show n ≤ (rngC i c n).length
    simp [rngC]
  sz := by simpa [rngC] using hz
theorem di_range3 {a b c : Expr} {fas : Ev (List D)} {p pos : Pos} (hg : Gl X "range") (hm : X.mg "range" = none) (ha : DA X A Ex Γ [a, b, c] fas) (hs : starEach [a, b, c] X.env = (false, eval a X.env) :: starEach [b, c] X.env := by rfl) (hpl : (backTo pos (starEach [b, c] X.env)).any (·.1) = false := by rfl) :
    DI X A Ex Γ tg (.Call (.Name "range" p) [a, b, c] [] pos) (rng3 fas) :=
  (pi_range3 hg hm ha.pa hs hpl).of fun σ H R ⟨W, ρ, S, wo, sl, an⟩ => seqR shW wo sl an fun ds S1 W1 H1 vs s1 wo1 k1 sl1 an1 => by
    split at an1
    · split at an1
      · rename_i z
        obtain ⟨v, r, rfl, q1, v2, r2, rfl, q2, v3, r3, rfl, q3, q4⟩ := k1
        cases q1; cases q2; cases q3; cases q4
        refine ⟨_, _, _, _, rfl, ⟨z.1, by omega, z.2.2.1, (Int.toNat_of_nonneg z.2.2.2.1).symm⟩, ?_⟩
        exact an1.done wo1 (walks_rngC (by have := z.2.2.2.2; rw [sizeLine_eq]; omega))
      · exact an1.elim
    · exact an1.elim
end
end Hr

set_option Elab.async false
set_option linter.all false
set_option maxRecDepth 100000
set_option maxHeartbeats 1000000
namespace Hr
open PySem PySem.Spec PyProof.Rows L2
/-! ### a <= b <= c <= d, as a value -/
section
variable {X : Cx} {a b c d : Expr} {ta tb tc td : TE} {pos : Pos}
def tChain3 (r r' r'' : R2) (ta tb tc td : TE) : TE := fun σ H Q => ta σ H fun x H1 => tb σ H1 fun y H2 => r x y H2 fun z H3 => ∃ k, z = .bl k ∧
  (if k = true then tc σ H3 fun u H4 => r' y u H4 fun z' H5 => ∃ k', z' = .bl k' ∧ (if k' = true then td σ H5 fun t H6 => r'' u t H6 Q else Q (.bl false) H5) else Q (.bl false) H3)
theorem pe_chain3 {op op' op'' : CmpOp} {r r' r'' : R2} (ho : OpR X (compareOp op) r) (ho' : OpR X (compareOp op') r') (ho'' : OpR X (compareOp op'') r'') (ha : PE X a ta) (hb : PE X b tb) (hc : PE X c tc) (hd : PE X d td)
    (hm : lastMarks [op, op', op''] [b, c, d] = false := by with_unfolding_all rfl) : PE X (.Compare a [op, op', op''] [b, c, d] pos) (tChain3 r r' r'' ta tb tc td) := by
  refine ⟨fun pins s σ H Q I h => ?_⟩
  refine Compare_chain (thn (ha.run pins s σ H _ I h) fun v s1 ⟨x, H1, I1, r1, q1⟩ => chain_link (thn (hb.run pins s1 σ H1 _ I1 q1) fun u s2 ⟨y, H2, I2, r2, q2⟩ =>
    thn (ho pins s2 σ H2 x y v u _ I2 r1 r2 q2) fun d s3 ⟨z, H3, I3, r3, k, e, q3⟩ => ?_)) hm
  subst e
  cases r3
  refine wpAny_truthy_bool ?_
  cases k with
  | false => exact ite_ff ⟨.bl false, H3, I3, rfl, q3⟩
  | true =>
    refine ite_tt (chain_link (thn (hc.run pins s3 σ H3 _ I3 q3) fun w' s4 ⟨z', H4, I4, r4, q4⟩ => thn (ho' pins s4 σ H4 y z' u w' _ I4 r2 r4 q4) fun d' s5 ⟨z2, H5, I5, r5, k2, e2, q5⟩ => ?_))
    subst e2
    cases r5
    refine wpAny_truthy_bool ?_
    cases k2 with
    | false => exact ite_ff ⟨.bl false, H5, I5, rfl, q5⟩
    | true => exact ite_tt (chain_last (thn (hd.run pins s5 σ H5 _ I5 q5) fun w'' s6 ⟨z3, H6, I6, r6, q6⟩ => ho'' pins s6 σ H6 z' z3 w' w'' Q I6 r4 r6 q6))
end
def leD (fa : Ev D) (k : Int → Sto → Out D) (x : Int) (ρ : Rho) (S : Sto) : Out D := (fa ρ S).bind fun y S1 => match y with
  | .int j => if x ≤ j then k j S1 else .ok (.bl false) S1
  | _ => .bad
def ch3D (fa fb fc fd : Ev D) : Ev D := fun ρ S => (fa ρ S).bind fun x S1 => match x with
  | .int i => leD fb (fun j S2 => leD fc (fun k S3 => leD fd (fun _ S4 => .ok (.bl true) S4) k ρ S3) j ρ S2) i ρ S1
  | _ => .bad
section
variable {X : Cx} {A : Amb} {Ex : XK} {Γ : List Nat} {a b c d : Expr} {fa fb fc fd : Ev D} {pos : Pos}
theorem de_chain3 (ha : DV X A Ex Γ a fa) (hb : DV X A Ex Γ b fb) (hc : DV X A Ex Γ c fc) (hd : DV X A Ex Γ d fd) (hm : lastMarks [.LtE, .LtE, .LtE] [b, c, d] = false := by with_unfolding_all rfl) :
    DE X A Ex Γ (.Compare a [.LtE, .LtE, .LtE] [b, c, d] pos) (ch3D fa fb fc fd) :=
  (pe_chain3 op_le op_le op_le ha hb hc hd hm).of fun σ H Q ⟨W, ρ, S, wo, sl, an⟩ => seqR shD wo sl an fun x S1 W1 H1 v s1 wo1 k1 sl1 an1 => by
    cases x with
    | int i =>
      cases View.int k1
      simp only at an1
      refine seqR shD wo1 sl1 an1 fun y S2 W2 H2 u s2 wo2 k2 sl2 an2 => ?_
      cases y with
      | int j =>
        cases View.int k2
        simp only at an2
        refine ⟨i, j, rfl, rfl, decide (i ≤ j), rfl, ?_⟩
        by_cases q : i ≤ j
        · rw [if_pos q] at an2
          rw [if_pos (decide_eq_true q)]
          refine seqR shD wo2 sl2 an2 fun z S3 W3 H3 t s3 wo3 k3 sl3 an3 => ?_
          cases z with
          | int k =>
            cases View.int k3
            simp only at an3
            refine ⟨j, k, rfl, rfl, decide (j ≤ k), rfl, ?_⟩
            by_cases q2 : j ≤ k
            · rw [if_pos q2] at an3
              rw [if_pos (decide_eq_true q2)]
              refine seqR shD wo3 sl3 an3 fun z4 S4 W4 H4 t4 s4 wo4 k4 sl4 an4 => ?_
              cases z4 with
              | int l =>
                cases View.int k4
                simp only at an4
                refine ⟨k, l, rfl, rfl, ?_⟩
                show Q (.bl (decide (k ≤ l))) H4
                by_cases q3 : k ≤ l
                · rw [if_pos q3] at an4
                  rw [decide_eq_true q3]
                  exact an4.done wo4 rfl
                · rw [if_neg q3] at an4
                  rw [decide_eq_false q3]
                  exact an4.done wo4 rfl
              | _ => exact an4.elim
            · rw [if_neg q2] at an3
              rw [if_neg (by simp [q2])]
              exact an3.done wo3 rfl
          | _ => exact an3.elim
        · rw [if_neg q] at an2
          rw [if_neg (by simp [q])]
          exact an2.done wo2 rfl
      | _ => exact an2.elim
    | _ => exact an1.elim
end
end Hr

set_option Elab.async false
set_option linter.all false
set_option maxRecDepth 100000
set_option maxHeartbeats 1000000
namespace Hr
open PySem PySem.Spec PyProof.Rows L2
/-! dicts with keys (int, tuple of ints), all values True -/
def nkK (k : Int × List Int) : NestedKey := .tup [.num k.1, .tup (k.2.map .num)]
theorem nk_hashes (w : World) : ∀ l : List Int, NestedKey.hashes w (l.map .num) = l.map hashInt
  | [] => rfl
  | x :: l => by simp only [List.map_cons, NestedKey.hashes, NestedKey.hash, nk_hashes w l]
theorem nk_hash (w : World) (k : Int × List Int) : (nkK k).hash w = nkH k := by
  simp only [nkK, nkH, NestedKey.hash, NestedKey.hashes, nk_hashes]
theorem nk_nums : ∀ a b : List Int, a.map NestedKey.num = b.map NestedKey.num → a = b
  | [], [], _ => rfl
  | [], _ :: _, h => by simp at h
  | _ :: _, [], h => by simp at h
  | x :: a, y :: b, h => by
    simp only [List.map_cons, List.cons.injEq, NestedKey.num.injEq] at h
    rw [h.1, nk_nums a b h.2]
theorem nkK_inj {j k : Int × List Int} (h : nkK j = nkK k) : j = k := by
  unfold nkK at h
  injection h with h
  simp only [List.cons.injEq, NestedKey.num.injEq, NestedKey.tup.injEq, and_true] at h
  obtain ⟨j1, j2⟩ := j
  obtain ⟨k1, k2⟩ := k
  simp only at h
  rw [h.1, nk_nums _ _ h.2]
theorem nk_depths : ∀ l : List Int, NestedKey.depthAll (l.map .num) ≤ 1
  | [] => by simp [NestedKey.depthAll]
  | x :: l => by
    have := nk_depths l
    simp only [List.map_cons, NestedKey.depthAll, NestedKey.depth]
    omega
theorem nk_depth (k : Int × List Int) : (nkK k).depth ≤ 8 := by
  have := nk_depths k.2
  simp only [nkK, NestedKey.depth, NestedKey.depthAll]
  omega
def nkX (x : (Int × List Int) × Addr) : NestedKey × Addr × Value := (nkK x.1, x.2, .bool true)
theorem nk_ent (P : Program) (w : World) (x : (Int × List Int) × Addr) : entryOfKey (nestedKind P w) (nkX x) = nkE x := by
  unfold entryOfKey nkX nkE
  simp only [nestedKind, nk_hash]
theorem dens_intV {W : Wd} : ∀ {l : List Int} {vs : List V}, Dens W (l.map .int) vs → vs = l.map V.int
  | [], _, h => h
  | x :: l, _, ⟨v, r, e, h1, h2⟩ => by
    subst e
    rw [show v = .int x from h1, dens_intV h2]
    rfl
theorem nums_all {h : Heap} : ∀ {l : List Int} {its : List Value}, Vals (l.map V.int) its → NestedAll h (l.map .num) its
  | [], _, .nil => .nil
  | x :: l, _, .cons r t => by
    obtain ⟨k, rfl⟩ := r
    exact .cons (.int _ _) (nums_all t)
section
variable {X : Cx} {A : Amb} {Ex : XK} {Γ Γc : List Nat}
theorem KeyAt.of {W : Wd} {i : Int} {js : List Int} {b : Addr} (d : Den W (.tup [.int i, .tup (js.map .int)]) (.ref b)) : KeyAt W (i, js) b := by
  obtain ⟨a, vs, e, f, kd⟩ := d
  cases e
  obtain ⟨v1, _, rfl, d1, v2, _, rfl, d2, e⟩ := kd
  cases e
  obtain ⟨c, us, rfl, f2, kd2⟩ := d2
  rw [show v1 = .int i from d1] at f
  rw [dens_intV kd2] at f2
  exact ⟨c, f, f2⟩
theorem nk_is {pins : List (Addr × Obj)} {σ : L2.St} {H : Hp} {s : Shared} {W : Wd} {S : Sto} {k : Int × List Int} {b : Addr} (I : Inv X pins σ H s) (wo : Wok A W S H) (d : KeyAt W k b) : (nestedKind X.prog X.w).is s.heap (nkK k) b := by
  obtain ⟨c, f1, f2⟩ := d
  have h1 : H b = some (.tup [.int k.1, .ref c]) := wo.fr _ _ f1
  have h2 : H c = some (.tup (k.2.map V.int)) := wo.fr _ _ f2
  obtain ⟨its, rv, ⟨o, ho, hc, n, hd⟩, hz⟩ := I.tuple (SqT.of (K := X.K) h1)
  obtain ⟨its2, rv2, ⟨o2, ho2, hc2, n2, hd2⟩, hz2⟩ := I.tuple (SqT.of (K := X.K) h2)
  obtain ⟨x1, x2, rfl, r1, r2⟩ := vals2 rv
  obtain ⟨t, rfl⟩ := r1
  cases r2
  refine ⟨.tup ho hc hd ?_, nk_depth k⟩
  exact .cons (.int _ _) (.cons (.tup ho2 hc2 hd2 (by simpa using nums_all rv2)) .nil)
theorem nk_nodup {xs : List ((Int × List Int) × Addr)} (nd : (xs.map (·.1)).Nodup) : ((xs.map nkX).map (·.1)).Nodup := by
  rw [List.map_map]
  have : (xs.map ((fun x : NestedKey × Addr × Value => x.1) ∘ nkX)) = (xs.map (·.1)).map nkK := by rw [List.map_map]; rfl
  rw [this]
  unfold List.Nodup
  rw [List.pairwise_map]
  exact nd.imp fun h e => h (nkK_inj e)
theorem nk_dict {pins : List (Addr × Obj)} {σ : L2.St} {H : Hp} {s : Shared} {W : Wd} {S : Sto} {a : Addr} {xs : List ((Int × List Int) × Addr)} (I : Inv X pins σ H s) (wo : Wok A W S H) (h : H a = some (NObj a xs)) (hd : ∀ x ∈ xs, KeyAt W x.1 x.2) (nd : (xs.map (·.1)).Nodup) : s.heap.DictOfH (nestedKind X.prog X.w) a (xs.map nkX) := by
  obtain ⟨⟨o, es, ep, ho, hx, hdat, he⟩, _⟩ := (show ObjOk X.prog X.w H s.heap a (NObj a xs) from I.hok a _ h)
  refine ⟨o, es, ep, ho, hx, hdat, ?_, fun y my => ?_, nk_nodup nd⟩
  · rw [he, List.map_map]
    apply List.map_congr_left
    intro x _
    exact (nk_ent X.prog X.w x).symm
  · obtain ⟨x, mx, rfl⟩ := List.mem_map.mp my
    exact nk_is I wo (hd x mx)
theorem nk_at {xs : List ((Int × List Int) × Addr)} {k : Int × List Int} : (atKey (xs.map nkX) (nkK k)).isSome = decide (k ∈ xs.map (·.1)) := by
  unfold atKey
  rw [Option.isSome_map, Bool.eq_iff_iff, decide_eq_true_eq, List.find?_isSome]
  constructor
  · rintro ⟨y, my, e⟩
    obtain ⟨x, mx, rfl⟩ := List.mem_map.mp my
    have : nkK x.1 = nkK k := of_decide_eq_true e
    exact List.mem_map.mpr ⟨x, mx, nkK_inj this⟩
  · intro m
    obtain ⟨x, mx, e⟩ := List.mem_map.mp m
    exact ⟨nkX x, List.mem_map.mpr ⟨x, mx, rfl⟩, decide_eq_true (by rw [show (nkX x).1 = nkK x.1 from rfl, e])⟩
/-! ### k not in d -/
def rNIn (A : Amb) : R2 := fun x y H Q => ∃ (W : Wd) (S : Sto) (k : Int × List Int) (a b : Addr) (xs : List ((Int × List Int) × Addr)), Wok A W S H ∧ x = .ref b ∧ y = .ref a ∧ KeyAt W k b ∧
  ((H a = some (NObj a xs) ∧ (∀ x ∈ xs, KeyAt W x.1 x.2) ∧ (xs.map (·.1)).Nodup ∧ (a == sysModules) = false) ∨ (Rd H a (.dK []) ∧ xs = [])) ∧ Q (.bl (!decide (k ∈ xs.map (·.1)))) H
theorem dk_nest {P : Program} {w : World} {H : Hp} {h : Heap} {a : Addr} (hk : ObjOk P w H h a (.dK [])) : h.DictOfH (nestedKind P w) a [] := by
  obtain ⟨_, _, vs, rv, o, es, ep, ho, hx, hd, _, hp, _⟩ := hk
  cases rv
  have : es.toList = [] := by
    cases he : es.toList with
    | nil => rfl
    | cons x l => rw [he] at hp; cases hp
  exact ⟨o, es, ep, ho, hx, hd, by rw [this]; rfl, (fun x m => nomatch m), List.nodup_nil⟩
theorem op_nin (hu : X.A.units + 64 < cLine) : OpR X (compareOp .NotIn) (rNIn A) := by
  intro pins s σ H x y v u Q I rx ry ⟨W, S, k, a, b, xs, wo, ex, ey, dk, hh, q⟩
  subst ex ey
  cases rx
  cases ry
  obtain ⟨dd, hs⟩ : s.heap.DictOfH (nestedKind X.prog X.w) a (xs.map nkX) ∧ (a == sysModules) = false := by
    rcases hh with ⟨h1, h2, h3, h4⟩ | ⟨h1, h2⟩
    · exact ⟨nk_dict I wo h1 h2 h3, h4⟩
    · subst h2
      have ok := h1.ok I.hok
      exact ⟨dk_nest ok, ok.2.1⟩
  show wpAny _ _ (do return Value.bool (!(← contains (.ref a) (.ref b)))) _ _ s
  refine wpAny_bind (wpAny_contains_heap (knd := nestedKind X.prog X.w) (k := nkK k) (by show X.A.units + 1 + 8 < cLine; omega) (nk_is I wo dk) hs dd (wpAny_pure ?_))
  rw [nk_at]
  exact ⟨.bl _, H, I.tok _, rfl, q⟩
def dNinN : D → D → Sto → Out D := fun x y S => match x, y with
  | .tup [.int i, .tup l], .dN ks => match ints? l with
    | some js => .ok (.bl (!decide ((i, js) ∈ ks))) S
    | none => .bad
  | .tup [.int _, .tup l], .dK [] => match ints? l with
    | some _ => .ok (.bl true) S
    | none => .bad
  | _, _ => .bad
theorem ints_eq : ∀ {l : List D} {js : List Int}, ints? l = some js → l = js.map .int
  | [], js, h => by simp [ints?] at h; subst h; rfl
  | d :: l, js, h => by
    cases d with
    | int i =>
      simp only [ints?] at h
      cases e : ints? l with
      | none => rw [e] at h; exact nomatch h
      | some ks =>
        rw [e] at h
        cases h
        rw [ints_eq e]
        rfl
    | _ => simp [ints?] at h
theorem View.dN {W : Wd} {S : Sto} {H : Hp} {l : List (Int × List Int)} {v : V} (h : View W H (.dN l) v) (wo : Wok A W S H) : ∃ a xs, v = .ref a ∧ H a = some (NObj a xs) ∧ DenN W l xs ∧ (a == sysModules) = false := by
  rcases h with ⟨a, xs, e, f, k, z⟩ | ⟨a, e, _, _, xs, f, k, z⟩
  · exact ⟨a, xs, e, wo.fr a _ f, k, z⟩
  · exact ⟨a, xs, e, f, k, z.2⟩
theorem ck_ninN {b : Expr} (hu : X.A.units + 65 < cLine) (hb : behindInMarks .NotIn b = false := by rfl) : Ck X A Ex .NotIn b dNinN := by
  obtain ⟨⟨r, ho, hg⟩, hm⟩ := ck_notIn (X := X) (A := A) (Ex := Ex) (b := b) hu hb
  refine d_cmp (op_nin (A := A) (by omega)) hm fun W S H x y dx dy Q wo kx ky an => ?_
  unfold dNinN at an
  split at an
  · rename_i i l ks
    cases e : ints? l with
    | none => rw [e] at an; exact an.elim
    | some js =>
      rw [e] at an
      have el := ints_eq e
      subst el
      obtain ⟨b, vs, rfl, hb, _, _, kd⟩ := kx.tup wo
      obtain ⟨a, xs, rfl, ha, dn, hs⟩ := ky.dN wo
      refine ⟨W, S, (i, js), a, b, xs, wo, rfl, rfl, KeyAt.of kd, .inl ⟨ha, dn.dn, by rw [dn.ke]; exact dn.nd, hs⟩, ?_⟩
      rw [dn.ke]
      exact an.done wo rfl
  · rename_i i l
    cases e : ints? l with
    | none => rw [e] at an; exact an.elim
    | some js =>
      rw [e] at an
      have el := ints_eq e
      subst el
      obtain ⟨b, vs, rfl, hb, _, _, kd⟩ := kx.tup wo
      obtain ⟨a, us, rfl, ha, k, z⟩ := ky.dK wo
      cases k
      exact ⟨W, S, (i, js), a, b, [], wo, rfl, rfl, KeyAt.of kd, .inr ⟨ha, rfl⟩, an.done wo rfl⟩
  · exact an.elim
theorem nobj_new {P : Program} {w : World} {H : Hp} {h : Heap} {a : Addr} {xs : List ((Int × List Int) × Addr)} {o : Obj} {es : Array DictEntry} {ep : Nat} (ho : h.get? a = some o) (hx : o.ExactDict) (hd : o.data = .dict es ep) (he : es.toList = xs.map nkE) : ObjOk P w H h a (NObj a xs) := by
  have st : ∀ h1 h2 : Heap, (∃ (o : Obj) (es : Array DictEntry) (ep : Nat), h1.get? a = some o ∧ o.ExactDict ∧ o.data = .dict es ep ∧ es.toList = xs.map nkE) → (∀ o, h1.get? a = some o → h2.get? a = some o) → ∃ (o : Obj) (es : Array DictEntry) (ep : Nat), h2.get? a = some o ∧ o.ExactDict ∧ o.data = .dict es ep ∧ es.toList = xs.map nkE := by
    intro h1 h2 hh kk
    obtain ⟨o, es, ep, e1, e2⟩ := hh
    exact ⟨o, es, ep, kk _ e1, e2⟩
  exact And.intro ⟨o, es, ep, ho, hx, hd, he⟩ (And.intro ⟨o, ho⟩ st)
/-! ### d[k] = True -/
def rSetN (A : Amb) : TSet := fun o i v H Q => ∃ (W : Wd) (S : Sto) (k : Int × List Int) (a b : Addr) (xs : List ((Int × List Int) × Addr)), Wok A W S H ∧ o = .ref a ∧ i = .ref b ∧ v = .bl true ∧ KeyAt W k b ∧
  ((H a = some (NObj a xs) ∧ (∀ x ∈ xs, KeyAt W x.1 x.2) ∧ (xs.map (·.1)).Nodup) ∨ (H a = some (.dK []) ∧ xs = [])) ∧ k ∉ xs.map (·.1) ∧ xs.length < sizeLine ∧ (((a == sysModules) = false ∨ H a = some (NObj a xs)) → Q (upd H a (NObj a (xs ++ [(k, b)]))))
theorem set_nest (hu : X.A.units + 64 < cLine) : PSet X (rSetN A) := by
  intro pins s σ H o i v ov iv u Q I ro ri rv ⟨W, S, k, a, b, xs, wo, eo, ei, ev, dk, hh, nk, hl, q⟩
  subst eo ei ev
  cases ro
  cases ri
  cases rv
  have dd : s.heap.DictOfH (nestedKind X.prog X.w) a (xs.map nkX) := by
    rcases hh with ⟨h1, h2, h3⟩ | ⟨h1, h2⟩
    · exact nk_dict I wo h1 h2 h3
    · subst h2
      exact dk_nest (I.hok a _ h1)
  have mu : Mut (H a) := by
    rcases hh with ⟨h1, _⟩ | ⟨h1, _⟩
    · rw [h1]; exact True.intro
    · rw [h1]; exact True.intro
  have an : atKey (xs.map nkX) (nkK k) = none := by
    have := nk_at (xs := xs) (k := k)
    rw [decide_eq_false nk] at this
    exact Option.not_isSome_iff_eq_none.mp (by rw [this]; decide)
  refine wpAny_setItem_heap (knd := nestedKind X.prog X.w) (k := nkK k) (by show X.A.units + 1 + 8 < cLine; omega) (nk_is I wo dk) dd (fun h' dd' hsb => ?_) (by rw [List.length_map]; omega)
  rw [storedH_new an] at dd'
  obtain ⟨o', es, ep, ho, hx, hdat, he, _, _⟩ := dd'
  have new : ObjOk X.prog X.w (upd H a (NObj a (xs ++ [(k, b)]))) h' a (NObj a (xs ++ [(k, b)])) := by
    refine nobj_new ho hx hdat ?_
    have e1 : ∀ l : List ((Int × List Int) × Addr), (l.map nkX).map (entryOfKey (nestedKind X.prog X.w)) = l.map nkE := fun l => by
      rw [List.map_map]
      exact List.map_congr_left fun x _ => nk_ent X.prog X.w x
    have e2 : xs.map nkX ++ [(nkK k, b, Value.bool true)] = (xs ++ [(k, b)]).map nkX := by rw [List.map_append]; rfl
    rw [he, e2, e1]
  refine ⟨_, d_write I mu hsb ⟨o', ho⟩ new, q ?_⟩
  rcases hh with ⟨h1, _⟩ | ⟨h1, _⟩
  · exact .inr h1
  · exact .inl (I.hok a _ h1).2.1
end
section
variable {X : Cx} {E : En} {Γ Γc : List Nat} {pos : Pos}
def sPutN (i : Nat) (fk fv : Ev D) : Sv := fun ρ S => match ρ[i]? with
  | some (some (.dN ks)) => (fv ρ S).bind fun d S1 => (fk ρ S1).bind fun x S2 => match d, x with
    | .bl true, .tup [.int n, .tup l] => (match ints? l with
      | some js => if (n, js) ∉ ks ∧ ks.length < 100000 then .ok (.nx (ρ.set i (some (.dN (ks ++ [(n, js)]))))) S2 else .bad
      | none => .bad)
    | _, _ => .bad
  | some (some (.dK [])) => (fv ρ S).bind fun d S1 => (fk ρ S1).bind fun x S2 => match d, x with
    | .bl true, .tup [.int n, .tup l] => (match ints? l with
      | some js => .ok (.nx (ρ.set i (some (.dN [(n, js)])))) S2
      | none => .bad)
    | _, _ => .bad
  | _ => .bad
theorem big_line : 100000 < sizeLine := by rw [sizeLine_eq]; decide
theorem ds_putN {x : Str} {i : Nat} {xp sp : Pos} {ek ev : Expr} {fk fv : Ev D} (hi : X.A.units + 64 < cLine) (m : i ∈ Γ) (hv : DE X E.A E.Ex Γ ev fv) (hg : PG X (.Subscript (.Name x xp) ek sp) (gSub (tVar i) (tR E.A E.Ex Γ rV fk) (rSetN E.A)))
    (hs : swapsWithSole [.Subscript (.Name x xp) ek sp] ev pos.line X.env = pure false := by rfl) (hw : swappedStores [.Subscript (.Name x xp) ek sp] ev X.env = pure none := by rfl)
    (h1 : (assignEach [.Subscript (.Name x xp) ek sp] X.env).map (·.2) = [assign (.Subscript (.Name x xp) ek sp) X.env] := by rfl) : DS X E Γ Γ Γc (.Assign [.Subscript (.Name x xp) ek sp] ev pos) (sPutN i fk fv) :=
  (ps_asg hv hg hs hw h1).of fun D σ H ⟨W, ρ, S, so, an⟩ => by
    have bl := big_line
    unfold sPutN at an
    split at an
    · rename_i ks el
      obtain ⟨v0, evx, a, ea, ff, tt, xs, h, k, z, sy⟩ := so.sl.own i _ el m
      subst ea
      refine seqS so an fun d S1 W1 H1 v s1 so1 k1 an1 => ⟨_, evx, seqS so1 an1 fun x S2 W2 H2 y s2 so2 k2 an2 => ?_⟩
      have s12 := s1.trans s2
      have h2 := s12.fm _ _ h tt ff
      split at an2
      · rename_i n l
        cases e : ints? l with
        | none => rw [e] at an2; exact an2.elim
        | some js =>
          rw [e] at an2
          simp only at an2
          split at an2
          · rename_i q
            have el2 := ints_eq e
            subst el2
            cases (show v = .bl true from k1)
            obtain ⟨b, vs, rfl, hb, _, _, kd⟩ := View.tup k2 so2.wo
            have kk := KeyAt.of kd
            have k' := k.step s12
            have lx : xs.length = ks.length := by rw [← k.ke, List.length_map]
            refine ⟨W2, S2, (n, js), a, b, xs, so2.wo, rfl, rfl, rfl, kk, .inl ⟨h2, k'.dn, by rw [k'.ke]; exact k'.nd⟩, by rw [k'.ke]; exact q.1, by omega, fun _ => ?_⟩
            refine an2 W2 _ σ (so2.put m el evx (d' := .dN (ks ++ [(n, js)])) ⟨_, upd_same, ⟨?_, ?_, ?_⟩, by rw [List.length_append]; simp; omega, sy⟩ (s12.frn h ff) (s12.tgn h tt)) .refl
            · rw [List.map_append, k'.ke]; rfl
            · intro x mx
              rcases List.mem_append.mp mx with mx | mx
              · exact k'.dn x mx
              · simp at mx; subst mx; exact kk
            · exact List.nodup_append.mpr ⟨k'.nd, List.nodup_cons.mpr ⟨by simp, List.nodup_nil⟩, fun x mx y my => by simp at my; subst my; intro e; subst e; exact q.1 mx⟩
          · exact an2.elim
      · exact an2.elim
    · rename_i el
      obtain ⟨v0, evx, a, ea, ff, tt, us, h, k, z⟩ := so.sl.own i _ el m
      subst ea
      cases k
      refine seqS so an fun d S1 W1 H1 v s1 so1 k1 an1 => ⟨_, evx, seqS so1 an1 fun x S2 W2 H2 y s2 so2 k2 an2 => ?_⟩
      have s12 := s1.trans s2
      have h2 := s12.fm _ _ h tt ff
      split at an2
      · rename_i n l
        cases e : ints? l with
        | none => rw [e] at an2; exact an2.elim
        | some js =>
          rw [e] at an2
          simp only at an2
          have el2 := ints_eq e
          subst el2
          cases (show v = .bl true from k1)
          obtain ⟨b, vs, rfl, hb, _, _, kd⟩ := View.tup k2 so2.wo
          have kk := KeyAt.of kd
          refine ⟨W2, S2, (n, js), a, b, [], so2.wo, rfl, rfl, rfl, kk, .inr ⟨h2, rfl⟩, by simp, by simp; omega, fun sy => ?_⟩
          have sy : (a == sysModules) = false := by
            rcases sy with sy | sy
            · exact sy
            · rw [h2] at sy
              unfold NObj at sy
              exact nomatch sy
          refine an2 W2 _ σ (so2.put m el evx (d' := .dN [(n, js)]) ⟨_, upd_same, ⟨rfl, ?_, ?_⟩, by simp; omega, sy⟩ (s12.frn h ff) (s12.tgn h tt)) .refl
          · intro x mx
            simp at mx
            subst mx
            exact kk
          · exact List.nodup_cons.mpr ⟨by simp, List.nodup_nil⟩
      · exact an2.elim
    · exact an.elim
end
/-! ### {k: True} -/
section
variable {X : Cx} {A : Amb} {Ex : XK} {Γ : List Nat} {pos : Pos}
def tDispN (A : Amb) (trs : List (TE × TE)) : TE := fun σ H Q => ∀ p, H p = none → tPairs trs σ (upd H p (.dK [])) fun ps H2 => H2 p = some (.dK []) ∧ ∃ (W : Wd) (S : Sto) (k : Int × List Int) (b : Addr), ps = [(.ref b, .bl true)] ∧ Wok A W S H2 ∧ KeyAt W k b ∧ ((p == sysModules) = false → Q (.ref p) (upd H2 p (NObj p [(k, b)])))
theorem pe_dispN {keys : List (Option Expr)} {values : List Expr} {trs : List (TE × TE)} (hu : X.A.units + 64 < cLine) (h : PPs X pos keys values trs) (hall : keys.all (·.isSome) = true) (hl : keys.length = values.length) (h0 : keys ≠ [])
    (h15 : keys.length ≤ 15) : PE X (.Dict keys values pos) (tDispN A trs) := by
  refine ⟨fun pins s σ H Q I q => ?_⟩
  have hn := I.hok.fresh (Nat.le_refl s.heap.objs.size)
  have I1 := I.laid (a := s.heap.objs.size) (o := .dK []) (h' := s.heap.push { cls := .type "dict", data := .dict #[] }) (t' := s.toks) (fun _ _ q => Heap.get?_push_of_some _ q) (Nat.le_refl _) (dk_empty s.heap I.big)
  have hlen := pairTrees_length keys values X.env pos hall hl
  have hne : pairTrees keys values X.env pos ≠ [] := fun he => by
    rw [he] at hlen
    exact h0 (List.length_eq_zero_iff.mp hlen.symm)
  rw [arm_eval_Dict, zip_pairTrees keys values X.env pos hall hl, dictDisplay_pairs _ hne (by omega)]
  refine wpAny_bind (wpAny_standAt (wpAny_bind (wpAny_subDictH (knd := nestedKind X.prog X.w) (by show X.A.units + 8 < cLine; omega) (by omega) (thn (h.run pins _ σ _ _ I1 (q _ hn)) fun ws s2 ⟨ps, H2, I2, rel, e, W, S, k, b, ep, wo, kk, q2⟩ => ?_))))
  subst ep
  have ok := I2.hok _ _ e
  cases rel with
  | @cons p q' l1 l2 r t =>
    cases t
    obtain ⟨y1, y2⟩ := q'
    obtain ⟨r1, r2⟩ := r
    cases (show y1 = .ref b from r1)
    cases (show y2 = .bool true from r2)
    refine ⟨[(nkK k, b, .bool true)], ⟨rfl, rfl, nk_is I2 wo kk, True.intro⟩, dk_nest ok, fun h' tk dd' hs => wpAny_pure ?_⟩
    obtain ⟨o', es, ep, ho, hx, hdat, he, _, _⟩ := dd'
    have he2 : es.toList = ([(k, b)] : List ((Int × List Int) × Addr)).map nkE := by
      rw [he]
      exact congrArg (fun z => [z]) (nk_ent X.prog X.w (k, b))
    exact ⟨.ref s.heap.objs.size, _, d_write I2 (by rw [e]; exact True.intro) hs ⟨o', ho⟩ (nobj_new ho hx hdat he2), rfl, q2 ok.2.1⟩
def mkN1 (fk fv : Ev D) : Ev D := b2 fk fv fun x d S => match x, d with
  | .tup [.int n, .tup l], .bl true => (match ints? l with
    | some js => .ok (.dN [(n, js)]) S
    | none => .bad)
  | _, _ => .bad
theorem dn_dictN {k v : Expr} {fk fv : Ev D} (hu : X.A.units + 64 < cLine) (hk : DV X A Ex Γ k fk) (hv : DE X A Ex Γ v fv) : DN X A Ex Γ (.Dict [some k] [v] pos) (mkN1 fk fv) :=
  (pe_dispN (A := A) hu (pps_cons hk hv pps_nil) rfl rfl (fun z => nomatch z) (by show 1 ≤ 15; decide)).of fun σ H Q ⟨W, ρ, S, wo, sl, an⟩ => by
    intro p n
    have bl := big_line
    have wo' := wo.lay (o := .dK []) n
    have st := Step.lay (o := .dK []) wo n
    refine seqR0 st wo' (sl.step st) an fun dk S1 W1 H1 vk s1 wo1 k1 sl1 an1 => seqR0 (st.trans s1) wo1 sl1 an1 fun dv S2 W2 H2 vv s2 wo2 k2 sl2 an2 => ?_
    have s02 := (st.trans s1).trans s2
    have h2 : H2 p = some (.dK []) := (s1.trans s2).fm p _ upd_same (wo.tgNone n) (wo.frNone n)
    simp only at an2
    split at an2
    · rename_i i l
      cases e : ints? l with
      | none => rw [e] at an2; exact an2.elim
      | some js =>
        rw [e] at an2
        have el := ints_eq e
        subst el
        obtain ⟨b, vs, rfl, hb, _, _, kd⟩ := View.tup (View.step k1 s2) wo2
        have kk := KeyAt.of kd
        cases (show vv = .bl true from k2)
        have f2 : W2.Fr p = none := (s1.trans s2).frn (a := p) upd_same (wo.frNone n)
        have t2 : W2.tg p = none := (s1.trans s2).tgn (a := p) upd_same (wo.tgNone n)
        refine ⟨h2, W2, S2, (i, js), b, rfl, wo2, kk, fun sy => ?_⟩
        exact an2 W2 _ _ (s02.put (nw_of n)) (wo2.put f2 t2 h2) ⟨p, rfl, nw_of n, f2, t2, _, upd_same, ⟨rfl, fun x mx => by simp at mx; subst mx; exact kk, List.nodup_cons.mpr ⟨by simp, List.nodup_nil⟩⟩, by simp; omega, sy⟩
    · exact an2.elim
end
end Hr

set_option maxHeartbeats 4000000
namespace Law
open PySem PySem.Spec PyProof.Rows L2 Hr
open Hr.D
abbrev N_is_whole : List Str := ["thing", "low", "high"]
theorem sc_is_whole : FnScope N_is_whole ["thing", "low", "high"] (defScope s_is_whole) := ⟨rfl, rfl, rfl, by decide +kernel, rfl, by decide +kernel, by decide +kernel⟩
abbrev N_are_numbers : List Str := ["thing", "bounds", "one", "low", "high"]
theorem sc_are_numbers : FnScope N_are_numbers ["thing", "bounds"] (defScope s_are_numbers) := ⟨rfl, rfl, rfl, by decide +kernel, rfl, by decide +kernel, by decide +kernel⟩
abbrev N_is_wall : List Str := ["thing"]
theorem sc_is_wall : FnScope N_is_wall ["thing"] (defScope s_is_wall) := ⟨rfl, rfl, rfl, by decide +kernel, rfl, by decide +kernel, by decide +kernel⟩
abbrev N_is_room : List Str := ["thing", "wall"]
theorem sc_is_room : FnScope N_is_room ["thing"] (defScope s_is_room) := ⟨rfl, rfl, rfl, by decide +kernel, rfl, by decide +kernel, by decide +kernel⟩
abbrev N_are_doors : List Str := ["thing", "many", "door"]
theorem sc_are_doors : FnScope N_are_doors ["thing", "many"] (defScope s_are_doors) := ⟨rfl, rfl, rfl, by decide +kernel, rfl, by decide +kernel, by decide +kernel⟩
abbrev N_is_house : List Str := ["thing", "room"]
theorem sc_is_house : FnScope N_is_house ["thing"] (defScope s_is_house) := ⟨rfl, rfl, rfl, by decide +kernel, rfl, by decide +kernel, by decide +kernel⟩
abbrev N_is_picture : List Str := ["thing"]
theorem sc_is_picture : FnScope N_is_picture ["thing"] (defScope s_is_picture) := ⟨rfl, rfl, rfl, by decide +kernel, rfl, by decide +kernel, by decide +kernel⟩
abbrev N_look_house : List Str := ["house"]
theorem sc_look_house : FnScope N_look_house ["house"] (defScope s_look_house) := ⟨rfl, rfl, rfl, by decide +kernel, rfl, by decide +kernel, by decide +kernel⟩
abbrev N_look_picture : List Str := ["picture"]
theorem sc_look_picture : FnScope N_look_picture ["picture"] (defScope s_look_picture) := ⟨rfl, rfl, rfl, by decide +kernel, rfl, by decide +kernel, by decide +kernel⟩
abbrev N_look_room : List Str := ["house", "room"]
theorem sc_look_room : FnScope N_look_room ["house", "room"] (defScope s_look_room) := ⟨rfl, rfl, rfl, by decide +kernel, rfl, by decide +kernel, by decide +kernel⟩
abbrev N_look_wall : List Str := ["house", "room", "wall"]
theorem sc_look_wall : FnScope N_look_wall ["house", "room", "wall"] (defScope s_look_wall) := ⟨rfl, rfl, rfl, by decide +kernel, rfl, by decide +kernel, by decide +kernel⟩
abbrev N_walls_in : List Str := ["house", "made", "room", "walls", "wall"]
theorem sc_walls_in : FnScope N_walls_in ["house"] (defScope s_walls_in) := ⟨rfl, rfl, rfl, by decide +kernel, rfl, by decide +kernel, by decide +kernel⟩
abbrev N_doors_by : List Str := ["house", "side", "door"]
theorem sc_doors_by : FnScope N_doors_by ["house", "side"] (defScope s_doors_by) := ⟨rfl, rfl, rfl, by decide +kernel, rfl, by decide +kernel, by decide +kernel⟩
abbrev N_side_of : List Str := ["picture"]
theorem sc_side_of : FnScope N_side_of ["picture"] (defScope s_side_of) := ⟨rfl, rfl, rfl, by decide +kernel, rfl, by decide +kernel, by decide +kernel⟩
abbrev N_nexts : List Str := ["doors", "room", "one", "other", "high"]
theorem sc_nexts : FnScope N_nexts ["doors", "room"] (defScope s_nexts) := ⟨rfl, rfl, rfl, by decide +kernel, rfl, by decide +kernel, by decide +kernel⟩
abbrev N_steps_from : List Str := ["doors", "room", "made", "waiting", "here", "other"]
theorem sc_steps_from : FnScope N_steps_from ["doors", "room"] (defScope s_steps_from) := ⟨rfl, rfl, rfl, by decide +kernel, rfl, by decide +kernel, by decide +kernel⟩
abbrev N_shortest : List Str := ["doors", "one", "other", "steps", "made", "room"]
theorem sc_shortest : FnScope N_shortest ["doors", "one", "other"] (defScope s_shortest) := ⟨rfl, rfl, rfl, by decide +kernel, rfl, by decide +kernel, by decide +kernel⟩
abbrev N_way : List Str := ["house", "picture", "one", "other"]
theorem sc_way : FnScope N_way ["house", "picture", "one", "other"] (defScope s_way) := ⟨rfl, rfl, rfl, by decide +kernel, rfl, by decide +kernel, by decide +kernel⟩
abbrev N_rooms_for : List Str := ["house", "picture"]
theorem sc_rooms_for : FnScope N_rooms_for ["house", "picture"] (defScope s_rooms_for) := ⟨rfl, rfl, rfl, by decide +kernel, rfl, by decide +kernel, by decide +kernel⟩
abbrev N_highest : List Str := ["house", "one", "other", "some", "high"]
theorem sc_highest : FnScope N_highest ["house", "one", "other"] (defScope s_highest) := ⟨rfl, rfl, rfl, by decide +kernel, rfl, by decide +kernel, by decide +kernel⟩
abbrev N_is_name : List Str := ["thing", "sign"]
theorem sc_is_name : FnScope N_is_name ["thing"] (defScope s_is_name) := ⟨rfl, rfl, rfl, by decide +kernel, rfl, by decide +kernel, by decide +kernel⟩
abbrev N_is_day : List Str := ["thing"]
theorem sc_is_day : FnScope N_is_day ["thing"] (defScope s_is_day) := ⟨rfl, rfl, rfl, by decide +kernel, rfl, by decide +kernel, by decide +kernel⟩
abbrev N_look_day : List Str := ["day"]
theorem sc_look_day : FnScope N_look_day ["day"] (defScope s_look_day) := ⟨rfl, rfl, rfl, by decide +kernel, rfl, by decide +kernel, by decide +kernel⟩
abbrev N_look_days : List Str := ["first", "last"]
theorem sc_look_days : FnScope N_look_days ["first", "last"] (defScope s_look_days) := ⟨rfl, rfl, rfl, by decide +kernel, rfl, by decide +kernel, by decide +kernel⟩
abbrev N_do_meet : List Str := ["one", "other"]
theorem sc_do_meet : FnScope N_do_meet ["one", "other"] (defScope s_do_meet) := ⟨rfl, rfl, rfl, by decide +kernel, rfl, by decide +kernel, by decide +kernel⟩
abbrev N_Show___init__ : List Str := ["self", "house"]
theorem sc_Show___init__ : FnScope N_Show___init__ ["self", "house"] (defScope s_Show___init__) := ⟨rfl, rfl, rfl, by decide +kernel, rfl, by decide +kernel, by decide +kernel⟩
abbrev N_Show_house : List Str := ["self"]
theorem sc_Show_house : FnScope N_Show_house ["self"] (defScope s_Show_house) := ⟨rfl, rfl, rfl, by decide +kernel, rfl, by decide +kernel, by decide +kernel⟩
abbrev N_Show_step : List Str := ["self", "word", "loans", "hung"]
theorem sc_Show_step : FnScope N_Show_step ["self", "word", "loans", "hung"] (defScope s_Show_step) := ⟨rfl, rfl, rfl, by decide +kernel, rfl, by decide +kernel, by decide +kernel⟩
abbrev N_Show_look : List Str := ["self", "name"]
theorem sc_Show_look : FnScope N_Show_look ["self", "name"] (defScope s_Show_look) := ⟨rfl, rfl, rfl, by decide +kernel, rfl, by decide +kernel, by decide +kernel⟩
abbrev N_Show_with_hung : List Str := ["self", "name", "rows", "made"]
theorem sc_Show_with_hung : FnScope N_Show_with_hung ["self", "name", "rows"] (defScope s_Show_with_hung) := ⟨rfl, rfl, rfl, by decide +kernel, rfl, by decide +kernel, by decide +kernel⟩
abbrev N_Show_lend : List Str := ["self", "name", "picture", "first", "last", "loans"]
theorem sc_Show_lend : FnScope N_Show_lend ["self", "name", "picture", "first", "last"] (defScope s_Show_lend) := ⟨rfl, rfl, rfl, by decide +kernel, rfl, by decide +kernel, by decide +kernel⟩
abbrev N_Show_loan : List Str := ["self", "name"]
theorem sc_Show_loan : FnScope N_Show_loan ["self", "name"] (defScope s_Show_loan) := ⟨rfl, rfl, rfl, by decide +kernel, rfl, by decide +kernel, by decide +kernel⟩
abbrev N_Show_names : List Str := ["self"]
theorem sc_Show_names : FnScope N_Show_names ["self"] (defScope s_Show_names) := ⟨rfl, rfl, rfl, by decide +kernel, rfl, by decide +kernel, by decide +kernel⟩
abbrev N_Show_look_loan : List Str := ["self", "name", "first", "last", "picture", "begin", "end"]
theorem sc_Show_look_loan : FnScope N_Show_look_loan ["self", "name", "first", "last"] (defScope s_Show_look_loan) := ⟨rfl, rfl, rfl, by decide +kernel, rfl, by decide +kernel, by decide +kernel⟩
abbrev N_Show_look_place : List Str := ["self", "name", "room", "wall", "picture"]
theorem sc_Show_look_place : FnScope N_Show_look_place ["self", "name", "room", "wall"] (defScope s_Show_look_place) := ⟨rfl, rfl, rfl, by decide +kernel, rfl, by decide +kernel, by decide +kernel⟩
abbrev N_Show_look_hanging : List Str := ["self", "name", "row", "rows", "first", "last", "room", "wall", "at", "wide", "high", "heavy", "bear", "long", "bears", "light", "one", "near", "other", "there", "day"]
theorem sc_Show_look_hanging : FnScope N_Show_look_hanging ["self", "name", "row", "rows"] (defScope s_Show_look_hanging) := ⟨rfl, rfl, rfl, by decide +kernel, rfl, by decide +kernel, by decide +kernel⟩
abbrev N_Show_hang : List Str := ["self", "name", "room", "wall", "at", "first", "last", "row", "rows"]
theorem sc_Show_hang : FnScope N_Show_hang ["self", "name", "room", "wall", "at", "first", "last"] (defScope s_Show_hang) := ⟨rfl, rfl, rfl, by decide +kernel, rfl, by decide +kernel, by decide +kernel⟩
abbrev N_Show_hangings : List Str := ["self", "name"]
theorem sc_Show_hangings : FnScope N_Show_hangings ["self", "name"] (defScope s_Show_hangings) := ⟨rfl, rfl, rfl, by decide +kernel, rfl, by decide +kernel, by decide +kernel⟩
abbrev N_Show_hanging_on : List Str := ["self", "name", "day", "row"]
theorem sc_Show_hanging_on : FnScope N_Show_hanging_on ["self", "name", "day"] (defScope s_Show_hanging_on) := ⟨rfl, rfl, rfl, by decide +kernel, rfl, by decide +kernel, by decide +kernel⟩
abbrev N_Show_where : List Str := ["self", "name", "day", "row"]
theorem sc_Show_where : FnScope N_Show_where ["self", "name", "day"] (defScope s_Show_where) := ⟨rfl, rfl, rfl, by decide +kernel, rfl, by decide +kernel, by decide +kernel⟩
abbrev N_Show_twin : List Str := ["self", "made"]
theorem sc_Show_twin : FnScope N_Show_twin ["self"] (defScope s_Show_twin) := ⟨rfl, rfl, rfl, by decide +kernel, rfl, by decide +kernel, by decide +kernel⟩
abbrev N_hung_on : List Str := ["show", "day", "made", "name", "there"]
theorem sc_hung_on : FnScope N_hung_on ["show", "day"] (defScope s_hung_on) := ⟨rfl, rfl, rfl, by decide +kernel, rfl, by decide +kernel, by decide +kernel⟩
abbrev N_rows_on : List Str := ["show", "room", "wall", "made", "name", "wide", "row"]
theorem sc_rows_on : FnScope N_rows_on ["show", "room", "wall"] (defScope s_rows_on) := ⟨rfl, rfl, rfl, by decide +kernel, rfl, by decide +kernel, by decide +kernel⟩
abbrev N_stretches : List Str := ["marks", "made", "begun", "number", "is_so"]
theorem sc_stretches : FnScope N_stretches ["marks"] (defScope s_stretches) := ⟨rfl, rfl, rfl, by decide +kernel, rfl, by decide +kernel, by decide +kernel⟩
abbrev N_free : List Str := ["show", "room", "wall", "first", "last", "marks", "begin", "end", "at", "wide", "hand", "is_so"]
theorem sc_free : FnScope N_free ["show", "room", "wall", "first", "last"] (defScope s_free) := ⟨rfl, rfl, rfl, by decide +kernel, rfl, by decide +kernel, by decide +kernel⟩
abbrev N_bare : List Str := ["show", "room", "wall", "marks", "begin", "end", "at", "wide", "day", "is_so", "many"]
theorem sc_bare : FnScope N_bare ["show", "room", "wall"] (defScope s_bare) := ⟨rfl, rfl, rfl, by decide +kernel, rfl, by decide +kernel, by decide +kernel⟩
abbrev N_days_hung : List Str := ["show", "name", "row"]
theorem sc_days_hung : FnScope N_days_hung ["show", "name"] (defScope s_days_hung) := ⟨rfl, rfl, rfl, by decide +kernel, rfl, by decide +kernel, by decide +kernel⟩
abbrev N_idle_days : List Str := ["show", "name", "picture", "first", "last"]
theorem sc_idle_days : FnScope N_idle_days ["show", "name"] (defScope s_idle_days) := ⟨rfl, rfl, rfl, by decide +kernel, rfl, by decide +kernel, by decide +kernel⟩
abbrev N_dues : List Str := ["show", "rate", "name"]
theorem sc_dues : FnScope N_dues ["show", "rate"] (defScope s_dues) := ⟨rfl, rfl, rfl, by decide +kernel, rfl, by decide +kernel, by decide +kernel⟩
abbrev N_covered_on : List Str := ["show", "day", "row"]
theorem sc_covered_on : FnScope N_covered_on ["show", "day"] (defScope s_covered_on) := ⟨rfl, rfl, rfl, by decide +kernel, rfl, by decide +kernel, by decide +kernel⟩
abbrev N_covered : List Str := ["show", "day"]
theorem sc_covered : FnScope N_covered ["show", "day"] (defScope s_covered) := ⟨rfl, rfl, rfl, by decide +kernel, rfl, by decide +kernel, by decide +kernel⟩
abbrev N_fullest : List Str := ["show", "counts", "day"]
theorem sc_fullest : FnScope N_fullest ["show"] (defScope s_fullest) := ⟨rfl, rfl, rfl, by decide +kernel, rfl, by decide +kernel, by decide +kernel⟩
abbrev N_place_ahead : List Str := ["show", "name", "day"]
theorem sc_place_ahead : FnScope N_place_ahead ["show", "name", "day"] (defScope s_place_ahead) := ⟨rfl, rfl, rfl, by decide +kernel, rfl, by decide +kernel, by decide +kernel⟩
abbrev N_carried : List Str := ["show", "day", "made", "name", "old", "new"]
theorem sc_carried : FnScope N_carried ["show", "day"] (defScope s_carried) := ⟨rfl, rfl, rfl, by decide +kernel, rfl, by decide +kernel, by decide +kernel⟩
abbrev N_room_of : List Str := ["place"]
theorem sc_room_of : FnScope N_room_of ["place"] (defScope s_room_of) := ⟨rfl, rfl, rfl, by decide +kernel, rfl, by decide +kernel, by decide +kernel⟩
abbrev N_doors_passed : List Str := ["show", "day", "made", "name", "old", "new", "doors"]
theorem sc_doors_passed : FnScope N_doors_passed ["show", "day"] (defScope s_doors_passed) := ⟨rfl, rfl, rfl, by decide +kernel, rfl, by decide +kernel, by decide +kernel⟩
abbrev N_days_of : List Str := ["show", "name", "day"]
theorem sc_days_of : FnScope N_days_of ["show", "name"] (defScope s_days_of) := ⟨rfl, rfl, rfl, by decide +kernel, rfl, by decide +kernel, by decide +kernel⟩
abbrev N_can_hang : List Str := ["show", "name", "room", "wall", "at", "first", "last"]
theorem sc_can_hang : FnScope N_can_hang ["show", "name", "room", "wall", "at", "first", "last"] (defScope s_can_hang) := ⟨rfl, rfl, rfl, by decide +kernel, rfl, by decide +kernel, by decide +kernel⟩
abbrev N_places_for : List Str := ["show", "name", "first", "last", "made", "room", "wall", "long", "some", "at"]
theorem sc_places_for : FnScope N_places_for ["show", "name", "first", "last"] (defScope s_places_for) := ⟨rfl, rfl, rfl, by decide +kernel, rfl, by decide +kernel, by decide +kernel⟩
abbrev N_longest_stay : List Str := ["show", "name", "room", "wall", "at", "first", "last", "day"]
theorem sc_longest_stay : FnScope N_longest_stay ["show", "name", "room", "wall", "at", "first"] (defScope s_longest_stay) := ⟨rfl, rfl, rfl, by decide +kernel, rfl, by decide +kernel, by decide +kernel⟩
abbrev N_seen : List Str := ["show", "rooms", "day", "house", "room", "one", "other", "made", "met", "row"]
theorem sc_seen : FnScope N_seen ["show", "rooms", "day"] (defScope s_seen) := ⟨rfl, rfl, rfl, by decide +kernel, rfl, by decide +kernel, by decide +kernel⟩
abbrev N_tour : List Str := ["show", "day", "doors", "rooms", "row", "begun", "room", "level", "met", "later", "here", "rest", "made", "other", "state"]
theorem sc_tour : FnScope N_tour ["show", "day"] (defScope s_tour) := ⟨rfl, rfl, rfl, by decide +kernel, rfl, by decide +kernel, by decide +kernel⟩
abbrev N__law_cell : List Str := ["script", "k"]
theorem sc__law_cell : FnScope N__law_cell ["script", "k"] (defScope s__law_cell) := ⟨rfl, rfl, rfl, by decide +kernel, rfl, by decide +kernel, by decide +kernel⟩
abbrev N__law_pick : List Str := ["script", "k", "many", "drawn"]
theorem sc__law_pick : FnScope N__law_pick ["script", "k", "many"] (defScope s__law_pick) := ⟨rfl, rfl, rfl, by decide +kernel, rfl, by decide +kernel, by decide +kernel⟩
abbrev N__law_class : List Str := ["kept", "kinds", "some"]
theorem sc__law_class : FnScope N__law_class ["kept"] (defScope s__law_class) := ⟨rfl, rfl, rfl, by decide +kernel, rfl, by decide +kernel, by decide +kernel⟩
abbrev N__law_told : List Str := ["deed", "e"]
theorem sc__law_told : FnScope N__law_told ["deed"] (defScope s__law_told) := ⟨rfl, rfl, rfl, by decide +kernel, rfl, by decide +kernel, by decide +kernel⟩
abbrev N_law : List Str := ["script", "day", "house", "show", "big"]
theorem sc_law : FnScope N_law ["script"] (defScope s_law) := ⟨rfl, rfl, rfl, by decide +kernel, rfl, by decide +kernel, by decide +kernel⟩
def b_is_whole : Sv :=
  (sRet (vAnd (b1 (var 0) (dIsi .int)) (vAnd (vNot (b1 (var 0) (dIsi .bool))) (chI (fun i j => decide (i ≤ j)) (fun i j => decide (i ≤ j)) (var 1) (var 0) (var 2)))))
def m_is_whole : List Hr.D → Sto → Out Hr.D := runB 3 b_is_whole
def b_are_numbers : Sv :=
  (sSeq (sIf (fOr (fNot (tst (b1 (var 0) (dIsi .tup)))) (tst (b2 (b1 (var 0) dLen) (b1 (var 1) dLen) dNe))) (sRet (cst (.bl false))) sNil) (sRet (b1 (lcF (zipF (aCons (var 0) (aCons (var 1) aNil))) (.tp [(.nm 2), (.tp [(.nm 3), (.nm 4)])]) yes (b1 (aCons (var 2) (aCons (var 3) (aCons (var 4) aNil))) m_is_whole) [2, 3, 4]) dAll)))
def m_are_numbers : List Hr.D → Sto → Out Hr.D := runB 5 b_are_numbers
def b_is_wall : Sv :=
  (sRet (b1 (aCons (var 0) (aCons (mkT (aCons (mkT (aCons (cst (.int 1)) (aCons (cst (.int 20)) aNil))) (aCons (mkT (aCons (cst (.int 1)) (aCons (cst (.int 40)) aNil))) (aCons (mkT (aCons (cst (.int 0)) (aCons (cst (.int 9)) aNil))) aNil)))) aNil)) m_are_numbers))
def m_is_wall : List Hr.D → Sto → Out Hr.D := runB 1 b_is_wall
def b_is_room : Sv :=
  (sRet (vAnd (b1 (var 0) (dIsi .tup)) (vAnd (b2 (b1 (var 0) dLen) (cst (.int 3)) dLe) (b1 (lcF (asSeq (var 0)) (.nm 1) yes (b1 (aCons (var 1) aNil) m_is_wall) [1]) dAll))))
def m_is_room : List Hr.D → Sto → Out Hr.D := runB 2 b_is_room
def b_are_doors : Sv :=
  (sSeq (sIf (fOr (fNot (tst (b1 (var 0) (dIsi .tup)))) (tst (b2 (b1 (var 0) dLen) (cst (.int 8)) dGt))) (sRet (cst (.bl false))) sNil) (sSeq (sIf (fNot (tst (b1 (lcF (asSeq (var 0)) (.nm 2) yes (b1 (aCons (var 2) (aCons (mkT (aCons (mkT (aCons (cst (.int 0)) (aCons (b2 (var 1) (cst (.int 1)) dSub) aNil))) (aCons (mkT (aCons (cst (.int 0)) (aCons (b2 (var 1) (cst (.int 1)) dSub) aNil))) (aCons (mkT (aCons (cst (.int 1)) (aCons (cst (.int 9)) aNil))) aNil)))) aNil)) m_are_numbers) [2]) dAll))) (sRet (cst (.bl false))) sNil) (sRet (vAnd (b1 (lcF (asSeq (var 0)) (.nm 2) yes (b2 (b2 (var 2) (cst (.int 0)) dSub1) (b2 (var 2) (cst (.int 1)) dSub1) dLt) [2]) dAll) (b2 (b1 (var 0) dList) (b1 (var 0) dSS) dEq)))))
def m_are_doors : List Hr.D → Sto → Out Hr.D := runB 3 b_are_doors
def b_is_house : Sv :=
  (sSeq (sIf (fOr (fNot (tst (b1 (var 0) (dIsi .tup)))) (fOr (tst (b2 (b1 (var 0) dLen) (cst (.int 2)) dNe)) (fNot (tst (b1 (b2 (var 0) (cst (.int 0)) dSub1) (dIsi .tup)))))) (sRet (cst (.bl false))) sNil) (sSeq (sIf (fOr (fNot (tst (chI (fun i j => decide (i ≤ j)) (fun i j => decide (i ≤ j)) (cst (.int 1)) (b1 (b2 (var 0) (cst (.int 0)) dSub1) dLen) (cst (.int 5))))) (fNot (tst (b1 (lcF (asSeq (b2 (var 0) (cst (.int 0)) dSub1)) (.nm 1) yes (b1 (aCons (var 1) aNil) m_is_room) [1]) dAll)))) (sRet (cst (.bl false))) sNil) (sRet (b1 (aCons (b2 (var 0) (cst (.int 1)) dSub1) (aCons (b1 (b2 (var 0) (cst (.int 0)) dSub1) dLen) aNil)) m_are_doors))))
def m_is_house : List Hr.D → Sto → Out Hr.D := runB 2 b_is_house
def b_is_picture : Sv :=
  (sRet (b1 (aCons (var 0) (aCons (mkT (aCons (mkT (aCons (cst (.int 1)) (aCons (cst (.int 9)) aNil))) (aCons (mkT (aCons (cst (.int 1)) (aCons (cst (.int 9)) aNil))) (aCons (mkT (aCons (cst (.int 1)) (aCons (cst (.int 20)) aNil))) (aCons (mkT (aCons (cst (.int 0)) (aCons (cst (.int 9)) aNil))) aNil))))) aNil)) m_are_numbers))
def m_is_picture : List Hr.D → Sto → Out Hr.D := runB 1 b_is_picture
def b_look_house : Sv :=
  (sIf (fNot (tst (b1 (aCons (var 0) aNil) m_is_house))) (sRaise 0) sNil)
def m_look_house : List Hr.D → Sto → Out Hr.D := runB 1 b_look_house
def b_look_picture : Sv :=
  (sIf (fNot (tst (b1 (aCons (var 0) aNil) m_is_picture))) (sRaise 1) sNil)
def m_look_picture : List Hr.D → Sto → Out Hr.D := runB 1 b_look_picture
def b_look_room : Sv :=
  (sIf (fNot (tst (b1 (aCons (var 1) (aCons (cst (.int 0)) (aCons (b2 (b1 (b2 (var 0) (cst (.int 0)) dSub1) dLen) (cst (.int 1)) dSub) aNil))) m_is_whole))) (sRaise 2) sNil)
def m_look_room : List Hr.D → Sto → Out Hr.D := runB 2 b_look_room
def b_look_wall : Sv :=
  (sSeq (sExp (b1 (aCons (var 0) (aCons (var 1) aNil)) m_look_room)) (sIf (fNot (tst (b1 (aCons (var 2) (aCons (cst (.int 0)) (aCons (b2 (b1 (b2 (b2 (var 0) (cst (.int 0)) dSub1) (var 1) dSub1) dLen) (cst (.int 1)) dSub) aNil))) m_is_whole))) (sRaise 3) sNil))
def m_look_wall : List Hr.D → Sto → Out Hr.D := runB 3 b_look_wall
abbrev l1_walls_in : Sv :=
  (sExt 1 (lcF (rng1 (aCons (b1 (var 3) dLen) aNil)) (.nm 4) yes (mkT (aCons (var 2) (aCons (var 4) aNil))) [4]))
def b_walls_in : Sv :=
  (sSeq (sSet 1 (mkL aNil)) (sSeq (sFor (enumF (aCons (b2 (var 0) (cst (.int 0)) dSub1) aNil)) (.tp [(.nm 2), (.nm 3)]) l1_walls_in) (sRet (var 1))))
def m_walls_in : List Hr.D → Sto → Out Hr.D := runB 5 b_walls_in
def b_doors_by : Sv :=
  (sRet (lcF (asSeq (b2 (var 0) (cst (.int 1)) dSub1)) (.nm 2) (tst (b2 (b2 (var 2) (cst (.int 2)) dSub1) (var 1) dGe)) (var 2) [2]))
def m_doors_by : List Hr.D → Sto → Out Hr.D := runB 3 b_doors_by
def b_side_of : Sv :=
  (sRet (b1 (pr (b2 (var 0) (cst (.int 0)) dSub1) (b2 (var 0) (cst (.int 1)) dSub1)) dMin2))
def m_side_of : List Hr.D → Sto → Out Hr.D := runB 1 b_side_of
def b_nexts : Sv :=
  (sRet (b1 (lcF (asSeq (var 0)) (.tp [(.nm 2), (.nm 3), (.nm 4)]) (tst (b2 (var 1) (mkT (aCons (var 2) (aCons (var 3) aNil))) dIn)) (b2 (b2 (var 2) (var 3) dAdd) (var 1) dSub) [2, 3, 4]) dSS))
def m_nexts : List Hr.D → Sto → Out Hr.D := runB 5 b_nexts
abbrev l1_steps_from : Sv :=
  (sIf (tst (b2 (var 5) (var 2) dNotIn)) (sSeq (sPut 2 (var 5) (b2 (b2 (var 2) (var 4) dSub1) (cst (.int 1)) dAdd)) (sApp 3 (var 5))) sNil)
abbrev l2_steps_from : Sv :=
  (sSeq (sPop 4 3 (cst (.int 0))) (sFor (asSeq (b1 (aCons (var 0) (aCons (var 4) aNil)) m_nexts)) (.nm 5) l1_steps_from))
def b_steps_from : Sv :=
  (sSeq (sSet 2 (mkK1 (var 1) (cst (.int 0)))) (sSeq (sSet 3 (mkL (aCons (var 1) aNil))) (sSeq (whileGo (tst (b2 (var 3) (mkL aNil) dNe)) l2_steps_from 1000) (sRet (var 2)))))
def m_steps_from : List Hr.D → Sto → Out Hr.D := runB 6 b_steps_from
abbrev l1_shortest : Sv :=
  (sApp 4 (b2 (lcF (asSeq (b1 (aCons (var 0) (aCons (b2 (var 4) (b1 (cst (.int 1)) dNeg) dSub1) aNil)) m_nexts)) (.nm 5) (tst (b2 (b2 (var 3) (var 5) dSub1) (b2 (b2 (var 3) (b2 (var 4) (b1 (cst (.int 1)) dNeg) dSub1) dSub1) (cst (.int 1)) dSub) dEq)) (var 5) [5]) (cst (.int 0)) dSub1))
def b_shortest : Sv :=
  (sSeq (sSet 3 (b1 (aCons (var 0) (aCons (var 2) aNil)) m_steps_from)) (sSeq (sIf (tst (b2 (var 1) (var 3) dNotIn)) (sRet (cst .non)) sNil) (sSeq (sSet 4 (mkL (aCons (var 1) aNil))) (sSeq (whileGo (tst (b2 (b2 (var 4) (b1 (cst (.int 1)) dNeg) dSub1) (var 2) dNe)) l1_shortest 1000) (sRet (var 4))))))
def m_shortest : List Hr.D → Sto → Out Hr.D := runB 6 b_shortest
def b_way : Sv :=
  (sSeq (sExp (b1 (aCons (var 0) aNil) m_look_house)) (sSeq (sExp (b1 (aCons (var 1) aNil) m_look_picture)) (sSeq (sExp (b1 (aCons (var 0) (aCons (var 2) aNil)) m_look_room)) (sSeq (sExp (b1 (aCons (var 0) (aCons (var 3) aNil)) m_look_room)) (sRet (b1 (aCons (b1 (aCons (var 0) (aCons (b1 (aCons (var 1) aNil) m_side_of) aNil)) m_doors_by) (aCons (var 2) (aCons (var 3) aNil))) m_shortest))))))
def m_way : List Hr.D → Sto → Out Hr.D := runB 4 b_way
def b_rooms_for : Sv :=
  (sRet (b1 (b1 (aCons (b1 (aCons (var 0) (aCons (b1 (aCons (var 1) aNil) m_side_of) aNil)) m_doors_by) (aCons (cst (.int 0)) aNil)) m_steps_from) dSortC))
def m_rooms_for : List Hr.D → Sto → Out Hr.D := runB 2 b_rooms_for
def b_highest : Sv :=
  (sSeq (sExp (b1 (aCons (var 0) aNil) m_look_house)) (sSeq (sExp (b1 (aCons (var 0) (aCons (var 1) aNil)) m_look_room)) (sSeq (sExp (b1 (aCons (var 0) (aCons (var 2) aNil)) m_look_room)) (sSeq (sSet 3 (lcF (rng2 (aCons (cst (.int 1)) (aCons (b2 (cst (.int 9)) (cst (.int 1)) dAdd) aNil))) (.nm 4) (tst (b2 (var 2) (b1 (aCons (b1 (aCons (var 0) (aCons (var 4) aNil)) m_doors_by) (aCons (var 1) aNil)) m_steps_from) dIn)) (var 4) [4])) (sRet (b1 (b2 (mkL (aCons (cst (.int 0)) aNil)) (var 3) dAdd) dMax1))))))
def m_highest : List Hr.D → Sto → Out Hr.D := runB 5 b_highest
def b_is_name : Sv :=
  (sRet (vAnd (b1 (var 0) (dIsi .str)) (vAnd (chI (fun i j => decide (i ≤ j)) (fun i j => decide (i ≤ j)) (cst (.int 1)) (b1 (var 0) dLen) (cst (.int 4))) (b1 (lcF (asSigns (var 0)) (.nm 1) yes (b2 (var 1) (cst (.str "abcdefghijklmnopqrstuvwxyz")) dInS) [1]) dAll))))
def m_is_name : List Hr.D → Sto → Out Hr.D := runB 2 b_is_name
def b_is_day : Sv :=
  (sRet (b1 (aCons (var 0) (aCons (cst (.int 0)) (aCons (cst (.int 99)) aNil))) m_is_whole))
def m_is_day : List Hr.D → Sto → Out Hr.D := runB 1 b_is_day
def b_look_day : Sv :=
  (sIf (fNot (tst (b1 (aCons (var 0) aNil) m_is_day))) (sRaise 5) sNil)
def m_look_day : List Hr.D → Sto → Out Hr.D := runB 1 b_look_day
def b_look_days : Sv :=
  (sIf (fOr (fNot (tst (b1 (aCons (var 0) aNil) m_is_day))) (fOr (fNot (tst (b1 (aCons (var 1) aNil) m_is_day))) (tst (b2 (var 1) (var 0) dLt)))) (sRaise 5) sNil)
def m_look_days : List Hr.D → Sto → Out Hr.D := runB 2 b_look_days
def b_do_meet : Sv :=
  (sRet (vAnd (b2 (b2 (var 0) (cst (.int 0)) dSub1) (b2 (var 1) (cst (.int 1)) dSub1) dLe) (b2 (b2 (var 1) (cst (.int 0)) dSub1) (b2 (var 0) (cst (.int 1)) dSub1) dLe)))
def m_do_meet : List Hr.D → Sto → Out Hr.D := runB 2 b_do_meet
def b_Show___init__ : Sv :=
  (sSeq (sExp (b1 (aCons (var 1) aNil) m_look_house)) (sSeq (sFldD true (var 0) (var 1)) (sSeq (sFldD false (var 0) (mkT (aCons mkK0 (aCons mkK0 aNil)))) (sSeq (sFldL true (var 0) (mkL aNil)) (sFldL false (var 0) (mkL aNil))))))
def m_Show___init__ : List Hr.D → Sto → Out Hr.D := runB 2 b_Show___init__
def b_Show_house : Sv :=
  (sRet (fldD true (var 0)))
def m_Show_house : List Hr.D → Sto → Out Hr.D := runB 1 b_Show_house
def b_Show_step : Sv :=
  (sSeq (sExp (fPush true 0 1)) (sSeq (sFldL false (var 0) (mkL aNil)) (sFldD false (var 0) (mkT (aCons (var 2) (aCons (var 3) aNil))))))
def m_Show_step : List Hr.D → Sto → Out Hr.D := runB 4 b_Show_step
def b_Show_look : Sv :=
  (sIf (fOr (fNot (tst (b1 (aCons (var 1) aNil) m_is_name))) (tst (b2 (var 1) (b2 (fldD false (var 0)) (cst (.int 0)) dSub1) dNotIn))) (sRaise 4) sNil)
def m_Show_look : List Hr.D → Sto → Out Hr.D := runB 2 b_Show_look
def b_Show_with_hung : Sv :=
  (sSeq (sSet 3 (b1 (b2 (fldD false (var 0)) (cst (.int 1)) dSub1) dDict)) (sSeq (sPut 3 (var 1) (b1 (b1 (var 2) dSortC) dTuple)) (sRet (var 3))))
def m_Show_with_hung : List Hr.D → Sto → Out Hr.D := runB 4 b_Show_with_hung
def b_Show_lend : Sv :=
  (sSeq (sIf (fNot (tst (b1 (aCons (var 1) aNil) m_is_name))) (sRaise 4) sNil) (sSeq (sExp (b1 (aCons (var 2) aNil) m_look_picture)) (sSeq (sExp (b1 (aCons (var 3) (aCons (var 4) aNil)) m_look_days)) (sSeq (sIf (tst (b2 (var 1) (b2 (fldD false (var 0)) (cst (.int 0)) dSub1) dIn)) (sRaise 6) sNil) (sSeq (sSet 5 (b1 (b2 (fldD false (var 0)) (cst (.int 0)) dSub1) dDict)) (sSeq (sPut 5 (var 1) (mkT (aCons (var 2) (aCons (var 3) (aCons (var 4) aNil))))) (sSeq (sExp (mcl (var 0) (aCons (cst (.str "lend")) (aCons (var 5) (aCons (mcl (var 0) (aCons (var 1) (aCons (mkL aNil) aNil)) m_Show_with_hung) aNil))) m_Show_step)) (sRet (b1 (var 5) dLen)))))))))
def m_Show_lend : List Hr.D → Sto → Out Hr.D := runB 6 b_Show_lend
def b_Show_loan : Sv :=
  (sSeq (sExp (mcl (var 0) (aCons (var 1) aNil) m_Show_look)) (sRet (b2 (b2 (fldD false (var 0)) (cst (.int 0)) dSub1) (var 1) dSub1)))
def m_Show_loan : List Hr.D → Sto → Out Hr.D := runB 2 b_Show_loan
def b_Show_names : Sv :=
  (sRet (b1 (b2 (fldD false (var 0)) (cst (.int 0)) dSub1) dSortC))
def m_Show_names : List Hr.D → Sto → Out Hr.D := runB 1 b_Show_names
def b_Show_look_loan : Sv :=
  (sSeq (sAsg (.tp [(.nm 4), (.nm 5), (.nm 6)]) (b2 (b2 (fldD false (var 0)) (cst (.int 0)) dSub1) (var 1) dSub1)) (sIf (fOr (tst (b2 (var 2) (var 5) dLt)) (tst (b2 (var 3) (var 6) dGt))) (sRaise 5) sNil))
def m_Show_look_loan : List Hr.D → Sto → Out Hr.D := runB 7 b_Show_look_loan
def b_Show_look_place : Sv :=
  (sSeq (sSet 4 (b2 (b2 (b2 (fldD false (var 0)) (cst (.int 0)) dSub1) (var 1) dSub1) (cst (.int 0)) dSub1)) (sSeq (sIf (tst (b2 (b2 (b2 (b2 (b2 (fldD true (var 0)) (cst (.int 0)) dSub1) (var 2) dSub1) (var 3) dSub1) (cst (.int 2)) dSub1) (b2 (var 4) (cst (.int 3)) dSub1) dGt)) (sRaise 8) sNil) (sIf (tst (b2 (var 2) (b1 (aCons (fldD true (var 0)) (aCons (var 4) aNil)) m_rooms_for) dNotIn)) (sRaise 9) sNil)))
def m_Show_look_place : List Hr.D → Sto → Out Hr.D := runB 5 b_Show_look_place
abbrev l1_Show_look_hanging : Sv :=
  (sExt 17 (lcF (asSeq (b2 (b2 (fldD false (var 0)) (cst (.int 1)) dSub1) (var 18) dSub1)) (.nm 16) (tst (b2 (var 18) (var 1) dNe)) (mkT (aCons (var 16) (aCons (b2 (b2 (b2 (fldD false (var 0)) (cst (.int 0)) dSub1) (var 18) dSub1) (cst (.int 0)) dSub1) aNil))) [16]))
abbrev l2_Show_look_hanging : Sv :=
  (sIf (tst (b2 (b2 (var 11) (b1 (lcF (asSeq (var 17)) (.tp [(.nm 16), (.nm 19)]) (tst (chI (fun i j => decide (i ≤ j)) (fun i j => decide (i ≤ j)) (b2 (var 16) (cst (.int 0)) dSub1) (var 20) (b2 (var 16) (cst (.int 1)) dSub1))) (b2 (var 19) (cst (.int 2)) dSub1) [16, 19]) dSum) dAdd) (var 14) dGt)) (sRaise 12) sNil)
def b_Show_look_hanging : Sv :=
  (sSeq (sAsg (.tp [(.nm 4), (.nm 5), (.nm 6), (.nm 7), (.nm 8)]) (var 2)) (sSeq (sAsg (.tp [(.nm 9), (.nm 10), (.nm 11), (.nm 12)]) (b2 (b2 (b2 (fldD false (var 0)) (cst (.int 0)) dSub1) (var 1) dSub1) (cst (.int 0)) dSub1)) (sSeq (sAsg (.tp [(.nm 13), (.nm 14), (.nm 15)]) (b2 (b2 (b2 (fldD true (var 0)) (cst (.int 0)) dSub1) (var 6) dSub1) (var 7) dSub1)) (sSeq (sIf (tst (b1 (lcF (asSeq (var 3)) (.nm 16) yes (b1 (aCons (var 2) (aCons (var 16) aNil)) m_do_meet) [16]) dAny)) (sRaise 10) sNil) (sSeq (sSet 17 (mkL aNil)) (sSeq (sFor (asKeys (b2 (fldD false (var 0)) (cst (.int 1)) dSub1)) (.nm 18) l1_Show_look_hanging) (sSeq (sSet 17 (lcF (asSeq (var 17)) (.tp [(.nm 16), (.nm 19)]) (fAnd (tst (b2 (b3 (var 16) (oSome (cst (.int 2))) (oSome (cst (.int 4))) dSl) (mkT (aCons (var 6) (aCons (var 7) aNil))) dEq)) (tst (b1 (aCons (var 16) (aCons (var 2) aNil)) m_do_meet))) (mkT (aCons (var 16) (aCons (var 19) aNil))) [16, 19])) (sSeq (sIf (fOr (tst (b2 (var 8) (cst (.int 0)) dLt)) (tst (b2 (b2 (var 8) (var 9) dAdd) (var 13) dGt))) (sRaise 11) sNil) (sSeq (sIf (tst (b1 (lcF (asSeq (var 17)) (.tp [(.nm 16), (.nm 19)]) yes (vAnd (b2 (b2 (var 16) (cst (.int 4)) dSub1) (b2 (var 8) (var 9) dAdd) dLt) (b2 (var 8) (b2 (b2 (var 16) (cst (.int 4)) dSub1) (b2 (var 19) (cst (.int 0)) dSub1) dAdd) dLt)) [16, 19]) dAny)) (sRaise 11) sNil) (sFor (rng2 (aCons (var 4) (aCons (b2 (var 5) (cst (.int 1)) dAdd) aNil))) (.nm 20) l2_Show_look_hanging))))))))))
def m_Show_look_hanging : List Hr.D → Sto → Out Hr.D := runB 21 b_Show_look_hanging
def b_Show_hang : Sv :=
  (sSeq (sExp (mcl (var 0) (aCons (var 1) aNil) m_Show_look)) (sSeq (sExp (b1 (aCons (fldD true (var 0)) (aCons (var 2) (aCons (var 3) aNil))) m_look_wall)) (sSeq (sExp (b1 (aCons (var 5) (aCons (var 6) aNil)) m_look_days)) (sSeq (sExp (mcl (var 0) (aCons (var 1) (aCons (var 5) (aCons (var 6) aNil))) m_Show_look_loan)) (sSeq (sExp (mcl (var 0) (aCons (var 1) (aCons (var 2) (aCons (var 3) aNil))) m_Show_look_place)) (sSeq (sPar [(7, false), (8, false)] (aCons (mkT (aCons (var 5) (aCons (var 6) (aCons (var 2) (aCons (var 3) (aCons (var 4) aNil)))))) (aCons (b1 (b2 (b2 (fldD false (var 0)) (cst (.int 1)) dSub1) (var 1) dSub1) dList) aNil))) (sSeq (sExp (mcl (var 0) (aCons (var 1) (aCons (var 7) (aCons (var 8) aNil))) m_Show_look_hanging)) (sSeq (sExp (mcl (var 0) (aCons (cst (.str "hang")) (aCons (b2 (fldD false (var 0)) (cst (.int 0)) dSub1) (aCons (mcl (var 0) (aCons (var 1) (aCons (b2 (var 8) (mkL (aCons (var 7) aNil)) dAdd) aNil)) m_Show_with_hung) aNil))) m_Show_step)) (sRet (b2 (b1 (var 8) dLen) (cst (.int 1)) dAdd))))))))))
def m_Show_hang : List Hr.D → Sto → Out Hr.D := runB 9 b_Show_hang
def b_Show_hangings : Sv :=
  (sSeq (sExp (mcl (var 0) (aCons (var 1) aNil) m_Show_look)) (sRet (b1 (b2 (b2 (fldD false (var 0)) (cst (.int 1)) dSub1) (var 1) dSub1) dList)))
def m_Show_hangings : List Hr.D → Sto → Out Hr.D := runB 2 b_Show_hangings
def b_Show_hanging_on : Sv :=
  (sRet (b2 (b2 (lcF (asSeq (b2 (b2 (fldD false (var 0)) (cst (.int 1)) dSub1) (var 1) dSub1)) (.nm 3) (tst (chI (fun i j => decide (i ≤ j)) (fun i j => decide (i ≤ j)) (b2 (var 3) (cst (.int 0)) dSub1) (var 2) (b2 (var 3) (cst (.int 1)) dSub1))) (var 3) [3]) (mkL (aCons (cst .non) aNil)) dAdd) (cst (.int 0)) dSub1))
def m_Show_hanging_on : List Hr.D → Sto → Out Hr.D := runB 4 b_Show_hanging_on
def b_Show_where : Sv :=
  (sSeq (sExp (mcl (var 0) (aCons (var 1) aNil) m_Show_look)) (sSeq (sExp (b1 (aCons (var 2) aNil) m_look_day)) (sSeq (sSet 3 (mcl (var 0) (aCons (var 1) (aCons (var 2) aNil)) m_Show_hanging_on)) (sRet (fIf (tst (b1 (var 3) dIsN)) (cst .non) (b3 (var 3) (oSome (cst (.int 2))) oNone dSl))))))
def m_Show_where : List Hr.D → Sto → Out Hr.D := runB 4 b_Show_where
def b_Show_twin : Sv :=
  (sSeq (sSet 1 (mkO (aCons (fldD true (var 0)) aNil) m_Show___init__)) (sSeq (sFldD false (var 1) (fldD false (var 0))) (sSeq (sFldL true (var 1) (lstL (fldL true (var 0)))) (sSeq (sFldL false (var 1) (lstL (fldL false (var 0)))) (sRet (var 1))))))
def m_Show_twin : List Hr.D → Sto → Out Hr.D := runB 2 b_Show_twin
abbrev l1_hung_on : Sv :=
  (sSeq (sSet 4 (mcl (var 0) (aCons (var 3) (aCons (var 1) aNil)) m_Show_where)) (sIf (tst (b1 (var 4) dNotN)) (sApp 2 (b2 (var 4) (mkT (aCons (var 3) aNil)) dAdd)) sNil))
def b_hung_on : Sv :=
  (sSeq (sSet 2 (mkL aNil)) (sSeq (sFor (asSeq (mcl (var 0) aNil m_Show_names)) (.nm 3) l1_hung_on) (sRet (b1 (var 2) dSortC))))
def m_hung_on : List Hr.D → Sto → Out Hr.D := runB 5 b_hung_on
abbrev l1_rows_on : Sv :=
  (sSeq (sSet 5 (b2 (b2 (mcl (var 0) (aCons (var 4) aNil) m_Show_loan) (cst (.int 0)) dSub1) (cst (.int 0)) dSub1)) (sExt 3 (lcF (asSeq (mcl (var 0) (aCons (var 4) aNil) m_Show_hangings)) (.nm 6) (tst (b2 (b3 (var 6) (oSome (cst (.int 2))) (oSome (cst (.int 4))) dSl) (mkT (aCons (var 1) (aCons (var 2) aNil))) dEq)) (b2 (b3 (var 6) oNone (oSome (cst (.int 2))) dSl) (mkT (aCons (b2 (var 6) (cst (.int 4)) dSub1) (aCons (var 5) aNil))) dAdd) [6])))
def b_rows_on : Sv :=
  (sSeq (sSet 3 (mkL aNil)) (sSeq (sFor (asSeq (mcl (var 0) aNil m_Show_names)) (.nm 4) l1_rows_on) (sRet (var 3))))
def m_rows_on : List Hr.D → Sto → Out Hr.D := runB 7 b_rows_on
abbrev l1_stretches : Sv :=
  (sSeq (sIf (fAnd (tst (var 4)) (tst (b1 (var 2) dIsN))) (sSet 2 (var 3)) sNil) (sIf (fAnd (fNot (tst (var 4))) (tst (b1 (var 2) dNotN))) (sSeq (sApp 1 (mkT (aCons (var 2) (aCons (b2 (var 3) (var 2) dSub) aNil)))) (sSet 2 (cst .non))) sNil))
def b_stretches : Sv :=
  (sSeq (sPar [(1, true), (2, false)] (aCons (mkL aNil) (aCons (cst .non) aNil))) (sSeq (sFor (enumF (aCons (b2 (b1 (var 0) dList) (mkL (aCons (cst (.bl false)) aNil)) dAdd) aNil)) (.tp [(.nm 3), (.nm 4)]) l1_stretches) (sRet (var 1))))
def m_stretches : List Hr.D → Sto → Out Hr.D := runB 5 b_stretches
abbrev l1_free : Sv :=
  (sIf (tst (b1 (aCons (mkT (aCons (var 6) (aCons (var 7) aNil))) (aCons (mkT (aCons (var 3) (aCons (var 4) aNil))) aNil)) m_do_meet)) (sSet 5 (lcF (enumF (aCons (var 5) aNil)) (.tp [(.nm 10), (.nm 11)]) yes (vAnd (var 11) (vNot (chI (fun i j => decide (i ≤ j)) (fun i j => decide (i < j)) (var 8) (var 10) (b2 (var 8) (var 9) dAdd)))) [10, 11])) sNil)
def b_free : Sv :=
  (sSeq (sExp (b1 (aCons (mcl (var 0) aNil m_Show_house) (aCons (var 1) (aCons (var 2) aNil))) m_look_wall)) (sSeq (sExp (b1 (aCons (var 3) (aCons (var 4) aNil)) m_look_days)) (sSeq (sSet 5 (b2 (mkL (aCons (cst (.bl true)) aNil)) (b2 (b2 (b2 (b2 (mcl (var 0) aNil m_Show_house) (cst (.int 0)) dSub1) (var 1) dSub1) (var 2) dSub1) (cst (.int 0)) dSub1) dMul)) (sSeq (sFor (asSeq (b1 (aCons (var 0) (aCons (var 1) (aCons (var 2) aNil))) m_rows_on)) (.tp [(.nm 6), (.nm 7), (.nm 8), (.nm 9)]) l1_free) (sRet (b1 (aCons (var 5) aNil) m_stretches))))))
def m_free : List Hr.D → Sto → Out Hr.D := runB 12 b_free
abbrev l1_bare : Sv :=
  (sSet 3 (lcF (enumF (aCons (var 3) aNil)) (.tp [(.nm 8), (.nm 9)]) yes (vAnd (var 9) (vNot (chI (fun i j => decide (i ≤ j)) (fun i j => decide (i ≤ j)) (var 4) (var 8) (var 5)))) [8, 9]))
def b_bare : Sv :=
  (sSeq (sExp (b1 (aCons (mcl (var 0) aNil m_Show_house) (aCons (var 1) (aCons (var 2) aNil))) m_look_wall)) (sSeq (sSet 3 (b2 (mkL (aCons (cst (.bl true)) aNil)) (b2 (cst (.int 99)) (cst (.int 1)) dAdd) dMul)) (sSeq (sFor (asSeq (b1 (aCons (var 0) (aCons (var 1) (aCons (var 2) aNil))) m_rows_on)) (.tp [(.nm 4), (.nm 5), (.nm 6), (.nm 7)]) l1_bare) (sRet (lcF (asSeq (b1 (aCons (var 3) aNil) m_stretches)) (.tp [(.nm 8), (.nm 10)]) yes (mkT (aCons (var 8) (aCons (b2 (b2 (var 8) (var 10) dAdd) (cst (.int 1)) dSub) aNil))) [8, 10])))))
def m_bare : List Hr.D → Sto → Out Hr.D := runB 11 b_bare
def b_days_hung : Sv :=
  (sRet (b1 (lcF (asSeq (mcl (var 0) (aCons (var 1) aNil) m_Show_hangings)) (.nm 2) yes (b2 (b2 (b2 (var 2) (cst (.int 1)) dSub1) (b2 (var 2) (cst (.int 0)) dSub1) dSub) (cst (.int 1)) dAdd) [2]) dSum))
def m_days_hung : List Hr.D → Sto → Out Hr.D := runB 3 b_days_hung
def b_idle_days : Sv :=
  (sSeq (sAsg (.tp [(.nm 2), (.nm 3), (.nm 4)]) (mcl (var 0) (aCons (var 1) aNil) m_Show_loan)) (sRet (b2 (b2 (b2 (var 4) (var 3) dSub) (cst (.int 1)) dAdd) (b1 (aCons (var 0) (aCons (var 1) aNil)) m_days_hung) dSub)))
def m_idle_days : List Hr.D → Sto → Out Hr.D := runB 5 b_idle_days
def b_dues : Sv :=
  (sRet (lcF (asSeq (mcl (var 0) aNil m_Show_names)) (.nm 2) yes (mkT (aCons (var 2) (aCons (b2 (b2 (var 1) (b2 (b2 (mcl (var 0) (aCons (var 2) aNil) m_Show_loan) (cst (.int 0)) dSub1) (cst (.int 0)) dSub1) dMul) (b1 (aCons (var 0) (aCons (var 2) aNil)) m_days_hung) dMul) aNil))) [2]))
def m_dues : List Hr.D → Sto → Out Hr.D := runB 3 b_dues
def b_covered_on : Sv :=
  (sRet (b1 (lcF (asSeq (b1 (aCons (var 0) (aCons (var 1) aNil)) m_hung_on)) (.nm 2) yes (b2 (b2 (mcl (var 0) (aCons (b2 (var 2) (cst (.int 3)) dSub1) aNil) m_Show_loan) (cst (.int 0)) dSub1) (cst (.int 0)) dSub1) [2]) dSum))
def m_covered_on : List Hr.D → Sto → Out Hr.D := runB 3 b_covered_on
def b_covered : Sv :=
  (sSeq (sExp (b1 (aCons (var 1) aNil) m_look_day)) (sRet (b1 (aCons (var 0) (aCons (var 1) aNil)) m_covered_on)))
def m_covered : List Hr.D → Sto → Out Hr.D := runB 2 b_covered
def b_fullest : Sv :=
  (sSeq (sSet 1 (lcF (rng1 (aCons (b2 (cst (.int 99)) (cst (.int 1)) dAdd) aNil)) (.nm 2) yes (b1 (aCons (var 0) (aCons (var 2) aNil)) m_covered_on) [2])) (sRet (mkT (aCons (bm1 "list" (var 1) (b1 (var 1) dMax1) dIndex) (aCons (b1 (var 1) dMax1) aNil)))))
def m_fullest : List Hr.D → Sto → Out Hr.D := runB 3 b_fullest
def b_place_ahead : Sv :=
  (sRet (fIf (tst (b2 (var 2) (cst (.int 0)) dEq)) (cst .non) (mcl (var 0) (aCons (var 1) (aCons (b2 (var 2) (cst (.int 1)) dSub) aNil)) m_Show_where)))
def m_place_ahead : List Hr.D → Sto → Out Hr.D := runB 3 b_place_ahead
abbrev l1_carried : Sv :=
  (sSeq (sPar [(4, false), (5, false)] (aCons (b1 (aCons (var 0) (aCons (var 3) (aCons (var 1) aNil))) m_place_ahead) (aCons (mcl (var 0) (aCons (var 3) (aCons (var 1) aNil)) m_Show_where) aNil))) (sIf (tst (b2 (var 4) (var 5) dNe)) (sApp 2 (mkT (aCons (var 3) (aCons (var 4) (aCons (var 5) aNil))))) sNil))
def b_carried : Sv :=
  (sSeq (sExp (b1 (aCons (var 1) aNil) m_look_day)) (sSeq (sSet 2 (mkL aNil)) (sSeq (sFor (asSeq (mcl (var 0) aNil m_Show_names)) (.nm 3) l1_carried) (sRet (var 2)))))
def m_carried : List Hr.D → Sto → Out Hr.D := runB 6 b_carried
def b_room_of : Sv :=
  (sRet (fIf (tst (b1 (var 0) dIsN)) (cst (.int 0)) (b2 (var 0) (cst (.int 0)) dSub1)))
def m_room_of : List Hr.D → Sto → Out Hr.D := runB 1 b_room_of
abbrev l1_doors_passed : Sv :=
  (sSeq (sSet 6 (b1 (aCons (mcl (var 0) aNil m_Show_house) (aCons (b1 (aCons (b2 (mcl (var 0) (aCons (var 3) aNil) m_Show_loan) (cst (.int 0)) dSub1) aNil) m_side_of) aNil)) m_doors_by)) (sSet 2 (b2 (b2 (var 2) (b1 (b1 (aCons (var 6) (aCons (b1 (aCons (var 4) aNil) m_room_of) (aCons (b1 (aCons (var 5) aNil) m_room_of) aNil))) m_shortest) dLen) dAdd) (cst (.int 1)) dSub)))
def b_doors_passed : Sv :=
  (sSeq (sSet 2 (cst (.int 0))) (sSeq (sFor (asSeq (b1 (aCons (var 0) (aCons (var 1) aNil)) m_carried)) (.tp [(.nm 3), (.nm 4), (.nm 5)]) l1_doors_passed) (sRet (var 2))))
def m_doors_passed : List Hr.D → Sto → Out Hr.D := runB 7 b_doors_passed
def b_days_of : Sv :=
  (sSeq (sExp (mcl (var 0) (aCons (var 1) aNil) m_Show_loan)) (sRet (lcF (rng1 (aCons (b2 (cst (.int 99)) (cst (.int 1)) dAdd) aNil)) (.nm 2) (tst (b2 (b1 (aCons (var 0) (aCons (var 1) (aCons (var 2) aNil))) m_place_ahead) (mcl (var 0) (aCons (var 1) (aCons (var 2) aNil)) m_Show_where) dNe)) (var 2) [2])))
def m_days_of : List Hr.D → Sto → Out Hr.D := runB 3 b_days_of
def b_can_hang : Sv :=
  (sSeq (tryB caS (.bl false) (sExp (mcl (mcl (var 0) aNil m_Show_twin) (aCons (var 1) (aCons (var 2) (aCons (var 3) (aCons (var 4) (aCons (var 5) (aCons (var 6) aNil)))))) m_Show_hang))) (sRet (cst (.bl true))))
def m_can_hang : List Hr.D → Sto → Out Hr.D := runB 7 b_can_hang
abbrev l1_places_for : Sv :=
  (sSeq (sSet 7 (b2 (b2 (b2 (b2 (mcl (var 0) aNil m_Show_house) (cst (.int 0)) dSub1) (var 5) dSub1) (var 6) dSub1) (cst (.int 0)) dSub1)) (sSeq (sSet 8 (lcF (rng1 (aCons (var 7) aNil)) (.nm 9) (tst (b1 (aCons (var 0) (aCons (var 1) (aCons (var 5) (aCons (var 6) (aCons (var 9) (aCons (var 2) (aCons (var 3) aNil))))))) m_can_hang)) (var 9) [9])) (sExt 4 (lcF (asSeq (b3 (var 8) oNone (oSome (cst (.int 1))) dSl)) (.nm 9) yes (mkT (aCons (var 5) (aCons (var 6) (aCons (var 9) aNil)))) [9]))))
def b_places_for : Sv :=
  (sSeq (sExp (mcl (var 0) (aCons (var 1) aNil) m_Show_loan)) (sSeq (sExp (b1 (aCons (var 2) (aCons (var 3) aNil)) m_look_days)) (sSeq (sSet 4 (mkL aNil)) (sSeq (sFor (asSeq (b1 (aCons (mcl (var 0) aNil m_Show_house) aNil) m_walls_in)) (.tp [(.nm 5), (.nm 6)]) l1_places_for) (sRet (var 4))))))
def m_places_for : List Hr.D → Sto → Out Hr.D := runB 10 b_places_for
abbrev l1_longest_stay : Sv :=
  (sSeq (sIf (fNot (tst (b1 (aCons (var 0) (aCons (var 1) (aCons (var 2) (aCons (var 3) (aCons (var 4) (aCons (var 5) (aCons (var 7) aNil))))))) m_can_hang))) (sRet (var 6)) sNil) (sSet 6 (var 7)))
def b_longest_stay : Sv :=
  (sSeq (sExp (mcl (var 0) (aCons (var 1) aNil) m_Show_loan)) (sSeq (sExp (b1 (aCons (mcl (var 0) aNil m_Show_house) (aCons (var 2) (aCons (var 3) aNil))) m_look_wall)) (sSeq (sExp (b1 (aCons (var 5) aNil) m_look_day)) (sSeq (sSet 6 (cst .non)) (sSeq (sFor (rng2 (aCons (var 5) (aCons (b2 (cst (.int 99)) (cst (.int 1)) dAdd) aNil))) (.nm 7) l1_longest_stay) (sRet (var 6)))))))
def m_longest_stay : List Hr.D → Sto → Out Hr.D := runB 8 b_longest_stay
abbrev l1_seen : Sv :=
  (sExp (b1 (aCons (var 3) (aCons (var 4) aNil)) m_look_room))
abbrev l2_seen : Sv :=
  (sIf (fAnd (tst (b2 (var 5) (var 6) dNe)) (tst (b2 (var 6) (b1 (aCons (b2 (var 3) (cst (.int 1)) dSub1) (aCons (var 5) aNil)) m_nexts) dNotIn))) (sRaise 9) sNil)
abbrev l3_seen : Sv :=
  (sIf (tst (b2 (var 4) (var 8) dNotIn)) (sSeq (sApp 8 (var 4)) (sExt 7 (lcF (asSeq (b1 (aCons (var 0) (aCons (var 2) aNil)) m_hung_on)) (.nm 9) (tst (b2 (b2 (var 9) (cst (.int 0)) dSub1) (var 4) dEq)) (b2 (var 9) (cst (.int 3)) dSub1) [9]))) sNil)
def b_seen : Sv :=
  (sSeq (sSet 3 (mcl (var 0) aNil m_Show_house)) (sSeq (sFor (asSeq (var 1)) (.nm 4) l1_seen) (sSeq (sExp (b1 (aCons (var 2) aNil) m_look_day)) (sSeq (sFor (zipF (aCons (var 1) (aCons (b3 (var 1) (oSome (cst (.int 1))) oNone dSl) aNil))) (.tp [(.nm 5), (.nm 6)]) l2_seen) (sSeq (sPar [(7, true), (8, true)] (aCons (mkL aNil) (aCons (mkL aNil) aNil))) (sSeq (sFor (asSeq (var 1)) (.nm 4) l3_seen) (sRet (var 7))))))))
def m_seen : List Hr.D → Sto → Out Hr.D := runB 10 b_seen
abbrev l1_tour : Sv :=
  (sSeq (sSet 14 (mkT (aCons (var 13) (aCons (b1 (lcF (asSeq (var 11)) (.nm 6) (tst (b2 (var 6) (var 13) dNe)) (var 6) [6]) dTuple) aNil)))) (sIf (tst (b2 (var 14) (var 8) dNinN)) (sSeq (sPutN 8 (var 14) (cst (.bl true))) (sApp 9 (mkT (aCons (var 14) (aCons (b2 (var 12) (mkL (aCons (var 13) aNil)) dAdd) aNil))))) sNil))
abbrev l2_tour : Sv :=
  (sSeq (sIf (fAnd (tst (b2 (var 10) (cst (.int 0)) dEq)) (tst (b2 (var 11) (mkT aNil) dEq))) (sRet (var 12)) sNil) (sFor (asSeq (b1 (aCons (var 2) (aCons (var 10) aNil)) m_nexts)) (.nm 13) l1_tour))
abbrev l3_tour : Sv :=
  (sSeq (sSet 9 (mkL aNil)) (sSeq (sFor (asSeq (var 7)) (.tp [(.tp [(.nm 10), (.nm 11)]), (.nm 12)]) l2_tour) (sSet 7 (var 9))))
def b_tour : Sv :=
  (sSeq (sExp (b1 (aCons (var 1) aNil) m_look_day)) (sSeq (sSet 2 (b2 (mcl (var 0) aNil m_Show_house) (cst (.int 1)) dSub1)) (sSeq (sSet 3 (b1 (lcF (asSeq (b1 (aCons (var 0) (aCons (var 1) aNil)) m_hung_on)) (.nm 4) yes (b2 (var 4) (cst (.int 0)) dSub1) [4]) dSS)) (sSeq (sSet 5 (mkT (aCons (cst (.int 0)) (aCons (b1 (lcF (asSeq (var 3)) (.nm 6) (tst (b2 (var 6) (cst (.int 0)) dNe)) (var 6) [6]) dTuple) aNil)))) (sSeq (sPar [(7, false), (8, true)] (aCons (mkL (aCons (mkT (aCons (var 5) (aCons (mkL (aCons (cst (.int 0)) aNil)) aNil))) aNil)) (aCons (mkN1 (var 5) (cst (.bl true))) aNil))) (sSeq (whileGo (tst (b2 (var 7) (mkL aNil) dNe)) l3_tour 1000) (sRet (cst .non))))))))
def m_tour : List Hr.D → Sto → Out Hr.D := runB 15 b_tour
def b__law_cell : Sv :=
  (sSeq (sIf (tst (b2 (var 1) (b1 (var 0) dLen) dLt)) (sRet (b2 (var 0) (var 1) dSub1)) sNil) (sSeq (sIf (tst (b2 (var 0) (mkL aNil) dEq)) (sRet (cst (.int 0))) sNil) (sRet (b2 (b2 (b2 (var 0) (b2 (var 1) (b1 (var 0) dLen) dMod) dSub1) (cst (.int 31)) dMul) (var 1) dAdd))))
def m__law_cell : List Hr.D → Sto → Out Hr.D := runB 2 b__law_cell
def b__law_pick : Sv :=
  (sSeq (sSet 3 (b2 (b2 (b2 (b1 (aCons (var 0) (aCons (var 1) aNil)) m__law_cell) (b2 (cst (.int 6151)) (b2 (var 1) (cst (.int 1)) dAdd) dMul) dAdd) (cst (.int 40692)) dMul) (cst (.int 2147483399)) dMod)) (sRet (b2 (b2 (b2 (b2 (var 3) (var 3) dMul) (b2 (var 3) (cst (.int 31)) dDiv) dAdd) (cst (.int 2147483629)) dMod) (var 2) dMod)))
def m__law_pick : List Hr.D → Sto → Out Hr.D := runB 4 b__law_pick
def b__law_class (c : Nat) (a : Addr) : Sv :=
  (sSeq (sSet 1 (mkL (aCons (isx a (c == 10) 0) (aCons (isx a (c == 13) 0) (aCons (isx a (c == 5) 0) aNil))))) (sSeq (sExt 1 (mkL (aCons (isx a (c == 7) 0) aNil))) (sSeq (sSet 1 (b2 (var 1) (mkL (aCons (isx a (c == 0) 0) (aCons (isx a (c == 4) 0) (aCons (isx a (c == 1) 0) aNil)))) dAdd)) (sSeq (sSet 1 (b2 (var 1) (mkL (aCons (isx a (c == 2) 0) (aCons (isx a (c == 11) 0) (aCons (isx a (c == 14) 0) aNil)))) dAdd)) (sSeq (sSet 1 (b2 (var 1) (mkL (aCons (isx a (c == 3) 0) (aCons (isx a (c == 9) 0) (aCons (isx a (c == 6) 0) aNil)))) dAdd)) (sSeq (sSet 1 (b2 (var 1) (mkL (aCons (isx a (c == 8) 0) (aCons (isx a (c == 12) 0) aNil))) dAdd)) (sSeq (sIf (fOr (tst (b2 (bm1 "list" (var 1) (cst (.bl true)) dCntB) (cst (.int 1)) dNe)) (fNot (tst (isx a true 0)))) (sRet (cst (.str "is wrong"))) sNil) (sSeq (sSet 2 (mkL (aCons (cst (.str "is elsewhere")) (aCons (cst (.str "no back")) (aCons (cst (.str "no days")) (aCons (cst (.str "no hanging")) (aCons (cst (.str "no house")) (aCons (cst (.str "no name")) (aCons (cst (.str "no picture")) (aCons (cst (.str "no room")) aNil)))))))))) (sSeq (sSet 2 (b2 (var 2) (mkL (aCons (cst (.str "no space")) (aCons (cst (.str "no text")) (aCons (cst (.str "no wall")) (aCons (cst (.str "no way")) (aCons (cst (.str "is taken")) (aCons (cst (.str "too bright")) (aCons (cst (.str "too heavy")) aNil)))))))) dAdd)) (sRet (b2 (var 2) (bm1 "list" (var 1) (cst (.bl true)) dIndex) dSub1)))))))))))
def b_law : Sv :=
  (sSeq (sSet 1 (b2 (cst (.int 90)) (b1 (aCons (var 0) (aCons (cst (.int 0)) (aCons (cst (.int 8)) aNil))) m__law_pick) dAdd)) (sSeq (sSet 2 (mkT (aCons (b2 (mkT (aCons (mkT (aCons (mkT (aCons (cst (.int 20)) (aCons (cst (.int 40)) (aCons (cst (.int 9)) aNil)))) aNil)) aNil)) (cst (.int 5)) dMul) (aCons (mkT (aCons (mkT (aCons (cst (.int 0)) (aCons (cst (.int 1)) (aCons (cst (.int 9)) aNil)))) (aCons (mkT (aCons (cst (.int 1)) (aCons (cst (.int 2)) (aCons (cst (.int 9)) aNil)))) (aCons (mkT (aCons (cst (.int 2)) (aCons (cst (.int 3)) (aCons (cst (.int 9)) aNil)))) (aCons (mkT (aCons (cst (.int 3)) (aCons (cst (.int 4)) (aCons (cst (.int 9)) aNil)))) aNil))))) aNil)))) (sSeq (sAsg (.tp [(.nm 3), (.nm 4)]) (mkT (aCons (mkO (aCons (var 2) aNil) m_Show___init__) (aCons (mkT (aCons (cst (.int 9)) (aCons (cst (.int 9)) (aCons (cst (.int 20)) (aCons (cst (.int 9)) aNil))))) aNil)))) (sSeq (sIf (fOr (tst (b2 (mcl (var 3) (aCons (cst (.str "wxyz")) (aCons (var 4) (aCons (cst (.int 0)) (aCons (cst (.int 99)) aNil)))) m_Show_lend) (cst (.int 1)) dNe)) (tst (b2 (mcl (var 3) (aCons (cst (.str "last")) (aCons (var 4) (aCons (cst (.int 99)) (aCons (cst (.int 99)) aNil)))) m_Show_lend) (cst (.int 2)) dNe))) (sRet (cst (.bl false))) sNil) (sSeq (sExp (mcl (var 3) (aCons (cst (.str "x")) (aCons (mkT (aCons (cst (.int 9)) (aCons (cst (.int 9)) (aCons (cst (.int 1)) (aCons (cst (.int 8)) aNil))))) (aCons (cst (.int 0)) (aCons (cst (.int 99)) aNil)))) m_Show_lend)) (sSeq (sIf (fOr (tst (b2 (mcl (var 3) (aCons (cst (.str "wxyz")) (aCons (cst (.int 4)) (aCons (cst (.int 0)) (aCons (cst (.int 11)) (aCons (var 1) (aCons (cst (.int 99)) aNil)))))) m_Show_hang) (cst (.int 1)) dNe)) (tst (b2 (mcl (var 3) (aCons (cst (.str "last")) (aCons (cst (.int 4)) (aCons (cst (.int 0)) (aCons (cst (.int 2)) (aCons (cst (.int 99)) (aCons (cst (.int 99)) aNil)))))) m_Show_hang) (cst (.int 1)) dNe))) (sRet (cst (.bl false))) sNil) (sSeq (sIf (fOr (tst (b2 (told tw (mcl (var 3) (aCons (cst (.str "x")) (aCons (cst (.int 0)) (aCons (cst (.int 0)) (aCons (cst (.int 0)) (aCons (cst (.int 0)) (aCons (cst (.int 0)) aNil)))))) m_Show_hang)) (cst (.str "too bright")) dNe)) (tst (b2 (b1 (aCons (var 3) (aCons (cst (.str "x")) (aCons (cst (.int 0)) (aCons (cst (.int 99)) aNil)))) m_places_for) (mkL aNil) dNe))) (sRet (cst (.bl false))) sNil) (sSeq (sExp (mcl (var 3) (aCons (cst (.str "too")) (aCons (mkT (aCons (cst (.int 1)) (aCons (cst (.int 1)) (aCons (cst (.int 1)) (aCons (cst (.int 9)) aNil))))) (aCons (cst (.int 88)) (aCons (cst (.int 99)) aNil)))) m_Show_lend)) (sSeq (sIf (tst (b2 (told tw (mcl (var 3) (aCons (cst (.str "too")) (aCons (cst (.int 4)) (aCons (cst (.int 0)) (aCons (cst (.int 0)) (aCons (cst (.int 99)) (aCons (cst (.int 99)) aNil)))))) m_Show_hang)) (cst (.str "too heavy")) dNe)) (sRet (cst (.bl false))) sNil) (sSeq (sIf (fOr (tst (b2 (b1 (aCons (var 3) (aCons (cst (.str "too")) (aCons (cst (.int 4)) (aCons (cst (.int 0)) (aCons (cst (.int 0)) (aCons (cst (.int 90)) aNil)))))) m_longest_stay) (cst (.int 98)) dNe)) (tst (b2 (b1 (aCons (var 3) (aCons (cst (.str "too")) (aCons (cst (.int 4)) (aCons (cst (.int 0)) (aCons (cst (.int 11)) (aCons (cst (.int 88)) aNil)))))) m_longest_stay) (b2 (var 1) (cst (.int 1)) dSub) dNe))) (sRet (cst (.bl false))) sNil) (sSeq (sIf (fOr (tst (b2 (b1 (aCons (var 3) (aCons (cst (.int 4)) (aCons (cst (.int 0)) (aCons (cst (.int 0)) (aCons (cst (.int 99)) aNil))))) m_free) (mkL (aCons (mkT (aCons (cst (.int 0)) (aCons (cst (.int 2)) aNil))) aNil)) dNe)) (tst (b2 (b1 (aCons (var 3) (aCons (cst (.int 4)) (aCons (cst (.int 0)) (aCons (cst (.int 0)) (aCons (cst (.int 98)) aNil))))) m_free) (mkL (aCons (mkT (aCons (cst (.int 0)) (aCons (cst (.int 11)) aNil))) aNil)) dNe))) (sRet (cst (.bl false))) sNil) (sSeq (sIf (fOr (tst (b2 (b1 (aCons (var 3) (aCons (cst (.int 4)) (aCons (cst (.int 0)) aNil))) m_bare) (mkL (aCons (mkT (aCons (cst (.int 0)) (aCons (b2 (var 1) (cst (.int 1)) dSub) aNil))) aNil)) dNe)) (tst (b2 (b1 (aCons (var 3) (aCons (cst (.int 3)) (aCons (cst (.int 0)) aNil))) m_bare) (mkL (aCons (mkT (aCons (cst (.int 0)) (aCons (cst (.int 99)) aNil))) aNil)) dNe))) (sRet (cst (.bl false))) sNil) (sSeq (sIf (fOr (tst (b2 (b1 (aCons (var 3) (aCons (var 1) aNil)) m_doors_passed) (cst (.int 4)) dNe)) (tst (b2 (b1 (aCons (var 3) (aCons (cst (.int 99)) aNil)) m_doors_passed) (cst (.int 4)) dNe))) (sRet (cst (.bl false))) sNil) (sSeq (sIf (fOr (tst (b2 (b1 (aCons (var 3) (aCons (cst (.str "wxyz")) aNil)) m_days_of) (mkL (aCons (var 1) aNil)) dNe)) (tst (b2 (b1 (aCons (var 3) (aCons (cst (.str "last")) aNil)) m_days_of) (mkL (aCons (cst (.int 99)) aNil)) dNe))) (sRet (cst (.bl false))) sNil) (sSeq (sIf (tst (b2 (b1 (aCons (var 3) (aCons (cst (.int 99)) aNil)) m_carried) (mkL (aCons (mkT (aCons (cst (.str "last")) (aCons (cst .non) (aCons (mkT (aCons (cst (.int 4)) (aCons (cst (.int 0)) (aCons (cst (.int 2)) aNil)))) aNil)))) aNil)) dNe)) (sRet (cst (.bl false))) sNil) (sSeq (sIf (fOr (tst (b2 (b1 (aCons (var 3) (aCons (cst (.int 99)) aNil)) m_tour) (mkL (aCons (cst (.int 0)) (aCons (cst (.int 1)) (aCons (cst (.int 2)) (aCons (cst (.int 3)) (aCons (cst (.int 4)) (aCons (cst (.int 3)) (aCons (cst (.int 2)) (aCons (cst (.int 1)) (aCons (cst (.int 0)) aNil)))))))))) dNe)) (tst (b2 (b1 (aCons (var 3) (aCons (b2 (var 1) (cst (.int 1)) dSub) aNil)) m_tour) (mkL (aCons (cst (.int 0)) aNil)) dNe))) (sRet (cst (.bl false))) sNil) (sSeq (sIf (fOr (tst (b2 (b1 (aCons (var 3) (aCons (b1 (aCons (var 3) (aCons (cst (.int 99)) aNil)) m_tour) (aCons (cst (.int 99)) aNil))) m_seen) (mkL (aCons (cst (.str "last")) (aCons (cst (.str "wxyz")) aNil))) dNe)) (tst (b2 (b1 (aCons (var 3) (aCons (mkL (aCons (cst (.int 4)) (aCons (cst (.int 4)) (aCons (cst (.int 3)) (aCons (cst (.int 4)) aNil))))) (aCons (var 1) aNil))) m_seen) (mkL (aCons (cst (.str "wxyz")) aNil)) dNe))) (sRet (cst (.bl false))) sNil) (sSeq (sIf (fOr (tst (b2 (b1 (aCons (var 3) (aCons (cst (.int 99)) aNil)) m_covered) (cst (.int 18)) dNe)) (tst (b2 (b1 (aCons (var 3) aNil) m_fullest) (mkT (aCons (cst (.int 99)) (aCons (cst (.int 18)) aNil))) dNe))) (sRet (cst (.bl false))) sNil) (sSeq (sIf (fOr (tst (b2 (b1 (aCons (var 3) (aCons (cst (.str "wxyz")) aNil)) m_idle_days) (var 1) dNe)) (tst (b2 (b1 (aCons (var 3) (aCons (cst (.str "last")) aNil)) m_idle_days) (cst (.int 0)) dNe))) (sRet (cst (.bl false))) sNil) (sSeq (sIf (fOr (tst (b2 (b1 (aCons (var 2) (aCons (cst (.int 0)) (aCons (cst (.int 4)) aNil))) m_highest) (cst (.int 9)) dNe)) (tst (b2 (b1 (aCons (var 2) (aCons (var 4) (aCons (cst (.int 4)) (aCons (cst (.int 0)) aNil)))) m_way) (mkL (aCons (cst (.int 4)) (aCons (cst (.int 3)) (aCons (cst (.int 2)) (aCons (cst (.int 1)) (aCons (cst (.int 0)) aNil)))))) dNe))) (sRet (cst (.bl false))) sNil) (sRet (b2 (b1 (aCons (var 3) (aCons (cst (.int 5)) aNil)) m_dues) (mkL (aCons (mkT (aCons (cst (.str "last")) (aCons (cst (.int 45)) aNil))) (aCons (mkT (aCons (cst (.str "too")) (aCons (cst (.int 0)) aNil))) (aCons (mkT (aCons (cst (.str "wxyz")) (aCons (b2 (cst (.int 45)) (b2 (cst (.int 100)) (var 1) dSub) dMul) aNil))) (aCons (mkT (aCons (cst (.str "x")) (aCons (cst (.int 0)) aNil))) aNil))))) dEq))))))))))))))))))))))
def m_law : List Hr.D → Sto → Out Hr.D := runB 5 b_law
def b_Show_lent_on : Sv :=
  (sSeq (sExp (b1 (aCons (var 1) aNil) m_look_day)) (sRet (lcF (asSeq (mcl (var 0) aNil m_Show_names)) (.nm 2) (tst (chI (fun i j => decide (i ≤ j)) (fun i j => decide (i ≤ j)) (b2 (b2 (b2 (fldD false (var 0)) (cst (.int 0)) dSub1) (var 2) dSub1) (cst (.int 1)) dSub1) (var 1) (b2 (b2 (b2 (fldD false (var 0)) (cst (.int 0)) dSub1) (var 2) dSub1) (cst (.int 2)) dSub1))) (var 2) [2])))
def m_Show_lent_on : List Hr.D → Sto → Out Hr.D := runB 3 b_Show_lent_on
def b_Show_lengthen : Sv :=
  (sSeq (sExp (mcl (var 0) (aCons (var 1) aNil) m_Show_look)) (sSeq (sExp (b1 (aCons (var 2) (aCons (var 3) aNil)) m_look_days)) (sSeq (sIf (tst (b1 (lcF (asSeq (b2 (b2 (fldD false (var 0)) (cst (.int 1)) dSub1) (var 1) dSub1)) (.nm 4) yes (tOr (b2 (b2 (var 4) (cst (.int 0)) dSub1) (var 2) dLt) (b2 (b2 (var 4) (cst (.int 1)) dSub1) (var 3) dGt)) [4]) dAny)) (sRaise 5) sNil) (sSeq (sSet 5 (b1 (b2 (fldD false (var 0)) (cst (.int 0)) dSub1) dDict)) (sSeq (sPut 5 (var 1) (mkT (aCons (b2 (b2 (var 5) (var 1) dSub1) (cst (.int 0)) dSub1) (aCons (var 2) (aCons (var 3) aNil))))) (sExp (mcl (var 0) (aCons (cst (.str "lengthen")) (aCons (var 5) (aCons (b2 (fldD false (var 0)) (cst (.int 1)) dSub1) aNil))) m_Show_step)))))))
def m_Show_lengthen : List Hr.D → Sto → Out Hr.D := runB 6 b_Show_lengthen
def b_Show_send_back : Sv :=
  (sSeq (sExp (mcl (var 0) (aCons (var 1) aNil) m_Show_look)) (sSeq (sSet 2 (b1 (b2 (b2 (fldD false (var 0)) (cst (.int 1)) dSub1) (var 1) dSub1) dLen)) (sSeq (sSet 3 (b1 (lcF (asKeys (b2 (fldD false (var 0)) (cst (.int 0)) dSub1)) (.nm 4) (tst (b2 (var 4) (var 1) dNe)) (mkT (aCons (var 4) (aCons (b2 (b2 (fldD false (var 0)) (cst (.int 0)) dSub1) (var 4) dSub1) aNil))) [4]) dDict)) (sSeq (sExp (mcl (var 0) (aCons (cst (.str "send_back")) (aCons (var 3) (aCons (b1 (lcF (asKeys (b2 (fldD false (var 0)) (cst (.int 1)) dSub1)) (.nm 4) (tst (b2 (var 4) (var 1) dNe)) (mkT (aCons (var 4) (aCons (b2 (b2 (fldD false (var 0)) (cst (.int 1)) dSub1) (var 4) dSub1) aNil))) [4]) dDict) aNil))) m_Show_step)) (sRet (var 2))))))
def m_Show_send_back : List Hr.D → Sto → Out Hr.D := runB 5 b_Show_send_back
def b_Show_hanging_there : Sv :=
  (sSeq (sSet 3 (mcl (var 0) (aCons (var 1) (aCons (var 2) aNil)) m_Show_hanging_on)) (sSeq (sIf (tst (b1 (var 3) dIsN)) (sRaise 7) sNil) (sRet (mkT (aCons (var 3) (aCons (lcF (asSeq (b2 (b2 (fldD false (var 0)) (cst (.int 1)) dSub1) (var 1) dSub1)) (.nm 4) (tst (b2 (var 4) (var 3) dNe)) (var 4) [4]) aNil))))))
def m_Show_hanging_there : List Hr.D → Sto → Out Hr.D := runB 5 b_Show_hanging_there
def b_Show_take_down : Sv :=
  (sSeq (sExp (mcl (var 0) (aCons (var 1) aNil) m_Show_look)) (sSeq (sExp (b1 (aCons (var 2) aNil) m_look_day)) (sSeq (sAsg (.tp [(.nm 3), (.nm 4)]) (mcl (var 0) (aCons (var 1) (aCons (var 2) aNil)) m_Show_hanging_there)) (sSeq (sExp (mcl (var 0) (aCons (cst (.str "take_down")) (aCons (b2 (fldD false (var 0)) (cst (.int 0)) dSub1) (aCons (mcl (var 0) (aCons (var 1) (aCons (var 4) aNil)) m_Show_with_hung) aNil))) m_Show_step)) (sRet (var 3))))))
def m_Show_take_down : List Hr.D → Sto → Out Hr.D := runB 5 b_Show_take_down
def b_Show_extend : Sv :=
  (sSeq (sExp (mcl (var 0) (aCons (var 1) aNil) m_Show_look)) (sSeq (sExp (b1 (aCons (var 2) aNil) m_look_day)) (sSeq (sExp (b1 (aCons (var 3) aNil) m_look_day)) (sSeq (sAsg (.tp [(.nm 4), (.nm 5)]) (mcl (var 0) (aCons (var 1) (aCons (var 2) aNil)) m_Show_hanging_there)) (sSeq (sIf (tst (b2 (var 3) (b2 (var 4) (cst (.int 0)) dSub1) dLt)) (sRaise 5) sNil) (sSeq (sExp (mcl (var 0) (aCons (var 1) (aCons (b2 (var 4) (cst (.int 0)) dSub1) (aCons (var 3) aNil))) m_Show_look_loan)) (sSeq (sSet 6 (b2 (mkT (aCons (b2 (var 4) (cst (.int 0)) dSub1) (aCons (var 3) aNil))) (b3 (var 4) (oSome (cst (.int 2))) oNone dSl) dAdd)) (sSeq (sExp (mcl (var 0) (aCons (var 1) (aCons (var 6) (aCons (var 5) aNil))) m_Show_look_hanging)) (sSeq (sExp (mcl (var 0) (aCons (cst (.str "extend")) (aCons (b2 (fldD false (var 0)) (cst (.int 0)) dSub1) (aCons (mcl (var 0) (aCons (var 1) (aCons (b2 (var 5) (mkL (aCons (var 6) aNil)) dAdd) aNil)) m_Show_with_hung) aNil))) m_Show_step)) (sRet (var 6)))))))))))
def m_Show_extend : List Hr.D → Sto → Out Hr.D := runB 7 b_Show_extend
def b_Show_move : Sv :=
  (sSeq (sExp (mcl (var 0) (aCons (var 1) aNil) m_Show_look)) (sSeq (sExp (b1 (aCons (fldD true (var 0)) (aCons (var 3) (aCons (var 4) aNil))) m_look_wall)) (sSeq (sExp (b1 (aCons (var 2) aNil) m_look_day)) (sSeq (sAsg (.tp [(.nm 6), (.nm 7)]) (mcl (var 0) (aCons (var 1) (aCons (var 2) aNil)) m_Show_hanging_there)) (sSeq (sExp (mcl (var 0) (aCons (var 1) (aCons (var 3) (aCons (var 4) aNil))) m_Show_look_place)) (sSeq (sSet 8 (b2 (b3 (var 6) oNone (oSome (cst (.int 2))) dSl) (mkT (aCons (var 3) (aCons (var 4) (aCons (var 5) aNil)))) dAdd)) (sSeq (sExp (mcl (var 0) (aCons (var 1) (aCons (var 8) (aCons (var 7) aNil))) m_Show_look_hanging)) (sSeq (sExp (mcl (var 0) (aCons (cst (.str "move")) (aCons (b2 (fldD false (var 0)) (cst (.int 0)) dSub1) (aCons (mcl (var 0) (aCons (var 1) (aCons (b2 (var 7) (mkL (aCons (var 8) aNil)) dAdd) aNil)) m_Show_with_hung) aNil))) m_Show_step)) (sRet (var 8))))))))))
def m_Show_move : List Hr.D → Sto → Out Hr.D := runB 9 b_Show_move
def b_Show_back : Sv :=
  (sSeq (sIf (tst (nilL (fldL true (var 0)))) (sRaise 13) sNil) (sSeq (sAsg (.tp [(.nm 1), (.nm 2)]) (fPop true (var 0))) (sSeq (sExp (fPush false 0 1)) (sSeq (sFldD false (var 0) (var 2)) (sRet (var 1))))))
def m_Show_back : List Hr.D → Sto → Out Hr.D := runB 3 b_Show_back
def b_Show_forth : Sv :=
  (sSeq (sIf (tst (nilL (fldL false (var 0)))) (sRaise 13) sNil) (sSeq (sAsg (.tp [(.nm 1), (.nm 2)]) (fPop false (var 0))) (sSeq (sExp (fPush true 0 1)) (sSeq (sFldD false (var 0) (var 2)) (sRet (var 1))))))
def m_Show_forth : List Hr.D → Sto → Out Hr.D := runB 3 b_Show_forth
def b_Show_counts : Sv :=
  (sRet (mkT (aCons (lenL (fldL true (var 0))) (aCons (lenL (fldL false (var 0))) aNil))))
def m_Show_counts : List Hr.D → Sto → Out Hr.D := runB 1 b_Show_counts
abbrev l1_busiest : Sv :=
  (sSeq (sSet 3 (b1 (aCons (var 0) (aCons (var 2) aNil)) m_doors_passed)) (sIf (tst (b2 (var 3) (b2 (var 1) (cst (.int 1)) dSub1) dGt)) (sSet 1 (mkT (aCons (var 2) (aCons (var 3) aNil)))) sNil))
def b_busiest : Sv :=
  (sSeq (sSet 1 (mkT (aCons (cst (.int 0)) (aCons (b1 (aCons (var 0) (aCons (cst (.int 0)) aNil)) m_doors_passed) aNil)))) (sSeq (sFor (rng2 (aCons (cst (.int 1)) (aCons (b2 (cst (.int 99)) (cst (.int 1)) dAdd) aNil))) (.nm 2) l1_busiest) (sRet (var 1))))
def m_busiest : List Hr.D → Sto → Out Hr.D := runB 4 b_busiest
def b_unlike_days : Sv :=
  (sRet (lcF (rng1 (aCons (b2 (cst (.int 99)) (cst (.int 1)) dAdd) aNil)) (.nm 2) (tst (b2 (b1 (aCons (var 0) (aCons (var 2) aNil)) m_hung_on) (b1 (aCons (var 1) (aCons (var 2) aNil)) m_hung_on) dNe)) (var 2) [2]))
def m_unlike_days : List Hr.D → Sto → Out Hr.D := runB 3 b_unlike_days
def b_like_loans : Sv :=
  (sRet (lcF (asSeq (mcl (var 0) aNil m_Show_names)) (.nm 2) (fAnd (tst (b2 (var 2) (mcl (var 1) aNil m_Show_names) dIn)) (tst (b2 (mcl (var 0) (aCons (var 2) aNil) m_Show_loan) (mcl (var 1) (aCons (var 2) aNil) m_Show_loan) dEq))) (var 2) [2]))
def m_like_loans : List Hr.D → Sto → Out Hr.D := runB 3 b_like_loans
abbrev l1_taken_over : Sv :=
  (sExt 2 (lcF (asSeq (mcl (var 0) (aCons (var 3) aNil) m_Show_hangings)) (.nm 4) (tst (b2 (var 4) (mcl (var 1) (aCons (var 3) aNil) m_Show_hangings) dNotIn)) (mkT (aCons (var 3) (aCons (var 4) aNil))) [4]))
def b_taken_over : Sv :=
  (sSeq (sSet 2 (mkL aNil)) (sSeq (sFor (asSeq (b1 (aCons (var 0) (aCons (var 1) aNil)) m_like_loans)) (.nm 3) l1_taken_over) (sRet (var 2))))
def m_taken_over : List Hr.D → Sto → Out Hr.D := runB 5 b_taken_over
def b_are_like : Sv :=
  (sSeq (sIf (fOr (tst (b2 (mcl (var 0) aNil m_Show_house) (mcl (var 1) aNil m_Show_house) dNe)) (fOr (tst (b2 (mcl (var 0) aNil m_Show_names) (mcl (var 1) aNil m_Show_names) dNe)) (tst (b2 (b1 (aCons (var 0) (aCons (var 1) aNil)) m_like_loans) (mcl (var 0) aNil m_Show_names) dNe)))) (sRet (cst (.bl false))) sNil) (sRet (vAnd (b2 (b1 (aCons (var 0) (aCons (var 1) aNil)) m_taken_over) (mkL aNil) dEq) (b2 (b1 (aCons (var 1) (aCons (var 0) aNil)) m_taken_over) (mkL aNil) dEq))))
def m_are_like : List Hr.D → Sto → Out Hr.D := runB 2 b_are_like
def b_doors_for : Sv :=
  (sSeq (sExp (b1 (aCons (var 0) aNil) m_look_house)) (sSeq (sExp (b1 (aCons (var 1) aNil) m_look_picture)) (sRet (b1 (aCons (var 0) (aCons (b1 (aCons (var 1) aNil) m_side_of) aNil)) m_doors_by))))
def m_doors_for : List Hr.D → Sto → Out Hr.D := runB 2 b_doors_for
def b_reached : Sv :=
  (sSeq (sExp (b1 (aCons (var 0) aNil) m_look_house)) (sSeq (sExp (b1 (aCons (var 1) aNil) m_look_picture)) (sRet (b1 (aCons (var 0) (aCons (var 1) aNil)) m_rooms_for))))
def m_reached : List Hr.D → Sto → Out Hr.D := runB 2 b_reached
def b_walls_of : Sv :=
  (sSeq (sExp (b1 (aCons (var 0) aNil) m_look_house)) (sRet (b1 (aCons (var 0) aNil) m_walls_in)))
def m_walls_of : List Hr.D → Sto → Out Hr.D := runB 1 b_walls_of
def b_wall_at : Sv :=
  (sSeq (sExp (b1 (aCons (var 0) aNil) m_look_house)) (sSeq (sExp (b1 (aCons (var 0) (aCons (var 1) (aCons (var 2) aNil))) m_look_wall)) (sRet (b2 (b2 (b2 (var 0) (cst (.int 0)) dSub1) (var 1) dSub1) (var 2) dSub1))))
def m_wall_at : List Hr.D → Sto → Out Hr.D := runB 3 b_wall_at
def b_all_long : Sv :=
  (sSeq (sExp (b1 (aCons (var 0) aNil) m_look_house)) (sRet (b1 (lcF (asSeq (b1 (aCons (var 0) aNil) m_walls_in)) (.tp [(.nm 1), (.nm 2)]) yes (b2 (b2 (b2 (b2 (var 0) (cst (.int 0)) dSub1) (var 1) dSub1) (var 2) dSub1) (cst (.int 0)) dSub1) [1, 2]) dSum)))
def m_all_long : List Hr.D → Sto → Out Hr.D := runB 3 b_all_long
abbrev l1_looked : Sv :=
  (sExp (b1 (aCons (var 2) aNil) m_look_picture))
def b_looked : Sv :=
  (sSeq (sExp (b1 (aCons (var 0) aNil) m_look_house)) (sFor (asSeq (var 1)) (.nm 2) l1_looked))
def m_looked : List Hr.D → Sto → Out Hr.D := runB 3 b_looked
abbrev l1_walls_for : Sv :=
  (sSeq (sAsg (.tp [(.nm 6), (.nm 7), (.nm 8)]) (b2 (b2 (b2 (var 0) (cst (.int 0)) dSub1) (var 4) dSub1) (var 5) dSub1)) (sIf (fAnd (tst (b2 (var 4) (var 2) dIn)) (fAnd (tst (b2 (b2 (var 1) (cst (.int 0)) dSub1) (var 6) dLe)) (fAnd (tst (b2 (b2 (var 1) (cst (.int 2)) dSub1) (var 7) dLe)) (tst (b2 (var 8) (b2 (var 1) (cst (.int 3)) dSub1) dLe))))) (sApp 3 (mkT (aCons (var 4) (aCons (var 5) aNil)))) sNil))
def b_walls_for : Sv :=
  (sSeq (sPar [(2, false), (3, true)] (aCons (b1 (aCons (var 0) (aCons (var 1) aNil)) m_rooms_for) (aCons (mkL aNil) aNil))) (sSeq (sFor (asSeq (b1 (aCons (var 0) aNil) m_walls_in)) (.tp [(.nm 4), (.nm 5)]) l1_walls_for) (sRet (var 3))))
def m_walls_for : List Hr.D → Sto → Out Hr.D := runB 9 b_walls_for
def b_has_room : Sv :=
  (sSeq (sAsg (.tp [(.nm 5), (.nm 6), (.nm 7)]) (b2 (b2 (b2 (var 0) (cst (.int 0)) dSub1) (b2 (var 4) (cst (.int 0)) dSub1) dSub1) (b2 (var 4) (cst (.int 1)) dSub1) dSub1)) (sSeq (sSet 8 (lcF (zipF (aCons (var 1) (aCons (var 2) aNil))) (.tp [(.nm 9), (.nm 10)]) (tst (b2 (var 10) (var 4) dEq)) (var 9) [9, 10])) (sSeq (sSet 11 (b1 (lcF (asSeq (var 8)) (.nm 9) yes (b2 (var 9) (cst (.int 0)) dSub1) [9]) dSum)) (sRet (vAnd (b2 (b2 (var 11) (b2 (var 3) (cst (.int 0)) dSub1) dAdd) (var 5) dLe) (b2 (b2 (b1 (lcF (asSeq (var 8)) (.nm 9) yes (b2 (var 9) (cst (.int 2)) dSub1) [9]) dSum) (b2 (var 3) (cst (.int 2)) dSub1) dAdd) (var 6) dLe))))))
def m_has_room : List Hr.D → Sto → Out Hr.D := runB 12 b_has_room
def b_spread_from (rec : List Hr.D → Sto → Out Hr.D) : Sv :=
  (sSeq (sIf (tst (b2 (b1 (var 2) dLen) (b1 (var 1) dLen) dEq)) (sRet (var 2)) sNil) (sSeq (sSet 3 (b2 (var 1) (b1 (var 2) dLen) dSub1)) (sSeq (sFor (asSeq (b1 (aCons (var 0) (aCons (var 3) aNil)) m_walls_for)) (.nm 4) (sIf (tst (b1 (aCons (var 0) (aCons (var 1) (aCons (var 2) (aCons (var 3) (aCons (var 4) aNil))))) m_has_room)) (sSeq (sSet 5 (b1 (aCons (var 0) (aCons (var 1) (aCons (b2 (var 2) (mkL (aCons (var 4) aNil)) dAdd) aNil))) rec)) (sIf (tst (b1 (var 5) dNotN)) (sRet (var 5)) sNil)) sNil)) (sRet (cst .non)))))
def m_spread_from : Nat → List Hr.D → Sto → Out Hr.D
  | 0 => fun _ _ => .bad
  | n + 1 => runB 6 (b_spread_from (m_spread_from n))
def b_spread : Sv :=
  (sSeq (sExp (b1 (aCons (var 0) (aCons (var 1) aNil)) m_looked)) (sRet (b1 (aCons (var 0) (aCons (b1 (var 1) dList) (aCons (mkL aNil) aNil))) (m_spread_from 10))))
def m_spread : List Hr.D → Sto → Out Hr.D := runB 2 b_spread
abbrev l1_most_hung : Sv :=
  (sSet 2 (b2 (var 2) (lcF (asSeq (var 2)) (.nm 4) yes (b2 (var 4) (mkL (aCons (var 3) aNil)) dAdd) [4]) dAdd))
def b_most_hung : Sv :=
  (sSeq (sExp (b1 (aCons (var 0) (aCons (var 1) aNil)) m_looked)) (sSeq (sSet 2 (mkL (aCons (mkL aNil) aNil))) (sSeq (sFor (asSeq (var 1)) (.nm 3) l1_most_hung) (sRet (b1 (lcF (asSeq (var 2)) (.nm 4) (tst (b1 (b1 (aCons (var 0) (aCons (var 4) (aCons (mkL aNil) aNil))) (m_spread_from 10)) dNotN)) (b1 (var 4) dLen) [4]) dMax1)))))
def m_most_hung : List Hr.D → Sto → Out Hr.D := runB 5 b_most_hung
def b_number_in : Sv :=
  (sSeq (sIf (fOr (fNot (tst (chI (fun i j => decide (i ≤ j)) (fun i j => decide (i ≤ j)) (cst (.int 1)) (b1 (var 0) dLen) (cst (.int 2))))) (fNot (tst (b1 (lcF (asSigns (var 0)) (.nm 1) yes (b2 (var 1) (cst (.str "0123456789")) dInS) [1]) dAll)))) (sRaise 14) sNil) (sRet (b1 (var 0) dInt)))
def m_number_in : List Hr.D → Sto → Out Hr.D := runB 2 b_number_in
def b_wall_rows : Sv :=
  (sSeq (sExp (b1 (aCons (mcl (var 0) aNil m_Show_house) (aCons (var 1) (aCons (var 2) aNil))) m_look_wall)) (sSeq (sExp (b1 (aCons (var 3) aNil) m_look_day)) (sRet (lcF (asSeq (b1 (aCons (var 0) (aCons (var 3) aNil)) m_hung_on)) (.nm 4) (tst (b2 (b3 (var 4) oNone (oSome (cst (.int 2))) dSl) (mkT (aCons (var 1) (aCons (var 2) aNil))) dEq)) (b3 (var 4) (oSome (cst (.int 2))) oNone dSl) [4]))))
def m_wall_rows : List Hr.D → Sto → Out Hr.D := runB 5 b_wall_rows
def b_weight_on : Sv :=
  (sRet (b1 (lcF (asSeq (b1 (aCons (var 0) (aCons (var 1) (aCons (var 2) (aCons (var 3) aNil)))) m_wall_rows)) (.tp [(.nm 4), (.nm 5)]) yes (b2 (b2 (mcl (var 0) (aCons (var 5) aNil) m_Show_loan) (cst (.int 0)) dSub1) (cst (.int 2)) dSub1) [4, 5]) dSum))
def m_weight_on : List Hr.D → Sto → Out Hr.D := runB 6 b_weight_on
def b_on_day : Sv :=
  (sSeq (sExp (b1 (aCons (var 1) aNil) m_look_day)) (sRet (b1 (aCons (var 0) (aCons (var 1) aNil)) m_hung_on)))
def m_on_day : List Hr.D → Sto → Out Hr.D := runB 2 b_on_day
def b_in_store : Sv :=
  (sSeq (sExp (b1 (aCons (var 1) aNil) m_look_day)) (sRet (lcF (asSeq (mcl (var 0) (aCons (var 1) aNil) m_Show_lent_on)) (.nm 2) (tst (b1 (mcl (var 0) (aCons (var 2) (aCons (var 1) aNil)) m_Show_where) dIsN)) (var 2) [2])))
def m_in_store : List Hr.D → Sto → Out Hr.D := runB 3 b_in_store
abbrev l1__law_house : Sv :=
  (sSeq (sSet 7 (b2 (b2 (b2 (var 1) (cst (.int 20)) dAdd) (b2 (cst (.int 12)) (var 4) dMul) dAdd) (b2 (cst (.int 4)) (var 6) dMul) dAdd)) (sSeq (sPar [(8, false), (9, false)] (aCons (b2 (mkL (aCons (cst (.int 4)) (aCons (cst (.int 6)) (aCons (cst (.int 9)) (aCons (cst (.int 12)) (aCons (cst (.int 20)) aNil)))))) (b1 (aCons (var 0) (aCons (var 7) (aCons (cst (.int 5)) aNil))) m__law_pick) dSub1) (aCons (b1 (aCons (var 0) (aCons (b2 (var 7) (cst (.int 1)) dAdd) (aCons (cst (.int 5)) aNil))) m__law_pick) aNil))) (sApp 5 (mkT (aCons (var 8) (aCons (b2 (mkL (aCons (cst (.int 4)) (aCons (cst (.int 8)) (aCons (cst (.int 12)) (aCons (cst (.int 20)) (aCons (cst (.int 40)) aNil)))))) (var 9) dSub1) (aCons (b2 (mkL (aCons (cst (.int 0)) (aCons (cst (.int 0)) (aCons (cst (.int 2)) (aCons (cst (.int 4)) (aCons (cst (.int 9)) aNil)))))) (b1 (aCons (var 0) (aCons (b2 (var 7) (cst (.int 2)) dAdd) (aCons (cst (.int 5)) aNil))) m__law_pick) dSub1) aNil)))))))
abbrev l2__law_house : Sv :=
  (sSeq (sSet 5 (mkL aNil)) (sSeq (sFor (rng1 (aCons (b1 (pr (b1 (b2 (var 4) (cst (.int 0)) dEq) dInt) (b2 (mkL (aCons (cst (.int 1)) (aCons (cst (.int 1)) (aCons (cst (.int 2)) (aCons (cst (.int 3)) (aCons (cst (.int 0)) aNil)))))) (b1 (aCons (var 0) (aCons (b2 (b2 (var 1) (cst (.int 1)) dAdd) (var 4) dAdd) (aCons (cst (.int 5)) aNil))) m__law_pick) dSub1)) dMax2) aNil)) (.nm 6) l1__law_house) (sSeq (sApp 2 (b1 (var 5) dTuple)) (sIf (fAnd (tst (b2 (var 4) (cst (.int 0)) dGt)) (tst (b2 (b1 (aCons (var 0) (aCons (b2 (b2 (var 1) (cst (.int 100)) dAdd) (var 4) dAdd) (aCons (cst (.int 8)) aNil))) m__law_pick) (cst (.int 0)) dGt))) (sApp 3 (mkT (aCons (b1 (aCons (var 0) (aCons (b2 (b2 (var 1) (cst (.int 110)) dAdd) (var 4) dAdd) (aCons (var 4) aNil))) m__law_pick) (aCons (var 4) (aCons (b2 (cst (.int 1)) (b1 (aCons (var 0) (aCons (b2 (b2 (var 1) (cst (.int 120)) dAdd) (var 4) dAdd) (aCons (cst (.int 9)) aNil))) m__law_pick) dAdd) aNil))))) sNil))))
abbrev l3__law_house : Sv :=
  (sSeq (sPar [(10, false), (11, false)] (aCons (b1 (aCons (var 0) (aCons (b2 (b2 (var 1) (cst (.int 131)) dAdd) (var 4) dAdd) (aCons (b1 (var 2) dLen) aNil))) m__law_pick) (aCons (b1 (aCons (var 0) (aCons (b2 (b2 (var 1) (cst (.int 136)) dAdd) (var 4) dAdd) (aCons (b1 (var 2) dLen) aNil))) m__law_pick) aNil))) (sIf (tst (b2 (var 10) (var 11) dNe)) (sApp 3 (mkT (aCons (b1 (pr (var 10) (var 11)) dMin2) (aCons (b1 (pr (var 10) (var 11)) dMax2) (aCons (b2 (cst (.int 1)) (b1 (aCons (var 0) (aCons (b2 (b2 (var 1) (cst (.int 141)) dAdd) (var 4) dAdd) (aCons (cst (.int 9)) aNil))) m__law_pick) dAdd) aNil))))) sNil))
def b__law_house : Sv :=
  (sSeq (sPar [(2, true), (3, true)] (aCons (mkL aNil) (aCons (mkL aNil) aNil))) (sSeq (sFor (rng1 (aCons (b2 (cst (.int 1)) (b1 (aCons (var 0) (aCons (var 1) (aCons (cst (.int 5)) aNil))) m__law_pick) dAdd) aNil)) (.nm 4) l2__law_house) (sSeq (sFor (rng1 (aCons (b1 (aCons (var 0) (aCons (b2 (var 1) (cst (.int 130)) dAdd) (aCons (cst (.int 5)) aNil))) m__law_pick) aNil)) (.nm 4) l3__law_house) (sRet (mkT (aCons (b1 (var 2) dTuple) (aCons (b1 (b1 (var 3) dSS) dTuple) aNil)))))))
def m__law_house : List Hr.D → Sto → Out Hr.D := runB 12 b__law_house
def b__law_picture : Sv :=
  (sSeq (sPar [(2, false), (3, false)] (aCons (b2 (mkL (aCons (cst (.int 1)) (aCons (cst (.int 1)) (aCons (cst (.int 2)) (aCons (cst (.int 2)) (aCons (cst (.int 3)) (aCons (cst (.int 3)) (aCons (cst (.int 4)) (aCons (cst (.int 9)) aNil))))))))) (b1 (aCons (var 0) (aCons (var 1) (aCons (cst (.int 8)) aNil))) m__law_pick) dSub1) (aCons (b2 (cst (.int 1)) (b1 (aCons (var 0) (aCons (b2 (var 1) (cst (.int 1)) dAdd) (aCons (cst (.int 9)) aNil))) m__law_pick) dAdd) aNil))) (sSeq (sSet 4 (b2 (mkL (aCons (cst (.int 1)) (aCons (cst (.int 2)) (aCons (cst (.int 4)) (aCons (cst (.int 4)) (aCons (cst (.int 4)) (aCons (cst (.int 6)) (aCons (cst (.int 8)) (aCons (cst (.int 20)) aNil))))))))) (b1 (aCons (var 0) (aCons (b2 (var 1) (cst (.int 2)) dAdd) (aCons (cst (.int 8)) aNil))) m__law_pick) dSub1)) (sRet (mkT (aCons (var 2) (aCons (var 3) (aCons (var 4) (aCons (b2 (mkL (aCons (cst (.int 9)) (aCons (cst (.int 9)) (aCons (cst (.int 7)) (aCons (cst (.int 5)) (aCons (cst (.int 3)) (aCons (cst (.int 1)) aNil))))))) (b1 (aCons (var 0) (aCons (b2 (var 1) (cst (.int 4)) dAdd) (aCons (cst (.int 6)) aNil))) m__law_pick) dSub1) aNil))))))))
def m__law_picture : List Hr.D → Sto → Out Hr.D := runB 5 b__law_picture
abbrev l1__law_by : Sv :=
  (sIf (fAnd (tst (b2 (var 7) (var 2) dGe)) (tst (b2 (b2 (var 5) (var 3) dIn) (b2 (var 6) (var 3) dIn) dNe))) (sApp 3 (fIf (tst (b2 (var 5) (var 3) dIn)) (var 6) (var 5))) sNil)
abbrev l2__law_by : Sv :=
  (sFor (asSeq (b2 (var 0) (cst (.int 1)) dSub1)) (.tp [(.nm 5), (.nm 6), (.nm 7)]) l1__law_by)
def b__law_by : Sv :=
  (sSeq (sPar [(2, false), (3, true)] (aCons (b1 (pr (b2 (var 1) (cst (.int 0)) dSub1) (b2 (var 1) (cst (.int 1)) dSub1)) dMin2) (aCons (mkL (aCons (cst (.int 0)) aNil)) aNil))) (sSeq (sFor (rng1 (aCons (cst (.int 5)) aNil)) (.nm 4) l2__law_by) (sRet (b1 (var 3) dSortC))))
def m__law_by : List Hr.D → Sto → Out Hr.D := runB 8 b__law_by
abbrev l1__law_near : Sv :=
  (sSeq (sSet 7 (lcF (asSeq (b2 (var 0) (var 6) dSub1)) (.nm 8) (fAnd (tst (b2 (var 6) (var 1) dNe)) (tst (chI (fun i j => decide (i ≤ j)) (fun i j => decide (i ≤ j)) (b2 (var 8) (cst (.int 0)) dSub1) (var 4) (b2 (var 8) (cst (.int 1)) dSub1)))) (var 8) [8])) (sExt 5 (lcF (asSeq (var 7)) (.nm 8) (tst (b2 (b3 (var 8) (oSome (cst (.int 2))) (oSome (cst (.int 4))) dSl) (mkT (aCons (var 2) (aCons (var 3) aNil))) dEq)) (mkT (aCons (var 6) (aCons (var 8) aNil))) [8])))
def b__law_near : Sv :=
  (sSeq (sSet 5 (mkL aNil)) (sSeq (sFor (asSeq (b1 (var 0) dSortC)) (.nm 6) l1__law_near) (sRet (var 5))))
def m__law_near : List Hr.D → Sto → Out Hr.D := runB 9 b__law_near
abbrev l1__law_beside : Sv :=
  (sIf (fAnd (tst (b2 (b2 (var 17) (cst (.int 4)) dSub1) (b2 (var 9) (var 10) dAdd) dLt)) (tst (b2 (var 9) (b2 (b2 (var 17) (cst (.int 4)) dSub1) (b2 (b2 (b2 (var 1) (var 21) dSub1) (cst (.int 0)) dSub1) (cst (.int 0)) dSub1) dAdd) dLt))) (sRet (cst (.str "no space"))) sNil)
abbrev l2__law_beside : Sv :=
  (sSeq (sSet 20 (b1 (aCons (var 2) (aCons (var 3) (aCons (var 7) (aCons (var 8) (aCons (var 19) aNil))))) m__law_near)) (sSeq (sFor (asSeq (var 20)) (.tp [(.nm 21), (.nm 17)]) l1__law_beside) (sSet 18 (b1 (pr (var 18) (b2 (var 12) (b1 (lcF (asSeq (var 20)) (.tp [(.nm 21), (.nm 17)]) yes (b2 (b2 (b2 (var 1) (var 21) dSub1) (cst (.int 0)) dSub1) (cst (.int 2)) dSub1) [21, 17]) dSum) dAdd)) dMax2))))
def b__law_beside : Sv :=
  (sSeq (sAsg (.tp [(.nm 5), (.nm 6), (.nm 7), (.nm 8), (.nm 9)]) (var 4)) (sSeq (sAsg (.tp [(.nm 10), (.nm 11), (.nm 12), (.nm 13)]) (b2 (b2 (var 1) (var 3) dSub1) (cst (.int 0)) dSub1)) (sSeq (sAsg (.tp [(.nm 14), (.nm 15), (.nm 16)]) (b2 (b2 (b2 (var 0) (cst (.int 0)) dSub1) (var 7) dSub1) (var 8) dSub1)) (sSeq (sIf (tst (b2 (lcF (asSeq (b2 (var 2) (var 3) dSub1)) (.nm 17) (fAnd (tst (b2 (b2 (var 17) (cst (.int 0)) dSub1) (var 6) dLe)) (tst (b2 (var 5) (b2 (var 17) (cst (.int 1)) dSub1) dLe))) (var 17) [17]) (mkL aNil) dNe)) (sRet (cst (.str "is elsewhere"))) sNil) (sSeq (sIf (fOr (tst (b2 (var 9) (cst (.int 0)) dLt)) (tst (b2 (b2 (var 9) (var 10) dAdd) (var 14) dGt))) (sRet (cst (.str "no space"))) sNil) (sSeq (sSet 18 (var 12)) (sSeq (sFor (rng2 (aCons (var 5) (aCons (b2 (var 6) (cst (.int 1)) dAdd) aNil))) (.nm 19) l2__law_beside) (sRet (fIf (tst (b2 (var 18) (var 15) dGt)) (cst (.str "too heavy")) (cst .non))))))))))
def m__law_beside : List Hr.D → Sto → Out Hr.D := runB 22 b__law_beside
def b__law_placed : Sv :=
  (sSeq (sIf (tst (b2 (b2 (b2 (b2 (b2 (var 0) (cst (.int 0)) dSub1) (var 2) dSub1) (var 3) dSub1) (cst (.int 2)) dSub1) (b2 (var 1) (cst (.int 3)) dSub1) dGt)) (sRet (cst (.str "too bright"))) sNil) (sRet (fIf (tst (b2 (var 2) (b1 (aCons (var 0) (aCons (var 1) aNil)) m__law_by) dIn)) (cst .non) (cst (.str "no way")))))
def m__law_placed : List Hr.D → Sto → Out Hr.D := runB 4 b__law_placed
def b__law_rows : Sv :=
  (sSeq (sAsg (.tp [(.nm 4), (.nm 5)]) (b3 (var 3) oNone (oSome (cst (.int 2))) dSl)) (sSeq (sAsg (.tp [(.nm 6), (.nm 7), (.nm 8)]) (b2 (var 1) (var 5) dSub1)) (sSeq (sIf (tst (b2 (var 4) (cst (.str "hang")) dEq)) (sSeq (sAsg (.tp [(.nm 9), (.nm 10), (.nm 11), (.nm 12), (.nm 13)]) (b3 (var 3) (oSome (cst (.int 2))) oNone dSl)) (sSeq (sIf (fOr (fNot (ch3 (cst (.int 0)) (var 12) (var 13) (cst (.int 99)))) (fOr (tst (b2 (var 12) (var 7) dLt)) (tst (b2 (var 13) (var 8) dGt)))) (sRet (cst (.str "no days"))) sNil) (sSeq (sSet 14 (mkT (aCons (var 12) (aCons (var 13) (aCons (var 9) (aCons (var 10) (aCons (var 11) aNil))))))) (sSeq (sSet 15 (tOr (b1 (aCons (var 0) (aCons (var 6) (aCons (var 9) (aCons (var 10) aNil)))) m__law_placed) (b1 (aCons (var 0) (aCons (var 1) (aCons (var 2) (aCons (var 5) (aCons (var 14) aNil))))) m__law_beside))) (sRet (tOr (var 15) (mkT (aCons (b1 (b2 (b2 (var 2) (var 5) dSub1) (mkL (aCons (var 14) aNil)) dAdd) dSortC) (aCons (b2 (b1 (b2 (var 2) (var 5) dSub1) dLen) (cst (.int 1)) dAdd) aNil))))))))) sNil) (sSeq (sSet 16 (b2 (var 3) (cst (.int 2)) dSub1)) (sSeq (sSet 17 (lcF (asSeq (b2 (var 2) (var 5) dSub1)) (.nm 14) (tst (chI (fun i j => decide (i ≤ j)) (fun i j => decide (i ≤ j)) (b2 (var 14) (cst (.int 0)) dSub1) (var 16) (b2 (var 14) (cst (.int 1)) dSub1))) (var 14) [14])) (sSeq (sIf (tst (b2 (var 17) (mkL aNil) dEq)) (sRet (cst (.str "no hanging"))) sNil) (sSeq (sSet 18 (lcF (asSeq (b2 (var 2) (var 5) dSub1)) (.nm 14) (tst (b2 (var 14) (b2 (var 17) (cst (.int 0)) dSub1) dNe)) (var 14) [14])) (sSeq (sIf (tst (b2 (var 4) (cst (.str "take_down")) dEq)) (sRet (mkT (aCons (var 18) (aCons (b2 (var 17) (cst (.int 0)) dSub1) aNil)))) sNil) (sSeq (sSet 19 (b1 (var 2) dDict)) (sSeq (sPut 19 (var 5) (var 18)) (sSeq (sIf (tst (b2 (var 4) (cst (.str "extend")) dEq)) (sSeq (sIf (fNot (tst (chI (fun i j => decide (i ≤ j)) (fun i j => decide (i ≤ j)) (b2 (b2 (var 17) (cst (.int 0)) dSub1) (cst (.int 0)) dSub1) (b2 (var 3) (cst (.int 3)) dSub1) (var 8)))) (sRet (cst (.str "no days"))) sNil) (sPar [(14, false), (15, false)] (aCons (b2 (mkT (aCons (b2 (b2 (var 17) (cst (.int 0)) dSub1) (cst (.int 0)) dSub1) (aCons (b2 (var 3) (cst (.int 3)) dSub1) aNil))) (b3 (b2 (var 17) (cst (.int 0)) dSub1) (oSome (cst (.int 2))) oNone dSl) dAdd) (aCons (cst .non) aNil)))) (sPar [(14, false), (15, false)] (aCons (b2 (b3 (b2 (var 17) (cst (.int 0)) dSub1) oNone (oSome (cst (.int 2))) dSl) (b3 (var 3) (oSome (cst (.int 3))) oNone dSl) dAdd) (aCons (b1 (aCons (var 0) (aCons (var 6) (aCons (b2 (var 3) (cst (.int 3)) dSub1) (aCons (b2 (var 3) (cst (.int 4)) dSub1) aNil)))) m__law_placed) aNil)))) (sSeq (sSet 15 (tOr (var 15) (b1 (aCons (var 0) (aCons (var 1) (aCons (var 19) (aCons (var 5) (aCons (var 14) aNil))))) m__law_beside))) (sRet (tOr (var 15) (mkT (aCons (b1 (b2 (var 18) (mkL (aCons (var 14) aNil)) dAdd) dSortC) (aCons (var 14) aNil)))))))))))))))))
def m__law_rows : List Hr.D → Sto → Out Hr.D := runB 20 b__law_rows
def b__law_less : Sv :=
  (sRet (b1 (lcF (asKeys (var 0)) (.nm 2) (tst (b2 (var 2) (var 1) dNe)) (mkT (aCons (var 2) (aCons (b2 (var 0) (var 2) dSub1) aNil))) [2]) dDict))
def m__law_less : List Hr.D → Sto → Out Hr.D := runB 3 b__law_less
def b__law_behind : Sv :=
  (sSeq (sPar [(3, true), (4, true)] (aCons (b1 (b2 (var 1) (cst (.int 0)) dSub1) dDict) (aCons (b1 (b2 (var 1) (cst (.int 1)) dSub1) dDict) aNil))) (sSeq (sAsg (.tp [(.nm 5), (.nm 6)]) (b3 (var 2) oNone (oSome (cst (.int 2))) dSl)) (sSeq (sIf (tst (b2 (var 5) (cst (.str "lend")) dEq)) (sSeq (sIf (fOr (fNot (ch3 (cst (.int 0)) (b2 (var 2) (cst (.int 3)) dSub1) (b2 (var 2) (cst (.int 4)) dSub1) (cst (.int 99)))) (tst (b2 (var 6) (var 3) dIn))) (sRet (mkT (aCons (var 1) (aCons (fIf (ch3 (cst (.int 0)) (b2 (var 2) (cst (.int 3)) dSub1) (b2 (var 2) (cst (.int 4)) dSub1) (cst (.int 99))) (cst (.str "is taken")) (cst (.str "no days"))) aNil)))) sNil) (sSeq (sPut2 3 4 6 6 (b3 (var 2) (oSome (cst (.int 2))) oNone dSl) (mkL aNil)) (sRet (mkT (aCons (mkT (aCons (var 3) (aCons (var 4) aNil))) (aCons (b1 (var 3) dLen) aNil)))))) sNil) (sSeq (sIf (tst (b2 (var 6) (var 3) dNotIn)) (sRet (mkT (aCons (var 1) (aCons (cst (.str "no name")) aNil)))) sNil) (sSeq (sIf (tst (b2 (var 5) (cst (.str "send_back")) dEq)) (sSeq (sSet 7 (b1 (b2 (var 4) (var 6) dSub1) dLen)) (sRet (mkT (aCons (mkT (aCons (b1 (aCons (var 3) (aCons (var 6) aNil)) m__law_less) (aCons (b1 (aCons (var 4) (aCons (var 6) aNil)) m__law_less) aNil))) (aCons (var 7) aNil))))) sNil) (sSeq (sIf (tst (b2 (var 5) (cst (.str "lengthen")) dEq)) (sSeq (sSet 8 (lcF (asSeq (b2 (var 4) (var 6) dSub1)) (.nm 9) (fOr (tst (b2 (b2 (var 9) (cst (.int 0)) dSub1) (b2 (var 2) (cst (.int 2)) dSub1) dLt)) (tst (b2 (b2 (var 9) (cst (.int 1)) dSub1) (b2 (var 2) (cst (.int 3)) dSub1) dGt))) (var 9) [9])) (sSeq (sIf (fOr (fNot (ch3 (cst (.int 0)) (b2 (var 2) (cst (.int 2)) dSub1) (b2 (var 2) (cst (.int 3)) dSub1) (cst (.int 99)))) (tst (b2 (var 8) (mkL aNil) dNe))) (sRet (mkT (aCons (var 1) (aCons (cst (.str "no days")) aNil)))) sNil) (sSeq (sPut 3 (var 6) (b2 (mkT (aCons (b2 (b2 (var 3) (var 6) dSub1) (cst (.int 0)) dSub1) aNil)) (b3 (var 2) (oSome (cst (.int 2))) oNone dSl) dAdd)) (sRet (mkT (aCons (mkT (aCons (var 3) (aCons (var 4) aNil))) (aCons (cst .non) aNil))))))) sNil) (sSeq (sBor 4 10 (b1 (aCons (var 0) (aCons (var 3) (aCons (var 4) (aCons (var 2) aNil)))) m__law_rows)) (sSeq (sIf (tst (b1 (var 10) (dIsi .str))) (sRet (mkT (aCons (var 1) (aCons (var 10) aNil)))) sNil) (sSeq (sPut 4 (var 6) (b2 (var 10) (cst (.int 0)) dSub1)) (sRet (mkT (aCons (mkT (aCons (var 3) (aCons (var 4) aNil))) (aCons (b2 (var 10) (cst (.int 1)) dSub1) aNil)))))))))))))
def m__law_behind : List Hr.D → Sto → Out Hr.D := runB 11 b__law_behind
def b__law_did : Sv :=
  (sSeq (sAsg (.tp [(.nm 2), (.nm 3)]) (b3 (var 1) oNone (oSome (cst (.int 2))) dSl)) (sSeq (sIf (tst (b2 (var 2) (cst (.str "hang")) dEq)) (sRet (told tw (mcl (var 0) (aCons (var 3) (aCons (b2 (var 1) (cst (.int 2)) dSub1) (aCons (b2 (var 1) (cst (.int 3)) dSub1) (aCons (b2 (var 1) (cst (.int 4)) dSub1) (aCons (b2 (var 1) (cst (.int 5)) dSub1) (aCons (b2 (var 1) (cst (.int 6)) dSub1) aNil)))))) m_Show_hang))) sNil) (sSeq (sIf (tst (b2 (var 2) (cst (.str "move")) dEq)) (sRet (told tw (mcl (var 0) (aCons (var 3) (aCons (b2 (var 1) (cst (.int 2)) dSub1) (aCons (b2 (var 1) (cst (.int 3)) dSub1) (aCons (b2 (var 1) (cst (.int 4)) dSub1) (aCons (b2 (var 1) (cst (.int 5)) dSub1) aNil))))) m_Show_move))) sNil) (sSeq (sIf (tst (b2 (var 2) (cst (.str "lend")) dEq)) (sRet (told tw (mcl (var 0) (aCons (var 3) (aCons (b2 (var 1) (cst (.int 2)) dSub1) (aCons (b2 (var 1) (cst (.int 3)) dSub1) (aCons (b2 (var 1) (cst (.int 4)) dSub1) aNil)))) m_Show_lend))) sNil) (sSeq (sIf (tst (b2 (var 2) (cst (.str "extend")) dEq)) (sRet (told tw (mcl (var 0) (aCons (var 3) (aCons (b2 (var 1) (cst (.int 2)) dSub1) (aCons (b2 (var 1) (cst (.int 3)) dSub1) aNil))) m_Show_extend))) sNil) (sSeq (sIf (tst (b2 (var 2) (cst (.str "lengthen")) dEq)) (sRet (told tw (mcl (var 0) (aCons (var 3) (aCons (b2 (var 1) (cst (.int 2)) dSub1) (aCons (b2 (var 1) (cst (.int 3)) dSub1) aNil))) m_Show_lengthen))) sNil) (sSeq (sIf (tst (b2 (var 2) (cst (.str "take_down")) dEq)) (sRet (told tw (mcl (var 0) (aCons (var 3) (aCons (b2 (var 1) (cst (.int 2)) dSub1) aNil)) m_Show_take_down))) sNil) (sRet (told tw (mcl (var 0) (aCons (var 3) aNil) m_Show_send_back))))))))))
def m__law_did : List Hr.D → Sto → Out Hr.D := runB 4 b__law_did
def b__law_all : Sv :=
  (sSeq (sSet 1 (mcl (var 0) aNil m_Show_names)) (sRet (mkT (aCons (b1 (lcF (asSeq (var 1)) (.nm 2) yes (mkT (aCons (var 2) (aCons (mcl (var 0) (aCons (var 2) aNil) m_Show_loan) aNil))) [2]) dDict) (aCons (b1 (lcF (asSeq (var 1)) (.nm 2) yes (mkT (aCons (var 2) (aCons (mcl (var 0) (aCons (var 2) aNil) m_Show_hangings) aNil))) [2]) dDict) aNil)))))
def m__law_all : List Hr.D → Sto → Out Hr.D := runB 3 b__law_all
abbrev l1__law_hand : Sv :=
  (sExt 5 (lcF (asSeq (b2 (b2 (var 2) (cst (.int 1)) dSub1) (var 6) dSub1)) (.nm 7) (tst (b2 (b3 (var 7) (oSome (cst (.int 2))) (oSome (cst (.int 4))) dSl) (var 3) dEq)) (b2 (b2 (var 7) (cst (.int 4)) dSub1) (b2 (b2 (b2 (b2 (var 2) (cst (.int 0)) dSub1) (var 6) dSub1) (cst (.int 0)) dSub1) (cst (.int 0)) dSub1) dAdd) [7]))
def b__law_hand : Sv :=
  (sSeq (sSet 5 (mkL (aCons (cst (.int 0)) aNil))) (sSeq (sFor (asSeq (b1 (b2 (var 2) (cst (.int 1)) dSub1) dSortC)) (.nm 6) l1__law_hand) (sRet (b2 (mkL (aCons (b1 (var 5) dMax1) (aCons (b1 (var 5) dMax1) (aCons (b2 (var 5) (b1 (cst (.int 1)) dNeg) dSub1) (aCons (cst (.int 0)) (aCons (b1 (aCons (var 0) (aCons (b2 (var 1) (cst (.int 7)) dAdd) (aCons (var 4) aNil))) m__law_pick) (aCons (b2 (var 4) (cst (.int 2)) dSub) aNil))))))) (b1 (aCons (var 0) (aCons (b2 (var 1) (cst (.int 8)) dAdd) (aCons (cst (.int 6)) aNil))) m__law_pick) dSub1))))
def m__law_hand : List Hr.D → Sto → Out Hr.D := runB 8 b__law_hand
abbrev l1__law_deed : Sv :=
  (sExt 6 (lcF (rng1 (aCons (b1 (var 8) dLen) aNil)) (.nm 9) yes (mkT (aCons (var 7) (aCons (var 9) aNil))) [9]))
def b__law_deed : Sv :=
  (sSeq (sAsg (.tp [(.nm 4), (.nm 5)]) (mkT (aCons (mkL (aCons (cst (.str "a")) (aCons (cst (.str "ab")) (aCons (cst (.str "cdef")) (aCons (cst (.str "q")) (aCons (cst (.str "zz")) aNil)))))) (aCons (b2 (var 3) (cst (.int 0)) dSub1) aNil)))) (sSeq (sSet 6 (mkL aNil)) (sSeq (sFor (enumF (aCons (b2 (var 2) (cst (.int 0)) dSub1) aNil)) (.tp [(.nm 7), (.nm 8)]) l1__law_deed) (sSeq (sPar [(10, false), (11, false)] (aCons (b1 (aCons (var 0) (aCons (var 1) (aCons (cst (.int 16)) aNil))) m__law_pick) (aCons (b2 (var 4) (b1 (aCons (var 0) (aCons (b2 (var 1) (cst (.int 1)) dAdd) (aCons (cst (.int 5)) aNil))) m__law_pick) dSub1) aNil))) (sSeq (sSet 12 (b1 (aCons (var 0) (aCons (b2 (var 1) (cst (.int 2)) dAdd) (aCons (cst (.int 9)) aNil))) m__law_pick)) (sSeq (sIf (fAnd (tst (b2 (b1 (var 5) dLen) (cst (.int 4)) dLt)) (tst (b2 (b1 (aCons (var 0) (aCons (b2 (var 1) (cst (.int 14)) dAdd) (aCons (cst (.int 8)) aNil))) m__law_pick) (cst (.int 0)) dGt))) (sSeq (sSet 13 (lcF (asSeq (var 4)) (.nm 14) (tst (b2 (var 14) (var 5) dNotIn)) (var 14) [14])) (sSeq (sSet 11 (b2 (var 13) (b1 (aCons (var 0) (aCons (b2 (var 1) (cst (.int 1)) dAdd) (aCons (b1 (var 13) dLen) aNil))) m__law_pick) dSub1)) (sRet (mkT (aCons (cst (.str "lend")) (aCons (var 11) (aCons (b1 (aCons (var 0) (aCons (b2 (var 1) (cst (.int 20)) dAdd) aNil)) m__law_picture) (aCons (b2 (var 12) (cst (.int 3)) dMod) (aCons (b2 (cst (.int 12)) (var 12) dAdd) aNil))))))))) sNil) (sSeq (sIf (fOr (tst (b2 (var 5) mkK0 dEqA)) (fOr (tst (b2 (var 10) (cst (.int 2)) dLt)) (tst (b2 (var 6) (mkL aNil) dEq)))) (sSeq (sSet 15 (b2 (var 12) (b2 (mkL (aCons (cst (.int 0)) (aCons (cst (.int 3)) (aCons (cst (.int 6)) (aCons (cst (.int 12)) (aCons (b1 (cst (.int 1)) dNeg) (aCons (cst (.int 99)) aNil))))))) (b1 (aCons (var 0) (aCons (b2 (var 1) (cst (.int 3)) dAdd) (aCons (cst (.int 6)) aNil))) m__law_pick) dSub1) dAdd)) (sRet (mkT (aCons (cst (.str "lend")) (aCons (var 11) (aCons (b1 (aCons (var 0) (aCons (b2 (var 1) (cst (.int 20)) dAdd) aNil)) m__law_picture) (aCons (var 12) (aCons (var 15) aNil)))))))) sNil) (sSeq (sIf (tst (b2 (b1 (aCons (var 0) (aCons (b2 (var 1) (cst (.int 4)) dAdd) (aCons (cst (.int 9)) aNil))) m__law_pick) (cst (.int 0)) dGt)) (sSet 11 (b2 (b1 (var 5) dSortC) (b1 (aCons (var 0) (aCons (b2 (var 1) (cst (.int 5)) dAdd) (aCons (b1 (var 5) dLen) aNil))) m__law_pick) dSub1)) sNil) (sSeq (sAsg (.tp [(.nm 7), (.nm 9)]) (b2 (var 6) (b2 (b1 (aCons (var 0) (aCons (b2 (var 1) (cst (.int 6)) dAdd) (aCons (b1 (var 6) dLen) aNil))) m__law_pick) (b1 (b2 (b1 (aCons (var 0) (aCons (b2 (var 1) (cst (.int 15)) dAdd) (aCons (cst (.int 2)) aNil))) m__law_pick) (cst (.int 0)) dEq) dInt) dMul) dSub1)) (sSeq (sSet 16 (b1 (aCons (var 0) (aCons (var 1) (aCons (var 3) (aCons (mkT (aCons (var 7) (aCons (var 9) aNil))) (aCons (b2 (b2 (b2 (b2 (var 2) (cst (.int 0)) dSub1) (var 7) dSub1) (var 9) dSub1) (cst (.int 0)) dSub1) aNil))))) m__law_hand)) (sSeq (sIf (fAnd (tst (b2 (var 10) (cst (.int 10)) dGt)) (fAnd (tst (b2 (dGet2 (b2 (var 3) (cst (.int 1)) dSub1) (var 11) (mkL aNil)) (mkL aNil) dNe)) (tst (b2 (b1 (aCons (var 0) (aCons (b2 (var 1) (cst (.int 18)) dAdd) (aCons (cst (.int 4)) aNil))) m__law_pick) (cst (.int 0)) dGt)))) (sSet 12 (b2 (b2 (b2 (b2 (var 3) (cst (.int 1)) dSub1) (var 11) dSub1) (cst (.int 0)) dSub1) (b1 (aCons (var 0) (aCons (b2 (var 1) (cst (.int 19)) dAdd) (aCons (cst (.int 2)) aNil))) m__law_pick) dSub1)) sNil) (sSeq (sIf (tst (b2 (var 10) (cst (.int 10)) dLt)) (sSeq (sSet 17 (fIf (tst (b2 (var 11) (var 5) dIn)) (b2 (b2 (b2 (var 5) (var 11) dSub1) (cst (.int 1)) dSub1) (b2 (mkL (aCons (cst (.int 0)) (aCons (cst (.int 0)) (aCons (cst (.int 1)) (aCons (cst (.int 3)) (aCons (cst (.int 6)) (aCons (cst (.int 9)) aNil))))))) (b1 (aCons (var 0) (aCons (b2 (var 1) (cst (.int 9)) dAdd) (aCons (cst (.int 6)) aNil))) m__law_pick) dSub1) dAdd) (var 12))) (sRet (mkT (aCons (cst (.str "hang")) (aCons (var 11) (aCons (var 7) (aCons (var 9) (aCons (var 16) (aCons (var 17) (aCons (b2 (var 17) (b2 (mkL (aCons (cst (.int 0)) (aCons (cst (.int 1)) (aCons (cst (.int 2)) (aCons (cst (.int 4)) (aCons (cst (.int 8)) (aCons (b1 (cst (.int 1)) dNeg) aNil))))))) (b1 (aCons (var 0) (aCons (b2 (var 1) (cst (.int 10)) dAdd) (aCons (cst (.int 6)) aNil))) m__law_pick) dSub1) dAdd) aNil)))))))))) sNil) (sSeq (sIf (tst (b2 (var 10) (cst (.int 10)) dEq)) (sRet (mkT (aCons (cst (.str "lengthen")) (aCons (var 11) (aCons (var 12) (aCons (b2 (var 12) (b2 (mkL (aCons (cst (.int 0)) (aCons (cst (.int 6)) (aCons (cst (.int 20)) (aCons (cst (.int 90)) (aCons (cst (.int 99)) (aCons (b1 (cst (.int 1)) dNeg) aNil))))))) (b1 (aCons (var 0) (aCons (b2 (var 1) (cst (.int 11)) dAdd) (aCons (cst (.int 6)) aNil))) m__law_pick) dSub1) dAdd) aNil)))))) sNil) (sSeq (sIf (tst (b2 (var 10) (cst (.int 11)) dEq)) (sRet (b2 (mkL (aCons (mkT (aCons (cst (.str "send_back")) (aCons (var 11) aNil))) (aCons (mkT (aCons (cst (.str "take_down")) (aCons (var 11) (aCons (var 12) aNil)))) aNil))) (b1 (b2 (b1 (aCons (var 0) (aCons (b2 (var 1) (cst (.int 12)) dAdd) (aCons (cst (.int 3)) aNil))) m__law_pick) (cst (.int 0)) dGt) dInt) dSub1)) sNil) (sSeq (sIf (tst (b2 (var 10) (cst (.int 14)) dLt)) (sRet (mkT (aCons (cst (.str "extend")) (aCons (var 11) (aCons (var 12) (aCons (b1 (aCons (var 0) (aCons (b2 (var 1) (cst (.int 13)) dAdd) (aCons (cst (.int 14)) aNil))) m__law_pick) aNil)))))) sNil) (sRet (mkT (aCons (cst (.str "move")) (aCons (var 11) (aCons (var 12) (aCons (var 7) (aCons (var 9) (aCons (var 16) aNil)))))))))))))))))))))))
def m__law_deed : List Hr.D → Sto → Out Hr.D := runB 18 b__law_deed
abbrev l1__law_drawn : Sv :=
  (sSeq (sSet 7 (b1 (aCons (var 0) (aCons (b2 (var 1) (b2 (cst (.int 60)) (var 6) dMul) dAdd) (aCons (var 3) (aCons (var 4) aNil)))) m__law_deed)) (sSeq (sSet 4 (b2 (b1 (aCons (var 3) (aCons (var 4) (aCons (var 7) aNil))) m__law_behind) (cst (.int 0)) dSub1)) (sExp (b1 (aCons (var 5) (aCons (var 7) aNil)) m__law_did))))
def b__law_drawn : Sv :=
  (sSeq (sPar [(3, false), (4, false)] (aCons (b1 (aCons (var 0) (aCons (cst (.int 0)) aNil)) m__law_house) (aCons (mkT (aCons mkK0 (aCons mkK0 aNil))) aNil))) (sSeq (sSet 5 (mkO (aCons (var 3) aNil) m_Show___init__)) (sSeq (sFor (rng1 (aCons (var 2) aNil)) (.nm 6) l1__law_drawn) (sRet (mkT (aCons (var 5) (aCons (var 4) aNil)))))))
def m__law_drawn : List Hr.D → Sto → Out Hr.D := runB 8 b__law_drawn
abbrev l1__law_on : Sv :=
  (sExt 2 (lcF (asSeq (b2 (b2 (var 0) (cst (.int 1)) dSub1) (var 3) dSub1)) (.nm 4) (tst (chI (fun i j => decide (i ≤ j)) (fun i j => decide (i ≤ j)) (b2 (var 4) (cst (.int 0)) dSub1) (var 1) (b2 (var 4) (cst (.int 1)) dSub1))) (b2 (b3 (var 4) (oSome (cst (.int 2))) oNone dSl) (mkT (aCons (var 3) aNil)) dAdd) [4]))
def b__law_on : Sv :=
  (sSeq (sSet 2 (mkL aNil)) (sSeq (sFor (asKeys (b2 (var 0) (cst (.int 1)) dSub1)) (.nm 3) l1__law_on) (sRet (b1 (var 2) dSortC))))
def m__law_on : List Hr.D → Sto → Out Hr.D := runB 5 b__law_on
end Law

namespace Law
open PySem PySem.Spec PyProof.Rows L2 Hr
open Hr.D
structure Tx (K : PySem.W.Frag) (mg : Str → Option Value) : Prop where
  g_is_whole : mg "is_whole" = some (.ref (He.ga K "is_whole"))
  d_is_whole : ∃ fd, FunD K "is_whole" "is_whole" (defArgs s_is_whole) (defBody s_is_whole) (defScope s_is_whole) [] [] (He.ga K "is_whole") fd
  g_are_numbers : mg "are_numbers" = some (.ref (He.ga K "are_numbers"))
  d_are_numbers : ∃ fd, FunD K "are_numbers" "are_numbers" (defArgs s_are_numbers) (defBody s_are_numbers) (defScope s_are_numbers) [] [] (He.ga K "are_numbers") fd
  g_is_wall : mg "is_wall" = some (.ref (He.ga K "is_wall"))
  d_is_wall : ∃ fd, FunD K "is_wall" "is_wall" (defArgs s_is_wall) (defBody s_is_wall) (defScope s_is_wall) [] [] (He.ga K "is_wall") fd
  g_is_room : mg "is_room" = some (.ref (He.ga K "is_room"))
  d_is_room : ∃ fd, FunD K "is_room" "is_room" (defArgs s_is_room) (defBody s_is_room) (defScope s_is_room) [] [] (He.ga K "is_room") fd
  g_are_doors : mg "are_doors" = some (.ref (He.ga K "are_doors"))
  d_are_doors : ∃ fd, FunD K "are_doors" "are_doors" (defArgs s_are_doors) (defBody s_are_doors) (defScope s_are_doors) [] [] (He.ga K "are_doors") fd
  g_is_house : mg "is_house" = some (.ref (He.ga K "is_house"))
  d_is_house : ∃ fd, FunD K "is_house" "is_house" (defArgs s_is_house) (defBody s_is_house) (defScope s_is_house) [] [] (He.ga K "is_house") fd
  g_is_picture : mg "is_picture" = some (.ref (He.ga K "is_picture"))
  d_is_picture : ∃ fd, FunD K "is_picture" "is_picture" (defArgs s_is_picture) (defBody s_is_picture) (defScope s_is_picture) [] [] (He.ga K "is_picture") fd
  g_look_house : mg "look_house" = some (.ref (He.ga K "look_house"))
  d_look_house : ∃ fd, FunD K "look_house" "look_house" (defArgs s_look_house) (defBody s_look_house) (defScope s_look_house) [] [] (He.ga K "look_house") fd
  g_look_picture : mg "look_picture" = some (.ref (He.ga K "look_picture"))
  d_look_picture : ∃ fd, FunD K "look_picture" "look_picture" (defArgs s_look_picture) (defBody s_look_picture) (defScope s_look_picture) [] [] (He.ga K "look_picture") fd
  g_look_room : mg "look_room" = some (.ref (He.ga K "look_room"))
  d_look_room : ∃ fd, FunD K "look_room" "look_room" (defArgs s_look_room) (defBody s_look_room) (defScope s_look_room) [] [] (He.ga K "look_room") fd
  g_look_wall : mg "look_wall" = some (.ref (He.ga K "look_wall"))
  d_look_wall : ∃ fd, FunD K "look_wall" "look_wall" (defArgs s_look_wall) (defBody s_look_wall) (defScope s_look_wall) [] [] (He.ga K "look_wall") fd
  g_walls_in : mg "walls_in" = some (.ref (He.ga K "walls_in"))
  d_walls_in : ∃ fd, FunD K "walls_in" "walls_in" (defArgs s_walls_in) (defBody s_walls_in) (defScope s_walls_in) [] [] (He.ga K "walls_in") fd
  g_doors_by : mg "doors_by" = some (.ref (He.ga K "doors_by"))
  d_doors_by : ∃ fd, FunD K "doors_by" "doors_by" (defArgs s_doors_by) (defBody s_doors_by) (defScope s_doors_by) [] [] (He.ga K "doors_by") fd
  g_side_of : mg "side_of" = some (.ref (He.ga K "side_of"))
  d_side_of : ∃ fd, FunD K "side_of" "side_of" (defArgs s_side_of) (defBody s_side_of) (defScope s_side_of) [] [] (He.ga K "side_of") fd
  g_nexts : mg "nexts" = some (.ref (He.ga K "nexts"))
  d_nexts : ∃ fd, FunD K "nexts" "nexts" (defArgs s_nexts) (defBody s_nexts) (defScope s_nexts) [] [] (He.ga K "nexts") fd
  g_steps_from : mg "steps_from" = some (.ref (He.ga K "steps_from"))
  d_steps_from : ∃ fd, FunD K "steps_from" "steps_from" (defArgs s_steps_from) (defBody s_steps_from) (defScope s_steps_from) [] [] (He.ga K "steps_from") fd
  g_shortest : mg "shortest" = some (.ref (He.ga K "shortest"))
  d_shortest : ∃ fd, FunD K "shortest" "shortest" (defArgs s_shortest) (defBody s_shortest) (defScope s_shortest) [] [] (He.ga K "shortest") fd
  g_way : mg "way" = some (.ref (He.ga K "way"))
  d_way : ∃ fd, FunD K "way" "way" (defArgs s_way) (defBody s_way) (defScope s_way) [] [] (He.ga K "way") fd
  g_rooms_for : mg "rooms_for" = some (.ref (He.ga K "rooms_for"))
  d_rooms_for : ∃ fd, FunD K "rooms_for" "rooms_for" (defArgs s_rooms_for) (defBody s_rooms_for) (defScope s_rooms_for) [] [] (He.ga K "rooms_for") fd
  g_highest : mg "highest" = some (.ref (He.ga K "highest"))
  d_highest : ∃ fd, FunD K "highest" "highest" (defArgs s_highest) (defBody s_highest) (defScope s_highest) [] [] (He.ga K "highest") fd
  g_is_name : mg "is_name" = some (.ref (He.ga K "is_name"))
  d_is_name : ∃ fd, FunD K "is_name" "is_name" (defArgs s_is_name) (defBody s_is_name) (defScope s_is_name) [] [] (He.ga K "is_name") fd
  g_is_day : mg "is_day" = some (.ref (He.ga K "is_day"))
  d_is_day : ∃ fd, FunD K "is_day" "is_day" (defArgs s_is_day) (defBody s_is_day) (defScope s_is_day) [] [] (He.ga K "is_day") fd
  g_look_day : mg "look_day" = some (.ref (He.ga K "look_day"))
  d_look_day : ∃ fd, FunD K "look_day" "look_day" (defArgs s_look_day) (defBody s_look_day) (defScope s_look_day) [] [] (He.ga K "look_day") fd
  g_look_days : mg "look_days" = some (.ref (He.ga K "look_days"))
  d_look_days : ∃ fd, FunD K "look_days" "look_days" (defArgs s_look_days) (defBody s_look_days) (defScope s_look_days) [] [] (He.ga K "look_days") fd
  g_do_meet : mg "do_meet" = some (.ref (He.ga K "do_meet"))
  d_do_meet : ∃ fd, FunD K "do_meet" "do_meet" (defArgs s_do_meet) (defBody s_do_meet) (defScope s_do_meet) [] [] (He.ga K "do_meet") fd
  g_Show___init__ : Meth K (He.ga K "Show") "__init__" (He.ma K (He.ga K "Show") "__init__")
  d_Show___init__ : ∃ fd, FunD K "__init__" "Show.__init__" (defArgs s_Show___init__) (defBody s_Show___init__) (defScope s_Show___init__) [] [] (He.ma K (He.ga K "Show") "__init__") fd
  g_Show_house : Meth K (He.ga K "Show") "house" (He.ma K (He.ga K "Show") "house")
  d_Show_house : ∃ fd, FunD K "house" "Show.house" (defArgs s_Show_house) (defBody s_Show_house) (defScope s_Show_house) [] [] (He.ma K (He.ga K "Show") "house") fd
  g_Show_step : Meth K (He.ga K "Show") "step" (He.ma K (He.ga K "Show") "step")
  d_Show_step : ∃ fd, FunD K "step" "Show.step" (defArgs s_Show_step) (defBody s_Show_step) (defScope s_Show_step) [] [] (He.ma K (He.ga K "Show") "step") fd
  g_Show_look : Meth K (He.ga K "Show") "look" (He.ma K (He.ga K "Show") "look")
  d_Show_look : ∃ fd, FunD K "look" "Show.look" (defArgs s_Show_look) (defBody s_Show_look) (defScope s_Show_look) [] [] (He.ma K (He.ga K "Show") "look") fd
  g_Show_with_hung : Meth K (He.ga K "Show") "with_hung" (He.ma K (He.ga K "Show") "with_hung")
  d_Show_with_hung : ∃ fd, FunD K "with_hung" "Show.with_hung" (defArgs s_Show_with_hung) (defBody s_Show_with_hung) (defScope s_Show_with_hung) [] [] (He.ma K (He.ga K "Show") "with_hung") fd
  g_Show_lend : Meth K (He.ga K "Show") "lend" (He.ma K (He.ga K "Show") "lend")
  d_Show_lend : ∃ fd, FunD K "lend" "Show.lend" (defArgs s_Show_lend) (defBody s_Show_lend) (defScope s_Show_lend) [] [] (He.ma K (He.ga K "Show") "lend") fd
  g_Show_loan : Meth K (He.ga K "Show") "loan" (He.ma K (He.ga K "Show") "loan")
  d_Show_loan : ∃ fd, FunD K "loan" "Show.loan" (defArgs s_Show_loan) (defBody s_Show_loan) (defScope s_Show_loan) [] [] (He.ma K (He.ga K "Show") "loan") fd
  g_Show_names : Meth K (He.ga K "Show") "names" (He.ma K (He.ga K "Show") "names")
  d_Show_names : ∃ fd, FunD K "names" "Show.names" (defArgs s_Show_names) (defBody s_Show_names) (defScope s_Show_names) [] [] (He.ma K (He.ga K "Show") "names") fd
  g_Show_look_loan : Meth K (He.ga K "Show") "look_loan" (He.ma K (He.ga K "Show") "look_loan")
  d_Show_look_loan : ∃ fd, FunD K "look_loan" "Show.look_loan" (defArgs s_Show_look_loan) (defBody s_Show_look_loan) (defScope s_Show_look_loan) [] [] (He.ma K (He.ga K "Show") "look_loan") fd
  g_Show_look_place : Meth K (He.ga K "Show") "look_place" (He.ma K (He.ga K "Show") "look_place")
  d_Show_look_place : ∃ fd, FunD K "look_place" "Show.look_place" (defArgs s_Show_look_place) (defBody s_Show_look_place) (defScope s_Show_look_place) [] [] (He.ma K (He.ga K "Show") "look_place") fd
  g_Show_look_hanging : Meth K (He.ga K "Show") "look_hanging" (He.ma K (He.ga K "Show") "look_hanging")
  d_Show_look_hanging : ∃ fd, FunD K "look_hanging" "Show.look_hanging" (defArgs s_Show_look_hanging) (defBody s_Show_look_hanging) (defScope s_Show_look_hanging) [] [] (He.ma K (He.ga K "Show") "look_hanging") fd
  g_Show_hang : Meth K (He.ga K "Show") "hang" (He.ma K (He.ga K "Show") "hang")
  d_Show_hang : ∃ fd, FunD K "hang" "Show.hang" (defArgs s_Show_hang) (defBody s_Show_hang) (defScope s_Show_hang) [] [] (He.ma K (He.ga K "Show") "hang") fd
  g_Show_hangings : Meth K (He.ga K "Show") "hangings" (He.ma K (He.ga K "Show") "hangings")
  d_Show_hangings : ∃ fd, FunD K "hangings" "Show.hangings" (defArgs s_Show_hangings) (defBody s_Show_hangings) (defScope s_Show_hangings) [] [] (He.ma K (He.ga K "Show") "hangings") fd
  g_Show_hanging_on : Meth K (He.ga K "Show") "hanging_on" (He.ma K (He.ga K "Show") "hanging_on")
  d_Show_hanging_on : ∃ fd, FunD K "hanging_on" "Show.hanging_on" (defArgs s_Show_hanging_on) (defBody s_Show_hanging_on) (defScope s_Show_hanging_on) [] [] (He.ma K (He.ga K "Show") "hanging_on") fd
  g_Show_where : Meth K (He.ga K "Show") "where" (He.ma K (He.ga K "Show") "where")
  d_Show_where : ∃ fd, FunD K "where" "Show.where" (defArgs s_Show_where) (defBody s_Show_where) (defScope s_Show_where) [] [] (He.ma K (He.ga K "Show") "where") fd
  g_Show_twin : Meth K (He.ga K "Show") "twin" (He.ma K (He.ga K "Show") "twin")
  d_Show_twin : ∃ fd, FunD K "twin" "Show.twin" (defArgs s_Show_twin) (defBody s_Show_twin) (defScope s_Show_twin) [] [] (He.ma K (He.ga K "Show") "twin") fd
  g_hung_on : mg "hung_on" = some (.ref (He.ga K "hung_on"))
  d_hung_on : ∃ fd, FunD K "hung_on" "hung_on" (defArgs s_hung_on) (defBody s_hung_on) (defScope s_hung_on) [] [] (He.ga K "hung_on") fd
  g_rows_on : mg "rows_on" = some (.ref (He.ga K "rows_on"))
  d_rows_on : ∃ fd, FunD K "rows_on" "rows_on" (defArgs s_rows_on) (defBody s_rows_on) (defScope s_rows_on) [] [] (He.ga K "rows_on") fd
  g_stretches : mg "stretches" = some (.ref (He.ga K "stretches"))
  d_stretches : ∃ fd, FunD K "stretches" "stretches" (defArgs s_stretches) (defBody s_stretches) (defScope s_stretches) [] [] (He.ga K "stretches") fd
  g_free : mg "free" = some (.ref (He.ga K "free"))
  d_free : ∃ fd, FunD K "free" "free" (defArgs s_free) (defBody s_free) (defScope s_free) [] [] (He.ga K "free") fd
  g_bare : mg "bare" = some (.ref (He.ga K "bare"))
  d_bare : ∃ fd, FunD K "bare" "bare" (defArgs s_bare) (defBody s_bare) (defScope s_bare) [] [] (He.ga K "bare") fd
  g_days_hung : mg "days_hung" = some (.ref (He.ga K "days_hung"))
  d_days_hung : ∃ fd, FunD K "days_hung" "days_hung" (defArgs s_days_hung) (defBody s_days_hung) (defScope s_days_hung) [] [] (He.ga K "days_hung") fd
  g_idle_days : mg "idle_days" = some (.ref (He.ga K "idle_days"))
  d_idle_days : ∃ fd, FunD K "idle_days" "idle_days" (defArgs s_idle_days) (defBody s_idle_days) (defScope s_idle_days) [] [] (He.ga K "idle_days") fd
  g_dues : mg "dues" = some (.ref (He.ga K "dues"))
  d_dues : ∃ fd, FunD K "dues" "dues" (defArgs s_dues) (defBody s_dues) (defScope s_dues) [] [] (He.ga K "dues") fd
  g_covered_on : mg "covered_on" = some (.ref (He.ga K "covered_on"))
  d_covered_on : ∃ fd, FunD K "covered_on" "covered_on" (defArgs s_covered_on) (defBody s_covered_on) (defScope s_covered_on) [] [] (He.ga K "covered_on") fd
  g_covered : mg "covered" = some (.ref (He.ga K "covered"))
  d_covered : ∃ fd, FunD K "covered" "covered" (defArgs s_covered) (defBody s_covered) (defScope s_covered) [] [] (He.ga K "covered") fd
  g_fullest : mg "fullest" = some (.ref (He.ga K "fullest"))
  d_fullest : ∃ fd, FunD K "fullest" "fullest" (defArgs s_fullest) (defBody s_fullest) (defScope s_fullest) [] [] (He.ga K "fullest") fd
  g_place_ahead : mg "place_ahead" = some (.ref (He.ga K "place_ahead"))
  d_place_ahead : ∃ fd, FunD K "place_ahead" "place_ahead" (defArgs s_place_ahead) (defBody s_place_ahead) (defScope s_place_ahead) [] [] (He.ga K "place_ahead") fd
  g_carried : mg "carried" = some (.ref (He.ga K "carried"))
  d_carried : ∃ fd, FunD K "carried" "carried" (defArgs s_carried) (defBody s_carried) (defScope s_carried) [] [] (He.ga K "carried") fd
  g_room_of : mg "room_of" = some (.ref (He.ga K "room_of"))
  d_room_of : ∃ fd, FunD K "room_of" "room_of" (defArgs s_room_of) (defBody s_room_of) (defScope s_room_of) [] [] (He.ga K "room_of") fd
  g_doors_passed : mg "doors_passed" = some (.ref (He.ga K "doors_passed"))
  d_doors_passed : ∃ fd, FunD K "doors_passed" "doors_passed" (defArgs s_doors_passed) (defBody s_doors_passed) (defScope s_doors_passed) [] [] (He.ga K "doors_passed") fd
  g_days_of : mg "days_of" = some (.ref (He.ga K "days_of"))
  d_days_of : ∃ fd, FunD K "days_of" "days_of" (defArgs s_days_of) (defBody s_days_of) (defScope s_days_of) [] [] (He.ga K "days_of") fd
  g_can_hang : mg "can_hang" = some (.ref (He.ga K "can_hang"))
  d_can_hang : ∃ fd, FunD K "can_hang" "can_hang" (defArgs s_can_hang) (defBody s_can_hang) (defScope s_can_hang) [] [] (He.ga K "can_hang") fd
  g_places_for : mg "places_for" = some (.ref (He.ga K "places_for"))
  d_places_for : ∃ fd, FunD K "places_for" "places_for" (defArgs s_places_for) (defBody s_places_for) (defScope s_places_for) [] [] (He.ga K "places_for") fd
  g_longest_stay : mg "longest_stay" = some (.ref (He.ga K "longest_stay"))
  d_longest_stay : ∃ fd, FunD K "longest_stay" "longest_stay" (defArgs s_longest_stay) (defBody s_longest_stay) (defScope s_longest_stay) [] [] (He.ga K "longest_stay") fd
  g_seen : mg "seen" = some (.ref (He.ga K "seen"))
  d_seen : ∃ fd, FunD K "seen" "seen" (defArgs s_seen) (defBody s_seen) (defScope s_seen) [] [] (He.ga K "seen") fd
  g_tour : mg "tour" = some (.ref (He.ga K "tour"))
  d_tour : ∃ fd, FunD K "tour" "tour" (defArgs s_tour) (defBody s_tour) (defScope s_tour) [] [] (He.ga K "tour") fd
  g__law_cell : mg "_law_cell" = some (.ref (He.ga K "_law_cell"))
  d__law_cell : ∃ fd, FunD K "_law_cell" "_law_cell" (defArgs s__law_cell) (defBody s__law_cell) (defScope s__law_cell) [] [] (He.ga K "_law_cell") fd
  g__law_pick : mg "_law_pick" = some (.ref (He.ga K "_law_pick"))
  d__law_pick : ∃ fd, FunD K "_law_pick" "_law_pick" (defArgs s__law_pick) (defBody s__law_pick) (defScope s__law_pick) [] [] (He.ga K "_law_pick") fd
  g__law_class : mg "_law_class" = some (.ref (He.ga K "_law_class"))
  d__law_class : ∃ fd, FunD K "_law_class" "_law_class" (defArgs s__law_class) (defBody s__law_class) (defScope s__law_class) [] [] (He.ga K "_law_class") fd
  g__law_told : mg "_law_told" = some (.ref (He.ga K "_law_told"))
  d__law_told : ∃ fd, FunD K "_law_told" "_law_told" (defArgs s__law_told) (defBody s__law_told) (defScope s__law_told) [] [] (He.ga K "_law_told") fd
  g_law : mg "law" = some (.ref (He.ga K "law"))
  d_law : ∃ fd, FunD K "law" "law" (defArgs s_law) (defBody s_law) (defScope s_law) [] [] (He.ga K "law") fd
  n_ValueError : mg "ValueError" = none
  n_all : mg "all" = none
  n_any : mg "any" = none
  n_bool : mg "bool" = none
  n_dict : mg "dict" = none
  n_enumerate : mg "enumerate" = none
  n_int : mg "int" = none
  n_isinstance : mg "isinstance" = none
  n_len : mg "len" = none
  n_list : mg "list" = none
  n_max : mg "max" = none
  n_min : mg "min" = none
  n_range : mg "range" = none
  n_set : mg "set" = none
  n_sorted : mg "sorted" = none
  n_str : mg "str" = none
  n_sum : mg "sum" = none
  n_tuple : mg "tuple" = none
  n_zip : mg "zip" = none
  c_HIGHEST : ∃ t, mg "HIGHEST" = some (.int 9 t)
  c_LAST : ∃ t, mg "LAST" = some (.int 99 t)
  c_LONGEST : ∃ t, mg "LONGEST" = some (.int 4 t)
  c_MOST_DOORS : ∃ t, mg "MOST_DOORS" = some (.int 8 t)
  c_MOST_ROOMS : ∃ t, mg "MOST_ROOMS" = some (.int 5 t)
  c_MOST_WALLS : ∃ t, mg "MOST_WALLS" = some (.int 3 t)
  c_SMALL : ∃ t, mg "SMALL" = some (.str "abcdefghijklmnopqrstuvwxyz" t)
  g_Elsewhere : mg "Elsewhere" = some (.ref (He.ga K "Elsewhere"))
  x_Elsewhere : (He.Fa.exc "Elsewhere").ok K = true
  g_NoBack : mg "NoBack" = some (.ref (He.ga K "NoBack"))
  x_NoBack : (He.Fa.exc "NoBack").ok K = true
  g_NoDays : mg "NoDays" = some (.ref (He.ga K "NoDays"))
  x_NoDays : (He.Fa.exc "NoDays").ok K = true
  g_NoHanging : mg "NoHanging" = some (.ref (He.ga K "NoHanging"))
  x_NoHanging : (He.Fa.exc "NoHanging").ok K = true
  g_NoHouse : mg "NoHouse" = some (.ref (He.ga K "NoHouse"))
  x_NoHouse : (He.Fa.exc "NoHouse").ok K = true
  g_NoName : mg "NoName" = some (.ref (He.ga K "NoName"))
  x_NoName : (He.Fa.exc "NoName").ok K = true
  g_NoPicture : mg "NoPicture" = some (.ref (He.ga K "NoPicture"))
  x_NoPicture : (He.Fa.exc "NoPicture").ok K = true
  g_NoRoom : mg "NoRoom" = some (.ref (He.ga K "NoRoom"))
  x_NoRoom : (He.Fa.exc "NoRoom").ok K = true
  g_NoSpace : mg "NoSpace" = some (.ref (He.ga K "NoSpace"))
  x_NoSpace : (He.Fa.exc "NoSpace").ok K = true
  g_NoText : mg "NoText" = some (.ref (He.ga K "NoText"))
  x_NoText : (He.Fa.exc "NoText").ok K = true
  g_NoWall : mg "NoWall" = some (.ref (He.ga K "NoWall"))
  x_NoWall : (He.Fa.exc "NoWall").ok K = true
  g_NoWay : mg "NoWay" = some (.ref (He.ga K "NoWay"))
  x_NoWay : (He.Fa.exc "NoWay").ok K = true
  g_ShowError : mg "ShowError" = some (.ref (He.ga K "ShowError"))
  g_Taken : mg "Taken" = some (.ref (He.ga K "Taken"))
  x_Taken : (He.Fa.exc "Taken").ok K = true
  g_TooBright : mg "TooBright" = some (.ref (He.ga K "TooBright"))
  x_TooBright : (He.Fa.exc "TooBright").ok K = true
  g_TooHeavy : mg "TooHeavy" = some (.ref (He.ga K "TooHeavy"))
  x_TooHeavy : (He.Fa.exc "TooHeavy").ok K = true
  sc : ShowC K (He.ga K "Show")
  mkS : Mk K (He.ga K "Show") (He.ma K (He.ga K "Show") "__init__")
  g_Show : mg "Show" = some (.ref (He.ga K "Show"))
  ea : ExcAll K
section
variable {P : Program} {w : World} {K : PySem.W.Frag} {mg : Str → Option Value} {base : Heap} {T : List (Addr × Str)} {pu : Bool}
theorem ok_is_whole (Tx_ : Tx K mg) : FOk P w K mg base (amb K T pu) "is_whole" 1 ["thing", "low", "high"] rD m_is_whole := by
  exact fnF (F := b_is_whole) (Go := []) (N := N_is_whole) (k := 0) Tx_.g_is_whole Tx_.d_is_whole sc_is_whole (fun _ _ _ _ _ _ us hl => match us, hl with | [_, _, _], _ => rfl) (fun _ _ _ => .inl rfl) fun cdv Ar outer s H E W hcd hr tk po hx => (dss_one (ds_retD rfl (de_and (DE.v (de_isi .int (by rfl) Tx_.n_isinstance bt_isinstance (pe_bltn (by rfl) Tx_.n_int bt_int rfl) (DE.v (de_var (pv 0) (by decide))))) (de_and (DE.v (de_not (DE.v (de_isi .bool (by rfl) Tx_.n_isinstance bt_isinstance (pe_bltn (by rfl) Tx_.n_bool bt_bool rfl) (DE.v (de_var (pv 0) (by decide))))))) (de_and1 (de_chain op_le op_le (DE.v (de_var (pv 1) (by decide))) (DE.v (de_var (pv 0) (by decide))) (DE.v (de_var (pv 2) (by decide)))))))))
theorem ok_are_numbers (Tx_ : Tx K mg) : FOk P w K mg base (amb K T pu) "are_numbers" 2 ["thing", "bounds"] rD m_are_numbers := by
  exact fnF (F := b_are_numbers) (Go := []) (N := N_are_numbers) (k := 1) Tx_.g_are_numbers Tx_.d_are_numbers sc_are_numbers (fun _ _ _ _ _ _ us hl => match us, hl with | [_, _], _ => rfl) (fun _ _ _ => .inl rfl) fun cdv Ar outer s H E W hcd hr tk po hx => (dss_cons (ds_if (DW.t (dw_or (dt_not (dt_val (DE.v (de_isi .tup (by rfl) Tx_.n_isinstance bt_isinstance (pe_bltn (by rfl) Tx_.n_tuple bt_tuple rfl) (DE.v (de_var (pv 0) (by decide))))))) (dw_or1 (Ck.dt (ck_ne (by rfl) hr.units) (DE.v (de_len (by rfl) (by rfl) Tx_.n_len (DE.v (de_var (pv 0) (by decide))))) (DE.v (de_len (by rfl) (by rfl) Tx_.n_len (DE.v (de_var (pv 1) (by decide))))))))) (dss_one (ds_retD rfl de_bl)) dss_nil) (dss_one (ds_retD rfl (de_all (by rfl) (by rfl) Tx_.n_all bt_all (DN.v (dn_lc [2, 3, 4] (by rfl) sc_are_numbers.nd (di_zip (by rfl) Tx_.n_zip (da_cons (de_var (pv 0) (by decide)) (da_cons (de_var (pv 1) (by decide)) da_nil))) (blkOk_by (own := [("one", 2), ("low", 3), ("high", 4)]) (N := N_are_numbers) (sc := defScope s_are_numbers) (by decide +kernel)) rfl (by decide) (fun _ _ _ _ _ => (dg_tp (by rfl) (dgs_cons (dg_nm (pg_name (i := 2) sc_are_numbers.nd (by rfl) (by first | exact Or.inl rfl | exact Or.inr rfl)) (by decide)) (dgs_cons (dg_tp (by rfl) (dgs_cons (dg_nm (pg_name (i := 3) sc_are_numbers.nd (by rfl) (by first | exact Or.inl rfl | exact Or.inr rfl)) (by decide)) (dgs_cons (dg_nm (pg_name (i := 4) sc_are_numbers.nd (by rfl) (by first | exact Or.inl rfl | exact Or.inr rfl)) (by decide)) dgs_nil))) dgs_nil)))) (fun _ _ _ _ _ => dts_nil) (fun _ _ _ _ _ => (d_f shD (ok_is_whole Tx_) (hr.mono (by decide)) (by rfl) passL (da_cons (de_var (pv 2) (by decide)) (da_cons (de_var (pv 3) (by decide)) (da_cons (de_var (pv 4) (by decide)) da_nil)))))))))))
theorem ok_is_wall (Tx_ : Tx K mg) : FOk P w K mg base (amb K T pu) "is_wall" 3 ["thing"] rD m_is_wall := by
  exact fnF (F := b_is_wall) (Go := []) (N := N_is_wall) (k := 2) Tx_.g_is_wall Tx_.d_is_wall sc_is_wall (fun _ _ _ _ _ _ us hl => match us, hl with | [_], _ => rfl) (fun _ _ _ => .inl rfl) fun cdv Ar outer s H E W hcd hr tk po hx => (dss_one (ds_retD rfl (d_f shD (ok_are_numbers Tx_) (hr.mono (by decide)) (by rfl) hx (da_cons (de_var (pv 0) (by decide)) (da_cons (de_tup (da_cons (de_tup (da_cons de_int (da_cons de_int da_nil)) (by show 2 ≤ sizeLine; decide)) (da_cons (de_tup (da_cons de_int (da_cons de_int da_nil)) (by show 2 ≤ sizeLine; decide)) (da_cons (de_tup (da_cons de_int (da_cons de_int da_nil)) (by show 2 ≤ sizeLine; decide)) da_nil))) (by show 3 ≤ sizeLine; decide)) da_nil)))))
theorem ok_is_room (Tx_ : Tx K mg) : FOk P w K mg base (amb K T pu) "is_room" 4 ["thing"] rD m_is_room := by
  obtain ⟨_, c_MOST_WALLS⟩ := Tx_.c_MOST_WALLS
  exact fnF (F := b_is_room) (Go := []) (N := N_is_room) (k := 3) Tx_.g_is_room Tx_.d_is_room sc_is_room (fun _ _ _ _ _ _ us hl => match us, hl with | [_], _ => rfl) (fun _ _ _ => .inl rfl) fun cdv Ar outer s H E W hcd hr tk po hx => (dss_one (ds_retD rfl (de_and (DE.v (de_isi .tup (by rfl) Tx_.n_isinstance bt_isinstance (pe_bltn (by rfl) Tx_.n_tuple bt_tuple rfl) (DE.v (de_var (pv 0) (by decide))))) (de_and (DE.v (Ck.de ck_le (DE.v (de_len (by rfl) (by rfl) Tx_.n_len (DE.v (de_var (pv 0) (by decide))))) (DE.v (de_c (v := .int 3) (d := .int 3) (pe_glob (by rfl) c_MOST_WALLS ⟨_, rfl⟩) (fun _ => rfl))))) (de_and1 (de_all (by rfl) (by rfl) Tx_.n_all bt_all (DN.v (dn_lc [1] (by rfl) sc_is_room.nd (di_seq (de_var (pv 0) (by decide))) (blkOk_by (own := [("wall", 1)]) (N := N_is_room) (sc := defScope s_is_room) (by decide +kernel)) rfl (by decide) (fun _ _ _ _ _ => (dg_nm (pg_name (i := 1) sc_is_room.nd (by rfl) (by first | exact Or.inl rfl | exact Or.inr rfl)) (by decide))) (fun _ _ _ _ _ => dts_nil) (fun _ _ _ _ _ => (d_f shD (ok_is_wall Tx_) (hr.mono (by decide)) (by rfl) passL (da_cons (de_var (pv 1) (by decide)) da_nil)))))))))))
theorem ok_are_doors (Tx_ : Tx K mg) : FOk P w K mg base (amb K T pu) "are_doors" 3 ["thing", "many"] rD m_are_doors := by
  obtain ⟨_, c_MOST_DOORS⟩ := Tx_.c_MOST_DOORS
  exact fnF (F := b_are_doors) (Go := []) (N := N_are_doors) (k := 2) Tx_.g_are_doors Tx_.d_are_doors sc_are_doors (fun _ _ _ _ _ _ us hl => match us, hl with | [_, _], _ => rfl) (fun _ _ _ => .inl rfl) fun cdv Ar outer s H E W hcd hr tk po hx => (dss_cons (ds_if (DW.t (dw_or (dt_not (dt_val (DE.v (de_isi .tup (by rfl) Tx_.n_isinstance bt_isinstance (pe_bltn (by rfl) Tx_.n_tuple bt_tuple rfl) (DE.v (de_var (pv 0) (by decide))))))) (dw_or1 (Ck.dt ck_gt (DE.v (de_len (by rfl) (by rfl) Tx_.n_len (DE.v (de_var (pv 0) (by decide))))) (DE.v (de_c (v := .int 8) (d := .int 8) (pe_glob (by rfl) c_MOST_DOORS ⟨_, rfl⟩) (fun _ => rfl))))))) (dss_one (ds_retD rfl de_bl)) dss_nil) (dss_cons (ds_if (dt_not (dt_val (DE.v (de_all (by rfl) (by rfl) Tx_.n_all bt_all (DN.v (dn_lc [2] (by rfl) sc_are_doors.nd (di_seq (de_var (pv 0) (by decide))) (blkOk_by (own := [("door", 2)]) (N := N_are_doors) (sc := defScope s_are_doors) (by decide +kernel)) rfl (by decide) (fun _ _ _ _ _ => (dg_nm (pg_name (i := 2) sc_are_doors.nd (by rfl) (by first | exact Or.inl rfl | exact Or.inr rfl)) (by decide))) (fun _ _ _ _ _ => dts_nil) (fun _ _ _ _ _ => (d_f shD (ok_are_numbers Tx_) (hr.mono (by decide)) (by rfl) passL (da_cons (de_var (pv 2) (by decide)) (da_cons (de_tup (da_cons (de_tup (da_cons de_int (da_cons (de_sub (DE.v (de_var (pv 1) (by decide))) (DE.v de_int)) da_nil)) (by show 2 ≤ sizeLine; decide)) (da_cons (de_tup (da_cons de_int (da_cons (de_sub (DE.v (de_var (pv 1) (by decide))) (DE.v de_int)) da_nil)) (by show 2 ≤ sizeLine; decide)) (da_cons (de_tup (da_cons de_int (da_cons de_int da_nil)) (by show 2 ≤ sizeLine; decide)) da_nil))) (by show 3 ≤ sizeLine; decide)) da_nil)))))))))) (dss_one (ds_retD rfl de_bl)) dss_nil) (dss_one (ds_retD rfl (de_and (DE.v (de_all (by rfl) (by rfl) Tx_.n_all bt_all (DN.v (dn_lc [2] (by rfl) sc_are_doors.nd (di_seq (de_var (pv 0) (by decide))) (blkOk_by (own := [("door", 2)]) (N := N_are_doors) (sc := defScope s_are_doors) (by decide +kernel)) rfl (by decide) (fun _ _ _ _ _ => (dg_nm (pg_name (i := 2) sc_are_doors.nd (by rfl) (by first | exact Or.inl rfl | exact Or.inr rfl)) (by decide))) (fun _ _ _ _ _ => dts_nil) (fun _ _ _ _ _ => (Ck.de ck_lt (DE.v (de_sub1 (by rfl) (hu_of hr) (DE.v (de_var (pv 2) (by decide))) (DE.v de_int))) (DE.v (de_sub1 (by rfl) (hu_of hr) (DE.v (de_var (pv 2) (by decide))) (DE.v de_int))))))))) (de_and1 (Ck.de (ck_eq (by rfl) hr.units) (DN.v (dn_list (by rfl) Tx_.n_list bt_list (DE.v (de_var (pv 0) (by decide))))) (DN.v (dn_ss (by rfl) hr.units (by rfl) Tx_.n_sorted bt_sorted (by rfl) Tx_.n_set bt_set (DE.v (de_var (pv 0) (by decide))))))))))))
theorem ok_is_house (Tx_ : Tx K mg) : FOk P w K mg base (amb K T pu) "is_house" 5 ["thing"] rD m_is_house := by
  obtain ⟨_, c_MOST_ROOMS⟩ := Tx_.c_MOST_ROOMS
  exact fnF (F := b_is_house) (Go := []) (N := N_is_house) (k := 4) Tx_.g_is_house Tx_.d_is_house sc_is_house (fun _ _ _ _ _ _ us hl => match us, hl with | [_], _ => rfl) (fun _ _ _ => .inl rfl) fun cdv Ar outer s H E W hcd hr tk po hx => (dss_cons (ds_if (DW.t (dw_or (dt_not (dt_val (DE.v (de_isi .tup (by rfl) Tx_.n_isinstance bt_isinstance (pe_bltn (by rfl) Tx_.n_tuple bt_tuple rfl) (DE.v (de_var (pv 0) (by decide))))))) (dw_or (Ck.dt (ck_ne (by rfl) hr.units) (DE.v (de_len (by rfl) (by rfl) Tx_.n_len (DE.v (de_var (pv 0) (by decide))))) (DE.v de_int)) (dw_or1 (dt_not (dt_val (DE.v (de_isi .tup (by rfl) Tx_.n_isinstance bt_isinstance (pe_bltn (by rfl) Tx_.n_tuple bt_tuple rfl) (DE.v (de_sub1 (by rfl) (hu_of hr) (DE.v (de_var (pv 0) (by decide))) (DE.v de_int))))))))))) (dss_one (ds_retD rfl de_bl)) dss_nil) (dss_cons (ds_if (DW.t (dw_or (dt_not (dt_chain op_le op_le (DE.v de_int) (DE.v (de_len (by rfl) (by rfl) Tx_.n_len (DE.v (de_sub1 (by rfl) (hu_of hr) (DE.v (de_var (pv 0) (by decide))) (DE.v de_int))))) (DE.v (de_c (v := .int 5) (d := .int 5) (pe_glob (by rfl) c_MOST_ROOMS ⟨_, rfl⟩) (fun _ => rfl))))) (dw_or1 (dt_not (dt_val (DE.v (de_all (by rfl) (by rfl) Tx_.n_all bt_all (DN.v (dn_lc [1] (by rfl) sc_is_house.nd (di_seq (de_sub1 (by rfl) (hu_of hr) (DE.v (de_var (pv 0) (by decide))) (DE.v de_int))) (blkOk_by (own := [("room", 1)]) (N := N_is_house) (sc := defScope s_is_house) (by decide +kernel)) rfl (by decide) (fun _ _ _ _ _ => (dg_nm (pg_name (i := 1) sc_is_house.nd (by rfl) (by first | exact Or.inl rfl | exact Or.inr rfl)) (by decide))) (fun _ _ _ _ _ => dts_nil) (fun _ _ _ _ _ => (d_f shD (ok_is_room Tx_) (hr.mono (by decide)) (by rfl) passL (da_cons (de_var (pv 1) (by decide)) da_nil)))))))))))) (dss_one (ds_retD rfl de_bl)) dss_nil) (dss_one (ds_retD rfl (d_f shD (ok_are_doors Tx_) (hr.mono (by decide)) (by rfl) hx (da_cons (de_sub1 (by rfl) (hu_of hr) (DE.v (de_var (pv 0) (by decide))) (DE.v de_int)) (da_cons (de_len (by rfl) (by rfl) Tx_.n_len (DE.v (de_sub1 (by rfl) (hu_of hr) (DE.v (de_var (pv 0) (by decide))) (DE.v de_int)))) da_nil)))))))
theorem ok_is_picture (Tx_ : Tx K mg) : FOk P w K mg base (amb K T pu) "is_picture" 3 ["thing"] rD m_is_picture := by
  exact fnF (F := b_is_picture) (Go := []) (N := N_is_picture) (k := 2) Tx_.g_is_picture Tx_.d_is_picture sc_is_picture (fun _ _ _ _ _ _ us hl => match us, hl with | [_], _ => rfl) (fun _ _ _ => .inl rfl) fun cdv Ar outer s H E W hcd hr tk po hx => (dss_one (ds_retD rfl (d_f shD (ok_are_numbers Tx_) (hr.mono (by decide)) (by rfl) hx (da_cons (de_var (pv 0) (by decide)) (da_cons (de_tup (da_cons (de_tup (da_cons de_int (da_cons de_int da_nil)) (by show 2 ≤ sizeLine; decide)) (da_cons (de_tup (da_cons de_int (da_cons de_int da_nil)) (by show 2 ≤ sizeLine; decide)) (da_cons (de_tup (da_cons de_int (da_cons de_int da_nil)) (by show 2 ≤ sizeLine; decide)) (da_cons (de_tup (da_cons de_int (da_cons de_int da_nil)) (by show 2 ≤ sizeLine; decide)) da_nil)))) (by show 4 ≤ sizeLine; decide)) da_nil)))))
theorem ok_look_house (Tx_ : Tx K mg) : FOk P w K mg base (amb K T pu) "look_house" 6 ["house"] rD m_look_house := by
  exact fnF (F := b_look_house) (Go := []) (N := N_look_house) (k := 5) Tx_.g_look_house Tx_.d_look_house sc_look_house (fun _ _ _ _ _ _ us hl => match us, hl with | [_], _ => rfl) (fun _ _ _ => .inl rfl) fun cdv Ar outer s H E W hcd hr tk po hx => (dss_one (ds_if (dt_not (dt_val (DE.v (d_f shD (ok_is_house Tx_) (hr.mono (by decide)) (by rfl) hx (da_cons (de_var (pv 0) (by decide)) da_nil))))) (dss_one (ds_raise 0 rfl tk (pmkX Tx_.x_NoHouse Tx_.g_NoHouse rfl))) dss_nil))
theorem ok_look_picture (Tx_ : Tx K mg) : FOk P w K mg base (amb K T pu) "look_picture" 4 ["picture"] rD m_look_picture := by
  exact fnF (F := b_look_picture) (Go := []) (N := N_look_picture) (k := 3) Tx_.g_look_picture Tx_.d_look_picture sc_look_picture (fun _ _ _ _ _ _ us hl => match us, hl with | [_], _ => rfl) (fun _ _ _ => .inl rfl) fun cdv Ar outer s H E W hcd hr tk po hx => (dss_one (ds_if (dt_not (dt_val (DE.v (d_f shD (ok_is_picture Tx_) (hr.mono (by decide)) (by rfl) hx (da_cons (de_var (pv 0) (by decide)) da_nil))))) (dss_one (ds_raise 1 rfl tk (pmkX Tx_.x_NoPicture Tx_.g_NoPicture rfl))) dss_nil))
theorem ok_look_room (Tx_ : Tx K mg) : FOk P w K mg base (amb K T pu) "look_room" 2 ["house", "room"] rD m_look_room := by
  exact fnF (F := b_look_room) (Go := []) (N := N_look_room) (k := 1) Tx_.g_look_room Tx_.d_look_room sc_look_room (fun _ _ _ _ _ _ us hl => match us, hl with | [_, _], _ => rfl) (fun _ _ _ => .inl rfl) fun cdv Ar outer s H E W hcd hr tk po hx => (dss_one (ds_if (dt_not (dt_val (DE.v (d_f shD (ok_is_whole Tx_) (hr.mono (by decide)) (by rfl) hx (da_cons (de_var (pv 1) (by decide)) (da_cons de_int (da_cons (de_sub (DE.v (de_len (by rfl) (by rfl) Tx_.n_len (DE.v (de_sub1 (by rfl) (hu_of hr) (DE.v (de_var (pv 0) (by decide))) (DE.v de_int))))) (DE.v de_int)) da_nil))))))) (dss_one (ds_raise 2 rfl tk (pmkX Tx_.x_NoRoom Tx_.g_NoRoom rfl))) dss_nil))
theorem ok_look_wall (Tx_ : Tx K mg) : FOk P w K mg base (amb K T pu) "look_wall" 3 ["house", "room", "wall"] rD m_look_wall := by
  exact fnF (F := b_look_wall) (Go := []) (N := N_look_wall) (k := 2) Tx_.g_look_wall Tx_.d_look_wall sc_look_wall (fun _ _ _ _ _ _ us hl => match us, hl with | [_, _, _], _ => rfl) (fun _ _ _ => .inl rfl) fun cdv Ar outer s H E W hcd hr tk po hx => (dss_cons (ds_exp (DE.v (d_f shD (ok_look_room Tx_) (hr.mono (by decide)) (by rfl) hx (da_cons (de_var (pv 0) (by decide)) (da_cons (de_var (pv 1) (by decide)) da_nil))))) (dss_one (ds_if (dt_not (dt_val (DE.v (d_f shD (ok_is_whole Tx_) (hr.mono (by decide)) (by rfl) hx (da_cons (de_var (pv 2) (by decide)) (da_cons de_int (da_cons (de_sub (DE.v (de_len (by rfl) (by rfl) Tx_.n_len (DE.v (de_sub1 (by rfl) (hu_of hr) (DE.v (de_sub1 (by rfl) (hu_of hr) (DE.v (de_var (pv 0) (by decide))) (DE.v de_int))) (DE.v (de_var (pv 1) (by decide))))))) (DE.v de_int)) da_nil))))))) (dss_one (ds_raise 3 rfl tk (pmkX Tx_.x_NoWall Tx_.g_NoWall rfl))) dss_nil)))
theorem ok_walls_in (Tx_ : Tx K mg) : FOk P w K mg base (amb K T pu) "walls_in" 1 ["house"] rD m_walls_in := by
  exact fnF (F := b_walls_in) (Go := []) (N := N_walls_in) (k := 0) Tx_.g_walls_in Tx_.d_walls_in sc_walls_in (fun _ _ _ _ _ _ us hl => match us, hl with | [_], _ => rfl) (fun _ _ _ => .inl rfl) fun cdv Ar outer s H E W hcd hr tk po hx => (dss_cons (ds_setN (ps_set (i := 1) sc_walls_in.nd rfl (by first | exact Or.inl rfl | exact Or.inr rfl) (dn_lst da_nil (by show 0 ≤ sizeLine; decide)))) (dss_cons (ds_for po rfl (di_enum (by rfl) Tx_.n_enumerate (da_cons (de_sub1 (by rfl) (hu_of hr) (DE.v (de_var (pv 0) (by decide))) (DE.v de_int)) da_nil)) (dg_tp (by rfl) (dgs_cons (dg_nm (pg_name (i := 2) sc_walls_in.nd (by rfl) (by first | exact Or.inl rfl | exact Or.inr rfl)) (by decide)) (dgs_cons (dg_nm (pg_name (i := 3) sc_walls_in.nd (by rfl) (by first | exact Or.inl rfl | exact Or.inr rfl)) (by decide)) dgs_nil))) (by decide) (dss_one (ds_ext (by decide) (pv 1) (DN.v (dn_lc [4] (by rfl) sc_walls_in.nd (di_range1 (by rfl) Tx_.n_range (da_cons (de_len (by rfl) (by rfl) Tx_.n_len (DE.v (de_var (pv 3) (by decide)))) da_nil)) (blkOk_by (own := [("wall", 4)]) (N := N_walls_in) (sc := defScope s_walls_in) (by decide +kernel)) rfl (by decide) (fun _ _ _ _ _ => (dg_nm (pg_name (i := 4) sc_walls_in.nd (by rfl) (by first | exact Or.inl rfl | exact Or.inr rfl)) (by decide))) (fun _ _ _ _ _ => dts_nil) (fun _ _ _ _ _ => (de_tup (da_cons (de_var (pv 2) (by decide)) (da_cons (de_var (pv 4) (by decide)) da_nil)) (by show 2 ≤ sizeLine; decide)))))))) (dss_one (DS.frz 1 (ds_retD rfl (de_var (pv 1) (by decide)))))))
theorem ok_doors_by (Tx_ : Tx K mg) : FOk P w K mg base (amb K T pu) "doors_by" 1 ["house", "side"] rD m_doors_by := by
  exact fnF (F := b_doors_by) (Go := []) (N := N_doors_by) (k := 0) Tx_.g_doors_by Tx_.d_doors_by sc_doors_by (fun _ _ _ _ _ _ us hl => match us, hl with | [_, _], _ => rfl) (fun _ _ _ => .inl rfl) fun cdv Ar outer s H E W hcd hr tk po hx => (dss_one (ds_retD rfl (DN.d (dn_lc [2] (by rfl) sc_doors_by.nd (di_seq (de_sub1 (by rfl) (hu_of hr) (DE.v (de_var (pv 0) (by decide))) (DE.v de_int))) (blkOk_by (own := [("door", 2)]) (N := N_doors_by) (sc := defScope s_doors_by) (by decide +kernel)) rfl (by decide) (fun _ _ _ _ _ => (dg_nm (pg_name (i := 2) sc_doors_by.nd (by rfl) (by first | exact Or.inl rfl | exact Or.inr rfl)) (by decide))) (fun _ _ _ _ _ => (dts_one (Ck.dt ck_ge (DE.v (de_sub1 (by rfl) (hu_of hr) (DE.v (de_var (pv 2) (by decide))) (DE.v de_int))) (DE.v (de_var (pv 1) (by decide)))))) (fun _ _ _ _ _ => (de_var (pv 2) (by decide)))))))
theorem ok_side_of (Tx_ : Tx K mg) : FOk P w K mg base (amb K T pu) "side_of" 1 ["picture"] rD m_side_of := by
  exact fnF (F := b_side_of) (Go := []) (N := N_side_of) (k := 0) Tx_.g_side_of Tx_.d_side_of sc_side_of (fun _ _ _ _ _ _ us hl => match us, hl with | [_], _ => rfl) (fun _ _ _ => .inl rfl) fun cdv Ar outer s H E W hcd hr tk po hx => (dss_one (ds_retD rfl (de_min2 (by rfl) (by rfl) Tx_.n_min bt_min (DE.v (de_sub1 (by rfl) (hu_of hr) (DE.v (de_var (pv 0) (by decide))) (DE.v de_int))) (DE.v (de_sub1 (by rfl) (hu_of hr) (DE.v (de_var (pv 0) (by decide))) (DE.v de_int))))))
theorem ok_nexts (Tx_ : Tx K mg) : FOk P w K mg base (amb K T pu) "nexts" 1 ["doors", "room"] rD m_nexts := by
  exact fnF (F := b_nexts) (Go := []) (N := N_nexts) (k := 0) Tx_.g_nexts Tx_.d_nexts sc_nexts (fun _ _ _ _ _ _ us hl => match us, hl with | [_, _], _ => rfl) (fun _ _ _ => .inl rfl) fun cdv Ar outer s H E W hcd hr tk po hx => (dss_one (ds_retD rfl (DN.d (dn_ss (by rfl) hr.units (by rfl) Tx_.n_sorted bt_sorted (by rfl) Tx_.n_set bt_set (DN.v (dn_lc [2, 3, 4] (by rfl) sc_nexts.nd (di_seq (de_var (pv 0) (by decide))) (blkOk_by (own := [("one", 2), ("other", 3), ("high", 4)]) (N := N_nexts) (sc := defScope s_nexts) (by decide +kernel)) rfl (by decide) (fun _ _ _ _ _ => (dg_tp (by rfl) (dgs_cons (dg_nm (pg_name (i := 2) sc_nexts.nd (by rfl) (by first | exact Or.inl rfl | exact Or.inr rfl)) (by decide)) (dgs_cons (dg_nm (pg_name (i := 3) sc_nexts.nd (by rfl) (by first | exact Or.inl rfl | exact Or.inr rfl)) (by decide)) (dgs_cons (dg_nm (pg_name (i := 4) sc_nexts.nd (by rfl) (by first | exact Or.inl rfl | exact Or.inr rfl)) (by decide)) dgs_nil))))) (fun _ _ _ _ _ => (dts_one (Ck.dt (ck_in (hu65 hr)) (DE.v (de_var (pv 1) (by decide))) (DE.v (de_tup (da_cons (de_var (pv 2) (by decide)) (da_cons (de_var (pv 3) (by decide)) da_nil)) (by show 2 ≤ sizeLine; decide)))))) (fun _ _ _ _ _ => (de_sub (DE.v (de_add (DE.v (de_var (pv 2) (by decide))) (DE.v (de_var (pv 3) (by decide))))) (DE.v (de_var (pv 1) (by decide)))))))))))
theorem ok_steps_from (Tx_ : Tx K mg) : FOk P w K mg base (amb K T pu) "steps_from" 2 ["doors", "room"] rD m_steps_from := by
  exact fnF (F := b_steps_from) (Go := []) (N := N_steps_from) (k := 1) Tx_.g_steps_from Tx_.d_steps_from sc_steps_from (fun _ _ _ _ _ _ us hl => match us, hl with | [_, _], _ => rfl) (fun _ _ _ => .inl rfl) fun cdv Ar outer s H E W hcd hr tk po hx => (dss_cons (ds_setN (ps_set (i := 2) sc_steps_from.nd rfl (by first | exact Or.inl rfl | exact Or.inr rfl) (dn_dict1 (DE.v (de_var (pv 1) (by decide))) de_int))) (dss_cons (ds_setN (ps_set (i := 3) sc_steps_from.nd rfl (by first | exact Or.inl rfl | exact Or.inr rfl) (dn_lst (da_cons (de_var (pv 1) (by decide)) da_nil) (by show 1 ≤ sizeLine; decide)))) (dss_cons (ds_while 1000 po (Ck.dt (ck_ne (by rfl) hr.units) (dv_var (pv 3)) (DN.v (dn_lst da_nil (by show 0 ≤ sizeLine; decide)))) (dss_cons (ds_pop (by decide) (by decide) (by decide) (pv 3) (DE.v de_int) sc_steps_from.nd rfl (by first | exact Or.inl rfl | exact Or.inr rfl)) (dss_one (ds_for po rfl (di_seq (d_f shD (ok_nexts Tx_) (hr.mono (by decide)) (by rfl) hx (da_cons (de_var (pv 0) (by decide)) (da_cons (de_var (pv 4) (by decide)) da_nil)))) (dg_nm (pg_name (i := 5) sc_steps_from.nd (by rfl) (by first | exact Or.inl rfl | exact Or.inr rfl)) (by decide)) (by decide) (dss_one (ds_if (Ck.dt (ck_notIn (hu65 hr)) (DE.v (de_var (pv 5) (by decide))) (dv_var (pv 2))) (dss_cons (ds_put (hu_of hr) (by decide) (pv 2) (DE.v (de_var (pv 5) (by decide))) (de_add (DE.v (de_sub1 (by rfl) (hu_of hr) (dv_var (pv 2)) (DE.v (de_var (pv 4) (by decide))))) (DE.v de_int))) (dss_one (ds_app (by decide) (pv 3) (de_var (pv 5) (by decide))))) dss_nil)))))) (dss_one (DS.frz 2 (ds_retD rfl (de_var (pv 2) (by decide))))))))
theorem ok_shortest (Tx_ : Tx K mg) : FOk P w K mg base (amb K T pu) "shortest" 3 ["doors", "one", "other"] rD m_shortest := by
  exact fnF (F := b_shortest) (Go := []) (N := N_shortest) (k := 2) Tx_.g_shortest Tx_.d_shortest sc_shortest (fun _ _ _ _ _ _ us hl => match us, hl with | [_, _, _], _ => rfl) (fun _ _ _ => .inl rfl) fun cdv Ar outer s H E W hcd hr tk po hx => (dss_cons (ds_set (ps_set (i := 3) sc_shortest.nd rfl (by first | exact Or.inl rfl | exact Or.inr rfl) (d_f shD (ok_steps_from Tx_) (hr.mono (by decide)) (by rfl) hx (da_cons (de_var (pv 0) (by decide)) (da_cons (de_var (pv 2) (by decide)) da_nil))))) (dss_cons (ds_if (Ck.dt (ck_notIn (hu65 hr)) (DE.v (de_var (pv 1) (by decide))) (DE.v (de_var (pv 3) (by decide)))) (dss_one (ds_retD rfl de_non)) dss_nil) (dss_cons (ds_setN (ps_set (i := 4) sc_shortest.nd rfl (by first | exact Or.inl rfl | exact Or.inr rfl) (dn_lst (da_cons (de_var (pv 1) (by decide)) da_nil) (by show 1 ≤ sizeLine; decide)))) (dss_cons (ds_while 1000 po (Ck.dt (ck_ne (by rfl) hr.units) (DE.v (de_sub1 (by rfl) (hu_of hr) (dv_var (pv 4)) (DE.v (de_neg (DE.v de_int))))) (DE.v (de_var (pv 2) (by decide)))) (dss_one (ds_app (by decide) (pv 4) (de_sub1 (by rfl) (hu_of hr) (DN.v (dn_lc [5] (by rfl) sc_shortest.nd (di_seq (d_f shD (ok_nexts Tx_) (hr.mono (by decide)) (by rfl) hx (da_cons (de_var (pv 0) (by decide)) (da_cons (de_sub1 (by rfl) (hu_of hr) (dv_var (pv 4)) (DE.v (de_neg (DE.v de_int)))) da_nil)))) (blkOk_by (own := [("room", 5)]) (N := N_shortest) (sc := defScope s_shortest) (by decide +kernel)) rfl (by decide) (fun _ _ _ _ _ => (dg_nm (pg_name (i := 5) sc_shortest.nd (by rfl) (by first | exact Or.inl rfl | exact Or.inr rfl)) (by decide))) (fun _ _ _ _ _ => (dts_one (Ck.dt (ck_eq (by rfl) hr.units) (DE.v (de_sub1 (by rfl) (hu_of hr) (DE.v (de_var (pv 3) (by decide))) (DE.v (de_var (pv 5) (by decide))))) (DE.v (de_sub (DE.v (de_sub1 (by rfl) (hu_of hr) (DE.v (de_var (pv 3) (by decide))) (DE.v (de_sub1 (by rfl) (hu_of hr) (dv_var (pv 4)) (DE.v (de_neg (DE.v de_int))))))) (DE.v de_int)))))) (fun _ _ _ _ _ => (de_var (pv 5) (by decide))))) (DE.v de_int))))) (dss_one (DS.frz 4 (ds_retD rfl (de_var (pv 4) (by decide)))))))))
theorem ok_way (Tx_ : Tx K mg) : FOk P w K mg base (amb K T pu) "way" 7 ["house", "picture", "one", "other"] rD m_way := by
  exact fnF (F := b_way) (Go := []) (N := N_way) (k := 6) Tx_.g_way Tx_.d_way sc_way (fun _ _ _ _ _ _ us hl => match us, hl with | [_, _, _, _], _ => rfl) (fun _ _ _ => .inl rfl) fun cdv Ar outer s H E W hcd hr tk po hx => (dss_cons (ds_exp (DE.v (d_f shD (ok_look_house Tx_) (hr.mono (by decide)) (by rfl) hx (da_cons (de_var (pv 0) (by decide)) da_nil)))) (dss_cons (ds_exp (DE.v (d_f shD (ok_look_picture Tx_) (hr.mono (by decide)) (by rfl) hx (da_cons (de_var (pv 1) (by decide)) da_nil)))) (dss_cons (ds_exp (DE.v (d_f shD (ok_look_room Tx_) (hr.mono (by decide)) (by rfl) hx (da_cons (de_var (pv 0) (by decide)) (da_cons (de_var (pv 2) (by decide)) da_nil))))) (dss_cons (ds_exp (DE.v (d_f shD (ok_look_room Tx_) (hr.mono (by decide)) (by rfl) hx (da_cons (de_var (pv 0) (by decide)) (da_cons (de_var (pv 3) (by decide)) da_nil))))) (dss_one (ds_retD rfl (d_f shD (ok_shortest Tx_) (hr.mono (by decide)) (by rfl) hx (da_cons (d_f shD (ok_doors_by Tx_) (hr.mono (by decide)) (by rfl) hx (da_cons (de_var (pv 0) (by decide)) (da_cons (d_f shD (ok_side_of Tx_) (hr.mono (by decide)) (by rfl) hx (da_cons (de_var (pv 1) (by decide)) da_nil)) da_nil))) (da_cons (de_var (pv 2) (by decide)) (da_cons (de_var (pv 3) (by decide)) da_nil))))))))))
theorem ok_rooms_for (Tx_ : Tx K mg) : FOk P w K mg base (amb K T pu) "rooms_for" 3 ["house", "picture"] rD m_rooms_for := by
  exact fnF (F := b_rooms_for) (Go := []) (N := N_rooms_for) (k := 2) Tx_.g_rooms_for Tx_.d_rooms_for sc_rooms_for (fun _ _ _ _ _ _ us hl => match us, hl with | [_, _], _ => rfl) (fun _ _ _ => .inl rfl) fun cdv Ar outer s H E W hcd hr tk po hx => (dss_one (ds_retD rfl (DN.d (dn_sortC (by rfl) (by rfl) Tx_.n_sorted bt_sorted (DE.v (d_f shD (ok_steps_from Tx_) (hr.mono (by decide)) (by rfl) hx (da_cons (d_f shD (ok_doors_by Tx_) (hr.mono (by decide)) (by rfl) hx (da_cons (de_var (pv 0) (by decide)) (da_cons (d_f shD (ok_side_of Tx_) (hr.mono (by decide)) (by rfl) hx (da_cons (de_var (pv 1) (by decide)) da_nil)) da_nil))) (da_cons de_int da_nil))))))))
theorem ok_highest (Tx_ : Tx K mg) : FOk P w K mg base (amb K T pu) "highest" 7 ["house", "one", "other"] rD m_highest := by
  obtain ⟨_, c_HIGHEST⟩ := Tx_.c_HIGHEST
  exact fnF (F := b_highest) (Go := []) (N := N_highest) (k := 6) Tx_.g_highest Tx_.d_highest sc_highest (fun _ _ _ _ _ _ us hl => match us, hl with | [_, _, _], _ => rfl) (fun _ _ _ => .inl rfl) fun cdv Ar outer s H E W hcd hr tk po hx => (dss_cons (ds_exp (DE.v (d_f shD (ok_look_house Tx_) (hr.mono (by decide)) (by rfl) hx (da_cons (de_var (pv 0) (by decide)) da_nil)))) (dss_cons (ds_exp (DE.v (d_f shD (ok_look_room Tx_) (hr.mono (by decide)) (by rfl) hx (da_cons (de_var (pv 0) (by decide)) (da_cons (de_var (pv 1) (by decide)) da_nil))))) (dss_cons (ds_exp (DE.v (d_f shD (ok_look_room Tx_) (hr.mono (by decide)) (by rfl) hx (da_cons (de_var (pv 0) (by decide)) (da_cons (de_var (pv 2) (by decide)) da_nil))))) (dss_cons (ds_set (asgND (set_lc (i := 3) [4] (by rfl) sc_highest.nd rfl rfl (sw_true rfl rfl rfl (by decide +kernel)) (di_range2 (by rfl) Tx_.n_range (da_cons de_int (da_cons (de_add (DE.v (de_c (v := .int 9) (d := .int 9) (pe_glob (by rfl) c_HIGHEST ⟨_, rfl⟩) (fun _ => rfl))) (DE.v de_int)) da_nil))) (blkOk_by (own := [("high", 4)]) (N := N_highest) (sc := defScope s_highest) (by decide +kernel)) rfl (by decide) (fun _ _ _ _ _ => (dg_nm (pg_name (i := 4) sc_highest.nd (by rfl) (by first | exact Or.inl rfl | exact Or.inr rfl)) (by decide))) (fun _ _ _ _ _ => (dts_one (Ck.dt (ck_in (hu65 hr)) (DE.v (de_var (pv 2) (by decide))) (DE.v (d_f shD (ok_steps_from Tx_) (hr.mono (by decide)) (by rfl) passL (da_cons (d_f shD (ok_doors_by Tx_) (hr.mono (by decide)) (by rfl) passL (da_cons (de_var (pv 0) (by decide)) (da_cons (de_var (pv 4) (by decide)) da_nil))) (da_cons (de_var (pv 1) (by decide)) da_nil))))))) (fun _ _ _ _ _ => (de_var (pv 4) (by decide)))))) (dss_one (ds_retD rfl (de_max1 (by rfl) (by rfl) Tx_.n_max bt_max (DE.v (de_add (DN.v (dn_lst (da_cons de_int da_nil) (by show 1 ≤ sizeLine; decide))) (DE.v (de_var (pv 3) (by decide))))))))))))
theorem ok_is_name (Tx_ : Tx K mg) : FOk P w K mg base (amb K T pu) "is_name" 1 ["thing"] rD m_is_name := by
  obtain ⟨_, c_LONGEST⟩ := Tx_.c_LONGEST
  obtain ⟨_, c_SMALL⟩ := Tx_.c_SMALL
  exact fnF (F := b_is_name) (Go := []) (N := N_is_name) (k := 0) Tx_.g_is_name Tx_.d_is_name sc_is_name (fun _ _ _ _ _ _ us hl => match us, hl with | [_], _ => rfl) (fun _ _ _ => .inl rfl) fun cdv Ar outer s H E W hcd hr tk po hx => (dss_one (ds_retD rfl (de_and (DE.v (de_isi .str (by rfl) Tx_.n_isinstance bt_isinstance (pe_bltn (by rfl) Tx_.n_str bt_str rfl) (DE.v (de_var (pv 0) (by decide))))) (de_and (DE.v (de_chain op_le op_le (DE.v de_int) (DE.v (de_len (by rfl) (by rfl) Tx_.n_len (DE.v (de_var (pv 0) (by decide))))) (DE.v (de_c (v := .int 4) (d := .int 4) (pe_glob (by rfl) c_LONGEST ⟨_, rfl⟩) (fun _ => rfl))))) (de_and1 (de_all (by rfl) (by rfl) Tx_.n_all bt_all (DN.v (dn_lc [1] (by rfl) sc_is_name.nd (di_str (de_var (pv 0) (by decide))) (blkOk_by (own := [("sign", 1)]) (N := N_is_name) (sc := defScope s_is_name) (by decide +kernel)) rfl (by decide) (fun _ _ _ _ _ => (dg_nm (pg_name (i := 1) sc_is_name.nd (by rfl) (by first | exact Or.inl rfl | exact Or.inr rfl)) (by decide))) (fun _ _ _ _ _ => dts_nil) (fun _ _ _ _ _ => (Ck.de ck_inS (DE.v (de_var (pv 1) (by decide))) (DE.v (de_c (v := .str "abcdefghijklmnopqrstuvwxyz") (d := .str "abcdefghijklmnopqrstuvwxyz") (pe_glob (by rfl) c_SMALL ⟨_, rfl⟩) (fun _ => rfl)))))))))))))
theorem ok_is_day (Tx_ : Tx K mg) : FOk P w K mg base (amb K T pu) "is_day" 2 ["thing"] rD m_is_day := by
  obtain ⟨_, c_LAST⟩ := Tx_.c_LAST
  exact fnF (F := b_is_day) (Go := []) (N := N_is_day) (k := 1) Tx_.g_is_day Tx_.d_is_day sc_is_day (fun _ _ _ _ _ _ us hl => match us, hl with | [_], _ => rfl) (fun _ _ _ => .inl rfl) fun cdv Ar outer s H E W hcd hr tk po hx => (dss_one (ds_retD rfl (d_f shD (ok_is_whole Tx_) (hr.mono (by decide)) (by rfl) hx (da_cons (de_var (pv 0) (by decide)) (da_cons de_int (da_cons (de_c (v := .int 99) (d := .int 99) (pe_glob (by rfl) c_LAST ⟨_, rfl⟩) (fun _ => rfl)) da_nil))))))
theorem ok_look_day (Tx_ : Tx K mg) : FOk P w K mg base (amb K T pu) "look_day" 3 ["day"] rD m_look_day := by
  exact fnF (F := b_look_day) (Go := []) (N := N_look_day) (k := 2) Tx_.g_look_day Tx_.d_look_day sc_look_day (fun _ _ _ _ _ _ us hl => match us, hl with | [_], _ => rfl) (fun _ _ _ => .inl rfl) fun cdv Ar outer s H E W hcd hr tk po hx => (dss_one (ds_if (dt_not (dt_val (DE.v (d_f shD (ok_is_day Tx_) (hr.mono (by decide)) (by rfl) hx (da_cons (de_var (pv 0) (by decide)) da_nil))))) (dss_one (ds_raise 5 rfl tk (pmkX Tx_.x_NoDays Tx_.g_NoDays rfl))) dss_nil))
theorem ok_look_days (Tx_ : Tx K mg) : FOk P w K mg base (amb K T pu) "look_days" 3 ["first", "last"] rD m_look_days := by
  exact fnF (F := b_look_days) (Go := []) (N := N_look_days) (k := 2) Tx_.g_look_days Tx_.d_look_days sc_look_days (fun _ _ _ _ _ _ us hl => match us, hl with | [_, _], _ => rfl) (fun _ _ _ => .inl rfl) fun cdv Ar outer s H E W hcd hr tk po hx => (dss_one (ds_if (DW.t (dw_or (dt_not (dt_val (DE.v (d_f shD (ok_is_day Tx_) (hr.mono (by decide)) (by rfl) hx (da_cons (de_var (pv 0) (by decide)) da_nil))))) (dw_or (dt_not (dt_val (DE.v (d_f shD (ok_is_day Tx_) (hr.mono (by decide)) (by rfl) hx (da_cons (de_var (pv 1) (by decide)) da_nil))))) (dw_or1 (Ck.dt ck_lt (DE.v (de_var (pv 1) (by decide))) (DE.v (de_var (pv 0) (by decide)))))))) (dss_one (ds_raise 5 rfl tk (pmkX Tx_.x_NoDays Tx_.g_NoDays rfl))) dss_nil))
theorem ok_do_meet (Tx_ : Tx K mg) : FOk P w K mg base (amb K T pu) "do_meet" 1 ["one", "other"] rD m_do_meet := by
  exact fnF (F := b_do_meet) (Go := []) (N := N_do_meet) (k := 0) Tx_.g_do_meet Tx_.d_do_meet sc_do_meet (fun _ _ _ _ _ _ us hl => match us, hl with | [_, _], _ => rfl) (fun _ _ _ => .inl rfl) fun cdv Ar outer s H E W hcd hr tk po hx => (dss_one (ds_retD rfl (de_and (DE.v (Ck.de ck_le (DE.v (de_sub1 (by rfl) (hu_of hr) (DE.v (de_var (pv 0) (by decide))) (DE.v de_int))) (DE.v (de_sub1 (by rfl) (hu_of hr) (DE.v (de_var (pv 1) (by decide))) (DE.v de_int))))) (de_and1 (Ck.de ck_le (DE.v (de_sub1 (by rfl) (hu_of hr) (DE.v (de_var (pv 1) (by decide))) (DE.v de_int))) (DE.v (de_sub1 (by rfl) (hu_of hr) (DE.v (de_var (pv 0) (by decide))) (DE.v de_int))))))))
theorem ok_Show___init__ (Tx_ : Tx K mg) : MOk P w K mg base (amb K T) "__init__" 7 ["self", "house"] rD m_Show___init__ := by
  exact fnM (F := b_Show___init__) (Go := []) (N := N_Show___init__) (k := 6) Tx_.g_Show___init__ Tx_.d_Show___init__ sc_Show___init__ (fun _ _ _ _ _ _ us hl => match us, hl with | [_, _], _ => rfl) (fun _ _ _ => .inl rfl) fun cdv Ar outer s H E W hcd hr tk po hx => (dss_cons (ds_exp (DE.v (d_f shD (ok_look_house Tx_) (hr.mono (by decide)) (by rfl) hx (da_cons (de_var (pv 1) (by decide)) da_nil)))) (dss_cons (ds_fldD (b := true) rfl (by rfl) Tx_.sc (DE.v (de_var (pv 0) (by decide))) (de_var (pv 1) (by decide))) (dss_cons (ds_fldD (b := false) rfl (by rfl) Tx_.sc (DE.v (de_var (pv 0) (by decide))) (de_tup (da_cons (DN.d dn_dictK) (da_cons (DN.d dn_dictK) da_nil)) (by show 2 ≤ sizeLine; decide))) (dss_cons (ds_fldL (b := true) rfl (by rfl) Tx_.sc (by decide) (pv 0) (dn_lst da_nil (by show 0 ≤ sizeLine; decide))) (dss_one (ds_fldL (b := false) rfl (by rfl) Tx_.sc (by decide) (pv 0) (dn_lst da_nil (by show 0 ≤ sizeLine; decide))))))))
theorem ok_Show_house (Tx_ : Tx K mg) : MOk P w K mg base (amb K T pu) "house" 1 ["self"] rD m_Show_house := by
  exact fnM (F := b_Show_house) (Go := []) (N := N_Show_house) (k := 0) Tx_.g_Show_house Tx_.d_Show_house sc_Show_house (fun _ _ _ _ _ _ us hl => match us, hl with | [_], _ => rfl) (fun _ _ _ => .inl rfl) fun cdv Ar outer s H E W hcd hr tk po hx => (dss_one (ds_retD rfl (de_fldD (b := true) (by rfl) (by rfl) Tx_.sc (DE.v (de_var (pv 0) (by decide))))))
theorem ok_Show_step (Tx_ : Tx K mg) : MOk P w K mg base (amb K T) "step" 1 ["self", "word", "loans", "hung"] rD m_Show_step := by
  exact fnM (F := b_Show_step) (Go := []) (N := N_Show_step) (k := 0) Tx_.g_Show_step Tx_.d_Show_step sc_Show_step (fun _ _ _ _ _ _ us hl => match us, hl with | [_, _, _, _], _ => rfl) (fun _ _ _ => .inl rfl) fun cdv Ar outer s H E W hcd hr tk po hx => (dss_cons (ds_exp (DE.v (de_push (b := true) rfl (by rfl) (by rfl) Tx_.sc (by decide) (by decide) (pv 0) (pv 0) (pv 1)))) (dss_cons (ds_fldL (b := false) rfl (by rfl) Tx_.sc (by decide) (pv 0) (dn_lst da_nil (by show 0 ≤ sizeLine; decide))) (dss_one (ds_fldD (b := false) rfl (by rfl) Tx_.sc (DE.v (de_var (pv 0) (by decide))) (de_tup (da_cons (de_var (pv 2) (by decide)) (da_cons (de_var (pv 3) (by decide)) da_nil)) (by show 2 ≤ sizeLine; decide))))))
theorem ok_Show_look (Tx_ : Tx K mg) : MOk P w K mg base (amb K T pu) "look" 2 ["self", "name"] rD m_Show_look := by
  exact fnM (F := b_Show_look) (Go := []) (N := N_Show_look) (k := 1) Tx_.g_Show_look Tx_.d_Show_look sc_Show_look (fun _ _ _ _ _ _ us hl => match us, hl with | [_, _], _ => rfl) (fun _ _ _ => .inl rfl) fun cdv Ar outer s H E W hcd hr tk po hx => (dss_one (ds_if (DW.t (dw_or (dt_not (dt_val (DE.v (d_f shD (ok_is_name Tx_) (hr.mono (by decide)) (by rfl) hx (da_cons (de_var (pv 1) (by decide)) da_nil))))) (dw_or1 (Ck.dt (ck_notIn (hu65 hr)) (DE.v (de_var (pv 1) (by decide))) (DE.v (de_sub1 (by rfl) (hu_of hr) (DE.v (de_fldD (b := false) (by rfl) (by rfl) Tx_.sc (DE.v (de_var (pv 0) (by decide))))) (DE.v de_int))))))) (dss_one (ds_raise 4 rfl tk (pmkX Tx_.x_NoName Tx_.g_NoName rfl))) dss_nil))
theorem ok_Show_with_hung (Tx_ : Tx K mg) : MOk P w K mg base (amb K T pu) "with_hung" 1 ["self", "name", "rows"] rD m_Show_with_hung := by
  exact fnM (F := b_Show_with_hung) (Go := []) (N := N_Show_with_hung) (k := 0) Tx_.g_Show_with_hung Tx_.d_Show_with_hung sc_Show_with_hung (fun _ _ _ _ _ _ us hl => match us, hl with | [_, _, _], _ => rfl) (fun _ _ _ => .inl rfl) fun cdv Ar outer s H E W hcd hr tk po hx => (dss_cons (ds_setN (ps_set (i := 3) sc_Show_with_hung.nd rfl (by first | exact Or.inl rfl | exact Or.inr rfl) (dn_dict (by rfl) (by rfl) Tx_.n_dict bt_dict (DE.v (de_sub1 (by rfl) (hu_of hr) (DE.v (de_fldD (b := false) (by rfl) (by rfl) Tx_.sc (DE.v (de_var (pv 0) (by decide))))) (DE.v de_int)))))) (dss_cons (ds_put (hu_of hr) (by decide) (pv 3) (DE.v (de_var (pv 1) (by decide))) (de_tuple (by rfl) Tx_.n_tuple bt_tuple (DN.v (dn_sortC (by rfl) (by rfl) Tx_.n_sorted bt_sorted (DE.v (de_var (pv 2) (by decide))))))) (dss_one (DS.frz 3 (ds_retD rfl (de_var (pv 3) (by decide)))))))
theorem ok_Show_lend (Tx_ : Tx K mg) : MOk P w K mg base (amb K T) "lend" 5 ["self", "name", "picture", "first", "last"] rD m_Show_lend := by
  exact fnM (F := b_Show_lend) (Go := []) (N := N_Show_lend) (k := 4) Tx_.g_Show_lend Tx_.d_Show_lend sc_Show_lend (fun _ _ _ _ _ _ us hl => match us, hl with | [_, _, _, _, _], _ => rfl) (fun _ _ _ => .inl rfl) fun cdv Ar outer s H E W hcd hr tk po hx => (dss_cons (ds_if (dt_not (dt_val (DE.v (d_f shD (ok_is_name Tx_) (hr.mono (by decide)) (by rfl) hx (da_cons (de_var (pv 1) (by decide)) da_nil))))) (dss_one (ds_raise 4 rfl tk (pmkX Tx_.x_NoName Tx_.g_NoName rfl))) dss_nil) (dss_cons (ds_exp (DE.v (d_f shD (ok_look_picture Tx_) (hr.mono (by decide)) (by rfl) hx (da_cons (de_var (pv 2) (by decide)) da_nil)))) (dss_cons (ds_exp (DE.v (d_f shD (ok_look_days Tx_) (hr.mono (by decide)) (by rfl) hx (da_cons (de_var (pv 3) (by decide)) (da_cons (de_var (pv 4) (by decide)) da_nil))))) (dss_cons (ds_if (Ck.dt (ck_in (hu65 hr)) (DE.v (de_var (pv 1) (by decide))) (DE.v (de_sub1 (by rfl) (hu_of hr) (DE.v (de_fldD (b := false) (by rfl) (by rfl) Tx_.sc (DE.v (de_var (pv 0) (by decide))))) (DE.v de_int)))) (dss_one (ds_raise 6 rfl tk (pmkX Tx_.x_Taken Tx_.g_Taken rfl))) dss_nil) (dss_cons (ds_setN (ps_set (i := 5) sc_Show_lend.nd rfl (by first | exact Or.inl rfl | exact Or.inr rfl) (dn_dict (by rfl) (by rfl) Tx_.n_dict bt_dict (DE.v (de_sub1 (by rfl) (hu_of hr) (DE.v (de_fldD (b := false) (by rfl) (by rfl) Tx_.sc (DE.v (de_var (pv 0) (by decide))))) (DE.v de_int)))))) (dss_cons (ds_put (hu_of hr) (by decide) (pv 5) (DE.v (de_var (pv 1) (by decide))) (de_tup (da_cons (de_var (pv 2) (by decide)) (da_cons (de_var (pv 3) (by decide)) (da_cons (de_var (pv 4) (by decide)) da_nil))) (by show 3 ≤ sizeLine; decide))) (dss_cons (DS.frz 5 (ds_exp (DE.v (d_m shD Tx_.sc (ok_Show_step Tx_) (hr.mono (by decide)) hx (DE.v (de_var (pv 0) (by decide))) (da_cons de_str (da_cons (de_var (pv 5) (by decide)) (da_cons (d_m shD Tx_.sc (ok_Show_with_hung Tx_) (hr.mono (by decide)) hx (DE.v (de_var (pv 0) (by decide))) (da_cons (de_var (pv 1) (by decide)) (da_cons (DN.d (dn_lst da_nil (by show 0 ≤ sizeLine; decide))) da_nil))) da_nil))))))) (dss_one (ds_retD rfl (de_len (by rfl) (by rfl) Tx_.n_len (DE.v (de_var (pv 5) (by decide)))))))))))))
theorem ok_Show_loan (Tx_ : Tx K mg) : MOk P w K mg base (amb K T pu) "loan" 3 ["self", "name"] rD m_Show_loan := by
  exact fnM (F := b_Show_loan) (Go := []) (N := N_Show_loan) (k := 2) Tx_.g_Show_loan Tx_.d_Show_loan sc_Show_loan (fun _ _ _ _ _ _ us hl => match us, hl with | [_, _], _ => rfl) (fun _ _ _ => .inl rfl) fun cdv Ar outer s H E W hcd hr tk po hx => (dss_cons (ds_exp (DE.v (d_m shD Tx_.sc (ok_Show_look Tx_) (hr.mono (by decide)) hx (DE.v (de_var (pv 0) (by decide))) (da_cons (de_var (pv 1) (by decide)) da_nil)))) (dss_one (ds_retD rfl (de_sub1 (by rfl) (hu_of hr) (DE.v (de_sub1 (by rfl) (hu_of hr) (DE.v (de_fldD (b := false) (by rfl) (by rfl) Tx_.sc (DE.v (de_var (pv 0) (by decide))))) (DE.v de_int))) (DE.v (de_var (pv 1) (by decide)))))))
theorem ok_Show_names (Tx_ : Tx K mg) : MOk P w K mg base (amb K T pu) "names" 1 ["self"] rD m_Show_names := by
  exact fnM (F := b_Show_names) (Go := []) (N := N_Show_names) (k := 0) Tx_.g_Show_names Tx_.d_Show_names sc_Show_names (fun _ _ _ _ _ _ us hl => match us, hl with | [_], _ => rfl) (fun _ _ _ => .inl rfl) fun cdv Ar outer s H E W hcd hr tk po hx => (dss_one (ds_retD rfl (DN.d (dn_sortC (by rfl) (by rfl) Tx_.n_sorted bt_sorted (DE.v (de_sub1 (by rfl) (hu_of hr) (DE.v (de_fldD (b := false) (by rfl) (by rfl) Tx_.sc (DE.v (de_var (pv 0) (by decide))))) (DE.v de_int)))))))
theorem ok_Show_look_loan (Tx_ : Tx K mg) : MOk P w K mg base (amb K T pu) "look_loan" 1 ["self", "name", "first", "last"] rD m_Show_look_loan := by
  exact fnM (F := b_Show_look_loan) (Go := []) (N := N_Show_look_loan) (k := 0) Tx_.g_Show_look_loan Tx_.d_Show_look_loan sc_Show_look_loan (fun _ _ _ _ _ _ us hl => match us, hl with | [_, _, _, _], _ => rfl) (fun _ _ _ => .inl rfl) fun cdv Ar outer s H E W hcd hr tk po hx => (dss_cons (ds_asg (de_sub1 (by rfl) (hu_of hr) (DE.v (de_sub1 (by rfl) (hu_of hr) (DE.v (de_fldD (b := false) (by rfl) (by rfl) Tx_.sc (DE.v (de_var (pv 0) (by decide))))) (DE.v de_int))) (DE.v (de_var (pv 1) (by decide)))) (dg_tp (by rfl) (dgs_cons (dg_nm (pg_name (i := 4) sc_Show_look_loan.nd (by rfl) (by first | exact Or.inl rfl | exact Or.inr rfl)) (by decide)) (dgs_cons (dg_nm (pg_name (i := 5) sc_Show_look_loan.nd (by rfl) (by first | exact Or.inl rfl | exact Or.inr rfl)) (by decide)) (dgs_cons (dg_nm (pg_name (i := 6) sc_Show_look_loan.nd (by rfl) (by first | exact Or.inl rfl | exact Or.inr rfl)) (by decide)) dgs_nil)))) (by decide)) (dss_one (ds_if (DW.t (dw_or (Ck.dt ck_lt (DE.v (de_var (pv 2) (by decide))) (DE.v (de_var (pv 5) (by decide)))) (dw_or1 (Ck.dt ck_gt (DE.v (de_var (pv 3) (by decide))) (DE.v (de_var (pv 6) (by decide))))))) (dss_one (ds_raise 5 rfl tk (pmkX Tx_.x_NoDays Tx_.g_NoDays rfl))) dss_nil)))
theorem ok_Show_look_place (Tx_ : Tx K mg) : MOk P w K mg base (amb K T pu) "look_place" 4 ["self", "name", "room", "wall"] rD m_Show_look_place := by
  exact fnM (F := b_Show_look_place) (Go := []) (N := N_Show_look_place) (k := 3) Tx_.g_Show_look_place Tx_.d_Show_look_place sc_Show_look_place (fun _ _ _ _ _ _ us hl => match us, hl with | [_, _, _, _], _ => rfl) (fun _ _ _ => .inl rfl) fun cdv Ar outer s H E W hcd hr tk po hx => (dss_cons (ds_set (ps_set (i := 4) sc_Show_look_place.nd rfl (by first | exact Or.inl rfl | exact Or.inr rfl) (de_sub1 (by rfl) (hu_of hr) (DE.v (de_sub1 (by rfl) (hu_of hr) (DE.v (de_sub1 (by rfl) (hu_of hr) (DE.v (de_fldD (b := false) (by rfl) (by rfl) Tx_.sc (DE.v (de_var (pv 0) (by decide))))) (DE.v de_int))) (DE.v (de_var (pv 1) (by decide))))) (DE.v de_int)))) (dss_cons (ds_if (Ck.dt ck_gt (DE.v (de_sub1 (by rfl) (hu_of hr) (DE.v (de_sub1 (by rfl) (hu_of hr) (DE.v (de_sub1 (by rfl) (hu_of hr) (DE.v (de_sub1 (by rfl) (hu_of hr) (DE.v (de_fldD (b := true) (by rfl) (by rfl) Tx_.sc (DE.v (de_var (pv 0) (by decide))))) (DE.v de_int))) (DE.v (de_var (pv 2) (by decide))))) (DE.v (de_var (pv 3) (by decide))))) (DE.v de_int))) (DE.v (de_sub1 (by rfl) (hu_of hr) (DE.v (de_var (pv 4) (by decide))) (DE.v de_int)))) (dss_one (ds_raise 8 rfl tk (pmkX Tx_.x_TooBright Tx_.g_TooBright rfl))) dss_nil) (dss_one (ds_if (Ck.dt (ck_notIn (hu65 hr)) (DE.v (de_var (pv 2) (by decide))) (DE.v (d_f shD (ok_rooms_for Tx_) (hr.mono (by decide)) (by rfl) hx (da_cons (de_fldD (b := true) (by rfl) (by rfl) Tx_.sc (DE.v (de_var (pv 0) (by decide)))) (da_cons (de_var (pv 4) (by decide)) da_nil))))) (dss_one (ds_raise 9 rfl tk (pmkX Tx_.x_NoWay Tx_.g_NoWay rfl))) dss_nil))))
theorem ok_Show_look_hanging (Tx_ : Tx K mg) : MOk P w K mg base (amb K T pu) "look_hanging" 2 ["self", "name", "row", "rows"] rD m_Show_look_hanging := by
  exact fnM (F := b_Show_look_hanging) (Go := []) (N := N_Show_look_hanging) (k := 1) Tx_.g_Show_look_hanging Tx_.d_Show_look_hanging sc_Show_look_hanging (fun _ _ _ _ _ _ us hl => match us, hl with | [_, _, _, _], _ => rfl) (fun _ _ _ => .inl rfl) fun cdv Ar outer s H E W hcd hr tk po hx => (dss_cons (ds_asg (de_var (pv 2) (by decide)) (dg_tp (by rfl) (dgs_cons (dg_nm (pg_name (i := 4) sc_Show_look_hanging.nd (by rfl) (by first | exact Or.inl rfl | exact Or.inr rfl)) (by decide)) (dgs_cons (dg_nm (pg_name (i := 5) sc_Show_look_hanging.nd (by rfl) (by first | exact Or.inl rfl | exact Or.inr rfl)) (by decide)) (dgs_cons (dg_nm (pg_name (i := 6) sc_Show_look_hanging.nd (by rfl) (by first | exact Or.inl rfl | exact Or.inr rfl)) (by decide)) (dgs_cons (dg_nm (pg_name (i := 7) sc_Show_look_hanging.nd (by rfl) (by first | exact Or.inl rfl | exact Or.inr rfl)) (by decide)) (dgs_cons (dg_nm (pg_name (i := 8) sc_Show_look_hanging.nd (by rfl) (by first | exact Or.inl rfl | exact Or.inr rfl)) (by decide)) dgs_nil)))))) (by decide)) (dss_cons (ds_asg (de_sub1 (by rfl) (hu_of hr) (DE.v (de_sub1 (by rfl) (hu_of hr) (DE.v (de_sub1 (by rfl) (hu_of hr) (DE.v (de_fldD (b := false) (by rfl) (by rfl) Tx_.sc (DE.v (de_var (pv 0) (by decide))))) (DE.v de_int))) (DE.v (de_var (pv 1) (by decide))))) (DE.v de_int)) (dg_tp (by rfl) (dgs_cons (dg_nm (pg_name (i := 9) sc_Show_look_hanging.nd (by rfl) (by first | exact Or.inl rfl | exact Or.inr rfl)) (by decide)) (dgs_cons (dg_nm (pg_name (i := 10) sc_Show_look_hanging.nd (by rfl) (by first | exact Or.inl rfl | exact Or.inr rfl)) (by decide)) (dgs_cons (dg_nm (pg_name (i := 11) sc_Show_look_hanging.nd (by rfl) (by first | exact Or.inl rfl | exact Or.inr rfl)) (by decide)) (dgs_cons (dg_nm (pg_name (i := 12) sc_Show_look_hanging.nd (by rfl) (by first | exact Or.inl rfl | exact Or.inr rfl)) (by decide)) dgs_nil))))) (by decide)) (dss_cons (ds_asg (de_sub1 (by rfl) (hu_of hr) (DE.v (de_sub1 (by rfl) (hu_of hr) (DE.v (de_sub1 (by rfl) (hu_of hr) (DE.v (de_fldD (b := true) (by rfl) (by rfl) Tx_.sc (DE.v (de_var (pv 0) (by decide))))) (DE.v de_int))) (DE.v (de_var (pv 6) (by decide))))) (DE.v (de_var (pv 7) (by decide)))) (dg_tp (by rfl) (dgs_cons (dg_nm (pg_name (i := 13) sc_Show_look_hanging.nd (by rfl) (by first | exact Or.inl rfl | exact Or.inr rfl)) (by decide)) (dgs_cons (dg_nm (pg_name (i := 14) sc_Show_look_hanging.nd (by rfl) (by first | exact Or.inl rfl | exact Or.inr rfl)) (by decide)) (dgs_cons (dg_nm (pg_name (i := 15) sc_Show_look_hanging.nd (by rfl) (by first | exact Or.inl rfl | exact Or.inr rfl)) (by decide)) dgs_nil)))) (by decide)) (dss_cons (ds_if (dt_val (DE.v (de_any (by rfl) (by rfl) Tx_.n_any bt_any (DN.v (dn_lc [16] (by rfl) sc_Show_look_hanging.nd (di_seq (de_var (pv 3) (by decide))) (blkOk_by (own := [("one", 16)]) (N := N_Show_look_hanging) (sc := defScope s_Show_look_hanging) (by decide +kernel)) rfl (by decide) (fun _ _ _ _ _ => (dg_nm (pg_name (i := 16) sc_Show_look_hanging.nd (by rfl) (by first | exact Or.inl rfl | exact Or.inr rfl)) (by decide))) (fun _ _ _ _ _ => dts_nil) (fun _ _ _ _ _ => (d_f shD (ok_do_meet Tx_) (hr.mono (by decide)) (by rfl) passL (da_cons (de_var (pv 2) (by decide)) (da_cons (de_var (pv 16) (by decide)) da_nil))))))))) (dss_one (ds_raise 10 rfl tk (pmkX Tx_.x_Elsewhere Tx_.g_Elsewhere rfl))) dss_nil) (dss_cons (ds_setN (ps_set (i := 17) sc_Show_look_hanging.nd rfl (by first | exact Or.inl rfl | exact Or.inr rfl) (dn_lst da_nil (by show 0 ≤ sizeLine; decide)))) (dss_cons (ds_for po rfl (di_keys (de_sub1 (by rfl) (hu_of hr) (DE.v (de_fldD (b := false) (by rfl) (by rfl) Tx_.sc (DE.v (de_var (pv 0) (by decide))))) (DE.v de_int))) (dg_nm (pg_name (i := 18) sc_Show_look_hanging.nd (by rfl) (by first | exact Or.inl rfl | exact Or.inr rfl)) (by decide)) (by decide) (dss_one (ds_ext (by decide) (pv 17) (DN.v (dn_lc [16] (by rfl) sc_Show_look_hanging.nd (di_seq (de_sub1 (by rfl) (hu_of hr) (DE.v (de_sub1 (by rfl) (hu_of hr) (DE.v (de_fldD (b := false) (by rfl) (by rfl) Tx_.sc (DE.v (de_var (pv 0) (by decide))))) (DE.v de_int))) (DE.v (de_var (pv 18) (by decide))))) (blkOk_by (own := [("one", 16)]) (N := N_Show_look_hanging) (sc := defScope s_Show_look_hanging) (by decide +kernel)) rfl (by decide) (fun _ _ _ _ _ => (dg_nm (pg_name (i := 16) sc_Show_look_hanging.nd (by rfl) (by first | exact Or.inl rfl | exact Or.inr rfl)) (by decide))) (fun _ _ _ _ _ => (dts_one (Ck.dt (ck_ne (by rfl) hr.units) (DE.v (de_var (pv 18) (by decide))) (DE.v (de_var (pv 1) (by decide)))))) (fun _ _ _ _ _ => (de_tup (da_cons (de_var (pv 16) (by decide)) (da_cons (de_sub1 (by rfl) (hu_of hr) (DE.v (de_sub1 (by rfl) (hu_of hr) (DE.v (de_sub1 (by rfl) (hu_of hr) (DE.v (de_fldD (b := false) (by rfl) (by rfl) Tx_.sc (DE.v (de_var (pv 0) (by decide))))) (DE.v de_int))) (DE.v (de_var (pv 18) (by decide))))) (DE.v de_int)) da_nil)) (by show 2 ≤ sizeLine; decide)))))))) (dss_cons (DS.frz 17 (ds_setN (set_lc (i := 17) [16, 19] (by rfl) sc_Show_look_hanging.nd rfl rfl (sw_true rfl rfl rfl (by decide +kernel)) (di_seq (de_var (pv 17) (by decide))) (blkOk_by (own := [("one", 16), ("there", 19)]) (N := N_Show_look_hanging) (sc := defScope s_Show_look_hanging) (by decide +kernel)) rfl (by decide) (fun _ _ _ _ _ => (dg_tp (by rfl) (dgs_cons (dg_nm (pg_name (i := 16) sc_Show_look_hanging.nd (by rfl) (by first | exact Or.inl rfl | exact Or.inr rfl)) (by decide)) (dgs_cons (dg_nm (pg_name (i := 19) sc_Show_look_hanging.nd (by rfl) (by first | exact Or.inl rfl | exact Or.inr rfl)) (by decide)) dgs_nil)))) (fun _ _ _ _ _ => (dts_one (DW.t (dw_and (Ck.dt (ck_eq (by rfl) hr.units) (DE.v (de_slice (DE.v (de_var (pv 16) (by decide))) (do_some (DE.v de_int)) (do_some (DE.v de_int)))) (DE.v (de_tup (da_cons (de_var (pv 6) (by decide)) (da_cons (de_var (pv 7) (by decide)) da_nil)) (by show 2 ≤ sizeLine; decide)))) (dw_and1 (dt_val (DE.v (d_f shD (ok_do_meet Tx_) (hr.mono (by decide)) (by rfl) passL (da_cons (de_var (pv 16) (by decide)) (da_cons (de_var (pv 2) (by decide)) da_nil)))))))))) (fun _ _ _ _ _ => (de_tup (da_cons (de_var (pv 16) (by decide)) (da_cons (de_var (pv 19) (by decide)) da_nil)) (by show 2 ≤ sizeLine; decide)))))) (dss_cons (ds_if (DW.t (dw_or (Ck.dt ck_lt (DE.v (de_var (pv 8) (by decide))) (DE.v de_int)) (dw_or1 (Ck.dt ck_gt (DE.v (de_add (DE.v (de_var (pv 8) (by decide))) (DE.v (de_var (pv 9) (by decide))))) (DE.v (de_var (pv 13) (by decide))))))) (dss_one (ds_raise 11 rfl tk (pmkX Tx_.x_NoSpace Tx_.g_NoSpace rfl))) dss_nil) (dss_cons (DS.frz 17 (ds_if (dt_val (DE.v (de_any (by rfl) (by rfl) Tx_.n_any bt_any (DN.v (dn_lc [16, 19] (by rfl) sc_Show_look_hanging.nd (di_seq (de_var (pv 17) (by decide))) (blkOk_by (own := [("one", 16), ("there", 19)]) (N := N_Show_look_hanging) (sc := defScope s_Show_look_hanging) (by decide +kernel)) rfl (by decide) (fun _ _ _ _ _ => (dg_tp (by rfl) (dgs_cons (dg_nm (pg_name (i := 16) sc_Show_look_hanging.nd (by rfl) (by first | exact Or.inl rfl | exact Or.inr rfl)) (by decide)) (dgs_cons (dg_nm (pg_name (i := 19) sc_Show_look_hanging.nd (by rfl) (by first | exact Or.inl rfl | exact Or.inr rfl)) (by decide)) dgs_nil)))) (fun _ _ _ _ _ => dts_nil) (fun _ _ _ _ _ => (de_and (DE.v (Ck.de ck_lt (DE.v (de_sub1 (by rfl) (hu_of hr) (DE.v (de_var (pv 16) (by decide))) (DE.v de_int))) (DE.v (de_add (DE.v (de_var (pv 8) (by decide))) (DE.v (de_var (pv 9) (by decide))))))) (de_and1 (Ck.de ck_lt (DE.v (de_var (pv 8) (by decide))) (DE.v (de_add (DE.v (de_sub1 (by rfl) (hu_of hr) (DE.v (de_var (pv 16) (by decide))) (DE.v de_int))) (DE.v (de_sub1 (by rfl) (hu_of hr) (DE.v (de_var (pv 19) (by decide))) (DE.v de_int)))))))))))))) (dss_one (ds_raise 11 rfl tk (pmkX Tx_.x_NoSpace Tx_.g_NoSpace rfl))) dss_nil)) (dss_one (ds_for po rfl (di_range2 (by rfl) Tx_.n_range (da_cons (de_var (pv 4) (by decide)) (da_cons (de_add (DE.v (de_var (pv 5) (by decide))) (DE.v de_int)) da_nil))) (dg_nm (pg_name (i := 20) sc_Show_look_hanging.nd (by rfl) (by first | exact Or.inl rfl | exact Or.inr rfl)) (by decide)) (by decide) (dss_one (ds_if (Ck.dt ck_gt (DE.v (de_add (DE.v (de_var (pv 11) (by decide))) (DE.v (de_sum (by rfl) (by rfl) Tx_.n_sum bt_sum (DN.v (dn_lc [16, 19] (by rfl) sc_Show_look_hanging.nd (di_seq (de_var (pv 17) (by decide))) (blkOk_by (own := [("one", 16), ("there", 19)]) (N := N_Show_look_hanging) (sc := defScope s_Show_look_hanging) (by decide +kernel)) rfl (by decide) (fun _ _ _ _ _ => (dg_tp (by rfl) (dgs_cons (dg_nm (pg_name (i := 16) sc_Show_look_hanging.nd (by rfl) (by first | exact Or.inl rfl | exact Or.inr rfl)) (by decide)) (dgs_cons (dg_nm (pg_name (i := 19) sc_Show_look_hanging.nd (by rfl) (by first | exact Or.inl rfl | exact Or.inr rfl)) (by decide)) dgs_nil)))) (fun _ _ _ _ _ => (dts_one (dt_chain op_le op_le (DE.v (de_sub1 (by rfl) (hu_of hr) (DE.v (de_var (pv 16) (by decide))) (DE.v de_int))) (DE.v (de_var (pv 20) (by decide))) (DE.v (de_sub1 (by rfl) (hu_of hr) (DE.v (de_var (pv 16) (by decide))) (DE.v de_int)))))) (fun _ _ _ _ _ => (de_sub1 (by rfl) (hu_of hr) (DE.v (de_var (pv 19) (by decide))) (DE.v de_int))))))))) (DE.v (de_var (pv 14) (by decide)))) (dss_one (ds_raise 12 rfl tk (pmkX Tx_.x_TooHeavy Tx_.g_TooHeavy rfl))) dss_nil)))))))))))))
theorem ok_Show_hang (Tx_ : Tx K mg) : MOk P w K mg base (amb K T) "hang" 5 ["self", "name", "room", "wall", "at", "first", "last"] rD m_Show_hang := by
  exact fnM (F := b_Show_hang) (Go := []) (N := N_Show_hang) (k := 4) Tx_.g_Show_hang Tx_.d_Show_hang sc_Show_hang (fun _ _ _ _ _ _ us hl => match us, hl with | [_, _, _, _, _, _, _], _ => rfl) (fun _ _ _ => .inl rfl) fun cdv Ar outer s H E W hcd hr tk po hx => (dss_cons (ds_exp (DE.v (d_m shD Tx_.sc (ok_Show_look Tx_) (hr.mono (by decide)) hx (DE.v (de_var (pv 0) (by decide))) (da_cons (de_var (pv 1) (by decide)) da_nil)))) (dss_cons (ds_exp (DE.v (d_f shD (ok_look_wall Tx_) (hr.mono (by decide)) (by rfl) hx (da_cons (de_fldD (b := true) (by rfl) (by rfl) Tx_.sc (DE.v (de_var (pv 0) (by decide)))) (da_cons (de_var (pv 2) (by decide)) (da_cons (de_var (pv 3) (by decide)) da_nil)))))) (dss_cons (ds_exp (DE.v (d_f shD (ok_look_days Tx_) (hr.mono (by decide)) (by rfl) hx (da_cons (de_var (pv 5) (by decide)) (da_cons (de_var (pv 6) (by decide)) da_nil))))) (dss_cons (ds_exp (DE.v (d_m shD Tx_.sc (ok_Show_look_loan Tx_) (hr.mono (by decide)) hx (DE.v (de_var (pv 0) (by decide))) (da_cons (de_var (pv 1) (by decide)) (da_cons (de_var (pv 5) (by decide)) (da_cons (de_var (pv 6) (by decide)) da_nil)))))) (dss_cons (ds_exp (DE.v (d_m shD Tx_.sc (ok_Show_look_place Tx_) (hr.mono (by decide)) hx (DE.v (de_var (pv 0) (by decide))) (da_cons (de_var (pv 1) (by decide)) (da_cons (de_var (pv 2) (by decide)) (da_cons (de_var (pv 3) (by decide)) da_nil)))))) (dss_cons (ds_par2 (ps_par rfl sc_Show_hang.nd rfl rfl (by decide) rfl rfl (pam_D (de_tup (da_cons (de_var (pv 5) (by decide)) (da_cons (de_var (pv 6) (by decide)) (da_cons (de_var (pv 2) (by decide)) (da_cons (de_var (pv 3) (by decide)) (da_cons (de_var (pv 4) (by decide)) da_nil))))) (by show 5 ≤ sizeLine; decide)) (pam_D (DN.d (dn_list (by rfl) Tx_.n_list bt_list (DE.v (de_sub1 (by rfl) (hu_of hr) (DE.v (de_sub1 (by rfl) (hu_of hr) (DE.v (de_fldD (b := false) (by rfl) (by rfl) Tx_.sc (DE.v (de_var (pv 0) (by decide))))) (DE.v de_int))) (DE.v (de_var (pv 1) (by decide))))))) pam_nil)) (by rfl))) (dss_cons (ds_exp (DE.v (d_m shD Tx_.sc (ok_Show_look_hanging Tx_) (hr.mono (by decide)) hx (DE.v (de_var (pv 0) (by decide))) (da_cons (de_var (pv 1) (by decide)) (da_cons (de_var (pv 7) (by decide)) (da_cons (de_var (pv 8) (by decide)) da_nil)))))) (dss_cons (ds_exp (DE.v (d_m shD Tx_.sc (ok_Show_step Tx_) (hr.mono (by decide)) hx (DE.v (de_var (pv 0) (by decide))) (da_cons de_str (da_cons (de_sub1 (by rfl) (hu_of hr) (DE.v (de_fldD (b := false) (by rfl) (by rfl) Tx_.sc (DE.v (de_var (pv 0) (by decide))))) (DE.v de_int)) (da_cons (d_m shD Tx_.sc (ok_Show_with_hung Tx_) (hr.mono (by decide)) hx (DE.v (de_var (pv 0) (by decide))) (da_cons (de_var (pv 1) (by decide)) (da_cons (de_add (DE.v (de_var (pv 8) (by decide))) (DN.v (dn_lst (da_cons (de_var (pv 7) (by decide)) da_nil) (by show 1 ≤ sizeLine; decide)))) da_nil))) da_nil)))))) (dss_one (ds_retD rfl (de_add (DE.v (de_len (by rfl) (by rfl) Tx_.n_len (DE.v (de_var (pv 8) (by decide))))) (DE.v de_int))))))))))))
theorem ok_Show_hangings (Tx_ : Tx K mg) : MOk P w K mg base (amb K T pu) "hangings" 3 ["self", "name"] rD m_Show_hangings := by
  exact fnM (F := b_Show_hangings) (Go := []) (N := N_Show_hangings) (k := 2) Tx_.g_Show_hangings Tx_.d_Show_hangings sc_Show_hangings (fun _ _ _ _ _ _ us hl => match us, hl with | [_, _], _ => rfl) (fun _ _ _ => .inl rfl) fun cdv Ar outer s H E W hcd hr tk po hx => (dss_cons (ds_exp (DE.v (d_m shD Tx_.sc (ok_Show_look Tx_) (hr.mono (by decide)) hx (DE.v (de_var (pv 0) (by decide))) (da_cons (de_var (pv 1) (by decide)) da_nil)))) (dss_one (ds_retD rfl (DN.d (dn_list (by rfl) Tx_.n_list bt_list (DE.v (de_sub1 (by rfl) (hu_of hr) (DE.v (de_sub1 (by rfl) (hu_of hr) (DE.v (de_fldD (b := false) (by rfl) (by rfl) Tx_.sc (DE.v (de_var (pv 0) (by decide))))) (DE.v de_int))) (DE.v (de_var (pv 1) (by decide))))))))))
theorem ok_Show_hanging_on (Tx_ : Tx K mg) : MOk P w K mg base (amb K T pu) "hanging_on" 1 ["self", "name", "day"] rD m_Show_hanging_on := by
  exact fnM (F := b_Show_hanging_on) (Go := []) (N := N_Show_hanging_on) (k := 0) Tx_.g_Show_hanging_on Tx_.d_Show_hanging_on sc_Show_hanging_on (fun _ _ _ _ _ _ us hl => match us, hl with | [_, _, _], _ => rfl) (fun _ _ _ => .inl rfl) fun cdv Ar outer s H E W hcd hr tk po hx => (dss_one (ds_retD rfl (de_sub1 (by rfl) (hu_of hr) (DE.v (de_add (DN.v (dn_lc [3] (by rfl) sc_Show_hanging_on.nd (di_seq (de_sub1 (by rfl) (hu_of hr) (DE.v (de_sub1 (by rfl) (hu_of hr) (DE.v (de_fldD (b := false) (by rfl) (by rfl) Tx_.sc (DE.v (de_var (pv 0) (by decide))))) (DE.v de_int))) (DE.v (de_var (pv 1) (by decide))))) (blkOk_by (own := [("row", 3)]) (N := N_Show_hanging_on) (sc := defScope s_Show_hanging_on) (by decide +kernel)) rfl (by decide) (fun _ _ _ _ _ => (dg_nm (pg_name (i := 3) sc_Show_hanging_on.nd (by rfl) (by first | exact Or.inl rfl | exact Or.inr rfl)) (by decide))) (fun _ _ _ _ _ => (dts_one (dt_chain op_le op_le (DE.v (de_sub1 (by rfl) (hu_of hr) (DE.v (de_var (pv 3) (by decide))) (DE.v de_int))) (DE.v (de_var (pv 2) (by decide))) (DE.v (de_sub1 (by rfl) (hu_of hr) (DE.v (de_var (pv 3) (by decide))) (DE.v de_int)))))) (fun _ _ _ _ _ => (de_var (pv 3) (by decide))))) (DN.v (dn_lst (da_cons de_non da_nil) (by show 1 ≤ sizeLine; decide))))) (DE.v de_int))))
theorem ok_Show_where (Tx_ : Tx K mg) : MOk P w K mg base (amb K T pu) "where" 4 ["self", "name", "day"] rD m_Show_where := by
  exact fnM (F := b_Show_where) (Go := []) (N := N_Show_where) (k := 3) Tx_.g_Show_where Tx_.d_Show_where sc_Show_where (fun _ _ _ _ _ _ us hl => match us, hl with | [_, _, _], _ => rfl) (fun _ _ _ => .inl rfl) fun cdv Ar outer s H E W hcd hr tk po hx => (dss_cons (ds_exp (DE.v (d_m shD Tx_.sc (ok_Show_look Tx_) (hr.mono (by decide)) hx (DE.v (de_var (pv 0) (by decide))) (da_cons (de_var (pv 1) (by decide)) da_nil)))) (dss_cons (ds_exp (DE.v (d_f shD (ok_look_day Tx_) (hr.mono (by decide)) (by rfl) hx (da_cons (de_var (pv 2) (by decide)) da_nil)))) (dss_cons (ds_set (ps_set (i := 3) sc_Show_where.nd rfl (by first | exact Or.inl rfl | exact Or.inr rfl) (d_m shD Tx_.sc (ok_Show_hanging_on Tx_) (hr.mono (by decide)) hx (DE.v (de_var (pv 0) (by decide))) (da_cons (de_var (pv 1) (by decide)) (da_cons (de_var (pv 2) (by decide)) da_nil))))) (dss_one (ds_retD rfl (d_if shD (dt_isN (DE.v (de_var (pv 3) (by decide)))) de_non (de_slice (DE.v (de_var (pv 3) (by decide))) (do_some (DE.v de_int)) do_none)))))))
theorem ok_Show_twin (Tx_ : Tx K mg) : MOk P w K mg base (amb K T) "twin" 9 ["self"] rD m_Show_twin := by
  exact fnM (F := b_Show_twin) (Go := []) (N := N_Show_twin) (k := 8) Tx_.g_Show_twin Tx_.d_Show_twin sc_Show_twin (fun _ _ _ _ _ _ us hl => match us, hl with | [_], _ => rfl) (fun _ _ _ => .inl rfl) fun cdv Ar outer s H E W hcd hr tk po hx => (dss_cons (ds_set (ps_set (i := 1) sc_Show_twin.nd rfl (by first | exact Or.inl rfl | exact Or.inr rfl) (de_mk Tx_.mkS (ok_Show___init__ Tx_) (hr.mono (by decide)) (by rfl) Tx_.g_Show hx (da_cons (de_fldD (b := true) (by rfl) (by rfl) Tx_.sc (DE.v (de_var (pv 0) (by decide)))) da_nil)))) (dss_cons (ds_fldD (b := false) rfl (by rfl) Tx_.sc (DE.v (de_var (pv 1) (by decide))) (de_fldD (b := false) (by rfl) (by rfl) Tx_.sc (DE.v (de_var (pv 0) (by decide))))) (dss_cons (ds_fldL (b := true) rfl (by rfl) Tx_.sc (by decide) (pv 1) (dn_listL (by rfl) Tx_.n_list bt_list (dt_fldL (b := true) (by rfl) (by rfl) Tx_.sc (DE.v (de_var (pv 0) (by decide)))))) (dss_cons (ds_fldL (b := false) rfl (by rfl) Tx_.sc (by decide) (pv 1) (dn_listL (by rfl) Tx_.n_list bt_list (dt_fldL (b := false) (by rfl) (by rfl) Tx_.sc (DE.v (de_var (pv 0) (by decide)))))) (dss_one (ds_retD rfl (de_var (pv 1) (by decide))))))))
theorem ok_hung_on (Tx_ : Tx K mg) : FOk P w K mg base (amb K T pu) "hung_on" 5 ["show", "day"] rD m_hung_on := by
  exact fnF (F := b_hung_on) (Go := []) (N := N_hung_on) (k := 4) Tx_.g_hung_on Tx_.d_hung_on sc_hung_on (fun _ _ _ _ _ _ us hl => match us, hl with | [_, _], _ => rfl) (fun _ _ _ => .inl rfl) fun cdv Ar outer s H E W hcd hr tk po hx => (dss_cons (ds_setN (ps_set (i := 2) sc_hung_on.nd rfl (by first | exact Or.inl rfl | exact Or.inr rfl) (dn_lst da_nil (by show 0 ≤ sizeLine; decide)))) (dss_cons (ds_for po rfl (di_seq (d_m0 shD Tx_.sc (ok_Show_names Tx_) (hr.mono (by decide)) hx (DE.v (de_var (pv 0) (by decide))))) (dg_nm (pg_name (i := 3) sc_hung_on.nd (by rfl) (by first | exact Or.inl rfl | exact Or.inr rfl)) (by decide)) (by decide) (dss_cons (ds_set (ps_set (i := 4) sc_hung_on.nd rfl (by first | exact Or.inl rfl | exact Or.inr rfl) (d_m shD Tx_.sc (ok_Show_where Tx_) (hr.mono (by decide)) hx (DE.v (de_var (pv 0) (by decide))) (da_cons (de_var (pv 3) (by decide)) (da_cons (de_var (pv 1) (by decide)) da_nil))))) (dss_one (ds_if (dt_notN (DE.v (de_var (pv 4) (by decide)))) (dss_one (ds_app (by decide) (pv 2) (de_add (DE.v (de_var (pv 4) (by decide))) (DE.v (de_tup (da_cons (de_var (pv 3) (by decide)) da_nil) (by show 1 ≤ sizeLine; decide)))))) dss_nil)))) (dss_one (ds_retD rfl (DN.d (dn_sortC (by rfl) (by rfl) Tx_.n_sorted bt_sorted (dv_var (pv 2))))))))
theorem ok_rows_on (Tx_ : Tx K mg) : FOk P w K mg base (amb K T pu) "rows_on" 4 ["show", "room", "wall"] rD m_rows_on := by
  exact fnF (F := b_rows_on) (Go := []) (N := N_rows_on) (k := 3) Tx_.g_rows_on Tx_.d_rows_on sc_rows_on (fun _ _ _ _ _ _ us hl => match us, hl with | [_, _, _], _ => rfl) (fun _ _ _ => .inl rfl) fun cdv Ar outer s H E W hcd hr tk po hx => (dss_cons (ds_setN (ps_set (i := 3) sc_rows_on.nd rfl (by first | exact Or.inl rfl | exact Or.inr rfl) (dn_lst da_nil (by show 0 ≤ sizeLine; decide)))) (dss_cons (ds_for po rfl (di_seq (d_m0 shD Tx_.sc (ok_Show_names Tx_) (hr.mono (by decide)) hx (DE.v (de_var (pv 0) (by decide))))) (dg_nm (pg_name (i := 4) sc_rows_on.nd (by rfl) (by first | exact Or.inl rfl | exact Or.inr rfl)) (by decide)) (by decide) (dss_cons (ds_set (ps_set (i := 5) sc_rows_on.nd rfl (by first | exact Or.inl rfl | exact Or.inr rfl) (de_sub1 (by rfl) (hu_of hr) (DE.v (de_sub1 (by rfl) (hu_of hr) (DE.v (d_m shD Tx_.sc (ok_Show_loan Tx_) (hr.mono (by decide)) hx (DE.v (de_var (pv 0) (by decide))) (da_cons (de_var (pv 4) (by decide)) da_nil))) (DE.v de_int))) (DE.v de_int)))) (dss_one (ds_ext (by decide) (pv 3) (DN.v (dn_lc [6] (by rfl) sc_rows_on.nd (di_seq (d_m shD Tx_.sc (ok_Show_hangings Tx_) (hr.mono (by decide)) hx (DE.v (de_var (pv 0) (by decide))) (da_cons (de_var (pv 4) (by decide)) da_nil))) (blkOk_by (own := [("row", 6)]) (N := N_rows_on) (sc := defScope s_rows_on) (by decide +kernel)) rfl (by decide) (fun _ _ _ _ _ => (dg_nm (pg_name (i := 6) sc_rows_on.nd (by rfl) (by first | exact Or.inl rfl | exact Or.inr rfl)) (by decide))) (fun _ _ _ _ _ => (dts_one (Ck.dt (ck_eq (by rfl) hr.units) (DE.v (de_slice (DE.v (de_var (pv 6) (by decide))) (do_some (DE.v de_int)) (do_some (DE.v de_int)))) (DE.v (de_tup (da_cons (de_var (pv 1) (by decide)) (da_cons (de_var (pv 2) (by decide)) da_nil)) (by show 2 ≤ sizeLine; decide)))))) (fun _ _ _ _ _ => (de_add (DE.v (de_slice (DE.v (de_var (pv 6) (by decide))) do_none (do_some (DE.v de_int)))) (DE.v (de_tup (da_cons (de_sub1 (by rfl) (hu_of hr) (DE.v (de_var (pv 6) (by decide))) (DE.v de_int)) (da_cons (de_var (pv 5) (by decide)) da_nil)) (by show 2 ≤ sizeLine; decide))))))))))) (dss_one (DS.frz 3 (ds_retD rfl (de_var (pv 3) (by decide)))))))
theorem ok_stretches (Tx_ : Tx K mg) : FOk P w K mg base (amb K T pu) "stretches" 1 ["marks"] rD m_stretches := by
  exact fnF (F := b_stretches) (Go := []) (N := N_stretches) (k := 0) Tx_.g_stretches Tx_.d_stretches sc_stretches (fun _ _ _ _ _ _ us hl => match us, hl with | [_], _ => rfl) (fun _ _ _ => .inl rfl) fun cdv Ar outer s H E W hcd hr tk po hx => (dss_cons (ds_par2 (ps_par rfl sc_stretches.nd rfl rfl (by decide) rfl rfl (pam_N (dn_lst da_nil (by show 0 ≤ sizeLine; decide)) (pam_D de_non pam_nil)) (by rfl))) (dss_cons (ds_for po rfl (di_enum (by rfl) Tx_.n_enumerate (da_cons (de_add (DN.v (dn_list (by rfl) Tx_.n_list bt_list (DE.v (de_var (pv 0) (by decide))))) (DN.v (dn_lst (da_cons de_bl da_nil) (by show 1 ≤ sizeLine; decide)))) da_nil)) (dg_tp (by rfl) (dgs_cons (dg_nm (pg_name (i := 3) sc_stretches.nd (by rfl) (by first | exact Or.inl rfl | exact Or.inr rfl)) (by decide)) (dgs_cons (dg_nm (pg_name (i := 4) sc_stretches.nd (by rfl) (by first | exact Or.inl rfl | exact Or.inr rfl)) (by decide)) dgs_nil))) (by decide) (dss_cons (ds_if (DW.t (dw_and (dt_val (DE.v (de_var (pv 4) (by decide)))) (dw_and1 (dt_isN (DE.v (de_var (pv 2) (by decide))))))) (dss_one (ds_set (ps_set (i := 2) sc_stretches.nd rfl (by first | exact Or.inl rfl | exact Or.inr rfl) (de_var (pv 3) (by decide))))) dss_nil) (dss_one (ds_if (DW.t (dw_and (dt_not (dt_val (DE.v (de_var (pv 4) (by decide))))) (dw_and1 (dt_notN (DE.v (de_var (pv 2) (by decide))))))) (dss_cons (ds_app (by decide) (pv 1) (de_tup (da_cons (de_var (pv 2) (by decide)) (da_cons (de_sub (DE.v (de_var (pv 3) (by decide))) (DE.v (de_var (pv 2) (by decide)))) da_nil)) (by show 2 ≤ sizeLine; decide))) (dss_one (ds_set (ps_set (i := 2) sc_stretches.nd rfl (by first | exact Or.inl rfl | exact Or.inr rfl) de_non)))) dss_nil)))) (dss_one (DS.frz 1 (ds_retD rfl (de_var (pv 1) (by decide)))))))
theorem ok_free (Tx_ : Tx K mg) : FOk P w K mg base (amb K T pu) "free" 5 ["show", "room", "wall", "first", "last"] rD m_free := by
  exact fnF (F := b_free) (Go := []) (N := N_free) (k := 4) Tx_.g_free Tx_.d_free sc_free (fun _ _ _ _ _ _ us hl => match us, hl with | [_, _, _, _, _], _ => rfl) (fun _ _ _ => .inl rfl) fun cdv Ar outer s H E W hcd hr tk po hx => (dss_cons (ds_exp (DE.v (d_f shD (ok_look_wall Tx_) (hr.mono (by decide)) (by rfl) hx (da_cons (d_m0 shD Tx_.sc (ok_Show_house Tx_) (hr.mono (by decide)) hx (DE.v (de_var (pv 0) (by decide)))) (da_cons (de_var (pv 1) (by decide)) (da_cons (de_var (pv 2) (by decide)) da_nil)))))) (dss_cons (ds_exp (DE.v (d_f shD (ok_look_days Tx_) (hr.mono (by decide)) (by rfl) hx (da_cons (de_var (pv 3) (by decide)) (da_cons (de_var (pv 4) (by decide)) da_nil))))) (dss_cons (ds_set (ps_set (i := 5) sc_free.nd rfl (by first | exact Or.inl rfl | exact Or.inr rfl) (de_mul (DN.v (dn_lst (da_cons de_bl da_nil) (by show 1 ≤ sizeLine; decide))) (DE.v (de_sub1 (by rfl) (hu_of hr) (DE.v (de_sub1 (by rfl) (hu_of hr) (DE.v (de_sub1 (by rfl) (hu_of hr) (DE.v (de_sub1 (by rfl) (hu_of hr) (DE.v (d_m0 shD Tx_.sc (ok_Show_house Tx_) (hr.mono (by decide)) hx (DE.v (de_var (pv 0) (by decide))))) (DE.v de_int))) (DE.v (de_var (pv 1) (by decide))))) (DE.v (de_var (pv 2) (by decide))))) (DE.v de_int)))))) (dss_cons (ds_for po rfl (di_seq (d_f shD (ok_rows_on Tx_) (hr.mono (by decide)) (by rfl) hx (da_cons (de_var (pv 0) (by decide)) (da_cons (de_var (pv 1) (by decide)) (da_cons (de_var (pv 2) (by decide)) da_nil))))) (dg_tp (by rfl) (dgs_cons (dg_nm (pg_name (i := 6) sc_free.nd (by rfl) (by first | exact Or.inl rfl | exact Or.inr rfl)) (by decide)) (dgs_cons (dg_nm (pg_name (i := 7) sc_free.nd (by rfl) (by first | exact Or.inl rfl | exact Or.inr rfl)) (by decide)) (dgs_cons (dg_nm (pg_name (i := 8) sc_free.nd (by rfl) (by first | exact Or.inl rfl | exact Or.inr rfl)) (by decide)) (dgs_cons (dg_nm (pg_name (i := 9) sc_free.nd (by rfl) (by first | exact Or.inl rfl | exact Or.inr rfl)) (by decide)) dgs_nil))))) (by decide) (dss_one (ds_if (dt_val (DE.v (d_f shD (ok_do_meet Tx_) (hr.mono (by decide)) (by rfl) hx (da_cons (de_tup (da_cons (de_var (pv 6) (by decide)) (da_cons (de_var (pv 7) (by decide)) da_nil)) (by show 2 ≤ sizeLine; decide)) (da_cons (de_tup (da_cons (de_var (pv 3) (by decide)) (da_cons (de_var (pv 4) (by decide)) da_nil)) (by show 2 ≤ sizeLine; decide)) da_nil))))) (dss_one (ds_set (asgND (set_lc (i := 5) [10, 11] (by rfl) sc_free.nd rfl rfl (sw_true rfl rfl rfl (by decide +kernel)) (di_enum (by rfl) Tx_.n_enumerate (da_cons (de_var (pv 5) (by decide)) da_nil)) (blkOk_by (own := [("hand", 10), ("is_so", 11)]) (N := N_free) (sc := defScope s_free) (by decide +kernel)) rfl (by decide) (fun _ _ _ _ _ => (dg_tp (by rfl) (dgs_cons (dg_nm (pg_name (i := 10) sc_free.nd (by rfl) (by first | exact Or.inl rfl | exact Or.inr rfl)) (by decide)) (dgs_cons (dg_nm (pg_name (i := 11) sc_free.nd (by rfl) (by first | exact Or.inl rfl | exact Or.inr rfl)) (by decide)) dgs_nil)))) (fun _ _ _ _ _ => dts_nil) (fun _ _ _ _ _ => (de_and (DE.v (de_var (pv 11) (by decide))) (de_and1 (de_not (DE.v (de_chain op_le op_lt (DE.v (de_var (pv 8) (by decide))) (DE.v (de_var (pv 10) (by decide))) (DE.v (de_add (DE.v (de_var (pv 8) (by decide))) (DE.v (de_var (pv 9) (by decide))))))))))))))) dss_nil))) (dss_one (ds_retD rfl (d_f shD (ok_stretches Tx_) (hr.mono (by decide)) (by rfl) hx (da_cons (de_var (pv 5) (by decide)) da_nil))))))))
theorem ok_bare (Tx_ : Tx K mg) : FOk P w K mg base (amb K T pu) "bare" 5 ["show", "room", "wall"] rD m_bare := by
  obtain ⟨_, c_LAST⟩ := Tx_.c_LAST
  exact fnF (F := b_bare) (Go := []) (N := N_bare) (k := 4) Tx_.g_bare Tx_.d_bare sc_bare (fun _ _ _ _ _ _ us hl => match us, hl with | [_, _, _], _ => rfl) (fun _ _ _ => .inl rfl) fun cdv Ar outer s H E W hcd hr tk po hx => (dss_cons (ds_exp (DE.v (d_f shD (ok_look_wall Tx_) (hr.mono (by decide)) (by rfl) hx (da_cons (d_m0 shD Tx_.sc (ok_Show_house Tx_) (hr.mono (by decide)) hx (DE.v (de_var (pv 0) (by decide)))) (da_cons (de_var (pv 1) (by decide)) (da_cons (de_var (pv 2) (by decide)) da_nil)))))) (dss_cons (ds_set (ps_set (i := 3) sc_bare.nd rfl (by first | exact Or.inl rfl | exact Or.inr rfl) (de_mul (DN.v (dn_lst (da_cons de_bl da_nil) (by show 1 ≤ sizeLine; decide))) (DE.v (de_add (DE.v (de_c (v := .int 99) (d := .int 99) (pe_glob (by rfl) c_LAST ⟨_, rfl⟩) (fun _ => rfl))) (DE.v de_int)))))) (dss_cons (ds_for po rfl (di_seq (d_f shD (ok_rows_on Tx_) (hr.mono (by decide)) (by rfl) hx (da_cons (de_var (pv 0) (by decide)) (da_cons (de_var (pv 1) (by decide)) (da_cons (de_var (pv 2) (by decide)) da_nil))))) (dg_tp (by rfl) (dgs_cons (dg_nm (pg_name (i := 4) sc_bare.nd (by rfl) (by first | exact Or.inl rfl | exact Or.inr rfl)) (by decide)) (dgs_cons (dg_nm (pg_name (i := 5) sc_bare.nd (by rfl) (by first | exact Or.inl rfl | exact Or.inr rfl)) (by decide)) (dgs_cons (dg_nm (pg_name (i := 6) sc_bare.nd (by rfl) (by first | exact Or.inl rfl | exact Or.inr rfl)) (by decide)) (dgs_cons (dg_nm (pg_name (i := 7) sc_bare.nd (by rfl) (by first | exact Or.inl rfl | exact Or.inr rfl)) (by decide)) dgs_nil))))) (by decide) (dss_one (ds_set (asgND (set_lc (i := 3) [8, 9] (by rfl) sc_bare.nd rfl rfl (sw_true rfl rfl rfl (by decide +kernel)) (di_enum (by rfl) Tx_.n_enumerate (da_cons (de_var (pv 3) (by decide)) da_nil)) (blkOk_by (own := [("day", 8), ("is_so", 9)]) (N := N_bare) (sc := defScope s_bare) (by decide +kernel)) rfl (by decide) (fun _ _ _ _ _ => (dg_tp (by rfl) (dgs_cons (dg_nm (pg_name (i := 8) sc_bare.nd (by rfl) (by first | exact Or.inl rfl | exact Or.inr rfl)) (by decide)) (dgs_cons (dg_nm (pg_name (i := 9) sc_bare.nd (by rfl) (by first | exact Or.inl rfl | exact Or.inr rfl)) (by decide)) dgs_nil)))) (fun _ _ _ _ _ => dts_nil) (fun _ _ _ _ _ => (de_and (DE.v (de_var (pv 9) (by decide))) (de_and1 (de_not (DE.v (de_chain op_le op_le (DE.v (de_var (pv 4) (by decide))) (DE.v (de_var (pv 8) (by decide))) (DE.v (de_var (pv 5) (by decide)))))))))))))) (dss_one (ds_retD rfl (DN.d (dn_lc [8, 10] (by rfl) sc_bare.nd (di_seq (d_f shD (ok_stretches Tx_) (hr.mono (by decide)) (by rfl) hx (da_cons (de_var (pv 3) (by decide)) da_nil))) (blkOk_by (own := [("day", 8), ("many", 10)]) (N := N_bare) (sc := defScope s_bare) (by decide +kernel)) rfl (by decide) (fun _ _ _ _ _ => (dg_tp (by rfl) (dgs_cons (dg_nm (pg_name (i := 8) sc_bare.nd (by rfl) (by first | exact Or.inl rfl | exact Or.inr rfl)) (by decide)) (dgs_cons (dg_nm (pg_name (i := 10) sc_bare.nd (by rfl) (by first | exact Or.inl rfl | exact Or.inr rfl)) (by decide)) dgs_nil)))) (fun _ _ _ _ _ => dts_nil) (fun _ _ _ _ _ => (de_tup (da_cons (de_var (pv 8) (by decide)) (da_cons (de_sub (DE.v (de_add (DE.v (de_var (pv 8) (by decide))) (DE.v (de_var (pv 10) (by decide))))) (DE.v de_int)) da_nil)) (by show 2 ≤ sizeLine; decide))))))))))
theorem ok_days_hung (Tx_ : Tx K mg) : FOk P w K mg base (amb K T pu) "days_hung" 4 ["show", "name"] rD m_days_hung := by
  exact fnF (F := b_days_hung) (Go := []) (N := N_days_hung) (k := 3) Tx_.g_days_hung Tx_.d_days_hung sc_days_hung (fun _ _ _ _ _ _ us hl => match us, hl with | [_, _], _ => rfl) (fun _ _ _ => .inl rfl) fun cdv Ar outer s H E W hcd hr tk po hx => (dss_one (ds_retD rfl (de_sum (by rfl) (by rfl) Tx_.n_sum bt_sum (DN.v (dn_lc [2] (by rfl) sc_days_hung.nd (di_seq (d_m shD Tx_.sc (ok_Show_hangings Tx_) (hr.mono (by decide)) hx (DE.v (de_var (pv 0) (by decide))) (da_cons (de_var (pv 1) (by decide)) da_nil))) (blkOk_by (own := [("row", 2)]) (N := N_days_hung) (sc := defScope s_days_hung) (by decide +kernel)) rfl (by decide) (fun _ _ _ _ _ => (dg_nm (pg_name (i := 2) sc_days_hung.nd (by rfl) (by first | exact Or.inl rfl | exact Or.inr rfl)) (by decide))) (fun _ _ _ _ _ => dts_nil) (fun _ _ _ _ _ => (de_add (DE.v (de_sub (DE.v (de_sub1 (by rfl) (hu_of hr) (DE.v (de_var (pv 2) (by decide))) (DE.v de_int))) (DE.v (de_sub1 (by rfl) (hu_of hr) (DE.v (de_var (pv 2) (by decide))) (DE.v de_int))))) (DE.v de_int))))))))
theorem ok_idle_days (Tx_ : Tx K mg) : FOk P w K mg base (amb K T pu) "idle_days" 5 ["show", "name"] rD m_idle_days := by
  exact fnF (F := b_idle_days) (Go := []) (N := N_idle_days) (k := 4) Tx_.g_idle_days Tx_.d_idle_days sc_idle_days (fun _ _ _ _ _ _ us hl => match us, hl with | [_, _], _ => rfl) (fun _ _ _ => .inl rfl) fun cdv Ar outer s H E W hcd hr tk po hx => (dss_cons (ds_asg (d_m shD Tx_.sc (ok_Show_loan Tx_) (hr.mono (by decide)) hx (DE.v (de_var (pv 0) (by decide))) (da_cons (de_var (pv 1) (by decide)) da_nil)) (dg_tp (by rfl) (dgs_cons (dg_nm (pg_name (i := 2) sc_idle_days.nd (by rfl) (by first | exact Or.inl rfl | exact Or.inr rfl)) (by decide)) (dgs_cons (dg_nm (pg_name (i := 3) sc_idle_days.nd (by rfl) (by first | exact Or.inl rfl | exact Or.inr rfl)) (by decide)) (dgs_cons (dg_nm (pg_name (i := 4) sc_idle_days.nd (by rfl) (by first | exact Or.inl rfl | exact Or.inr rfl)) (by decide)) dgs_nil)))) (by decide)) (dss_one (ds_retD rfl (de_sub (DE.v (de_add (DE.v (de_sub (DE.v (de_var (pv 4) (by decide))) (DE.v (de_var (pv 3) (by decide))))) (DE.v de_int))) (DE.v (d_f shD (ok_days_hung Tx_) (hr.mono (by decide)) (by rfl) hx (da_cons (de_var (pv 0) (by decide)) (da_cons (de_var (pv 1) (by decide)) da_nil))))))))
theorem ok_dues (Tx_ : Tx K mg) : FOk P w K mg base (amb K T pu) "dues" 5 ["show", "rate"] rD m_dues := by
  exact fnF (F := b_dues) (Go := []) (N := N_dues) (k := 4) Tx_.g_dues Tx_.d_dues sc_dues (fun _ _ _ _ _ _ us hl => match us, hl with | [_, _], _ => rfl) (fun _ _ _ => .inl rfl) fun cdv Ar outer s H E W hcd hr tk po hx => (dss_one (ds_retD rfl (DN.d (dn_lc [2] (by rfl) sc_dues.nd (di_seq (d_m0 shD Tx_.sc (ok_Show_names Tx_) (hr.mono (by decide)) hx (DE.v (de_var (pv 0) (by decide))))) (blkOk_by (own := [("name", 2)]) (N := N_dues) (sc := defScope s_dues) (by decide +kernel)) rfl (by decide) (fun _ _ _ _ _ => (dg_nm (pg_name (i := 2) sc_dues.nd (by rfl) (by first | exact Or.inl rfl | exact Or.inr rfl)) (by decide))) (fun _ _ _ _ _ => dts_nil) (fun _ _ _ _ _ => (de_tup (da_cons (de_var (pv 2) (by decide)) (da_cons (de_mul (DE.v (de_mul (DE.v (de_var (pv 1) (by decide))) (DE.v (de_sub1 (by rfl) (hu_of hr) (DE.v (de_sub1 (by rfl) (hu_of hr) (DE.v (d_m shD Tx_.sc (ok_Show_loan Tx_) (hr.mono (by decide)) passL (DE.v (de_var (pv 0) (by decide))) (da_cons (de_var (pv 2) (by decide)) da_nil))) (DE.v de_int))) (DE.v de_int))))) (DE.v (d_f shD (ok_days_hung Tx_) (hr.mono (by decide)) (by rfl) passL (da_cons (de_var (pv 0) (by decide)) (da_cons (de_var (pv 2) (by decide)) da_nil))))) da_nil)) (by show 2 ≤ sizeLine; decide)))))))
theorem ok_covered_on (Tx_ : Tx K mg) : FOk P w K mg base (amb K T pu) "covered_on" 6 ["show", "day"] rD m_covered_on := by
  exact fnF (F := b_covered_on) (Go := []) (N := N_covered_on) (k := 5) Tx_.g_covered_on Tx_.d_covered_on sc_covered_on (fun _ _ _ _ _ _ us hl => match us, hl with | [_, _], _ => rfl) (fun _ _ _ => .inl rfl) fun cdv Ar outer s H E W hcd hr tk po hx => (dss_one (ds_retD rfl (de_sum (by rfl) (by rfl) Tx_.n_sum bt_sum (DN.v (dn_lc [2] (by rfl) sc_covered_on.nd (di_seq (d_f shD (ok_hung_on Tx_) (hr.mono (by decide)) (by rfl) hx (da_cons (de_var (pv 0) (by decide)) (da_cons (de_var (pv 1) (by decide)) da_nil)))) (blkOk_by (own := [("row", 2)]) (N := N_covered_on) (sc := defScope s_covered_on) (by decide +kernel)) rfl (by decide) (fun _ _ _ _ _ => (dg_nm (pg_name (i := 2) sc_covered_on.nd (by rfl) (by first | exact Or.inl rfl | exact Or.inr rfl)) (by decide))) (fun _ _ _ _ _ => dts_nil) (fun _ _ _ _ _ => (de_sub1 (by rfl) (hu_of hr) (DE.v (de_sub1 (by rfl) (hu_of hr) (DE.v (d_m shD Tx_.sc (ok_Show_loan Tx_) (hr.mono (by decide)) passL (DE.v (de_var (pv 0) (by decide))) (da_cons (de_sub1 (by rfl) (hu_of hr) (DE.v (de_var (pv 2) (by decide))) (DE.v de_int)) da_nil))) (DE.v de_int))) (DE.v de_int))))))))
theorem ok_covered (Tx_ : Tx K mg) : FOk P w K mg base (amb K T pu) "covered" 7 ["show", "day"] rD m_covered := by
  exact fnF (F := b_covered) (Go := []) (N := N_covered) (k := 6) Tx_.g_covered Tx_.d_covered sc_covered (fun _ _ _ _ _ _ us hl => match us, hl with | [_, _], _ => rfl) (fun _ _ _ => .inl rfl) fun cdv Ar outer s H E W hcd hr tk po hx => (dss_cons (ds_exp (DE.v (d_f shD (ok_look_day Tx_) (hr.mono (by decide)) (by rfl) hx (da_cons (de_var (pv 1) (by decide)) da_nil)))) (dss_one (ds_retD rfl (d_f shD (ok_covered_on Tx_) (hr.mono (by decide)) (by rfl) hx (da_cons (de_var (pv 0) (by decide)) (da_cons (de_var (pv 1) (by decide)) da_nil))))))
theorem ok_fullest (Tx_ : Tx K mg) : FOk P w K mg base (amb K T pu) "fullest" 7 ["show"] rD m_fullest := by
  obtain ⟨_, c_LAST⟩ := Tx_.c_LAST
  exact fnF (F := b_fullest) (Go := []) (N := N_fullest) (k := 6) Tx_.g_fullest Tx_.d_fullest sc_fullest (fun _ _ _ _ _ _ us hl => match us, hl with | [_], _ => rfl) (fun _ _ _ => .inl rfl) fun cdv Ar outer s H E W hcd hr tk po hx => (dss_cons (ds_set (asgND (set_lc (i := 1) [2] (by rfl) sc_fullest.nd rfl rfl (sw_true rfl rfl rfl (by decide +kernel)) (di_range1 (by rfl) Tx_.n_range (da_cons (de_add (DE.v (de_c (v := .int 99) (d := .int 99) (pe_glob (by rfl) c_LAST ⟨_, rfl⟩) (fun _ => rfl))) (DE.v de_int)) da_nil)) (blkOk_by (own := [("day", 2)]) (N := N_fullest) (sc := defScope s_fullest) (by decide +kernel)) rfl (by decide) (fun _ _ _ _ _ => (dg_nm (pg_name (i := 2) sc_fullest.nd (by rfl) (by first | exact Or.inl rfl | exact Or.inr rfl)) (by decide))) (fun _ _ _ _ _ => dts_nil) (fun _ _ _ _ _ => (d_f shD (ok_covered_on Tx_) (hr.mono (by decide)) (by rfl) passL (da_cons (de_var (pv 0) (by decide)) (da_cons (de_var (pv 2) (by decide)) da_nil))))))) (dss_one (ds_retD rfl (de_tup (da_cons (de_index (hu65 hr) (DE.v (de_var (pv 1) (by decide))) (DE.v (de_max1 (by rfl) (by rfl) Tx_.n_max bt_max (DE.v (de_var (pv 1) (by decide)))))) (da_cons (de_max1 (by rfl) (by rfl) Tx_.n_max bt_max (DE.v (de_var (pv 1) (by decide)))) da_nil)) (by show 2 ≤ sizeLine; decide)))))
theorem ok_place_ahead (Tx_ : Tx K mg) : FOk P w K mg base (amb K T pu) "place_ahead" 5 ["show", "name", "day"] rD m_place_ahead := by
  exact fnF (F := b_place_ahead) (Go := []) (N := N_place_ahead) (k := 4) Tx_.g_place_ahead Tx_.d_place_ahead sc_place_ahead (fun _ _ _ _ _ _ us hl => match us, hl with | [_, _, _], _ => rfl) (fun _ _ _ => .inl rfl) fun cdv Ar outer s H E W hcd hr tk po hx => (dss_one (ds_retD rfl (d_if shD (Ck.dt (ck_eq (by rfl) hr.units) (DE.v (de_var (pv 2) (by decide))) (DE.v de_int)) de_non (d_m shD Tx_.sc (ok_Show_where Tx_) (hr.mono (by decide)) hx (DE.v (de_var (pv 0) (by decide))) (da_cons (de_var (pv 1) (by decide)) (da_cons (de_sub (DE.v (de_var (pv 2) (by decide))) (DE.v de_int)) da_nil))))))
theorem ok_carried (Tx_ : Tx K mg) : FOk P w K mg base (amb K T pu) "carried" 6 ["show", "day"] rD m_carried := by
  exact fnF (F := b_carried) (Go := []) (N := N_carried) (k := 5) Tx_.g_carried Tx_.d_carried sc_carried (fun _ _ _ _ _ _ us hl => match us, hl with | [_, _], _ => rfl) (fun _ _ _ => .inl rfl) fun cdv Ar outer s H E W hcd hr tk po hx => (dss_cons (ds_exp (DE.v (d_f shD (ok_look_day Tx_) (hr.mono (by decide)) (by rfl) hx (da_cons (de_var (pv 1) (by decide)) da_nil)))) (dss_cons (ds_setN (ps_set (i := 2) sc_carried.nd rfl (by first | exact Or.inl rfl | exact Or.inr rfl) (dn_lst da_nil (by show 0 ≤ sizeLine; decide)))) (dss_cons (ds_for po rfl (di_seq (d_m0 shD Tx_.sc (ok_Show_names Tx_) (hr.mono (by decide)) hx (DE.v (de_var (pv 0) (by decide))))) (dg_nm (pg_name (i := 3) sc_carried.nd (by rfl) (by first | exact Or.inl rfl | exact Or.inr rfl)) (by decide)) (by decide) (dss_cons (ds_par2 (ps_par rfl sc_carried.nd rfl rfl (by decide) rfl rfl (pam_D (d_f shD (ok_place_ahead Tx_) (hr.mono (by decide)) (by rfl) hx (da_cons (de_var (pv 0) (by decide)) (da_cons (de_var (pv 3) (by decide)) (da_cons (de_var (pv 1) (by decide)) da_nil)))) (pam_D (d_m shD Tx_.sc (ok_Show_where Tx_) (hr.mono (by decide)) hx (DE.v (de_var (pv 0) (by decide))) (da_cons (de_var (pv 3) (by decide)) (da_cons (de_var (pv 1) (by decide)) da_nil))) pam_nil)) (by rfl))) (dss_one (ds_if (Ck.dt (ck_ne (by rfl) hr.units) (DE.v (de_var (pv 4) (by decide))) (DE.v (de_var (pv 5) (by decide)))) (dss_one (ds_app (by decide) (pv 2) (de_tup (da_cons (de_var (pv 3) (by decide)) (da_cons (de_var (pv 4) (by decide)) (da_cons (de_var (pv 5) (by decide)) da_nil))) (by show 3 ≤ sizeLine; decide)))) dss_nil)))) (dss_one (DS.frz 2 (ds_retD rfl (de_var (pv 2) (by decide))))))))
theorem ok_room_of (Tx_ : Tx K mg) : FOk P w K mg base (amb K T pu) "room_of" 1 ["place"] rD m_room_of := by
  exact fnF (F := b_room_of) (Go := []) (N := N_room_of) (k := 0) Tx_.g_room_of Tx_.d_room_of sc_room_of (fun _ _ _ _ _ _ us hl => match us, hl with | [_], _ => rfl) (fun _ _ _ => .inl rfl) fun cdv Ar outer s H E W hcd hr tk po hx => (dss_one (ds_retD rfl (d_if shD (dt_isN (DE.v (de_var (pv 0) (by decide)))) de_int (de_sub1 (by rfl) (hu_of hr) (DE.v (de_var (pv 0) (by decide))) (DE.v de_int)))))
theorem ok_doors_passed (Tx_ : Tx K mg) : FOk P w K mg base (amb K T pu) "doors_passed" 7 ["show", "day"] rD m_doors_passed := by
  exact fnF (F := b_doors_passed) (Go := []) (N := N_doors_passed) (k := 6) Tx_.g_doors_passed Tx_.d_doors_passed sc_doors_passed (fun _ _ _ _ _ _ us hl => match us, hl with | [_, _], _ => rfl) (fun _ _ _ => .inl rfl) fun cdv Ar outer s H E W hcd hr tk po hx => (dss_cons (ds_set (ps_set (i := 2) sc_doors_passed.nd rfl (by first | exact Or.inl rfl | exact Or.inr rfl) de_int)) (dss_cons (ds_for po rfl (di_seq (d_f shD (ok_carried Tx_) (hr.mono (by decide)) (by rfl) hx (da_cons (de_var (pv 0) (by decide)) (da_cons (de_var (pv 1) (by decide)) da_nil)))) (dg_tp (by rfl) (dgs_cons (dg_nm (pg_name (i := 3) sc_doors_passed.nd (by rfl) (by first | exact Or.inl rfl | exact Or.inr rfl)) (by decide)) (dgs_cons (dg_nm (pg_name (i := 4) sc_doors_passed.nd (by rfl) (by first | exact Or.inl rfl | exact Or.inr rfl)) (by decide)) (dgs_cons (dg_nm (pg_name (i := 5) sc_doors_passed.nd (by rfl) (by first | exact Or.inl rfl | exact Or.inr rfl)) (by decide)) dgs_nil)))) (by decide) (dss_cons (ds_set (ps_set (i := 6) sc_doors_passed.nd rfl (by first | exact Or.inl rfl | exact Or.inr rfl) (d_f shD (ok_doors_by Tx_) (hr.mono (by decide)) (by rfl) hx (da_cons (d_m0 shD Tx_.sc (ok_Show_house Tx_) (hr.mono (by decide)) hx (DE.v (de_var (pv 0) (by decide)))) (da_cons (d_f shD (ok_side_of Tx_) (hr.mono (by decide)) (by rfl) hx (da_cons (de_sub1 (by rfl) (hu_of hr) (DE.v (d_m shD Tx_.sc (ok_Show_loan Tx_) (hr.mono (by decide)) hx (DE.v (de_var (pv 0) (by decide))) (da_cons (de_var (pv 3) (by decide)) da_nil))) (DE.v de_int)) da_nil)) da_nil))))) (dss_one (ds_set (ps_set (i := 2) sc_doors_passed.nd rfl (by first | exact Or.inl rfl | exact Or.inr rfl) (de_sub (DE.v (de_add (DE.v (de_var (pv 2) (by decide))) (DE.v (de_len (by rfl) (by rfl) Tx_.n_len (DE.v (d_f shD (ok_shortest Tx_) (hr.mono (by decide)) (by rfl) hx (da_cons (de_var (pv 6) (by decide)) (da_cons (d_f shD (ok_room_of Tx_) (hr.mono (by decide)) (by rfl) hx (da_cons (de_var (pv 4) (by decide)) da_nil)) (da_cons (d_f shD (ok_room_of Tx_) (hr.mono (by decide)) (by rfl) hx (da_cons (de_var (pv 5) (by decide)) da_nil)) da_nil))))))))) (DE.v de_int))))))) (dss_one (ds_retD rfl (de_var (pv 2) (by decide))))))
theorem ok_days_of (Tx_ : Tx K mg) : FOk P w K mg base (amb K T pu) "days_of" 6 ["show", "name"] rD m_days_of := by
  obtain ⟨_, c_LAST⟩ := Tx_.c_LAST
  exact fnF (F := b_days_of) (Go := []) (N := N_days_of) (k := 5) Tx_.g_days_of Tx_.d_days_of sc_days_of (fun _ _ _ _ _ _ us hl => match us, hl with | [_, _], _ => rfl) (fun _ _ _ => .inl rfl) fun cdv Ar outer s H E W hcd hr tk po hx => (dss_cons (ds_exp (DE.v (d_m shD Tx_.sc (ok_Show_loan Tx_) (hr.mono (by decide)) hx (DE.v (de_var (pv 0) (by decide))) (da_cons (de_var (pv 1) (by decide)) da_nil)))) (dss_one (ds_retD rfl (DN.d (dn_lc [2] (by rfl) sc_days_of.nd (di_range1 (by rfl) Tx_.n_range (da_cons (de_add (DE.v (de_c (v := .int 99) (d := .int 99) (pe_glob (by rfl) c_LAST ⟨_, rfl⟩) (fun _ => rfl))) (DE.v de_int)) da_nil)) (blkOk_by (own := [("day", 2)]) (N := N_days_of) (sc := defScope s_days_of) (by decide +kernel)) rfl (by decide) (fun _ _ _ _ _ => (dg_nm (pg_name (i := 2) sc_days_of.nd (by rfl) (by first | exact Or.inl rfl | exact Or.inr rfl)) (by decide))) (fun _ _ _ _ _ => (dts_one (Ck.dt (ck_ne (by rfl) hr.units) (DE.v (d_f shD (ok_place_ahead Tx_) (hr.mono (by decide)) (by rfl) passL (da_cons (de_var (pv 0) (by decide)) (da_cons (de_var (pv 1) (by decide)) (da_cons (de_var (pv 2) (by decide)) da_nil))))) (DE.v (d_m shD Tx_.sc (ok_Show_where Tx_) (hr.mono (by decide)) passL (DE.v (de_var (pv 0) (by decide))) (da_cons (de_var (pv 1) (by decide)) (da_cons (de_var (pv 2) (by decide)) da_nil))))))) (fun _ _ _ _ _ => (de_var (pv 2) (by decide))))))))
theorem ok_can_hang (Tx_ : Tx K mg) : FOk P w K mg base (amb K T) "can_hang" 10 ["show", "name", "room", "wall", "at", "first", "last"] rD m_can_hang := by
  exact fnF (F := b_can_hang) (Go := []) (N := N_can_hang) (k := 9) Tx_.g_can_hang Tx_.d_can_hang sc_can_hang (fun _ _ _ _ _ _ us hl => match us, hl with | [_, _, _, _, _, _, _], _ => rfl) (fun _ _ _ => .inl rfl) fun cdv Ar outer s H E W hcd hr tk po hx => (dss_cons (ds_try (ca := caS) rfl rfl rfl ⟨by rfl, by decide, .inl Tx_.g_ShowError⟩ tk (fun c b h => caS_ok Tx_.ea h) (fun _ _ _ tk po hx => (dss_one (ds_exp (DE.v (d_m shD Tx_.sc (ok_Show_hang Tx_) (hr.mono (by decide)) hx (DE.v (d_m0 shD Tx_.sc (ok_Show_twin Tx_) (hr.mono (by decide)) hx (DE.v (de_var (pv 0) (by decide))))) (da_cons (de_var (pv 1) (by decide)) (da_cons (de_var (pv 2) (by decide)) (da_cons (de_var (pv 3) (by decide)) (da_cons (de_var (pv 4) (by decide)) (da_cons (de_var (pv 5) (by decide)) (da_cons (de_var (pv 6) (by decide)) da_nil)))))))))))) (dss_one (ds_retD rfl de_bl)))
theorem ok_places_for (Tx_ : Tx K mg) : FOk P w K mg base (amb K T) "places_for" 11 ["show", "name", "first", "last"] rD m_places_for := by
  exact fnF (F := b_places_for) (Go := []) (N := N_places_for) (k := 10) Tx_.g_places_for Tx_.d_places_for sc_places_for (fun _ _ _ _ _ _ us hl => match us, hl with | [_, _, _, _], _ => rfl) (fun _ _ _ => .inl rfl) fun cdv Ar outer s H E W hcd hr tk po hx => (dss_cons (ds_exp (DE.v (d_m shD Tx_.sc (ok_Show_loan Tx_) (hr.mono (by decide)) hx (DE.v (de_var (pv 0) (by decide))) (da_cons (de_var (pv 1) (by decide)) da_nil)))) (dss_cons (ds_exp (DE.v (d_f shD (ok_look_days Tx_) (hr.mono (by decide)) (by rfl) hx (da_cons (de_var (pv 2) (by decide)) (da_cons (de_var (pv 3) (by decide)) da_nil))))) (dss_cons (ds_setN (ps_set (i := 4) sc_places_for.nd rfl (by first | exact Or.inl rfl | exact Or.inr rfl) (dn_lst da_nil (by show 0 ≤ sizeLine; decide)))) (dss_cons (ds_for po rfl (di_seq (d_f shD (ok_walls_in Tx_) (hr.mono (by decide)) (by rfl) hx (da_cons (d_m0 shD Tx_.sc (ok_Show_house Tx_) (hr.mono (by decide)) hx (DE.v (de_var (pv 0) (by decide)))) da_nil))) (dg_tp (by rfl) (dgs_cons (dg_nm (pg_name (i := 5) sc_places_for.nd (by rfl) (by first | exact Or.inl rfl | exact Or.inr rfl)) (by decide)) (dgs_cons (dg_nm (pg_name (i := 6) sc_places_for.nd (by rfl) (by first | exact Or.inl rfl | exact Or.inr rfl)) (by decide)) dgs_nil))) (by decide) (dss_cons (ds_set (ps_set (i := 7) sc_places_for.nd rfl (by first | exact Or.inl rfl | exact Or.inr rfl) (de_sub1 (by rfl) (hu_of hr) (DE.v (de_sub1 (by rfl) (hu_of hr) (DE.v (de_sub1 (by rfl) (hu_of hr) (DE.v (de_sub1 (by rfl) (hu_of hr) (DE.v (d_m0 shD Tx_.sc (ok_Show_house Tx_) (hr.mono (by decide)) hx (DE.v (de_var (pv 0) (by decide))))) (DE.v de_int))) (DE.v (de_var (pv 5) (by decide))))) (DE.v (de_var (pv 6) (by decide))))) (DE.v de_int)))) (dss_cons (ds_set (asgND (set_lc (i := 8) [9] (by rfl) sc_places_for.nd rfl rfl (sw_true rfl rfl rfl (by decide +kernel)) (di_range1 (by rfl) Tx_.n_range (da_cons (de_var (pv 7) (by decide)) da_nil)) (blkOk_by (own := [("at", 9)]) (N := N_places_for) (sc := defScope s_places_for) (by decide +kernel)) rfl (by decide) (fun _ _ _ _ _ => (dg_nm (pg_name (i := 9) sc_places_for.nd (by rfl) (by first | exact Or.inl rfl | exact Or.inr rfl)) (by decide))) (fun _ _ _ _ _ => (dts_one (dt_val (DE.v (d_f shD (ok_can_hang Tx_) (hr.mono (by decide)) (by rfl) passL (da_cons (de_var (pv 0) (by decide)) (da_cons (de_var (pv 1) (by decide)) (da_cons (de_var (pv 5) (by decide)) (da_cons (de_var (pv 6) (by decide)) (da_cons (de_var (pv 9) (by decide)) (da_cons (de_var (pv 2) (by decide)) (da_cons (de_var (pv 3) (by decide)) da_nil)))))))))))) (fun _ _ _ _ _ => (de_var (pv 9) (by decide)))))) (dss_one (ds_ext (by decide) (pv 4) (DN.v (dn_lc [9] (by rfl) sc_places_for.nd (di_seq (de_slice (DE.v (de_var (pv 8) (by decide))) do_none (do_some (DE.v de_int)))) (blkOk_by (own := [("at", 9)]) (N := N_places_for) (sc := defScope s_places_for) (by decide +kernel)) rfl (by decide) (fun _ _ _ _ _ => (dg_nm (pg_name (i := 9) sc_places_for.nd (by rfl) (by first | exact Or.inl rfl | exact Or.inr rfl)) (by decide))) (fun _ _ _ _ _ => dts_nil) (fun _ _ _ _ _ => (de_tup (da_cons (de_var (pv 5) (by decide)) (da_cons (de_var (pv 6) (by decide)) (da_cons (de_var (pv 9) (by decide)) da_nil))) (by show 3 ≤ sizeLine; decide)))))))))) (dss_one (DS.frz 4 (ds_retD rfl (de_var (pv 4) (by decide)))))))))
theorem ok_longest_stay (Tx_ : Tx K mg) : FOk P w K mg base (amb K T) "longest_stay" 11 ["show", "name", "room", "wall", "at", "first"] rD m_longest_stay := by
  obtain ⟨_, c_LAST⟩ := Tx_.c_LAST
  exact fnF (F := b_longest_stay) (Go := []) (N := N_longest_stay) (k := 10) Tx_.g_longest_stay Tx_.d_longest_stay sc_longest_stay (fun _ _ _ _ _ _ us hl => match us, hl with | [_, _, _, _, _, _], _ => rfl) (fun _ _ _ => .inl rfl) fun cdv Ar outer s H E W hcd hr tk po hx => (dss_cons (ds_exp (DE.v (d_m shD Tx_.sc (ok_Show_loan Tx_) (hr.mono (by decide)) hx (DE.v (de_var (pv 0) (by decide))) (da_cons (de_var (pv 1) (by decide)) da_nil)))) (dss_cons (ds_exp (DE.v (d_f shD (ok_look_wall Tx_) (hr.mono (by decide)) (by rfl) hx (da_cons (d_m0 shD Tx_.sc (ok_Show_house Tx_) (hr.mono (by decide)) hx (DE.v (de_var (pv 0) (by decide)))) (da_cons (de_var (pv 2) (by decide)) (da_cons (de_var (pv 3) (by decide)) da_nil)))))) (dss_cons (ds_exp (DE.v (d_f shD (ok_look_day Tx_) (hr.mono (by decide)) (by rfl) hx (da_cons (de_var (pv 5) (by decide)) da_nil)))) (dss_cons (ds_set (ps_set (i := 6) sc_longest_stay.nd rfl (by first | exact Or.inl rfl | exact Or.inr rfl) de_non)) (dss_cons (ds_for po rfl (di_range2 (by rfl) Tx_.n_range (da_cons (de_var (pv 5) (by decide)) (da_cons (de_add (DE.v (de_c (v := .int 99) (d := .int 99) (pe_glob (by rfl) c_LAST ⟨_, rfl⟩) (fun _ => rfl))) (DE.v de_int)) da_nil))) (dg_nm (pg_name (i := 7) sc_longest_stay.nd (by rfl) (by first | exact Or.inl rfl | exact Or.inr rfl)) (by decide)) (by decide) (dss_cons (ds_if (dt_not (dt_val (DE.v (d_f shD (ok_can_hang Tx_) (hr.mono (by decide)) (by rfl) hx (da_cons (de_var (pv 0) (by decide)) (da_cons (de_var (pv 1) (by decide)) (da_cons (de_var (pv 2) (by decide)) (da_cons (de_var (pv 3) (by decide)) (da_cons (de_var (pv 4) (by decide)) (da_cons (de_var (pv 5) (by decide)) (da_cons (de_var (pv 7) (by decide)) da_nil))))))))))) (dss_one (ds_retD rfl (de_var (pv 6) (by decide)))) dss_nil) (dss_one (ds_set (ps_set (i := 6) sc_longest_stay.nd rfl (by first | exact Or.inl rfl | exact Or.inr rfl) (de_var (pv 7) (by decide))))))) (dss_one (ds_retD rfl (de_var (pv 6) (by decide)))))))))
theorem ok_seen (Tx_ : Tx K mg) : FOk P w K mg base (amb K T pu) "seen" 6 ["show", "rooms", "day"] rD m_seen := by
  exact fnF (F := b_seen) (Go := []) (N := N_seen) (k := 5) Tx_.g_seen Tx_.d_seen sc_seen (fun _ _ _ _ _ _ us hl => match us, hl with | [_, _, _], _ => rfl) (fun _ _ _ => .inl rfl) fun cdv Ar outer s H E W hcd hr tk po hx => (dss_cons (ds_set (ps_set (i := 3) sc_seen.nd rfl (by first | exact Or.inl rfl | exact Or.inr rfl) (d_m0 shD Tx_.sc (ok_Show_house Tx_) (hr.mono (by decide)) hx (DE.v (de_var (pv 0) (by decide)))))) (dss_cons (ds_for po rfl (di_seq (de_var (pv 1) (by decide))) (dg_nm (pg_name (i := 4) sc_seen.nd (by rfl) (by first | exact Or.inl rfl | exact Or.inr rfl)) (by decide)) (by decide) (dss_one (ds_exp (DE.v (d_f shD (ok_look_room Tx_) (hr.mono (by decide)) (by rfl) hx (da_cons (de_var (pv 3) (by decide)) (da_cons (de_var (pv 4) (by decide)) da_nil))))))) (dss_cons (ds_exp (DE.v (d_f shD (ok_look_day Tx_) (hr.mono (by decide)) (by rfl) hx (da_cons (de_var (pv 2) (by decide)) da_nil)))) (dss_cons (ds_for po rfl (di_zip (by rfl) Tx_.n_zip (da_cons (de_var (pv 1) (by decide)) (da_cons (de_slice (DE.v (de_var (pv 1) (by decide))) (do_some (DE.v de_int)) do_none) da_nil))) (dg_tp (by rfl) (dgs_cons (dg_nm (pg_name (i := 5) sc_seen.nd (by rfl) (by first | exact Or.inl rfl | exact Or.inr rfl)) (by decide)) (dgs_cons (dg_nm (pg_name (i := 6) sc_seen.nd (by rfl) (by first | exact Or.inl rfl | exact Or.inr rfl)) (by decide)) dgs_nil))) (by decide) (dss_one (ds_if (DW.t (dw_and (Ck.dt (ck_ne (by rfl) hr.units) (DE.v (de_var (pv 5) (by decide))) (DE.v (de_var (pv 6) (by decide)))) (dw_and1 (Ck.dt (ck_notIn (hu65 hr)) (DE.v (de_var (pv 6) (by decide))) (DE.v (d_f shD (ok_nexts Tx_) (hr.mono (by decide)) (by rfl) hx (da_cons (de_sub1 (by rfl) (hu_of hr) (DE.v (de_var (pv 3) (by decide))) (DE.v de_int)) (da_cons (de_var (pv 5) (by decide)) da_nil)))))))) (dss_one (ds_raise 9 rfl tk (pmkX Tx_.x_NoWay Tx_.g_NoWay rfl))) dss_nil))) (dss_cons (ds_par2 (ps_par rfl sc_seen.nd rfl rfl (by decide) rfl rfl (pam_N (dn_lst da_nil (by show 0 ≤ sizeLine; decide)) (pam_N (dn_lst da_nil (by show 0 ≤ sizeLine; decide)) pam_nil)) (by rfl))) (dss_cons (ds_for po rfl (di_seq (de_var (pv 1) (by decide))) (dg_nm (pg_name (i := 4) sc_seen.nd (by rfl) (by first | exact Or.inl rfl | exact Or.inr rfl)) (by decide)) (by decide) (dss_one (ds_if (Ck.dt (ck_notIn (hu65 hr)) (DE.v (de_var (pv 4) (by decide))) (dv_var (pv 8))) (dss_cons (ds_app (by decide) (pv 8) (de_var (pv 4) (by decide))) (dss_one (ds_ext (by decide) (pv 7) (DN.v (dn_lc [9] (by rfl) sc_seen.nd (di_seq (d_f shD (ok_hung_on Tx_) (hr.mono (by decide)) (by rfl) hx (da_cons (de_var (pv 0) (by decide)) (da_cons (de_var (pv 2) (by decide)) da_nil)))) (blkOk_by (own := [("row", 9)]) (N := N_seen) (sc := defScope s_seen) (by decide +kernel)) rfl (by decide) (fun _ _ _ _ _ => (dg_nm (pg_name (i := 9) sc_seen.nd (by rfl) (by first | exact Or.inl rfl | exact Or.inr rfl)) (by decide))) (fun _ _ _ _ _ => (dts_one (Ck.dt (ck_eq (by rfl) hr.units) (DE.v (de_sub1 (by rfl) (hu_of hr) (DE.v (de_var (pv 9) (by decide))) (DE.v de_int))) (DE.v (de_var (pv 4) (by decide)))))) (fun _ _ _ _ _ => (de_sub1 (by rfl) (hu_of hr) (DE.v (de_var (pv 9) (by decide))) (DE.v de_int)))))))) dss_nil))) (dss_one (DS.frz 7 (ds_retD rfl (de_var (pv 7) (by decide)))))))))))
theorem ok_tour (Tx_ : Tx K mg) : FOk P w K mg base (amb K T pu) "tour" 6 ["show", "day"] rD m_tour := by
  exact fnF (F := b_tour) (Go := []) (N := N_tour) (k := 5) Tx_.g_tour Tx_.d_tour sc_tour (fun _ _ _ _ _ _ us hl => match us, hl with | [_, _], _ => rfl) (fun _ _ _ => .inl rfl) fun cdv Ar outer s H E W hcd hr tk po hx => (dss_cons (ds_exp (DE.v (d_f shD (ok_look_day Tx_) (hr.mono (by decide)) (by rfl) hx (da_cons (de_var (pv 1) (by decide)) da_nil)))) (dss_cons (ds_set (ps_set (i := 2) sc_tour.nd rfl (by first | exact Or.inl rfl | exact Or.inr rfl) (de_sub1 (by rfl) (hu_of hr) (DE.v (d_m0 shD Tx_.sc (ok_Show_house Tx_) (hr.mono (by decide)) hx (DE.v (de_var (pv 0) (by decide))))) (DE.v de_int)))) (dss_cons (ds_set (ps_set (i := 3) sc_tour.nd rfl (by first | exact Or.inl rfl | exact Or.inr rfl) (DN.d (dn_ss (by rfl) hr.units (by rfl) Tx_.n_sorted bt_sorted (by rfl) Tx_.n_set bt_set (DN.v (dn_lc [4] (by rfl) sc_tour.nd (di_seq (d_f shD (ok_hung_on Tx_) (hr.mono (by decide)) (by rfl) hx (da_cons (de_var (pv 0) (by decide)) (da_cons (de_var (pv 1) (by decide)) da_nil)))) (blkOk_by (own := [("row", 4)]) (N := N_tour) (sc := defScope s_tour) (by decide +kernel)) rfl (by decide) (fun _ _ _ _ _ => (dg_nm (pg_name (i := 4) sc_tour.nd (by rfl) (by first | exact Or.inl rfl | exact Or.inr rfl)) (by decide))) (fun _ _ _ _ _ => dts_nil) (fun _ _ _ _ _ => (de_sub1 (by rfl) (hu_of hr) (DE.v (de_var (pv 4) (by decide))) (DE.v de_int))))))))) (dss_cons (ds_set (ps_set (i := 5) sc_tour.nd rfl (by first | exact Or.inl rfl | exact Or.inr rfl) (de_tup (da_cons de_int (da_cons (de_tuple (by rfl) Tx_.n_tuple bt_tuple (DN.v (dn_lc [6] (by rfl) sc_tour.nd (di_seq (de_var (pv 3) (by decide))) (blkOk_by (own := [("room", 6)]) (N := N_tour) (sc := defScope s_tour) (by decide +kernel)) rfl (by decide) (fun _ _ _ _ _ => (dg_nm (pg_name (i := 6) sc_tour.nd (by rfl) (by first | exact Or.inl rfl | exact Or.inr rfl)) (by decide))) (fun _ _ _ _ _ => (dts_one (Ck.dt (ck_ne (by rfl) hr.units) (DE.v (de_var (pv 6) (by decide))) (DE.v de_int)))) (fun _ _ _ _ _ => (de_var (pv 6) (by decide)))))) da_nil)) (by show 2 ≤ sizeLine; decide)))) (dss_cons (ds_par2 (ps_par rfl sc_tour.nd rfl rfl (by decide) rfl rfl (pam_D (DN.d (dn_lst (da_cons (de_tup (da_cons (de_var (pv 5) (by decide)) (da_cons (DN.d (dn_lst (da_cons de_int da_nil) (by show 1 ≤ sizeLine; decide))) da_nil)) (by show 2 ≤ sizeLine; decide)) da_nil) (by show 1 ≤ sizeLine; decide))) (pam_N (dn_dictN hr.units (DE.v (de_var (pv 5) (by decide))) de_bl) pam_nil)) (by rfl))) (dss_cons (ds_while 1000 po (Ck.dt (ck_ne (by rfl) hr.units) (DE.v (de_var (pv 7) (by decide))) (DN.v (dn_lst da_nil (by show 0 ≤ sizeLine; decide)))) (dss_cons (ds_setN (ps_set (i := 9) sc_tour.nd rfl (by first | exact Or.inl rfl | exact Or.inr rfl) (dn_lst da_nil (by show 0 ≤ sizeLine; decide)))) (dss_cons (ds_for po rfl (di_seq (de_var (pv 7) (by decide))) (dg_tp (by rfl) (dgs_cons (dg_tp (by rfl) (dgs_cons (dg_nm (pg_name (i := 10) sc_tour.nd (by rfl) (by first | exact Or.inl rfl | exact Or.inr rfl)) (by decide)) (dgs_cons (dg_nm (pg_name (i := 11) sc_tour.nd (by rfl) (by first | exact Or.inl rfl | exact Or.inr rfl)) (by decide)) dgs_nil))) (dgs_cons (dg_nm (pg_name (i := 12) sc_tour.nd (by rfl) (by first | exact Or.inl rfl | exact Or.inr rfl)) (by decide)) dgs_nil))) (by decide) (dss_cons (ds_if (DW.t (dw_and (Ck.dt (ck_eq (by rfl) hr.units) (DE.v (de_var (pv 10) (by decide))) (DE.v de_int)) (dw_and1 (Ck.dt (ck_eq (by rfl) hr.units) (DE.v (de_var (pv 11) (by decide))) (DE.v (de_tup da_nil (by show 0 ≤ sizeLine; decide))))))) (dss_one (ds_retD rfl (de_var (pv 12) (by decide)))) dss_nil) (dss_one (ds_for po rfl (di_seq (d_f shD (ok_nexts Tx_) (hr.mono (by decide)) (by rfl) hx (da_cons (de_var (pv 2) (by decide)) (da_cons (de_var (pv 10) (by decide)) da_nil)))) (dg_nm (pg_name (i := 13) sc_tour.nd (by rfl) (by first | exact Or.inl rfl | exact Or.inr rfl)) (by decide)) (by decide) (dss_cons (ds_set (ps_set (i := 14) sc_tour.nd rfl (by first | exact Or.inl rfl | exact Or.inr rfl) (de_tup (da_cons (de_var (pv 13) (by decide)) (da_cons (de_tuple (by rfl) Tx_.n_tuple bt_tuple (DN.v (dn_lc [6] (by rfl) sc_tour.nd (di_seq (de_var (pv 11) (by decide))) (blkOk_by (own := [("room", 6)]) (N := N_tour) (sc := defScope s_tour) (by decide +kernel)) rfl (by decide) (fun _ _ _ _ _ => (dg_nm (pg_name (i := 6) sc_tour.nd (by rfl) (by first | exact Or.inl rfl | exact Or.inr rfl)) (by decide))) (fun _ _ _ _ _ => (dts_one (Ck.dt (ck_ne (by rfl) hr.units) (DE.v (de_var (pv 6) (by decide))) (DE.v (de_var (pv 13) (by decide)))))) (fun _ _ _ _ _ => (de_var (pv 6) (by decide)))))) da_nil)) (by show 2 ≤ sizeLine; decide)))) (dss_one (ds_if (Ck.dt (ck_ninN (hu65 hr)) (DE.v (de_var (pv 14) (by decide))) (dv_var (pv 8))) (dss_cons (ds_putN hr.units (by decide) de_bl (pg_sub (pv 8) (DE.v (de_var (pv 14) (by decide))) (set_nest hr.units))) (dss_one (ds_app (by decide) (pv 9) (de_tup (da_cons (de_var (pv 14) (by decide)) (da_cons (de_add (DE.v (de_var (pv 12) (by decide))) (DN.v (dn_lst (da_cons (de_var (pv 13) (by decide)) da_nil) (by show 1 ≤ sizeLine; decide)))) da_nil)) (by show 2 ≤ sizeLine; decide))))) dss_nil))))))) (dss_one (DS.frz 9 (ds_set (ps_set (i := 7) sc_tour.nd rfl (by first | exact Or.inl rfl | exact Or.inr rfl) (de_var (pv 9) (by decide))))))))) (dss_one (ds_retD rfl de_non))))))))
theorem ok__law_cell (Tx_ : Tx K mg) : FOk P w K mg base (amb K T pu) "_law_cell" 1 ["script", "k"] rD m__law_cell := by
  exact fnF (F := b__law_cell) (Go := []) (N := N__law_cell) (k := 0) Tx_.g__law_cell Tx_.d__law_cell sc__law_cell (fun _ _ _ _ _ _ us hl => match us, hl with | [_, _], _ => rfl) (fun _ _ _ => .inl rfl) fun cdv Ar outer s H E W hcd hr tk po hx => (dss_cons (ds_if (Ck.dt ck_lt (DE.v (de_var (pv 1) (by decide))) (DE.v (de_len (by rfl) (by rfl) Tx_.n_len (DE.v (de_var (pv 0) (by decide)))))) (dss_one (ds_retD rfl (de_sub1 (by rfl) (hu_of hr) (DE.v (de_var (pv 0) (by decide))) (DE.v (de_var (pv 1) (by decide)))))) dss_nil) (dss_cons (ds_if (Ck.dt (ck_eq (by rfl) hr.units) (DE.v (de_var (pv 0) (by decide))) (DN.v (dn_lst da_nil (by show 0 ≤ sizeLine; decide)))) (dss_one (ds_retD rfl de_int)) dss_nil) (dss_one (ds_retD rfl (de_add (DE.v (de_mul (DE.v (de_sub1 (by rfl) (hu_of hr) (DE.v (de_var (pv 0) (by decide))) (DE.v (de_mod (DE.v (de_var (pv 1) (by decide))) (DE.v (de_len (by rfl) (by rfl) Tx_.n_len (DE.v (de_var (pv 0) (by decide))))))))) (DE.v de_int))) (DE.v (de_var (pv 1) (by decide))))))))
theorem ok__law_pick (Tx_ : Tx K mg) : FOk P w K mg base (amb K T pu) "_law_pick" 2 ["script", "k", "many"] rD m__law_pick := by
  exact fnF (F := b__law_pick) (Go := []) (N := N__law_pick) (k := 1) Tx_.g__law_pick Tx_.d__law_pick sc__law_pick (fun _ _ _ _ _ _ us hl => match us, hl with | [_, _, _], _ => rfl) (fun _ _ _ => .inl rfl) fun cdv Ar outer s H E W hcd hr tk po hx => (dss_cons (ds_set (ps_set (i := 3) sc__law_pick.nd rfl (by first | exact Or.inl rfl | exact Or.inr rfl) (de_mod (DE.v (de_mul (DE.v (de_add (DE.v (d_f shD (ok__law_cell Tx_) (hr.mono (by decide)) (by rfl) hx (da_cons (de_var (pv 0) (by decide)) (da_cons (de_var (pv 1) (by decide)) da_nil)))) (DE.v (de_mul (DE.v de_int) (DE.v (de_add (DE.v (de_var (pv 1) (by decide))) (DE.v de_int))))))) (DE.v de_int))) (DE.v de_int)))) (dss_one (ds_retD rfl (de_mod (DE.v (de_mod (DE.v (de_add (DE.v (de_mul (DE.v (de_var (pv 3) (by decide))) (DE.v (de_var (pv 3) (by decide))))) (DE.v (de_div (DE.v (de_var (pv 3) (by decide))) (DE.v de_int))))) (DE.v de_int))) (DE.v (de_var (pv 2) (by decide)))))))
theorem cls_words : ∀ (c : Nat) (z : Str) (a : Addr) (S : Sto), tw c = some z → runB (N__law_class).length (b__law_class c a) [.exn a] S = .ok (.str z) S := by
  intro c z a S h
  have hc := tw_lt h
  have key : ∀ c, c < 15 → ∃ z, tw c = some z ∧ runB (N__law_class).length (b__law_class c a) [.exn a] S = .ok (.str z) S := by
    intro c hc
    rcases c with _|_|_|_|_|_|_|_|_|_|_|_|_|_|_|c
    iterate 15 exact ⟨_, rfl, by simp [runB, b__law_class, isx, startR, sSeq, sSet, sExt, sIf, sRet, mkL, aCons, aNil, b1, b2, cst, var, dAdd, sizeLine_eq, bm1, isTy, dCntB, bls?, tst, fOr, fNot, dNe, dIndex, okEs, okE, firstI, D.eqv, dSub1, dIx, atI, seqIndex?]; try rfl⟩
    omega
  obtain ⟨z1, e1, e2⟩ := key c hc
  rw [h] at e1
  cases e1
  exact e2
theorem cls_ (Tx_ : Tx K mg) : ClsOk P w K mg base (amb K T) "_law_class" 1 tw :=
  cls_ok (k := 0) (Go := []) Tx_.g__law_class Tx_.d__law_class sc__law_class (fun _ _ _ _ _ _ us hl => match us, hl with | [_], _ => rfl) b__law_class cls_words (fun c z cdv Ar outer s H p W ht hz hf hr => have hc := tw_lt ht; (dss_cons (ds_setN (ps_set (i := 1) sc__law_class.nd rfl (by first | exact Or.inl rfl | exact Or.inr rfl) (dn_lst (da_cons (de_isx (Tx_.ea.one _ hc) hz hf List.mem_cons_self (by rfl) Tx_.n_isinstance (pv 0) (by decide) (pe_glob (v := .ref (clA K 10)) (by rfl) Tx_.g_Elsewhere rfl) (fun _ e => e) (Tx_.ea.kit _ 10 hc (by decide))) (da_cons (de_isx (Tx_.ea.one _ hc) hz hf List.mem_cons_self (by rfl) Tx_.n_isinstance (pv 0) (by decide) (pe_glob (v := .ref (clA K 13)) (by rfl) Tx_.g_NoBack rfl) (fun _ e => e) (Tx_.ea.kit _ 13 hc (by decide))) (da_cons (de_isx (Tx_.ea.one _ hc) hz hf List.mem_cons_self (by rfl) Tx_.n_isinstance (pv 0) (by decide) (pe_glob (v := .ref (clA K 5)) (by rfl) Tx_.g_NoDays rfl) (fun _ e => e) (Tx_.ea.kit _ 5 hc (by decide))) da_nil))) (by show 3 ≤ sizeLine; decide)))) (dss_cons (ds_ext (by decide) (pv 1) (DN.v (dn_lst (da_cons (de_isx (Tx_.ea.one _ hc) hz hf List.mem_cons_self (by rfl) Tx_.n_isinstance (pv 0) (by decide) (pe_glob (v := .ref (clA K 7)) (by rfl) Tx_.g_NoHanging rfl) (fun _ e => e) (Tx_.ea.kit _ 7 hc (by decide))) da_nil) (by show 1 ≤ sizeLine; decide)))) (dss_cons (ds_set (ps_set (i := 1) sc__law_class.nd rfl (by first | exact Or.inl rfl | exact Or.inr rfl) (de_add (dv_var (pv 1)) (DN.v (dn_lst (da_cons (de_isx (Tx_.ea.one _ hc) hz hf List.mem_cons_self (by rfl) Tx_.n_isinstance (pv 0) (by decide) (pe_glob (v := .ref (clA K 0)) (by rfl) Tx_.g_NoHouse rfl) (fun _ e => e) (Tx_.ea.kit _ 0 hc (by decide))) (da_cons (de_isx (Tx_.ea.one _ hc) hz hf List.mem_cons_self (by rfl) Tx_.n_isinstance (pv 0) (by decide) (pe_glob (v := .ref (clA K 4)) (by rfl) Tx_.g_NoName rfl) (fun _ e => e) (Tx_.ea.kit _ 4 hc (by decide))) (da_cons (de_isx (Tx_.ea.one _ hc) hz hf List.mem_cons_self (by rfl) Tx_.n_isinstance (pv 0) (by decide) (pe_glob (v := .ref (clA K 1)) (by rfl) Tx_.g_NoPicture rfl) (fun _ e => e) (Tx_.ea.kit _ 1 hc (by decide))) da_nil))) (by show 3 ≤ sizeLine; decide)))))) (dss_cons (ds_set (ps_set (i := 1) sc__law_class.nd rfl (by first | exact Or.inl rfl | exact Or.inr rfl) (de_add (DE.v (de_var (pv 1) (by decide))) (DN.v (dn_lst (da_cons (de_isx (Tx_.ea.one _ hc) hz hf List.mem_cons_self (by rfl) Tx_.n_isinstance (pv 0) (by decide) (pe_glob (v := .ref (clA K 2)) (by rfl) Tx_.g_NoRoom rfl) (fun _ e => e) (Tx_.ea.kit _ 2 hc (by decide))) (da_cons (de_isx (Tx_.ea.one _ hc) hz hf List.mem_cons_self (by rfl) Tx_.n_isinstance (pv 0) (by decide) (pe_glob (v := .ref (clA K 11)) (by rfl) Tx_.g_NoSpace rfl) (fun _ e => e) (Tx_.ea.kit _ 11 hc (by decide))) (da_cons (de_isx (Tx_.ea.one _ hc) hz hf List.mem_cons_self (by rfl) Tx_.n_isinstance (pv 0) (by decide) (pe_glob (v := .ref (clA K 14)) (by rfl) Tx_.g_NoText rfl) (fun _ e => e) (Tx_.ea.kit _ 14 hc (by decide))) da_nil))) (by show 3 ≤ sizeLine; decide)))))) (dss_cons (ds_set (ps_set (i := 1) sc__law_class.nd rfl (by first | exact Or.inl rfl | exact Or.inr rfl) (de_add (DE.v (de_var (pv 1) (by decide))) (DN.v (dn_lst (da_cons (de_isx (Tx_.ea.one _ hc) hz hf List.mem_cons_self (by rfl) Tx_.n_isinstance (pv 0) (by decide) (pe_glob (v := .ref (clA K 3)) (by rfl) Tx_.g_NoWall rfl) (fun _ e => e) (Tx_.ea.kit _ 3 hc (by decide))) (da_cons (de_isx (Tx_.ea.one _ hc) hz hf List.mem_cons_self (by rfl) Tx_.n_isinstance (pv 0) (by decide) (pe_glob (v := .ref (clA K 9)) (by rfl) Tx_.g_NoWay rfl) (fun _ e => e) (Tx_.ea.kit _ 9 hc (by decide))) (da_cons (de_isx (Tx_.ea.one _ hc) hz hf List.mem_cons_self (by rfl) Tx_.n_isinstance (pv 0) (by decide) (pe_glob (v := .ref (clA K 6)) (by rfl) Tx_.g_Taken rfl) (fun _ e => e) (Tx_.ea.kit _ 6 hc (by decide))) da_nil))) (by show 3 ≤ sizeLine; decide)))))) (dss_cons (ds_set (ps_set (i := 1) sc__law_class.nd rfl (by first | exact Or.inl rfl | exact Or.inr rfl) (de_add (DE.v (de_var (pv 1) (by decide))) (DN.v (dn_lst (da_cons (de_isx (Tx_.ea.one _ hc) hz hf List.mem_cons_self (by rfl) Tx_.n_isinstance (pv 0) (by decide) (pe_glob (v := .ref (clA K 8)) (by rfl) Tx_.g_TooBright rfl) (fun _ e => e) (Tx_.ea.kit _ 8 hc (by decide))) (da_cons (de_isx (Tx_.ea.one _ hc) hz hf List.mem_cons_self (by rfl) Tx_.n_isinstance (pv 0) (by decide) (pe_glob (v := .ref (clA K 12)) (by rfl) Tx_.g_TooHeavy rfl) (fun _ e => e) (Tx_.ea.kit _ 12 hc (by decide))) da_nil)) (by show 2 ≤ sizeLine; decide)))))) (dss_cons (ds_if (DW.t (dw_or (Ck.dt (ck_ne (by rfl) (hu64h hr)) (DE.v (de_cntB (DE.v (de_var (pv 1) (by decide))) (DE.v de_bl))) (DE.v de_int)) (dw_or1 (dt_not (dt_val (DE.v (de_isx (Tx_.ea.one _ hc) hz hf List.mem_cons_self (by rfl) Tx_.n_isinstance (pv 0) (by decide) (pe_bltn (v := .ty "ValueError") (by rfl) Tx_.n_ValueError bt_ValueError rfl) (cv := .type "ValueError") (fun _ e => e) (Tx_.ea.ve _ hc)))))))) (dss_one (ds_retD rfl de_str)) dss_nil) (dss_cons (ds_set (ps_set (i := 2) sc__law_class.nd rfl (by first | exact Or.inl rfl | exact Or.inr rfl) (DN.d (dn_lst (da_cons de_str (da_cons de_str (da_cons de_str (da_cons de_str (da_cons de_str (da_cons de_str (da_cons de_str (da_cons de_str da_nil)))))))) (by show 8 ≤ sizeLine; decide))))) (dss_cons (ds_set (ps_set (i := 2) sc__law_class.nd rfl (by first | exact Or.inl rfl | exact Or.inr rfl) (de_add (DE.v (de_var (pv 2) (by decide))) (DN.v (dn_lst (da_cons de_str (da_cons de_str (da_cons de_str (da_cons de_str (da_cons de_str (da_cons de_str (da_cons de_str da_nil))))))) (by show 7 ≤ sizeLine; decide)))))) (dss_one (ds_retD rfl (de_sub1 (by rfl) (hu1h hr) (DE.v (de_var (pv 2) (by decide))) (DE.v (de_index (hu65h hr) (DE.v (de_var (pv 1) (by decide))) (DE.v de_bl))))))))))))))))
theorem told_ (Tx_ : Tx K mg) : ToldOk P w K mg base (amb K T) "_law_told" 2 tw :=
  told_ok Tx_.g__law_told Tx_.d__law_told sc__law_told (fun _ _ _ _ _ _ us hl => match us, hl with | [_], _ => rfl) (cls_ Tx_) Tx_.g_ShowError (fun c z h => Tx_.ea.se c (tw_lt h)) rfl (by decide) rfl (by decide) rfl rfl (.inl rfl) rfl rfl (fun _ => rfl)
theorem ok_law {fd : FuncData} (Tx_ : Tx K mg) (TB_law : TabIs K mg base (amb K T) "law") (F_ : FunD K "law" "law" (defArgs s_law) (defBody s_law) (defScope s_law) [] [] (He.ga K "law") fd) : FnOk P w K mg base CX0 14 (He.ga K "law") fd ["script"] (fun vs H Q _ => spF (amb K T) rD 1 m_law vs H Q XF) := by
  exact fnL (F := b_law) (Go := []) (N := N_law) (k := 13) F_ sc_law (fun _ _ _ => .inl rfl) fun cdv Ar outer s H E W hcd hr tk po hx => (dss_cons (ds_set (ps_set (i := 1) sc_law.nd rfl (by first | exact Or.inl rfl | exact Or.inr rfl) (de_add (DE.v de_int) (DE.v (d_f shD (ok__law_pick Tx_) (hr.mono (by decide)) (by rfl) hx (da_cons (de_var (pv 0) (by decide)) (da_cons de_int (da_cons de_int da_nil)))))))) (dss_cons (ds_set (ps_set (i := 2) sc_law.nd rfl (by first | exact Or.inl rfl | exact Or.inr rfl) (de_tup (da_cons (de_mul (DE.v (de_tup (da_cons (de_tup (da_cons (de_tup (da_cons de_int (da_cons de_int (da_cons de_int da_nil))) (by show 3 ≤ sizeLine; decide)) da_nil) (by show 1 ≤ sizeLine; decide)) da_nil) (by show 1 ≤ sizeLine; decide))) (DE.v de_int)) (da_cons (de_tup (da_cons (de_tup (da_cons de_int (da_cons de_int (da_cons de_int da_nil))) (by show 3 ≤ sizeLine; decide)) (da_cons (de_tup (da_cons de_int (da_cons de_int (da_cons de_int da_nil))) (by show 3 ≤ sizeLine; decide)) (da_cons (de_tup (da_cons de_int (da_cons de_int (da_cons de_int da_nil))) (by show 3 ≤ sizeLine; decide)) (da_cons (de_tup (da_cons de_int (da_cons de_int (da_cons de_int da_nil))) (by show 3 ≤ sizeLine; decide)) da_nil)))) (by show 4 ≤ sizeLine; decide)) da_nil)) (by show 2 ≤ sizeLine; decide)))) (dss_cons (ds_asg (de_tup (da_cons (de_mk Tx_.mkS (ok_Show___init__ Tx_) (hr.mono (by decide)) (by rfl) Tx_.g_Show hx (da_cons (de_var (pv 2) (by decide)) da_nil)) (da_cons (de_tup (da_cons de_int (da_cons de_int (da_cons de_int (da_cons de_int da_nil)))) (by show 4 ≤ sizeLine; decide)) da_nil)) (by show 2 ≤ sizeLine; decide)) (dg_tp (by rfl) (dgs_cons (dg_nm (pg_name (i := 3) sc_law.nd (by rfl) (by first | exact Or.inl rfl | exact Or.inr rfl)) (by decide)) (dgs_cons (dg_nm (pg_name (i := 4) sc_law.nd (by rfl) (by first | exact Or.inl rfl | exact Or.inr rfl)) (by decide)) dgs_nil))) (by decide)) (dss_cons (ds_if (DW.t (dw_or (Ck.dt (ck_ne (by rfl) hr.units) (DE.v (d_m shD Tx_.sc (ok_Show_lend Tx_) (hr.mono (by decide)) hx (DE.v (de_var (pv 3) (by decide))) (da_cons de_str (da_cons (de_var (pv 4) (by decide)) (da_cons de_int (da_cons de_int da_nil)))))) (DE.v de_int)) (dw_or1 (Ck.dt (ck_ne (by rfl) hr.units) (DE.v (d_m shD Tx_.sc (ok_Show_lend Tx_) (hr.mono (by decide)) hx (DE.v (de_var (pv 3) (by decide))) (da_cons de_str (da_cons (de_var (pv 4) (by decide)) (da_cons de_int (da_cons de_int da_nil)))))) (DE.v de_int))))) (dss_one (ds_retD rfl de_bl)) dss_nil) (dss_cons (ds_exp (DE.v (d_m shD Tx_.sc (ok_Show_lend Tx_) (hr.mono (by decide)) hx (DE.v (de_var (pv 3) (by decide))) (da_cons de_str (da_cons (de_tup (da_cons de_int (da_cons de_int (da_cons de_int (da_cons de_int da_nil)))) (by show 4 ≤ sizeLine; decide)) (da_cons de_int (da_cons de_int da_nil))))))) (dss_cons (ds_if (DW.t (dw_or (Ck.dt (ck_ne (by rfl) hr.units) (DE.v (d_m shD Tx_.sc (ok_Show_hang Tx_) (hr.mono (by decide)) hx (DE.v (de_var (pv 3) (by decide))) (da_cons de_str (da_cons de_int (da_cons de_int (da_cons de_int (da_cons (de_var (pv 1) (by decide)) (da_cons de_int da_nil)))))))) (DE.v de_int)) (dw_or1 (Ck.dt (ck_ne (by rfl) hr.units) (DE.v (d_m shD Tx_.sc (ok_Show_hang Tx_) (hr.mono (by decide)) hx (DE.v (de_var (pv 3) (by decide))) (da_cons de_str (da_cons de_int (da_cons de_int (da_cons de_int (da_cons de_int (da_cons de_int da_nil)))))))) (DE.v de_int))))) (dss_one (ds_retD rfl de_bl)) dss_nil) (dss_cons (ds_if (DW.t (dw_or (Ck.dt (ck_ne (by rfl) hr.units) (DE.v (de_told (k := 11) (told_ Tx_) TB_law (by rfl) (by rfl) (code_of hcd) (hr.mono (by decide)) (hr.mono (by decide)) (LamX.lamS_by (sc := defScope s_law) (by decide +kernel)) (by rfl) (fun _ _ _ _ _ => rfl) (fun _ _ _ _ _ _ _ hr hx => (d_m shD Tx_.sc (ok_Show_hang Tx_) (hr.mono (by decide)) hx (DE.v (de_var (pv 3) (by decide))) (da_cons de_str (da_cons de_int (da_cons de_int (da_cons de_int (da_cons de_int (da_cons de_int da_nil)))))))))) (DE.v de_str)) (dw_or1 (Ck.dt (ck_ne (by rfl) hr.units) (DE.v (d_f shD (ok_places_for Tx_) (hr.mono (by decide)) (by rfl) hx (da_cons (de_var (pv 3) (by decide)) (da_cons de_str (da_cons de_int (da_cons de_int da_nil)))))) (DN.v (dn_lst da_nil (by show 0 ≤ sizeLine; decide))))))) (dss_one (ds_retD rfl de_bl)) dss_nil) (dss_cons (ds_exp (DE.v (d_m shD Tx_.sc (ok_Show_lend Tx_) (hr.mono (by decide)) hx (DE.v (de_var (pv 3) (by decide))) (da_cons de_str (da_cons (de_tup (da_cons de_int (da_cons de_int (da_cons de_int (da_cons de_int da_nil)))) (by show 4 ≤ sizeLine; decide)) (da_cons de_int (da_cons de_int da_nil))))))) (dss_cons (ds_if (Ck.dt (ck_ne (by rfl) hr.units) (DE.v (de_told (k := 11) (told_ Tx_) TB_law (by rfl) (by rfl) (code_of hcd) (hr.mono (by decide)) (hr.mono (by decide)) (LamX.lamS_by (sc := defScope s_law) (by decide +kernel)) (by rfl) (fun _ _ _ _ _ => rfl) (fun _ _ _ _ _ _ _ hr hx => (d_m shD Tx_.sc (ok_Show_hang Tx_) (hr.mono (by decide)) hx (DE.v (de_var (pv 3) (by decide))) (da_cons de_str (da_cons de_int (da_cons de_int (da_cons de_int (da_cons de_int (da_cons de_int da_nil)))))))))) (DE.v de_str)) (dss_one (ds_retD rfl de_bl)) dss_nil) (dss_cons (ds_if (DW.t (dw_or (Ck.dt (ck_ne (by rfl) hr.units) (DE.v (d_f shD (ok_longest_stay Tx_) (hr.mono (by decide)) (by rfl) hx (da_cons (de_var (pv 3) (by decide)) (da_cons de_str (da_cons de_int (da_cons de_int (da_cons de_int (da_cons de_int da_nil)))))))) (DE.v de_int)) (dw_or1 (Ck.dt (ck_ne (by rfl) hr.units) (DE.v (d_f shD (ok_longest_stay Tx_) (hr.mono (by decide)) (by rfl) hx (da_cons (de_var (pv 3) (by decide)) (da_cons de_str (da_cons de_int (da_cons de_int (da_cons de_int (da_cons de_int da_nil)))))))) (DE.v (de_sub (DE.v (de_var (pv 1) (by decide))) (DE.v de_int))))))) (dss_one (ds_retD rfl de_bl)) dss_nil) (dss_cons (ds_if (DW.t (dw_or (Ck.dt (ck_ne (by rfl) hr.units) (DE.v (d_f shD (ok_free Tx_) (hr.mono (by decide)) (by rfl) hx (da_cons (de_var (pv 3) (by decide)) (da_cons de_int (da_cons de_int (da_cons de_int (da_cons de_int da_nil))))))) (DN.v (dn_lst (da_cons (de_tup (da_cons de_int (da_cons de_int da_nil)) (by show 2 ≤ sizeLine; decide)) da_nil) (by show 1 ≤ sizeLine; decide)))) (dw_or1 (Ck.dt (ck_ne (by rfl) hr.units) (DE.v (d_f shD (ok_free Tx_) (hr.mono (by decide)) (by rfl) hx (da_cons (de_var (pv 3) (by decide)) (da_cons de_int (da_cons de_int (da_cons de_int (da_cons de_int da_nil))))))) (DN.v (dn_lst (da_cons (de_tup (da_cons de_int (da_cons de_int da_nil)) (by show 2 ≤ sizeLine; decide)) da_nil) (by show 1 ≤ sizeLine; decide))))))) (dss_one (ds_retD rfl de_bl)) dss_nil) (dss_cons (ds_if (DW.t (dw_or (Ck.dt (ck_ne (by rfl) hr.units) (DE.v (d_f shD (ok_bare Tx_) (hr.mono (by decide)) (by rfl) hx (da_cons (de_var (pv 3) (by decide)) (da_cons de_int (da_cons de_int da_nil))))) (DN.v (dn_lst (da_cons (de_tup (da_cons de_int (da_cons (de_sub (DE.v (de_var (pv 1) (by decide))) (DE.v de_int)) da_nil)) (by show 2 ≤ sizeLine; decide)) da_nil) (by show 1 ≤ sizeLine; decide)))) (dw_or1 (Ck.dt (ck_ne (by rfl) hr.units) (DE.v (d_f shD (ok_bare Tx_) (hr.mono (by decide)) (by rfl) hx (da_cons (de_var (pv 3) (by decide)) (da_cons de_int (da_cons de_int da_nil))))) (DN.v (dn_lst (da_cons (de_tup (da_cons de_int (da_cons de_int da_nil)) (by show 2 ≤ sizeLine; decide)) da_nil) (by show 1 ≤ sizeLine; decide))))))) (dss_one (ds_retD rfl de_bl)) dss_nil) (dss_cons (ds_if (DW.t (dw_or (Ck.dt (ck_ne (by rfl) hr.units) (DE.v (d_f shD (ok_doors_passed Tx_) (hr.mono (by decide)) (by rfl) hx (da_cons (de_var (pv 3) (by decide)) (da_cons (de_var (pv 1) (by decide)) da_nil)))) (DE.v de_int)) (dw_or1 (Ck.dt (ck_ne (by rfl) hr.units) (DE.v (d_f shD (ok_doors_passed Tx_) (hr.mono (by decide)) (by rfl) hx (da_cons (de_var (pv 3) (by decide)) (da_cons de_int da_nil)))) (DE.v de_int))))) (dss_one (ds_retD rfl de_bl)) dss_nil) (dss_cons (ds_if (DW.t (dw_or (Ck.dt (ck_ne (by rfl) hr.units) (DE.v (d_f shD (ok_days_of Tx_) (hr.mono (by decide)) (by rfl) hx (da_cons (de_var (pv 3) (by decide)) (da_cons de_str da_nil)))) (DN.v (dn_lst (da_cons (de_var (pv 1) (by decide)) da_nil) (by show 1 ≤ sizeLine; decide)))) (dw_or1 (Ck.dt (ck_ne (by rfl) hr.units) (DE.v (d_f shD (ok_days_of Tx_) (hr.mono (by decide)) (by rfl) hx (da_cons (de_var (pv 3) (by decide)) (da_cons de_str da_nil)))) (DN.v (dn_lst (da_cons de_int da_nil) (by show 1 ≤ sizeLine; decide))))))) (dss_one (ds_retD rfl de_bl)) dss_nil) (dss_cons (ds_if (Ck.dt (ck_ne (by rfl) hr.units) (DE.v (d_f shD (ok_carried Tx_) (hr.mono (by decide)) (by rfl) hx (da_cons (de_var (pv 3) (by decide)) (da_cons de_int da_nil)))) (DN.v (dn_lst (da_cons (de_tup (da_cons de_str (da_cons de_non (da_cons (de_tup (da_cons de_int (da_cons de_int (da_cons de_int da_nil))) (by show 3 ≤ sizeLine; decide)) da_nil))) (by show 3 ≤ sizeLine; decide)) da_nil) (by show 1 ≤ sizeLine; decide)))) (dss_one (ds_retD rfl de_bl)) dss_nil) (dss_cons (ds_if (DW.t (dw_or (Ck.dt (ck_ne (by rfl) hr.units) (DE.v (d_f shD (ok_tour Tx_) (hr.mono (by decide)) (by rfl) hx (da_cons (de_var (pv 3) (by decide)) (da_cons de_int da_nil)))) (DN.v (dn_lst (da_cons de_int (da_cons de_int (da_cons de_int (da_cons de_int (da_cons de_int (da_cons de_int (da_cons de_int (da_cons de_int (da_cons de_int da_nil))))))))) (by show 9 ≤ sizeLine; decide)))) (dw_or1 (Ck.dt (ck_ne (by rfl) hr.units) (DE.v (d_f shD (ok_tour Tx_) (hr.mono (by decide)) (by rfl) hx (da_cons (de_var (pv 3) (by decide)) (da_cons (de_sub (DE.v (de_var (pv 1) (by decide))) (DE.v de_int)) da_nil)))) (DN.v (dn_lst (da_cons de_int da_nil) (by show 1 ≤ sizeLine; decide))))))) (dss_one (ds_retD rfl de_bl)) dss_nil) (dss_cons (ds_if (DW.t (dw_or (Ck.dt (ck_ne (by rfl) hr.units) (DE.v (d_f shD (ok_seen Tx_) (hr.mono (by decide)) (by rfl) hx (da_cons (de_var (pv 3) (by decide)) (da_cons (d_f shD (ok_tour Tx_) (hr.mono (by decide)) (by rfl) hx (da_cons (de_var (pv 3) (by decide)) (da_cons de_int da_nil))) (da_cons de_int da_nil))))) (DN.v (dn_lst (da_cons de_str (da_cons de_str da_nil)) (by show 2 ≤ sizeLine; decide)))) (dw_or1 (Ck.dt (ck_ne (by rfl) hr.units) (DE.v (d_f shD (ok_seen Tx_) (hr.mono (by decide)) (by rfl) hx (da_cons (de_var (pv 3) (by decide)) (da_cons (DN.d (dn_lst (da_cons de_int (da_cons de_int (da_cons de_int (da_cons de_int da_nil)))) (by show 4 ≤ sizeLine; decide))) (da_cons (de_var (pv 1) (by decide)) da_nil))))) (DN.v (dn_lst (da_cons de_str da_nil) (by show 1 ≤ sizeLine; decide))))))) (dss_one (ds_retD rfl de_bl)) dss_nil) (dss_cons (ds_if (DW.t (dw_or (Ck.dt (ck_ne (by rfl) hr.units) (DE.v (d_f shD (ok_covered Tx_) (hr.mono (by decide)) (by rfl) hx (da_cons (de_var (pv 3) (by decide)) (da_cons de_int da_nil)))) (DE.v de_int)) (dw_or1 (Ck.dt (ck_ne (by rfl) hr.units) (DE.v (d_f shD (ok_fullest Tx_) (hr.mono (by decide)) (by rfl) hx (da_cons (de_var (pv 3) (by decide)) da_nil))) (DE.v (de_tup (da_cons de_int (da_cons de_int da_nil)) (by show 2 ≤ sizeLine; decide))))))) (dss_one (ds_retD rfl de_bl)) dss_nil) (dss_cons (ds_if (DW.t (dw_or (Ck.dt (ck_ne (by rfl) hr.units) (DE.v (d_f shD (ok_idle_days Tx_) (hr.mono (by decide)) (by rfl) hx (da_cons (de_var (pv 3) (by decide)) (da_cons de_str da_nil)))) (DE.v (de_var (pv 1) (by decide)))) (dw_or1 (Ck.dt (ck_ne (by rfl) hr.units) (DE.v (d_f shD (ok_idle_days Tx_) (hr.mono (by decide)) (by rfl) hx (da_cons (de_var (pv 3) (by decide)) (da_cons de_str da_nil)))) (DE.v de_int))))) (dss_one (ds_retD rfl de_bl)) dss_nil) (dss_cons (ds_if (DW.t (dw_or (Ck.dt (ck_ne (by rfl) hr.units) (DE.v (d_f shD (ok_highest Tx_) (hr.mono (by decide)) (by rfl) hx (da_cons (de_var (pv 2) (by decide)) (da_cons de_int (da_cons de_int da_nil))))) (DE.v de_int)) (dw_or1 (Ck.dt (ck_ne (by rfl) hr.units) (DE.v (d_f shD (ok_way Tx_) (hr.mono (by decide)) (by rfl) hx (da_cons (de_var (pv 2) (by decide)) (da_cons (de_var (pv 4) (by decide)) (da_cons de_int (da_cons de_int da_nil)))))) (DN.v (dn_lst (da_cons de_int (da_cons de_int (da_cons de_int (da_cons de_int (da_cons de_int da_nil))))) (by show 5 ≤ sizeLine; decide))))))) (dss_one (ds_retD rfl de_bl)) dss_nil) (dss_one (ds_retD rfl (Ck.de (ck_eq (by rfl) hr.units) (DE.v (d_f shD (ok_dues Tx_) (hr.mono (by decide)) (by rfl) hx (da_cons (de_var (pv 3) (by decide)) (da_cons de_int da_nil)))) (DN.v (dn_lst (da_cons (de_tup (da_cons de_str (da_cons de_int da_nil)) (by show 2 ≤ sizeLine; decide)) (da_cons (de_tup (da_cons de_str (da_cons de_int da_nil)) (by show 2 ≤ sizeLine; decide)) (da_cons (de_tup (da_cons de_str (da_cons (de_mul (DE.v de_int) (DE.v (de_sub (DE.v de_int) (DE.v (de_var (pv 1) (by decide)))))) da_nil)) (by show 2 ≤ sizeLine; decide)) (da_cons (de_tup (da_cons de_str (da_cons de_int da_nil)) (by show 2 ≤ sizeLine; decide)) da_nil)))) (by show 4 ≤ sizeLine; decide))))))))))))))))))))))))))
end
theorem facts {K : PySem.W.Frag} {h : Heap} {mg : Str → Option Value} (X : K.In h) (G : h.Ns mainGlobals mg) (c : He.SaysD fa fn K) (e : ex K = true) : Tx K mg where
  g_is_whole := He.glo_ok X G (c.fact 0 (f := .glo "is_whole") rfl)
  g_are_numbers := He.glo_ok X G (c.fact 1 (f := .glo "are_numbers") rfl)
  g_is_wall := He.glo_ok X G (c.fact 2 (f := .glo "is_wall") rfl)
  g_is_room := He.glo_ok X G (c.fact 3 (f := .glo "is_room") rfl)
  g_are_doors := He.glo_ok X G (c.fact 4 (f := .glo "are_doors") rfl)
  g_is_house := He.glo_ok X G (c.fact 5 (f := .glo "is_house") rfl)
  g_is_picture := He.glo_ok X G (c.fact 6 (f := .glo "is_picture") rfl)
  g_look_house := He.glo_ok X G (c.fact 7 (f := .glo "look_house") rfl)
  g_look_picture := He.glo_ok X G (c.fact 8 (f := .glo "look_picture") rfl)
  g_look_room := He.glo_ok X G (c.fact 9 (f := .glo "look_room") rfl)
  g_look_wall := He.glo_ok X G (c.fact 10 (f := .glo "look_wall") rfl)
  g_walls_in := He.glo_ok X G (c.fact 11 (f := .glo "walls_in") rfl)
  g_doors_by := He.glo_ok X G (c.fact 12 (f := .glo "doors_by") rfl)
  g_side_of := He.glo_ok X G (c.fact 13 (f := .glo "side_of") rfl)
  g_nexts := He.glo_ok X G (c.fact 14 (f := .glo "nexts") rfl)
  g_steps_from := He.glo_ok X G (c.fact 15 (f := .glo "steps_from") rfl)
  g_shortest := He.glo_ok X G (c.fact 16 (f := .glo "shortest") rfl)
  g_way := He.glo_ok X G (c.fact 17 (f := .glo "way") rfl)
  g_rooms_for := He.glo_ok X G (c.fact 18 (f := .glo "rooms_for") rfl)
  g_highest := He.glo_ok X G (c.fact 19 (f := .glo "highest") rfl)
  g_is_name := He.glo_ok X G (c.fact 20 (f := .glo "is_name") rfl)
  g_is_day := He.glo_ok X G (c.fact 21 (f := .glo "is_day") rfl)
  g_look_day := He.glo_ok X G (c.fact 22 (f := .glo "look_day") rfl)
  g_look_days := He.glo_ok X G (c.fact 23 (f := .glo "look_days") rfl)
  g_do_meet := He.glo_ok X G (c.fact 24 (f := .glo "do_meet") rfl)
  g_Show___init__ := He.meth_ok (c.fact 25 (f := .meth "Show" "__init__") rfl)
  g_Show_house := He.meth_ok (c.fact 26 (f := .meth "Show" "house") rfl)
  g_Show_step := He.meth_ok (c.fact 27 (f := .meth "Show" "step") rfl)
  g_Show_look := He.meth_ok (c.fact 28 (f := .meth "Show" "look") rfl)
  g_Show_with_hung := He.meth_ok (c.fact 29 (f := .meth "Show" "with_hung") rfl)
  g_Show_lend := He.meth_ok (c.fact 30 (f := .meth "Show" "lend") rfl)
  g_Show_loan := He.meth_ok (c.fact 31 (f := .meth "Show" "loan") rfl)
  g_Show_names := He.meth_ok (c.fact 32 (f := .meth "Show" "names") rfl)
  g_Show_look_loan := He.meth_ok (c.fact 33 (f := .meth "Show" "look_loan") rfl)
  g_Show_look_place := He.meth_ok (c.fact 34 (f := .meth "Show" "look_place") rfl)
  g_Show_look_hanging := He.meth_ok (c.fact 35 (f := .meth "Show" "look_hanging") rfl)
  g_Show_hang := He.meth_ok (c.fact 36 (f := .meth "Show" "hang") rfl)
  g_Show_hangings := He.meth_ok (c.fact 37 (f := .meth "Show" "hangings") rfl)
  g_Show_hanging_on := He.meth_ok (c.fact 38 (f := .meth "Show" "hanging_on") rfl)
  g_Show_where := He.meth_ok (c.fact 39 (f := .meth "Show" "where") rfl)
  g_Show_twin := He.meth_ok (c.fact 40 (f := .meth "Show" "twin") rfl)
  g_hung_on := He.glo_ok X G (c.fact 41 (f := .glo "hung_on") rfl)
  g_rows_on := He.glo_ok X G (c.fact 42 (f := .glo "rows_on") rfl)
  g_stretches := He.glo_ok X G (c.fact 43 (f := .glo "stretches") rfl)
  g_free := He.glo_ok X G (c.fact 44 (f := .glo "free") rfl)
  g_bare := He.glo_ok X G (c.fact 45 (f := .glo "bare") rfl)
  g_days_hung := He.glo_ok X G (c.fact 46 (f := .glo "days_hung") rfl)
  g_idle_days := He.glo_ok X G (c.fact 47 (f := .glo "idle_days") rfl)
  g_dues := He.glo_ok X G (c.fact 48 (f := .glo "dues") rfl)
  g_covered_on := He.glo_ok X G (c.fact 49 (f := .glo "covered_on") rfl)
  g_covered := He.glo_ok X G (c.fact 50 (f := .glo "covered") rfl)
  g_fullest := He.glo_ok X G (c.fact 51 (f := .glo "fullest") rfl)
  g_place_ahead := He.glo_ok X G (c.fact 52 (f := .glo "place_ahead") rfl)
  g_carried := He.glo_ok X G (c.fact 53 (f := .glo "carried") rfl)
  g_room_of := He.glo_ok X G (c.fact 54 (f := .glo "room_of") rfl)
  g_doors_passed := He.glo_ok X G (c.fact 55 (f := .glo "doors_passed") rfl)
  g_days_of := He.glo_ok X G (c.fact 56 (f := .glo "days_of") rfl)
  g_can_hang := He.glo_ok X G (c.fact 57 (f := .glo "can_hang") rfl)
  g_places_for := He.glo_ok X G (c.fact 58 (f := .glo "places_for") rfl)
  g_longest_stay := He.glo_ok X G (c.fact 59 (f := .glo "longest_stay") rfl)
  g_seen := He.glo_ok X G (c.fact 60 (f := .glo "seen") rfl)
  g_tour := He.glo_ok X G (c.fact 61 (f := .glo "tour") rfl)
  g__law_cell := He.glo_ok X G (c.fact 62 (f := .glo "_law_cell") rfl)
  g__law_pick := He.glo_ok X G (c.fact 63 (f := .glo "_law_pick") rfl)
  g__law_class := He.glo_ok X G (c.fact 64 (f := .glo "_law_class") rfl)
  g__law_told := He.glo_ok X G (c.fact 65 (f := .glo "_law_told") rfl)
  g_law := He.glo_ok X G (c.fact 66 (f := .glo "law") rfl)
  n_ValueError := He.free_ok X G (c.fact 67 (f := .free "ValueError") rfl)
  n_all := He.free_ok X G (c.fact 68 (f := .free "all") rfl)
  n_any := He.free_ok X G (c.fact 69 (f := .free "any") rfl)
  n_bool := He.free_ok X G (c.fact 70 (f := .free "bool") rfl)
  n_dict := He.free_ok X G (c.fact 71 (f := .free "dict") rfl)
  n_enumerate := He.free_ok X G (c.fact 72 (f := .free "enumerate") rfl)
  n_int := He.free_ok X G (c.fact 73 (f := .free "int") rfl)
  n_isinstance := He.free_ok X G (c.fact 74 (f := .free "isinstance") rfl)
  n_len := He.free_ok X G (c.fact 75 (f := .free "len") rfl)
  n_list := He.free_ok X G (c.fact 76 (f := .free "list") rfl)
  n_max := He.free_ok X G (c.fact 77 (f := .free "max") rfl)
  n_min := He.free_ok X G (c.fact 78 (f := .free "min") rfl)
  n_range := He.free_ok X G (c.fact 79 (f := .free "range") rfl)
  n_set := He.free_ok X G (c.fact 80 (f := .free "set") rfl)
  n_sorted := He.free_ok X G (c.fact 81 (f := .free "sorted") rfl)
  n_str := He.free_ok X G (c.fact 82 (f := .free "str") rfl)
  n_sum := He.free_ok X G (c.fact 83 (f := .free "sum") rfl)
  n_tuple := He.free_ok X G (c.fact 84 (f := .free "tuple") rfl)
  n_zip := He.free_ok X G (c.fact 85 (f := .free "zip") rfl)
  c_HIGHEST := He.int_ok X G (c.fact 86 (f := .int "HIGHEST" 9) rfl)
  c_LAST := He.int_ok X G (c.fact 87 (f := .int "LAST" 99) rfl)
  c_LONGEST := He.int_ok X G (c.fact 88 (f := .int "LONGEST" 4) rfl)
  c_MOST_DOORS := He.int_ok X G (c.fact 89 (f := .int "MOST_DOORS" 8) rfl)
  c_MOST_ROOMS := He.int_ok X G (c.fact 90 (f := .int "MOST_ROOMS" 5) rfl)
  c_MOST_WALLS := He.int_ok X G (c.fact 91 (f := .int "MOST_WALLS" 3) rfl)
  c_SMALL := He.str_ok X G (c.fact 92 (f := .str "SMALL" "abcdefghijklmnopqrstuvwxyz") rfl)
  g_Elsewhere := He.glo_ok X G (c.fact 93 (f := .glo "Elsewhere") rfl)
  x_Elsewhere := c.fact 94 (f := .exc "Elsewhere") rfl
  g_NoBack := He.glo_ok X G (c.fact 95 (f := .glo "NoBack") rfl)
  x_NoBack := c.fact 96 (f := .exc "NoBack") rfl
  g_NoDays := He.glo_ok X G (c.fact 97 (f := .glo "NoDays") rfl)
  x_NoDays := c.fact 98 (f := .exc "NoDays") rfl
  g_NoHanging := He.glo_ok X G (c.fact 99 (f := .glo "NoHanging") rfl)
  x_NoHanging := c.fact 100 (f := .exc "NoHanging") rfl
  g_NoHouse := He.glo_ok X G (c.fact 101 (f := .glo "NoHouse") rfl)
  x_NoHouse := c.fact 102 (f := .exc "NoHouse") rfl
  g_NoName := He.glo_ok X G (c.fact 103 (f := .glo "NoName") rfl)
  x_NoName := c.fact 104 (f := .exc "NoName") rfl
  g_NoPicture := He.glo_ok X G (c.fact 105 (f := .glo "NoPicture") rfl)
  x_NoPicture := c.fact 106 (f := .exc "NoPicture") rfl
  g_NoRoom := He.glo_ok X G (c.fact 107 (f := .glo "NoRoom") rfl)
  x_NoRoom := c.fact 108 (f := .exc "NoRoom") rfl
  g_NoSpace := He.glo_ok X G (c.fact 109 (f := .glo "NoSpace") rfl)
  x_NoSpace := c.fact 110 (f := .exc "NoSpace") rfl
  g_NoText := He.glo_ok X G (c.fact 111 (f := .glo "NoText") rfl)
  x_NoText := c.fact 112 (f := .exc "NoText") rfl
  g_NoWall := He.glo_ok X G (c.fact 113 (f := .glo "NoWall") rfl)
  x_NoWall := c.fact 114 (f := .exc "NoWall") rfl
  g_NoWay := He.glo_ok X G (c.fact 115 (f := .glo "NoWay") rfl)
  x_NoWay := c.fact 116 (f := .exc "NoWay") rfl
  g_ShowError := He.glo_ok X G (c.fact 117 (f := .glo "ShowError") rfl)
  g_Taken := He.glo_ok X G (c.fact 118 (f := .glo "Taken") rfl)
  x_Taken := c.fact 119 (f := .exc "Taken") rfl
  g_TooBright := He.glo_ok X G (c.fact 120 (f := .glo "TooBright") rfl)
  x_TooBright := c.fact 121 (f := .exc "TooBright") rfl
  g_TooHeavy := He.glo_ok X G (c.fact 122 (f := .glo "TooHeavy") rfl)
  x_TooHeavy := c.fact 123 (f := .exc "TooHeavy") rfl
  g_Show := He.glo_ok X G (c.fact 124 (f := .glo "Show") rfl)
  mkS := He.mkr_ok (c.fact 125 (f := .mkr "Show") rfl)
  d_is_whole := c.def_ 0 (d := q_is_whole) rfl
  d_are_numbers := c.def_ 1 (d := q_are_numbers) rfl
  d_is_wall := c.def_ 2 (d := q_is_wall) rfl
  d_is_room := c.def_ 3 (d := q_is_room) rfl
  d_are_doors := c.def_ 4 (d := q_are_doors) rfl
  d_is_house := c.def_ 5 (d := q_is_house) rfl
  d_is_picture := c.def_ 6 (d := q_is_picture) rfl
  d_look_house := c.def_ 7 (d := q_look_house) rfl
  d_look_picture := c.def_ 8 (d := q_look_picture) rfl
  d_look_room := c.def_ 9 (d := q_look_room) rfl
  d_look_wall := c.def_ 10 (d := q_look_wall) rfl
  d_walls_in := c.def_ 11 (d := q_walls_in) rfl
  d_doors_by := c.def_ 12 (d := q_doors_by) rfl
  d_side_of := c.def_ 13 (d := q_side_of) rfl
  d_nexts := c.def_ 14 (d := q_nexts) rfl
  d_steps_from := c.def_ 15 (d := q_steps_from) rfl
  d_shortest := c.def_ 16 (d := q_shortest) rfl
  d_way := c.def_ 17 (d := q_way) rfl
  d_rooms_for := c.def_ 18 (d := q_rooms_for) rfl
  d_highest := c.def_ 19 (d := q_highest) rfl
  d_is_name := c.def_ 20 (d := q_is_name) rfl
  d_is_day := c.def_ 21 (d := q_is_day) rfl
  d_look_day := c.def_ 22 (d := q_look_day) rfl
  d_look_days := c.def_ 23 (d := q_look_days) rfl
  d_do_meet := c.def_ 24 (d := q_do_meet) rfl
  d_Show___init__ := c.def_ 25 (d := q_Show___init__) rfl
  d_Show_house := c.def_ 26 (d := q_Show_house) rfl
  d_Show_step := c.def_ 27 (d := q_Show_step) rfl
  d_Show_look := c.def_ 28 (d := q_Show_look) rfl
  d_Show_with_hung := c.def_ 29 (d := q_Show_with_hung) rfl
  d_Show_lend := c.def_ 30 (d := q_Show_lend) rfl
  d_Show_loan := c.def_ 31 (d := q_Show_loan) rfl
  d_Show_names := c.def_ 32 (d := q_Show_names) rfl
  d_Show_look_loan := c.def_ 33 (d := q_Show_look_loan) rfl
  d_Show_look_place := c.def_ 34 (d := q_Show_look_place) rfl
  d_Show_look_hanging := c.def_ 35 (d := q_Show_look_hanging) rfl
  d_Show_hang := c.def_ 36 (d := q_Show_hang) rfl
  d_Show_hangings := c.def_ 37 (d := q_Show_hangings) rfl
  d_Show_hanging_on := c.def_ 38 (d := q_Show_hanging_on) rfl
  d_Show_where := c.def_ 39 (d := q_Show_where) rfl
  d_Show_twin := c.def_ 40 (d := q_Show_twin) rfl
  d_hung_on := c.def_ 41 (d := q_hung_on) rfl
  d_rows_on := c.def_ 42 (d := q_rows_on) rfl
  d_stretches := c.def_ 43 (d := q_stretches) rfl
  d_free := c.def_ 44 (d := q_free) rfl
  d_bare := c.def_ 45 (d := q_bare) rfl
  d_days_hung := c.def_ 46 (d := q_days_hung) rfl
  d_idle_days := c.def_ 47 (d := q_idle_days) rfl
  d_dues := c.def_ 48 (d := q_dues) rfl
  d_covered_on := c.def_ 49 (d := q_covered_on) rfl
  d_covered := c.def_ 50 (d := q_covered) rfl
  d_fullest := c.def_ 51 (d := q_fullest) rfl
  d_place_ahead := c.def_ 52 (d := q_place_ahead) rfl
  d_carried := c.def_ 53 (d := q_carried) rfl
  d_room_of := c.def_ 54 (d := q_room_of) rfl
  d_doors_passed := c.def_ 55 (d := q_doors_passed) rfl
  d_days_of := c.def_ 56 (d := q_days_of) rfl
  d_can_hang := c.def_ 57 (d := q_can_hang) rfl
  d_places_for := c.def_ 58 (d := q_places_for) rfl
  d_longest_stay := c.def_ 59 (d := q_longest_stay) rfl
  d_seen := c.def_ 60 (d := q_seen) rfl
  d_tour := c.def_ 61 (d := q_tour) rfl
  d__law_cell := c.def_ 62 (d := q__law_cell) rfl
  d__law_pick := c.def_ 63 (d := q__law_pick) rfl
  d__law_class := c.def_ 64 (d := q__law_class) rfl
  d__law_told := c.def_ 65 (d := q__law_told) rfl
  d_law := c.def_ 66 (d := q_law) rfl
  sc := ⟨He.cls_ok (c.fact 126 (f := .cls "Show") rfl), He.noat_ok (c.fact 127 (f := .noat "Show" "own") rfl), He.noat_ok (c.fact 128 (f := .noat "Show" "state") rfl), He.noat_ok (c.fact 129 (f := .noat "Show" "past") rfl), He.noat_ok (c.fact 130 (f := .noat "Show" "later") rfl)⟩
  ea := excB_ok (Bool.and_eq_true_iff.mp e).1
end Law

set_option maxHeartbeats 4000000
namespace Law
open PySem PySem.Spec PyProof.Rows L2 Hr
theorem cell_ok (ns : List Int) (k : Nat) : ∃ c, ∀ S, m__law_cell [.scr ns, .int k] S = .ok (.int c) S := by
  by_cases h : (k : Int) < ns.length
  · have hk : k < ns.length := by omega
    refine ⟨ns[k], fun S => ?_⟩
    have e : atI ns (k : Int) = some ns[k] := atI_nat (List.getElem?_eq_getElem hk)
    simp [m__law_cell, runB, b__law_cell, sNil, sSeq, sIf, sRet, tst, b1, b2, var, cst, startR, dLen, dCmp, dSub1, dIx, h, e]
  · by_cases h0 : ns = []
    · subst h0
      have hn : ¬ (k : Int) < 0 := by omega
      exact ⟨0, fun S => by simp [m__law_cell, runB, b__law_cell, sNil, sSeq, sIf, sRet, tst, b1, b2, var, cst, startR, dLen, dCmp, dSub1, dIx, dEq, mkL, aNil, hn]⟩
    · have hl : 0 < ns.length := List.length_pos_iff.mpr h0
      have hm : k % ns.length < ns.length := Nat.mod_lt _ hl
      have e : atI ns ((k : Int) % (ns.length : Int)) = some ns[k % ns.length] := by
        rw [← Int.natCast_emod]
        exact atI_nat (List.getElem?_eq_getElem hm)
      have hl' : (0 : Int) < ns.length := by omega
      refine ⟨ns[k % ns.length] * 31 + k, fun S => ?_⟩
      have hE : ns.isEmpty = false := by simp [h0]
      simp [m__law_cell, runB, b__law_cell, sNil, sSeq, sIf, sRet, tst, b1, b2, var, cst, startR, dLen, dCmp, dSub1, dIx, dEq, mkL, aNil, h, hE, dMod, hl', hl, h0, e, dMul, dAdd]
theorem pick_ok (ns : List Int) (k : Nat) (many : Int) (hm : 0 < many) : ∃ p : Int, (0 ≤ p ∧ p < many) ∧ ∀ S, m__law_pick [.scr ns, .int k, .int many] S = .ok (.int p) S := by
  obtain ⟨c, hc⟩ := cell_ok ns k
  let d := (c + 6151 * ((k : Int) + 1)) * 40692 % 2147483399
  have hd : 0 ≤ d ∧ d < 2147483399 := ⟨Int.emod_nonneg _ (by decide), Int.emod_lt_of_pos _ (by decide)⟩
  refine ⟨(d * d + d / 31) % 2147483629 % many, ⟨Int.emod_nonneg _ (by omega), Int.emod_lt_of_pos _ hm⟩, fun S => ?_⟩
  have e2 : -18446744073709551616 < d ∧ d < 18446744073709551616 := by omega
  have ed : (c + 6151 * ((k : Int) + 1)) * 40692 % 2147483399 = d := rfl
  simp [m__law_pick, runB, b__law_pick, sSeq, sSet, sRet, b1, b2, var, cst, startR, aCons, aNil, hc, dAdd, dMul, dMod, dDiv, ed, hm]
  rw [if_pos e2]
  simp [hm]
theorem runB_ret {n : Nat} {F : Sv} {ds : List D} {S S' : Sto} {d : D} (h : F (startR n ds) S = .ok (.ret d) S') : runB n F ds S = .ok d S' := by
  unfold runB
  rw [h]
  rfl
theorem seq_nx {F G : Sv} {ρ ρ' : Rho} {S S' : Sto} (h : F ρ S = .ok (.nx ρ') S') : sSeq F G ρ S = G ρ' S' := by
  unfold sSeq
  rw [h]
  rfl
theorem seq_ret {F G : Sv} {ρ : Rho} {S S' : Sto} {d : D} (h : F ρ S = .ok (.ret d) S') : sSeq F G ρ S = .ok (.ret d) S' := by
  unfold sSeq
  rw [h]
  rfl
theorem if_t {t : Ev Bool} {F G : Sv} {ρ : Rho} {S S' : Sto} (h : t ρ S = .ok true S') : sIf t F G ρ S = F ρ S' := by
  unfold sIf
  rw [h]
  rfl
theorem if_f {t : Ev Bool} {F G : Sv} {ρ : Rho} {S S' : Sto} (h : t ρ S = .ok false S') : sIf t F G ρ S = G ρ S' := by
  unfold sIf
  rw [h]
  rfl
theorem ret_ok {f : Ev D} {ρ : Rho} {S S' : Sto} {d : D} (h : f ρ S = .ok d S') : sRet f ρ S = .ok (.ret d) S' := by
  unfold sRet
  rw [h]
  rfl
theorem b1_ok {α γ : Type} {f : Ev α} {g : α → Sto → Out γ} {ρ : Rho} {S S' : Sto} {d : α} (h : f ρ S = .ok d S') : b1 f g ρ S = g d S' := by
  unfold b1
  rw [h]
  rfl
theorem tst_ok {f : Ev D} {ρ : Rho} {S S' : Sto} {b : Bool} (h : f ρ S = .ok (.bl b) S') : tst f ρ S = .ok b S' := b1_ok h
theorem fNot_ok {f : Ev Bool} {ρ : Rho} {S S' : Sto} {b : Bool} (h : f ρ S = .ok b S') : fNot f ρ S = .ok (!b) S' := b1_ok h
theorem vAnd_t {f g : Ev D} {ρ : Rho} {S S' : Sto} (h : f ρ S = .ok (.bl true) S') : vAnd f g ρ S = g ρ S' := by
  unfold vAnd
  rw [h]
  rfl
theorem vAnd_f {f g : Ev D} {ρ : Rho} {S S' : Sto} (h : f ρ S = .ok (.bl false) S') : vAnd f g ρ S = .ok (.bl false) S' := by
  unfold vAnd
  rw [h]
  rfl
theorem fOr_t {f g : Ev Bool} {ρ : Rho} {S S' : Sto} (h : f ρ S = .ok true S') : fOr f g ρ S = .ok true S' := by
  unfold fOr
  rw [h]
  rfl
theorem fOr_f {f g : Ev Bool} {ρ : Rho} {S S' : Sto} (h : f ρ S = .ok false S') : fOr f g ρ S = g ρ S' := by
  unfold fOr
  rw [h]
  rfl
theorem b2_ok {α β γ : Type} {f : Ev α} {f' : Ev β} {g : α → β → Sto → Out γ} {ρ : Rho} {S S1 S2 : Sto} {d : α} {d' : β} (h : f ρ S = .ok d S1) (h' : f' ρ S1 = .ok d' S2) : b2 f f' g ρ S = g d d' S2 := by
  unfold b2
  rw [h]
  simp only [Out.bind_ok]
  rw [h']
  rfl
theorem aCons_ok {fa : Ev D} {fr : Ev (List D)} {ρ : Rho} {S S1 S2 : Sto} {d : D} {l : List D} (h : fa ρ S = .ok d S1) (h' : fr ρ S1 = .ok l S2) : aCons fa fr ρ S = .ok (d :: l) S2 := b2_ok h h'

end Law
set_option maxHeartbeats 4000000
namespace Law
open PySem PySem.Spec PyProof.Rows L2 Hr
/-! ### plain laws of the pieces -/
theorem lcGo_pure {α : Type} {T : Tg} {c : Ev Bool} {e : Ev D} {ρ : Rho} {S : Sto} {h g : α → D} : ∀ xs : List α, (∀ x ∈ xs, ∃ ρ1, bindT T (h x) ρ = some ρ1 ∧ c ρ1 S = .ok true S ∧ e ρ1 S = .ok (g x) S) → lcGo T c e ρ (xs.map h) S = .ok (xs.map g) S
  | [], _ => rfl
  | x :: xs, H => by
    obtain ⟨ρ1, h1, h2, h3⟩ := H x List.mem_cons_self
    have ih := lcGo_pure xs fun y m => H y (List.mem_cons_of_mem _ m)
    simp only [List.map_cons, lcGo, h1, h2, h3, Out.bind_ok, if_true, ih]
theorem lcF_pure {α : Type} {f : Ev (List D)} {T : Tg} {c : Ev Bool} {e : Ev D} {vs : List Nat} {ρ : Rho} {S : Sto} {h g : α → D} {xs : List α} (hf : f ρ S = .ok (xs.map h) S) (H : ∀ x ∈ xs, ∃ ρ1, bindT T (h x) (wipeR ρ vs) = some ρ1 ∧ c ρ1 S = .ok true S ∧ e ρ1 S = .ok (g x) S) :
    lcF f T c e vs ρ S = .ok (.lst (xs.map g)) S := by
  unfold lcF
  rw [hf]
  simp only [Out.bind_ok, lcGo_pure xs H, noX]
theorem bls_map {α : Type} (p : α → Bool) : ∀ xs : List α, bls? (xs.map fun x => D.bl (p x)) = some (xs.map p)
  | [] => rfl
  | x :: xs => by simp [bls?, bls_map p xs]
theorem ints_map {α : Type} (p : α → Int) : ∀ xs : List α, ints? (xs.map fun x => D.int (p x)) = some (xs.map p)
  | [] => rfl
  | x :: xs => by simp [ints?, ints_map p xs]
theorem dAll_map {α : Type} (p : α → Bool) (xs : List α) (S : Sto) : dAll (.lst (xs.map fun x => D.bl (p x))) S = .ok (.bl (xs.all p)) S := by
  unfold dAll
  simp only [bls_map]
  simp [List.all_map, Function.comp_def]
def isWhole (d : D) (lo hi : Int) : Bool := match d with
  | .int i => decide (lo ≤ i) && decide (i ≤ hi)
  | _ => false
theorem okE_ty {d : D} {n : Nat} (h : okE d n = true) : (tyD d).isSome = true := by
  cases d <;> cases n <;> simp [okE] at h <;> simp [tyD]
theorem whole_ok {d : D} (h : (tyD d).isSome = true) (lo hi : Int) (S : Sto) : m_is_whole [d, .int lo, .int hi] S = .ok (.bl (isWhole d lo hi)) S := by
  cases d <;> simp [tyD] at h <;> simp [m_is_whole, runB, b_is_whole, sRet, vAnd, vNot, b1, var, startR, dIsi, tyD, Ty.sub, isWhole, chI, dCmp]
  rename_i i
  by_cases q : lo ≤ i <;> simp [q]
def encB (b : List (Int × Int)) : D := .tup (b.map fun x => .tup [.int x.1, .int x.2])
def areN (d : D) (b : List (Int × Int)) : Bool := match d with
  | .tup l => decide (l.length = b.length) && (l.zip b).all fun x => isWhole x.1 x.2.1 x.2.2
  | _ => false
theorem zipD_map (l : List D) (b : List (Int × Int)) : zipD l (b.map fun x => D.tup [.int x.1, .int x.2]) = (l.zip b).map fun x => D.tup [x.1, .tup [.int x.2.1, .int x.2.2]] := by
  induction l generalizing b with
  | nil => rfl
  | cons a l ih => cases b with
    | nil => rfl
    | cons x b => simp [zipD, ih]
theorem okEs_mem {l : List D} {n : Nat} (h : okEs l n = true) : ∀ d ∈ l, okE d n = true := by
  induction l with
  | nil => intro d m; simp at m
  | cons a l ih =>
    have h' : okE a n = true ∧ okEs l n = true := by simpa [okEs] using h
    intro d m
    rcases List.mem_cons.mp m with q | q
    · rw [q]; exact h'.1
    · exact ih h'.2 d q
theorem okEs_of {l : List D} {n : Nat} (h : ∀ d ∈ l, okE d n = true) : okEs l n = true := by
  induction l with
  | nil => rfl
  | cons a l ih => simp [okEs, h a List.mem_cons_self, ih fun d m => h d (List.mem_cons_of_mem _ m)]
theorem okE_tup {l : List D} {n : Nat} (h : okE (.tup l) n = true) : ∀ d ∈ l, (tyD d).isSome = true := by
  cases n with
  | zero => simp [okE] at h
  | succ n => exact fun d m => okE_ty (okEs_mem (by simpa [okE] using h) d m)
theorem nums_ok {d : D} {n : Nat} (h : okE d n = true) (b : List (Int × Int)) (S : Sto) : m_are_numbers [d, encB b] S = .ok (.bl (areN d b)) S := by
  have ne : ∀ x y : Nat, dNe (.int x) (.int y) S = .ok (.bl (!decide (x = y))) S := fun x y => by
    have e : ((x : Int) == (y : Int)) = decide (x = y) := by by_cases q : x = y <;> simp [q]; omega
    simp [dNe, okE, D.eqv, e]
  cases d with
  | tup l =>
    have ht := okE_tup h
    by_cases q : l.length = b.length
    · have lc : lcF (zipF (aCons (var 0) (aCons (var 1) aNil))) (.tp [(.nm 2), (.tp [(.nm 3), (.nm 4)])]) yes (b1 (aCons (var 2) (aCons (var 3) (aCons (var 4) aNil))) m_is_whole) [2, 3, 4] [some (.tup l), some (encB b), none, none, none] S
          = .ok (.lst ((l.zip b).map fun x => D.bl (isWhole x.1 x.2.1 x.2.2))) S := by
        refine lcF_pure (h := fun x : D × Int × Int => D.tup [x.1, .tup [.int x.2.1, .int x.2.2]]) ?_ fun x m => ?_
        · simp only [zipF, b1, aCons, aNil, b2, var, List.getElem?_cons_zero, List.getElem?_cons_succ, Out.bind_ok, encB, zipD_map]
        · refine ⟨[some (.tup l), some (encB b), some x.1, some (.int x.2.1), some (.int x.2.2)], by simp [bindT, bindTs, wipeR], rfl, ?_⟩
          have hx : x.1 ∈ l := (List.of_mem_zip (a := x.1) (b := x.2) m).1
          simp [b1, b2, aCons, aNil, var, whole_ok (ht x.1 hx)]
      refine runB_ret ?_
      have hs : startR 5 [D.tup l, encB b] = [some (.tup l), some (encB b), none, none, none] := by simp [startR]
      rw [hs]
      unfold b_are_numbers
      have t1 : (fOr (fNot (tst (b1 (var 0) (dIsi .tup)))) (tst (b2 (b1 (var 0) dLen) (b1 (var 1) dLen) dNe))) [some (.tup l), some (encB b), none, none, none] S = .ok false S := by
        simp [fOr, fNot, tst, b1, b2, var, dIsi, tyD, Ty.sub, dLen, encB, ne, q]
      rw [seq_nx (by rw [if_f t1]; rfl)]
      refine ret_ok ?_
      show (lcF _ _ _ _ _ _ _).bind dAll = _
      rw [lc]
      simp [dAll_map, areN, q]
    · simp [m_are_numbers, runB, b_are_numbers, sSeq, sIf, sRet, sNil, startR, fOr, fNot, tst, b1, b2, var, dIsi, tyD, Ty.sub, dLen, encB, cst, ne, areN, q]
  | _ => cases n <;> simp [okE] at h <;> simp [m_are_numbers, runB, b_are_numbers, sSeq, sIf, sRet, sNil, startR, fOr, fNot, tst, b1, b2, var, dIsi, tyD, Ty.sub, cst, areN]

end Law
set_option maxHeartbeats 4000000
namespace Law
open PySem PySem.Spec PyProof.Rows L2 Hr
/-! ### walls, rooms -/
def isWall (d : D) : Bool := areN d [(1, 20), (1, 40), (0, 9)]
theorem wall_ok {d : D} {n : Nat} (h : okE d n = true) (S : Sto) : m_is_wall [d] S = .ok (.bl (isWall d)) S := by
  refine runB_ret (ret_ok ?_)
  have := nums_ok h [(1, 20), (1, 40), (0, 9)] S
  simp only [encB, List.map_cons, List.map_nil] at this
  simp [b1, b2, aCons, aNil, mkT, cst, var, startR, this, isWall]
def isRoom (d : D) : Bool := match d with
  | .tup l => decide (l.length ≤ 3) && l.all isWall
  | _ => false
theorem room_ok {d : D} {n : Nat} (h : okE d n = true) (S : Sto) : m_is_room [d] S = .ok (.bl (isRoom d)) S := by
  refine runB_ret (ret_ok ?_)
  cases d with
  | tup l =>
    cases n with
    | zero => simp [okE] at h
    | succ n =>
      have hl := okEs_mem (l := l) (n := n) (by simpa [okE] using h)
      have lc : lcF (asSeq (var 0)) (.nm 1) yes (b1 (aCons (var 1) aNil) m_is_wall) [1] [some (.tup l), none] S = .ok (.lst (l.map fun x => D.bl (isWall x))) S := by
        refine lcF_pure (h := id) (by simp [asSeq, b1, var]) fun x m => ⟨[some (.tup l), some x], by simp [bindT, wipeR], rfl, ?_⟩
        simp [b1, b2, aCons, aNil, var, wall_ok (hl x m)]
      have hs : startR 2 [D.tup l] = [some (.tup l), none] := by simp [startR]
      rw [hs]
      by_cases q : l.length ≤ 3
      · have q' : (l.length : Int) ≤ 3 := by omega
        simp [vAnd, b1, b2, var, dIsi, tyD, Ty.sub, dLen, cst, dCmp, q', lc, dAll_map, isRoom, q]
      · have q' : ¬ (l.length : Int) ≤ 3 := by omega
        simp [vAnd, b1, b2, var, dIsi, tyD, Ty.sub, dLen, cst, dCmp, q', isRoom, q]
  | _ => cases n <;> simp [okE] at h <;> simp [vAnd, b1, var, dIsi, tyD, Ty.sub, startR, isRoom]
/-! ### doors -/
def ints3 (d : D) : Option (List Int) := match d with
  | .tup l => ints? l
  | _ => none
def isDoor (n : Int) (d : D) : Bool := areN d [(0, n - 1), (0, n - 1), (1, 9)]
theorem whole_int {d : D} {lo hi : Int} (h : isWhole d lo hi = true) : ∃ i, d = .int i ∧ lo ≤ i ∧ i ≤ hi := by
  cases d <;> simp [isWhole] at h
  exact ⟨_, rfl, h⟩
theorem door_shape {n : Int} {d : D} (h : isDoor n d = true) : ∃ a b c, d = tupI [a, b, c] ∧ (0 ≤ a ∧ a < n) ∧ (0 ≤ b ∧ b < n) ∧ 1 ≤ c ∧ c ≤ 9 := by
  cases d with
  | tup l =>
    match l, h with
    | [x, y, z], h =>
      have h' : isWhole x 0 (n - 1) = true ∧ isWhole y 0 (n - 1) = true ∧ isWhole z 1 9 = true := by simpa [isDoor, areN] using h
      obtain ⟨a, rfl, a1⟩ := whole_int h'.1
      obtain ⟨b, rfl, b1⟩ := whole_int h'.2.1
      obtain ⟨c, rfl, c1⟩ := whole_int h'.2.2
      exact ⟨a, b, c, rfl, by omega, by omega, by omega⟩
    | [], h => simp [isDoor, areN] at h
    | [_], h => simp [isDoor, areN] at h
    | [_, _], h => simp [isDoor, areN] at h
    | _ :: _ :: _ :: _ :: _, h => simp [isDoor, areN] at h
  | _ => simp [isDoor, areN] at h
/-- the doors of a house, as lists -/
def doorsOf (n : Int) : List D → Option (List (List Int))
  | [] => some []
  | d :: l => if isDoor n d = true then match ints3 d, doorsOf n l with
      | some x, some r => some (x :: r)
      | _, _ => none
    else none
def lt01 (x : List Int) : Bool := match x with
  | a :: b :: _ => decide (a < b)
  | _ => false
def areDoors (d : D) (n : Int) : Bool := match d with
  | .tup l => decide (l.length ≤ 8) && match doorsOf n l with
    | some ts => ts.all lt01 && decide (ts = ssU HT.lexLt ts)
    | none => false
  | _ => false
theorem doorsOf_spec {n : Int} : ∀ {l : List D} {ts : List (List Int)}, doorsOf n l = some ts → l = ts.map tupI ∧ ∀ t ∈ ts, ∃ a b c, t = [a, b, c] ∧ (0 ≤ a ∧ a < n) ∧ (0 ≤ b ∧ b < n) ∧ 1 ≤ c ∧ c ≤ 9
  | [], ts, h => by simp [doorsOf] at h; subst h; simp
  | d :: l, ts, h => by
    unfold doorsOf at h
    split at h
    · rename_i hd
      obtain ⟨a, b, c, rfl, h1, h2, h3⟩ := door_shape hd
      have e : ints3 (tupI [a, b, c]) = some [a, b, c] := rfl
      rw [e] at h
      cases er : doorsOf n l with
      | none => rw [er] at h; simp at h
      | some r =>
        rw [er] at h
        simp at h
        subst h
        obtain ⟨i1, i2⟩ := doorsOf_spec er
        refine ⟨by rw [i1]; rfl, fun t m => ?_⟩
        rcases List.mem_cons.mp m with q | q
        · exact ⟨a, b, c, q, h1, h2, h3⟩
        · exact i2 t q
    · exact nomatch h
theorem doorsOf_all {n : Int} : ∀ l : List D, (doorsOf n l).isSome = l.all (isDoor n)
  | [] => rfl
  | d :: l => by
    unfold doorsOf
    by_cases hd : isDoor n d = true
    · obtain ⟨a, b, c, e, _⟩ := door_shape hd
      have e2 : ints3 d = some [a, b, c] := by rw [e]; rfl
      rw [if_pos hd, e2, List.all_cons, hd, Bool.true_and, ← doorsOf_all l]
      cases doorsOf n l <;> rfl
    · rw [if_neg hd]
      simp [hd]

end Law
set_option maxHeartbeats 4000000
namespace Law
open PySem PySem.Spec PyProof.Rows L2 Hr
theorem eqvs_ints : ∀ a b : List Int, D.eqvs (a.map .int) (b.map .int) = decide (a = b)
  | [], [] => by simp [D.eqvs]
  | [], _ :: _ => by simp [D.eqvs]
  | _ :: _, [] => by simp [D.eqvs]
  | x :: a, y :: b => by
    simp only [List.map_cons, D.eqvs, D.eqv, eqvs_ints a b]
    by_cases h : x = y <;> by_cases k : a = b <;> simp [h, k]
theorem eqv_tupI (a b : List Int) : D.eqv (tupI a) (tupI b) = decide (a = b) := by simp [tupI, D.eqv, eqvs_ints]
theorem eqvs_tups : ∀ a b : List (List Int), D.eqvs (a.map tupI) (b.map tupI) = decide (a = b)
  | [], [] => by simp [D.eqvs]
  | [], _ :: _ => by simp [D.eqvs]
  | _ :: _, [] => by simp [D.eqvs]
  | x :: a, y :: b => by
    simp only [List.map_cons, D.eqvs, eqv_tupI, eqvs_tups a b]
    by_cases h : x = y <;> by_cases k : a = b <;> simp [h, k]
theorem okE_tupI (t : List Int) (n : Nat) : okE (tupI t) (n + 1) = true := by
  simp only [tupI, okE]
  refine okEs_of fun d m => ?_
  obtain ⟨i, _, rfl⟩ := List.mem_map.mp m
  rfl
theorem okEs_tups (ts : List (List Int)) (n : Nat) : okEs (ts.map tupI) (n + 1) = true := okEs_of fun d m => by
  obtain ⟨t, _, rfl⟩ := List.mem_map.mp m
  exact okE_tupI t n
theorem tups_map : ∀ ts : List (List Int), tups? (ts.map tupI) = some ts
  | [] => rfl
  | t :: ts => by
    have e : ints? (t.map D.int) = some t := by simpa using ints_map id t
    show (match ints? (t.map D.int), tups? (ts.map tupI) with
      | some n, some m => some (n :: m)
      | _, _ => none) = _
    rw [e, tups_map ts]
theorem ss_tups {ts : List (List Int)} (hl : ts.length < 64) {d : Nat} (hd : 1 ≤ d) (hb : ∀ t ∈ ts, t.length = d ∧ ∀ x ∈ t, 0 ≤ x ∧ x < 1000000) (S : Sto) :
    dSS (.tup (ts.map tupI)) S = .ok (.lst ((ssU HT.lexLt ts).map tupI)) S ∧ dSS (.lst (ts.map tupI)) S = .ok (.lst ((ssU HT.lexLt ts).map tupI)) S := by
  cases ts with
  | nil => exact ⟨rfl, rfl⟩
  | cons t ts =>
    have e1 : ints? ((t :: ts).map tupI) = none := rfl
    have e2 := tups_map (t :: ts)
    have e3 : t.length = d := (hb t List.mem_cons_self).1
    have e4 : t.isEmpty = false := by cases t <;> simp at e3 ⊢; omega
    have e5 : okTs t.length (t :: ts) = true := by
      refine List.all_eq_true.mpr fun x m => ?_
      obtain ⟨h1, h2⟩ := hb x m
      rw [Bool.and_eq_true]
      refine ⟨by simp [h1, e3], List.all_eq_true.mpr fun y my => ?_⟩
      have := h2 y my
      simp [this.1, this.2]
    have e6 : ((t :: ts).map tupI).length < 64 := by simpa using hl
    unfold dSS
    simp only [if_pos e6, e1, e2, e4, e5, and_self, if_true]
theorem eqv_lst (a b : List D) : D.eqv (.lst a) (.lst b) = D.eqvs a b := by simp only [D.eqv]
theorem dEq_of {x y : D} (hx : okE x 60 = true) (hy : okE y 60 = true) (S : Sto) : dEq x y S = .ok (.bl (D.eqv x y)) S := by
  cases x <;> first | (simp [okE] at hx; done) | (show (if _ then _ else _) = _; rw [hx, hy]; rfl)
theorem dNe_of {x y : D} (hx : okE x 60 = true) (hy : okE y 60 = true) (S : Sto) : dNe x y S = .ok (.bl (!D.eqv x y)) S := by
  cases x <;> first | (simp [okE] at hx; done) | (show (if _ then _ else _) = _; rw [hx, hy]; rfl)
theorem dEq_tups (ts us : List (List Int)) (S : Sto) : dEq (.lst (ts.map tupI)) (.lst (us.map tupI)) S = .ok (.bl (decide (ts = us))) S := by
  rw [dEq_of (by simp only [okE]; exact okEs_tups ts 58) (by simp only [okE]; exact okEs_tups us 58), eqv_lst, eqvs_tups]
theorem doors_ok {d : D} {k : Nat} (h : okE d k = true) {n : Int} (hn : n ≤ 1000) (S : Sto) : m_are_doors [d, .int n] S = .ok (.bl (areDoors d n)) S := by
  refine runB_ret ?_
  cases d with
  | tup l =>
    have hs : startR 3 [D.tup l, .int n] = [some (.tup l), some (.int n), none] := by simp [startR]
    rw [hs]
    unfold b_are_doors
    by_cases q : l.length ≤ 8
    · have q' : ¬ (8 : Int) < l.length := by omega
      rw [seq_nx (ρ' := [some (.tup l), some (.int n), none]) (S' := S) (by rw [if_f (S' := S) (by simp [fOr, fNot, tst, b1, b2, var, dIsi, tyD, Ty.sub, dLen, cst, dCmp, q'])]; rfl)]
      have hl : ∀ x ∈ l, ∃ k, okE x k = true := by
        cases k with
        | zero => simp [okE] at h
        | succ k => exact fun x m => ⟨k, okEs_mem (by simpa [okE] using h) x m⟩
      have lc : lcF (asSeq (var 0)) (.nm 2) yes (b1 (aCons (var 2) (aCons (mkT (aCons (mkT (aCons (cst (.int 0)) (aCons (b2 (var 1) (cst (.int 1)) dSub) aNil))) (aCons (mkT (aCons (cst (.int 0)) (aCons (b2 (var 1) (cst (.int 1)) dSub) aNil))) (aCons (mkT (aCons (cst (.int 1)) (aCons (cst (.int 9)) aNil))) aNil)))) aNil)) m_are_numbers) [2] [some (.tup l), some (.int n), none] S
          = .ok (.lst (l.map fun x => D.bl (isDoor n x))) S := by
        refine lcF_pure (h := id) (by simp [asSeq, b1, var]) fun x m => ⟨[some (.tup l), some (.int n), some x], by simp [bindT, wipeR], rfl, ?_⟩
        obtain ⟨k, hk⟩ := hl x m
        have e := nums_ok hk [(0, n - 1), (0, n - 1), (1, 9)] S
        simp only [encB, List.map_cons, List.map_nil] at e
        simp [b1, b2, aCons, aNil, mkT, cst, var, dSub, e, isDoor]
      by_cases a : l.all (isDoor n) = true
      · rw [seq_nx (ρ' := [some (.tup l), some (.int n), none]) (S' := S) (by
          rw [if_f (S' := S) (by
            have e := (b1_ok (g := dAll) lc).trans (dAll_map _ l S)
            rw [a] at e
            exact fNot_ok (tst_ok e))]
          rfl)]
        have hsome : (doorsOf n l).isSome = true := by rw [doorsOf_all]; exact a
        obtain ⟨ts, et⟩ := Option.isSome_iff_exists.mp hsome
        obtain ⟨e1, e2⟩ := doorsOf_spec et
        subst e1
        have lc2 : lcF (asSeq (var 0)) (.nm 2) yes (b2 (b2 (var 2) (cst (.int 0)) dSub1) (b2 (var 2) (cst (.int 1)) dSub1) dLt) [2] [some (.tup (ts.map tupI)), some (.int n), none] S = .ok (.lst (ts.map fun t => D.bl (lt01 t))) S := by
          refine lcF_pure (h := tupI) (by simp [asSeq, b1, var]) fun t m => ⟨[some (.tup (ts.map tupI)), some (.int n), some (tupI t)], by simp [bindT, wipeR], rfl, ?_⟩
          obtain ⟨x, y, z, rfl, _⟩ := e2 t m
          simp [b2, var, cst, tupI, dSub1, dIx, atI, ixN, dCmp, lt01]
        have hb : ∀ t ∈ ts, t.length = 3 ∧ ∀ x ∈ t, 0 ≤ x ∧ x < 1000000 := fun t m => by
          obtain ⟨x, y, z, rfl, h1, h2, h3⟩ := e2 t m
          refine ⟨rfl, fun u mu => ?_⟩
          simp at mu
          rcases mu with rfl | rfl | rfl <;> omega
        have ql : ts.length < 64 := by simp at q; omega
        refine ret_ok ?_
        have e3 := (b1_ok (g := dAll) lc2).trans (dAll_map _ ts S)
        by_cases f : ts.all lt01 = true
        · rw [f] at e3
          rw [vAnd_t e3]
          have q3 : ts.length ≤ 8 := by simpa using q
          rw [b2_ok (d := D.lst (ts.map tupI)) (S1 := S) (b1_ok (d := D.tup (ts.map tupI)) (S' := S) rfl) ((b1_ok (d := D.tup (ts.map tupI)) (S' := S) rfl).trans (ss_tups ql (by decide : 1 ≤ 3) hb S).1), dEq_tups]
          simp [areDoors, et, f, q3]
        · rw [Bool.not_eq_true] at f
          rw [f] at e3
          rw [vAnd_f e3]
          simp [areDoors, et, f]
      · rw [seq_ret (d := .bl false) (S' := S) (by
          rw [if_t (S' := S) (by
            have e := (b1_ok (g := dAll) lc).trans (dAll_map _ l S)
            rw [Bool.not_eq_true] at a
            rw [a] at e
            exact fNot_ok (tst_ok e))]
          rfl)]
        have hn : doorsOf n l = none := by
          cases e : doorsOf n l with
          | none => rfl
          | some ts => have := doorsOf_all (n := n) l; rw [e] at this; exact absurd this.symm a
        simp [areDoors, hn]
    · have q' : (8 : Int) < l.length := by omega
      rw [seq_ret (d := .bl false) (S' := S) (by rw [if_t (S' := S) (by simp [fOr, fNot, tst, b1, b2, var, dIsi, tyD, Ty.sub, dLen, cst, dCmp, q'])]; rfl)]
      simp [areDoors, q]
  | _ => cases k <;> simp [okE] at h <;> (unfold b_are_doors; rw [seq_ret (d := .bl false) (S' := S) (by rw [if_t (S' := S) (by simp [fOr, fNot, tst, b1, var, dIsi, tyD, Ty.sub, startR])]; rfl)]; simp [areDoors])
def isHouse (d : D) : Bool := match d with
  | .tup [.tup rs, ds] => decide (1 ≤ rs.length) && decide (rs.length ≤ 5) && rs.all isRoom && areDoors ds rs.length
  | _ => false

end Law
set_option maxHeartbeats 4000000
namespace Law
open PySem PySem.Spec PyProof.Rows L2 Hr
theorem house_ok {d : D} {k : Nat} (h : okE d k = true) (S : Sto) : m_is_house [d] S = .ok (.bl (isHouse d)) S := by
  refine runB_ret ?_
  cases d with
  | tup l =>
    have hs : startR 2 [D.tup l] = [some (.tup l), none] := by simp [startR]
    rw [hs]
    unfold b_is_house
    match l, h with
    | [a, ds], h =>
      cases k with
      | zero => simp [okE] at h
      | succ k =>
        have hl := okEs_mem (l := [a, ds]) (n := k) (by simpa [okE] using h)
        have ha := hl a (by simp)
        have hd := hl ds (by simp)
        have ix0 : (b2 (var 0) (cst (.int 0)) dSub1) [some (.tup [a, ds]), none] S = .ok a S := by simp [b2, var, cst, dSub1, dIx, atI, ixN]
        have ix1 : (b2 (var 0) (cst (.int 1)) dSub1) [some (.tup [a, ds]), none] S = .ok ds S := by simp [b2, var, cst, dSub1, dIx, atI, ixN]
        have t0 : tst (b1 (var 0) (dIsi .tup)) [some (.tup [a, ds]), none] S = .ok true S := by simp [tst, b1, var, dIsi, tyD, Ty.sub]
        have t1 : tst (b2 (b1 (var 0) dLen) (cst (.int 2)) dNe) [some (.tup [a, ds]), none] S = .ok false S := by simp [tst, b1, b2, var, cst, dLen, dNe, okE, D.eqv]
        cases a with
        | tup rs =>
          have t2 : tst (b1 (b2 (var 0) (cst (.int 0)) dSub1) (dIsi .tup)) [some (.tup [.tup rs, ds]), none] S = .ok true S := tst_ok (b1_ok ix0)
          have c1 : (fOr (fNot (tst (b1 (var 0) (dIsi .tup)))) (fOr (tst (b2 (b1 (var 0) dLen) (cst (.int 2)) dNe)) (fNot (tst (b1 (b2 (var 0) (cst (.int 0)) dSub1) (dIsi .tup)))))) [some (.tup [.tup rs, ds]), none] S = .ok false S := by
            rw [fOr_f (fNot_ok t0), fOr_f t1]
            exact fNot_ok t2
          rw [seq_nx (by rw [if_f c1]; rfl)]
          have hr : ∀ r ∈ rs, ∃ k, okE r k = true := by
            cases k with
            | zero => simp [okE] at ha
            | succ k => exact fun r m => ⟨k, okEs_mem (by simpa [okE] using ha) r m⟩
          have ln : (b1 (b2 (var 0) (cst (.int 0)) dSub1) dLen) [some (.tup [.tup rs, ds]), none] S = .ok (.int rs.length) S := b1_ok ix0
          have ch : chI (fun i j => decide (i ≤ j)) (fun i j => decide (i ≤ j)) (cst (.int 1)) (b1 (b2 (var 0) (cst (.int 0)) dSub1) dLen) (cst (.int 5)) [some (.tup [.tup rs, ds]), none] S = .ok (.bl (decide (1 ≤ rs.length) && decide (rs.length ≤ 5))) S := by
            unfold chI
            simp only [cst, Out.bind_ok]
            rw [ln]
            simp only [Out.bind_ok]
            by_cases q : 1 ≤ rs.length
            · have q' : (1 : Int) ≤ rs.length := by omega
              by_cases z : rs.length ≤ 5
              · have z' : (rs.length : Int) ≤ 5 := by omega
                simp [q', q, dCmp, z, z']
              · have z' : ¬ (rs.length : Int) ≤ 5 := by omega
                simp [q', q, dCmp, z, z']
            · have q' : ¬ (1 : Int) ≤ rs.length := by omega
              simp [q', q]
          have lc : lcF (asSeq (b2 (var 0) (cst (.int 0)) dSub1)) (.nm 1) yes (b1 (aCons (var 1) aNil) m_is_room) [1] [some (.tup [.tup rs, ds]), none] S = .ok (.lst (rs.map fun x => D.bl (isRoom x))) S := by
            refine lcF_pure (h := id) (by rw [asSeq, b1_ok ix0]; simp) fun x m => ⟨[some (.tup [.tup rs, ds]), some x], by simp [bindT, wipeR], rfl, ?_⟩
            obtain ⟨k, hk⟩ := hr x m
            simp [b1, b2, aCons, aNil, var, room_ok hk]
          have al := (b1_ok (g := dAll) lc).trans (dAll_map _ rs S)
          by_cases c : (decide (1 ≤ rs.length) && decide (rs.length ≤ 5)) = true
          · rw [c] at ch
            by_cases r : rs.all isRoom = true
            · rw [r] at al
              rw [seq_nx (by rw [if_f (by rw [fOr_f (fNot_ok (tst_ok ch))]; exact fNot_ok (tst_ok al))]; rfl)]
              refine ret_ok ?_
              have ar : (aCons (b2 (var 0) (cst (.int 1)) dSub1) (aCons (b1 (b2 (var 0) (cst (.int 0)) dSub1) dLen) aNil)) [some (.tup [.tup rs, ds]), none] S = .ok [ds, .int rs.length] S := aCons_ok ix1 (aCons_ok ln rfl)
              have c5 : rs.length ≤ 5 := by simp at c; exact c.2
              rw [b1_ok ar, doors_ok hd (by omega)]
              simp only [isHouse, c, r, Bool.true_and]
            · rw [Bool.not_eq_true] at r
              rw [r] at al
              rw [seq_ret (d := .bl false) (S' := S) (by rw [if_t (by rw [fOr_f (fNot_ok (tst_ok ch))]; exact fNot_ok (tst_ok al))]; rfl)]
              simp [isHouse, r]
          · rw [Bool.not_eq_true] at c
            rw [c] at ch
            rw [seq_ret (d := .bl false) (S' := S) (by rw [if_t (fOr_t (fNot_ok (tst_ok ch)))]; rfl)]
            simp only [isHouse, c, Bool.false_and]
        | _ =>
          have t2 : tst (b1 (b2 (var 0) (cst (.int 0)) dSub1) (dIsi .tup)) [some (.tup [_, ds]), none] S = .ok false S := tst_ok ((b1_ok ix0).trans (by first | rfl | (cases k <;> simp [okE] at ha)))
          rw [seq_ret (d := .bl false) (S' := S) (by rw [if_t (by rw [fOr_f (fNot_ok t0), fOr_f t1]; exact fNot_ok t2)]; rfl)]
          rfl
    | [], _ => rfl
    | [a], _ =>
      rw [show isHouse (.tup [a]) = false by cases a <;> rfl]
      rfl
    | a :: b :: c :: l, _ =>
      have t0 : tst (b1 (var 0) (dIsi .tup)) [some (.tup (a :: b :: c :: l)), none] S = .ok true S := by simp [tst, b1, var, dIsi, tyD, Ty.sub]
      have e : ¬ ((l.length : Int) + 1 + 1 + 1 = 2) := by omega
      have t1 : tst (b2 (b1 (var 0) dLen) (cst (.int 2)) dNe) [some (.tup (a :: b :: c :: l)), none] S = .ok true S := by
        refine tst_ok ?_
        show dNe (.int ((a :: b :: c :: l).length : Nat)) (.int 2) S = _
        rw [dNe_of rfl rfl, show D.eqv (.int ((a :: b :: c :: l).length : Nat)) (.int 2) = (((a :: b :: c :: l).length : Nat) == (2 : Int)) from rfl]
        simp [e]
      rw [seq_ret (d := .bl false) (S' := S) (by rw [if_t (by rw [fOr_f (fNot_ok t0)]; exact fOr_t t1)]; rfl), show isHouse (.tup (a :: b :: c :: l)) = false by cases a <;> rfl]
  | _ => cases k <;> simp [okE] at h <;> rfl

end Law
set_option maxHeartbeats 4000000
namespace Law
open PySem PySem.Spec PyProof.Rows L2 Hr
theorem pick_z (ns : List Int) (k : Int) (hk : 0 ≤ k) (many : Int) (hm : 0 < many) : ∃ p : Int, (0 ≤ p ∧ p < many) ∧ ∀ S, m__law_pick [.scr ns, .int k, .int many] S = .ok (.int p) S := by
  have := pick_ok ns k.toNat many hm
  rwa [Int.toNat_of_nonneg hk] at this
theorem at_mem {vs : List Int} {p : Int} (h0 : 0 ≤ p) (h1 : p < vs.length) : ∃ v ∈ vs, atI (vs.map D.int) p = some (.int v) := by
  have hp : p.toNat < vs.length := by omega
  refine ⟨vs[p.toNat], List.getElem_mem hp, ?_⟩
  have e : ((p.toNat : Nat) : Int) = p := by omega
  have := atI_nat (xs := vs.map D.int) (j := p.toNat) (v := .int vs[p.toNat]) (by simp [hp])
  rwa [e] at this
theorem forGo_inv {B : Sv} {s : Nat} {S : Sto} (I : Nat → Rho → Prop) : ∀ (m i : Nat) (ρ : Rho), I i ρ → (∀ j ρ, i ≤ j → j < i + m → I j ρ → ∃ ρ', B (ρ.set s (some (.int j))) S = .ok (.nx ρ') S ∧ I (j + 1) ρ') →
    ∃ ρ', forGo (.nm s) B ((List.range' i m).map fun k => D.int (k : Nat)) ρ S = .ok (.nx ρ') S ∧ I (i + m) ρ'
  | 0, i, ρ, h, _ => ⟨ρ, rfl, h⟩
  | m + 1, i, ρ, h, st => by
    obtain ⟨ρ1, e1, h1⟩ := st i ρ (Nat.le_refl _) (by omega) h
    obtain ⟨ρ2, e2, h2⟩ := forGo_inv I m (i + 1) ρ1 h1 fun j ρ a b c => st j ρ (by omega) (by omega) c
    refine ⟨ρ2, ?_, by rw [show i + (m + 1) = i + 1 + m by omega]; exact h2⟩
    rw [List.range'_succ, List.map_cons]
    unfold forGo
    simp only [bindT, e1, Out.bind_ok]
    exact e2
theorem rng0 (n : Nat) : rngD 0 (n : Int) = (List.range' 0 n).map fun k => D.int (k : Nat) := by
  simp [rngD, List.range_eq_range']
theorem rng1_ok {f : Ev D} {ρ : Rho} {S : Sto} {n : Nat} (h : f ρ S = .ok (.int (n : Nat)) S) (hn : n ≤ 1000) : rng1 (aCons f aNil) ρ S = .ok ((List.range' 0 n).map fun k => D.int (k : Nat)) S := by
  unfold rng1
  rw [b1_ok (aCons_ok h rfl)]
  simp only
  rw [if_pos (by omega), rng0]
abbrev Wl := Int × Int × Int
def encW (w : Wl) : D := .tup [.int w.1, .int w.2.1, .int w.2.2]
def okW (w : Wl) : Prop := (1 ≤ w.1 ∧ w.1 ≤ 20) ∧ (1 ≤ w.2.1 ∧ w.2.1 ≤ 40) ∧ (0 ≤ w.2.2 ∧ w.2.2 ≤ 9)
def encR (r : List Wl) : D := .tup (r.map encW)
def wallB : Sv :=
  (sSeq (sSet 7 (b2 (b2 (b2 (var 1) (cst (.int 20)) dAdd) (b2 (cst (.int 12)) (var 4) dMul) dAdd) (b2 (cst (.int 4)) (var 6) dMul) dAdd)) (sSeq (sPar [(8, false), (9, false)] (aCons (b2 (mkL (aCons (cst (.int 4)) (aCons (cst (.int 6)) (aCons (cst (.int 9)) (aCons (cst (.int 12)) (aCons (cst (.int 20)) aNil)))))) (b1 (aCons (var 0) (aCons (var 7) (aCons (cst (.int 5)) aNil))) m__law_pick) dSub1) (aCons (b1 (aCons (var 0) (aCons (b2 (var 7) (cst (.int 1)) dAdd) (aCons (cst (.int 5)) aNil))) m__law_pick) aNil))) (sApp 5 (mkT (aCons (var 8) (aCons (b2 (mkL (aCons (cst (.int 4)) (aCons (cst (.int 8)) (aCons (cst (.int 12)) (aCons (cst (.int 20)) (aCons (cst (.int 40)) aNil)))))) (var 9) dSub1) (aCons (b2 (mkL (aCons (cst (.int 0)) (aCons (cst (.int 0)) (aCons (cst (.int 2)) (aCons (cst (.int 4)) (aCons (cst (.int 9)) aNil)))))) (b1 (aCons (var 0) (aCons (b2 (var 7) (cst (.int 2)) dAdd) (aCons (cst (.int 5)) aNil))) m__law_pick) dSub1) aNil)))))))
theorem wall_step (ns : List Int) (at_ k j : Int) (h1 : 0 ≤ at_) (h2 : 0 ≤ k) (h3 : 0 ≤ j) (ro dr : D) (ws : List Wl) (hw : ws.length < 1000) (x7 x8 x9 x10 x11 : Option D) (S : Sto) :
    ∃ w a b c, okW w ∧ wallB
      [some (.scr ns), some (.int at_), some ro, some dr, some (.int k), some (.lst (ws.map encW)), some (.int j), x7, x8, x9, x10, x11] S
      = .ok (.nx [some (.scr ns), some (.int at_), some ro, some dr, some (.int k), some (.lst ((ws ++ [w]).map encW)), some (.int j), a, b, c, x10, x11]) S := by
  obtain ⟨p1, q1, e1⟩ := pick_z ns (at_ + 20 + 12 * k + 4 * j) (by omega) 5 (by decide)
  obtain ⟨p2, q2, e2⟩ := pick_z ns (at_ + 20 + 12 * k + 4 * j + 1) (by omega) 5 (by decide)
  obtain ⟨p3, q3, e3⟩ := pick_z ns (at_ + 20 + 12 * k + 4 * j + 2) (by omega) 5 (by decide)
  obtain ⟨v1, m1, a1⟩ := at_mem (vs := [4, 6, 9, 12, 20]) q1.1 (by simpa using q1.2)
  obtain ⟨v2, m2, a2⟩ := at_mem (vs := [4, 8, 12, 20, 40]) q2.1 (by simpa using q2.2)
  obtain ⟨v3, m3, a3⟩ := at_mem (vs := [0, 0, 2, 4, 9]) q3.1 (by simpa using q3.2)
  simp only [List.map_cons, List.map_nil] at a1 a2 a3
  refine ⟨(v1, v2, v3), some (.int (at_ + 20 + 12 * k + 4 * j)), some (.int v1), some (.int p2), ?_, ?_⟩
  · simp at m1 m2 m3
    refine ⟨?_, ?_, ?_⟩ <;> simp only <;> omega
  · have hz : ws.length < sizeLine := by rw [sizeLine_eq]; omega
    simp [wallB, sSeq, sSet, sPar, stR, sApp, b1, b2, mkL, mkT, aCons, aNil, var, cst, dAdd, dMul, dSub1, dIx, e1, e2, e3, a1, a2, a3, hz, encW]

end Law
set_option maxHeartbeats 4000000
namespace Law
open PySem PySem.Spec PyProof.Rows L2 Hr
section
variable {α β γ : Type} {ρ : Rho} {S : Sto}
@[simp] theorem ev_var (i : Nat) : var i ρ S = (match ρ[i]? with | some (some d) => .ok d S | _ => .bad) := rfl
@[simp] theorem ev_cst (d : D) : cst d ρ S = .ok d S := rfl
@[simp] theorem ev_b1 (f : Ev α) (g : α → Sto → Out γ) : b1 f g ρ S = (f ρ S).bind g := rfl
@[simp] theorem ev_b2 (f : Ev α) (f' : Ev β) (g : α → β → Sto → Out γ) : b2 f f' g ρ S = (f ρ S).bind fun x S1 => (f' ρ S1).bind fun y S2 => g x y S2 := rfl
@[simp] theorem ev_b3 {δ : Type} (f : Ev α) (f' : Ev β) (f2 : Ev δ) (g : α → β → δ → Sto → Out γ) : b3 f f' f2 g ρ S = (f ρ S).bind fun x S1 => (f' ρ S1).bind fun y S2 => (f2 ρ S2).bind fun z S3 => g x y z S3 := rfl
@[simp] theorem ev_aNil : aNil ρ S = .ok [] S := rfl
@[simp] theorem ev_aCons (f : Ev D) (r : Ev (List D)) : aCons f r ρ S = (f ρ S).bind fun d S1 => (r ρ S1).bind fun l S2 => .ok (d :: l) S2 := rfl
@[simp] theorem ev_mkT (f : Ev (List D)) : mkT f ρ S = (f ρ S).bind fun l S => .ok (.tup l) S := rfl
@[simp] theorem ev_mkL (f : Ev (List D)) : mkL f ρ S = (f ρ S).bind fun l S => .ok (.lst l) S := rfl
@[simp] theorem ev_pr (f g : Ev D) : pr f g ρ S = (f ρ S).bind fun x S1 => (g ρ S1).bind fun y S2 => .ok (x, y) S2 := rfl
@[simp] theorem ev_tst (f : Ev D) : tst f ρ S = (f ρ S).bind fun d S => (match d with | .bl b => .ok b S | _ => .bad) := rfl
@[simp] theorem ev_fNot (f : Ev Bool) : fNot f ρ S = (f ρ S).bind fun b S => .ok (!b) S := rfl
@[simp] theorem ev_fAnd (f g : Ev Bool) : fAnd f g ρ S = (f ρ S).bind fun b S1 => if b = true then g ρ S1 else .ok false S1 := rfl
@[simp] theorem ev_fOr (f g : Ev Bool) : fOr f g ρ S = (f ρ S).bind fun b S1 => if b = true then .ok true S1 else g ρ S1 := rfl
@[simp] theorem ev_fIf (t : Ev Bool) (f g : Ev α) : fIf t f g ρ S = (t ρ S).bind fun b S1 => if b = true then f ρ S1 else g ρ S1 := rfl
@[simp] theorem ev_vAnd (f g : Ev D) : vAnd f g ρ S = (f ρ S).bind fun d S1 => (match d with | .bl b => if b = true then g ρ S1 else .ok (.bl false) S1 | _ => .bad) := rfl
@[simp] theorem ev_vNot (f : Ev D) : vNot f ρ S = (f ρ S).bind fun d S => (match d with | .bl b => .ok (.bl (!b)) S | _ => .bad) := rfl
@[simp] theorem ev_yes : yes ρ S = .ok true S := rfl
@[simp] theorem ev_oNone : oNone ρ S = .ok none S := rfl
@[simp] theorem ev_oSome (f : Ev D) : oSome f ρ S = (f ρ S).bind fun d S => (match d with | .int i => .ok (some i) S | _ => .bad) := rfl
@[simp] theorem ev_sNil : sNil ρ S = .ok (.nx ρ) S := rfl
@[simp] theorem ev_sSeq (F G : Sv) : sSeq F G ρ S = (F ρ S).bind fun fl S1 => (match fl with | .nx ρ1 => G ρ1 S1 | .ct ρ1 => .ok (.ct ρ1) S1 | .ret d => .ok (.ret d) S1) := rfl
@[simp] theorem ev_sSet (i : Nat) (f : Ev D) : sSet i f ρ S = (f ρ S).bind fun d S1 => .ok (.nx (ρ.set i (some d))) S1 := rfl
@[simp] theorem ev_sIf (t : Ev Bool) (F G : Sv) : sIf t F G ρ S = (t ρ S).bind fun b S1 => if b = true then F ρ S1 else G ρ S1 := rfl
@[simp] theorem ev_sRet (f : Ev D) : sRet f ρ S = (f ρ S).bind fun d S1 => .ok (.ret d) S1 := rfl
@[simp] theorem ev_sExp (f : Ev D) : sExp f ρ S = (f ρ S).bind fun _ S1 => .ok (.nx ρ) S1 := rfl
@[simp] theorem ev_sRaise (c : Nat) : sRaise c ρ S = .exc c S := rfl
@[simp] theorem ev_sAsg (T : Tg) (f : Ev D) : sAsg T f ρ S = (f ρ S).bind fun d S1 => (match bindT T d ρ with | some ρ1 => .ok (.nx ρ1) S1 | none => .bad) := rfl
@[simp] theorem ev_sPar (is : List (Nat × Bool)) (f : Ev (List D)) : sPar is f ρ S = (f ρ S).bind fun ds S1 => .ok (.nx (stR is ds ρ)) S1 := rfl
@[simp] theorem ev_stR0 (ρ : Rho) : stR [] [] ρ = ρ := rfl
@[simp] theorem ev_stR (i : Nat) (m : Bool) (is : List (Nat × Bool)) (d : D) (ds : List D) (ρ : Rho) : stR ((i, m) :: is) (d :: ds) ρ = stR is ds (ρ.set i (some d)) := rfl
@[simp] theorem ev_bindN (i : Nat) (d : D) (ρ : Rho) : bindT (.nm i) d ρ = some (ρ.set i (some d)) := rfl
@[simp] theorem ev_bindT (l : List Tg) (ds : List D) (ρ : Rho) : bindT (.tp l) (.tup ds) ρ = bindTs l ds ρ := rfl
@[simp] theorem ev_bindT0 (ρ : Rho) : bindTs [] [] ρ = some ρ := rfl
@[simp] theorem ev_bindTc (T : Tg) (l : List Tg) (d : D) (ds : List D) (ρ : Rho) : bindTs (T :: l) (d :: ds) ρ = (match bindT T d ρ with | some ρ1 => bindTs l ds ρ1 | none => none) := rfl
@[simp] theorem ev_sFor (f : Ev (List D)) (T : Tg) (B : Sv) : sFor f T B ρ S = (f ρ S).bind fun l S1 => forGo T B l ρ S1 := rfl
@[simp] theorem ev_for0 (T : Tg) (B : Sv) : forGo T B [] ρ S = .ok (.nx ρ) S := rfl
@[simp] theorem ev_asSeq (f : Ev D) : asSeq f ρ S = (f ρ S).bind fun d S => (match d with | .lst l => .ok l S | .tup l => .ok l S | _ => .bad) := rfl
@[simp] theorem ev_runB (n : Nat) (F : Sv) (ds : List D) : runB n F ds S = (F (startR n ds) S).bind fun fl S1 => (match fl with | .ret d => .ok d S1 | .nx _ => .ok .non S1 | .ct _ => .bad) := rfl
@[simp] theorem ev_told (tw : Nat → Option Str) (f : Ev D) : told tw f ρ S = (match f ρ S with | .ok d S' => .ok d S' | .exc c S' => (match tw c with | some z => .ok (.str z) S' | none => .bad) | .bad => .bad) := rfl
@[simp] theorem ev_mcl (fo : Ev D) (fas : Ev (List D)) (m : List D → Sto → Out D) : mcl fo fas m ρ S = (fo ρ S).bind fun d S1 => onOb d S1 fun n _ => (fas ρ S1).bind fun ds S2 => m (.obj n :: ds) S2 := rfl
@[simp] theorem ev_mkO (fas : Ev (List D)) (m : List D → Sto → Out D) : mkO fas m ρ S = (fas ρ S).bind fun ds S => (m (.obj S.length :: ds) (S ++ [ob0])).bind fun d S2 => (match d with | .non => .ok (.obj S.length) S2 | _ => .bad) := rfl
@[simp] theorem ev_lcF (f : Ev (List D)) (T : Tg) (c : Ev Bool) (e : Ev D) (vs : List Nat) : lcF f T c e vs ρ S = (f ρ S).bind fun l S1 => (noX (lcGo T c e (wipeR ρ vs) l S1)).bind fun r S2 => .ok (.lst r) S2 := rfl
@[simp] theorem ev_noX (a : α) : noX (.ok a S) = .ok a S := rfl
@[simp] theorem ev_enumF (f : Ev (List D)) : enumF f ρ S = (f ρ S).bind fun l S => (match l with | [.lst l] => .ok (enumD 0 l) S | [.tup l] => .ok (enumD 0 l) S | _ => .bad) := rfl
@[simp] theorem ev_wipe0 : wipeR ρ [] = ρ := rfl
@[simp] theorem ev_wipe (i : Nat) (l : List Nat) : wipeR ρ (i :: l) = (wipeR ρ l).set i none := rfl
@[simp] theorem ev_add (i j : Int) : dAdd (.int i) (.int j) S = .ok (.int (i + j)) S := rfl
@[simp] theorem ev_sub (i j : Int) : dSub (.int i) (.int j) S = .ok (.int (i - j)) S := rfl
@[simp] theorem ev_neg (i : Int) : dNeg (.int i) S = .ok (.int (-i)) S := rfl
@[simp] theorem ev_cmp (p : Int → Int → Bool) (i j : Int) : dCmp p (.int i) (.int j) S = .ok (.bl (p i j)) S := rfl
@[simp] theorem ev_lenL (l : List D) : dLen (.lst l) S = .ok (.int l.length) S := rfl
@[simp] theorem ev_lenT (l : List D) : dLen (.tup l) S = .ok (.int l.length) S := rfl
@[simp] theorem ev_lenK (l : List (Key × D)) : dLen (.dK l) S = .ok (.int l.length) S := rfl
@[simp] theorem ev_listL (l : List D) : dList (.lst l) S = .ok (.lst l) S := rfl
@[simp] theorem ev_listT (l : List D) : dList (.tup l) S = .ok (.lst l) S := rfl
@[simp] theorem ev_tupL (l : List D) : dTuple (.lst l) S = .ok (.tup l) S := rfl
@[simp] theorem ev_tupT (l : List D) : dTuple (.tup l) S = .ok (.tup l) S := rfl
@[simp] theorem ev_notB (b : Bool) (d : D) : dNotB b d S = .ok (.bl (!isB b d)) S := rfl
@[simp] theorem ev_isB (b : Bool) (d : D) : dIsB b d S = .ok (.bl (isB b d)) S := rfl
@[simp] theorem ev_isB1 (b c : Bool) : isB b (.bl c) = (c == b) := rfl
@[simp] theorem ev_obj (n : Nat) (k : Nat → Ob → Out α) : onOb (.obj n) S k = (match S[n]? with | some ob => k n ob | none => .bad) := rfl
theorem for_cons (T : Tg) (B : Sv) (d : D) (l : List D) : forGo T B (d :: l) ρ S = (match bindT T d ρ with | none => .bad | some ρ1 => (B ρ1 S).bind fun fl S1 => (match fl with | .nx ρ2 => forGo T B l ρ2 S1 | .ct ρ2 => forGo T B l ρ2 S1 | .ret d => .ok (.ret d) S1)) := rfl
theorem subT (l : List D) (i : Int) : dSub1 (.tup l) (.int i) S = (match atI l i with | some d => .ok d S | none => .bad) := rfl
theorem subL (l : List D) (i : Int) : dSub1 (.lst l) (.int i) S = (match atI l i with | some d => .ok d S | none => .bad) := rfl
theorem lc_nil (T : Tg) (c : Ev Bool) (e : Ev D) : lcGo T c e ρ [] S = .ok [] S := rfl
end

end Law
set_option maxHeartbeats 4000000
namespace Law
open PySem PySem.Spec PyProof.Rows L2 Hr
mutual
theorem eqv_self : ∀ (d : D) (n : Nat), okE d n = true → D.eqv d d = true
  | .non, _, _ => rfl
  | .bl b, _, _ => by simp [D.eqv]
  | .int b, _, _ => by simp [D.eqv]
  | .str b, _, _ => by simp [D.eqv]
  | .tup l, n + 1, h => by simp only [D.eqv]; exact eqvs_self l n (by simpa [okE] using h)
  | .lst l, n + 1, h => by simp only [D.eqv]; exact eqvs_self l n (by simpa [okE] using h)
  | .tup l, 0, h => by simp [okE] at h
  | .lst l, 0, h => by simp [okE] at h
  | .dK l, n, h => by cases n <;> simp [okE] at h
  | .dT l, n, h => by cases n <;> simp [okE] at h
  | .obj l, n, h => by cases n <;> simp [okE] at h
  | .scr l, n, h => by cases n <;> simp [okE] at h
  | .exn l, n, h => by cases n <;> simp [okE] at h
theorem eqvs_self : ∀ (l : List D) (n : Nat), okEs l n = true → D.eqvs l l = true
  | [], _, _ => rfl
  | d :: l, n, h => by
    obtain ⟨h1, h2⟩ := Bool.and_eq_true_iff.mp (show (okE d n && okEs l n) = true from h)
    simp only [D.eqvs]
    rw [eqv_self d n h1, eqvs_self l n h2]; rfl
end
theorem okE_mono : ∀ (d : D) (n m : Nat), n ≤ m → okE d n = true → okE d m = true := by
  have key : ∀ (n : Nat) (d : D) (m : Nat), n ≤ m → okE d n = true → okE d m = true := fun n => by
    induction n with
    | zero => intro d m l h; cases d <;> simp [okE] at h ⊢ <;> exact h
    | succ n ih =>
      intro d m l h
      cases m with
      | zero => omega
      | succ m =>
        cases d <;> simp only [okE] at h ⊢
        · exact h
        · exact okEs_of fun x mx => ih x m (by omega) (okEs_mem h x mx)
        · exact okEs_of fun x mx => ih x m (by omega) (okEs_mem h x mx)
        all_goals exact nomatch h
  exact fun d n m => key n d m
theorem dNe_self {d : D} {n : Nat} (h : okE d n = true) (hn : n ≤ 60) (S : Sto) : dNe d d S = .ok (.bl false) S := by
  rw [dNe_of (okE_mono d n 60 hn h) (okE_mono d n 60 hn h), eqv_self d n h]; rfl
theorem dEq_self {d : D} {n : Nat} (h : okE d n = true) (hn : n ≤ 60) (S : Sto) : dEq d d S = .ok (.bl true) S := by
  rw [dEq_of (okE_mono d n 60 hn h) (okE_mono d n 60 hn h), eqv_self d n h]

end Law
set_option maxHeartbeats 4000000
namespace Law
open PySem PySem.Spec PyProof.Rows L2 Hr
theorem law_split : b_law = sSeq (sSet 1 (b2 (cst (.int 90)) (b1 (aCons (var 0) (aCons (cst (.int 0)) (aCons (cst (.int 8)) aNil))) m__law_pick) dAdd)) ((sSeq (sSet 2 (mkT (aCons (b2 (mkT (aCons (mkT (aCons (mkT (aCons (cst (.int 20)) (aCons (cst (.int 40)) (aCons (cst (.int 9)) aNil)))) aNil)) aNil)) (cst (.int 5)) dMul) (aCons (mkT (aCons (mkT (aCons (cst (.int 0)) (aCons (cst (.int 1)) (aCons (cst (.int 9)) aNil)))) (aCons (mkT (aCons (cst (.int 1)) (aCons (cst (.int 2)) (aCons (cst (.int 9)) aNil)))) (aCons (mkT (aCons (cst (.int 2)) (aCons (cst (.int 3)) (aCons (cst (.int 9)) aNil)))) (aCons (mkT (aCons (cst (.int 3)) (aCons (cst (.int 4)) (aCons (cst (.int 9)) aNil)))) aNil))))) aNil)))) (sSeq (sAsg (.tp [(.nm 3), (.nm 4)]) (mkT (aCons (mkO (aCons (var 2) aNil) m_Show___init__) (aCons (mkT (aCons (cst (.int 9)) (aCons (cst (.int 9)) (aCons (cst (.int 20)) (aCons (cst (.int 9)) aNil))))) aNil)))) (sSeq (sIf (fOr (tst (b2 (mcl (var 3) (aCons (cst (.str "wxyz")) (aCons (var 4) (aCons (cst (.int 0)) (aCons (cst (.int 99)) aNil)))) m_Show_lend) (cst (.int 1)) dNe)) (tst (b2 (mcl (var 3) (aCons (cst (.str "last")) (aCons (var 4) (aCons (cst (.int 99)) (aCons (cst (.int 99)) aNil)))) m_Show_lend) (cst (.int 2)) dNe))) (sRet (cst (.bl false))) sNil) (sSeq (sExp (mcl (var 3) (aCons (cst (.str "x")) (aCons (mkT (aCons (cst (.int 9)) (aCons (cst (.int 9)) (aCons (cst (.int 1)) (aCons (cst (.int 8)) aNil))))) (aCons (cst (.int 0)) (aCons (cst (.int 99)) aNil)))) m_Show_lend)) (sSeq (sIf (fOr (tst (b2 (mcl (var 3) (aCons (cst (.str "wxyz")) (aCons (cst (.int 4)) (aCons (cst (.int 0)) (aCons (cst (.int 11)) (aCons (var 1) (aCons (cst (.int 99)) aNil)))))) m_Show_hang) (cst (.int 1)) dNe)) (tst (b2 (mcl (var 3) (aCons (cst (.str "last")) (aCons (cst (.int 4)) (aCons (cst (.int 0)) (aCons (cst (.int 2)) (aCons (cst (.int 99)) (aCons (cst (.int 99)) aNil)))))) m_Show_hang) (cst (.int 1)) dNe))) (sRet (cst (.bl false))) sNil) (sSeq (sIf (fOr (tst (b2 (told tw (mcl (var 3) (aCons (cst (.str "x")) (aCons (cst (.int 0)) (aCons (cst (.int 0)) (aCons (cst (.int 0)) (aCons (cst (.int 0)) (aCons (cst (.int 0)) aNil)))))) m_Show_hang)) (cst (.str "too bright")) dNe)) (tst (b2 (b1 (aCons (var 3) (aCons (cst (.str "x")) (aCons (cst (.int 0)) (aCons (cst (.int 99)) aNil)))) m_places_for) (mkL aNil) dNe))) (sRet (cst (.bl false))) sNil) (sSeq (sExp (mcl (var 3) (aCons (cst (.str "too")) (aCons (mkT (aCons (cst (.int 1)) (aCons (cst (.int 1)) (aCons (cst (.int 1)) (aCons (cst (.int 9)) aNil))))) (aCons (cst (.int 88)) (aCons (cst (.int 99)) aNil)))) m_Show_lend)) (sSeq (sIf (tst (b2 (told tw (mcl (var 3) (aCons (cst (.str "too")) (aCons (cst (.int 4)) (aCons (cst (.int 0)) (aCons (cst (.int 0)) (aCons (cst (.int 99)) (aCons (cst (.int 99)) aNil)))))) m_Show_hang)) (cst (.str "too heavy")) dNe)) (sRet (cst (.bl false))) sNil) (sSeq (sIf (fOr (tst (b2 (b1 (aCons (var 3) (aCons (cst (.str "too")) (aCons (cst (.int 4)) (aCons (cst (.int 0)) (aCons (cst (.int 0)) (aCons (cst (.int 90)) aNil)))))) m_longest_stay) (cst (.int 98)) dNe)) (tst (b2 (b1 (aCons (var 3) (aCons (cst (.str "too")) (aCons (cst (.int 4)) (aCons (cst (.int 0)) (aCons (cst (.int 11)) (aCons (cst (.int 88)) aNil)))))) m_longest_stay) (b2 (var 1) (cst (.int 1)) dSub) dNe))) (sRet (cst (.bl false))) sNil) (sSeq (sIf (fOr (tst (b2 (b1 (aCons (var 3) (aCons (cst (.int 4)) (aCons (cst (.int 0)) (aCons (cst (.int 0)) (aCons (cst (.int 99)) aNil))))) m_free) (mkL (aCons (mkT (aCons (cst (.int 0)) (aCons (cst (.int 2)) aNil))) aNil)) dNe)) (tst (b2 (b1 (aCons (var 3) (aCons (cst (.int 4)) (aCons (cst (.int 0)) (aCons (cst (.int 0)) (aCons (cst (.int 98)) aNil))))) m_free) (mkL (aCons (mkT (aCons (cst (.int 0)) (aCons (cst (.int 11)) aNil))) aNil)) dNe))) (sRet (cst (.bl false))) sNil) (sSeq (sIf (fOr (tst (b2 (b1 (aCons (var 3) (aCons (cst (.int 4)) (aCons (cst (.int 0)) aNil))) m_bare) (mkL (aCons (mkT (aCons (cst (.int 0)) (aCons (b2 (var 1) (cst (.int 1)) dSub) aNil))) aNil)) dNe)) (tst (b2 (b1 (aCons (var 3) (aCons (cst (.int 3)) (aCons (cst (.int 0)) aNil))) m_bare) (mkL (aCons (mkT (aCons (cst (.int 0)) (aCons (cst (.int 99)) aNil))) aNil)) dNe))) (sRet (cst (.bl false))) sNil) (sSeq (sIf (fOr (tst (b2 (b1 (aCons (var 3) (aCons (var 1) aNil)) m_doors_passed) (cst (.int 4)) dNe)) (tst (b2 (b1 (aCons (var 3) (aCons (cst (.int 99)) aNil)) m_doors_passed) (cst (.int 4)) dNe))) (sRet (cst (.bl false))) sNil) (sSeq (sIf (fOr (tst (b2 (b1 (aCons (var 3) (aCons (cst (.str "wxyz")) aNil)) m_days_of) (mkL (aCons (var 1) aNil)) dNe)) (tst (b2 (b1 (aCons (var 3) (aCons (cst (.str "last")) aNil)) m_days_of) (mkL (aCons (cst (.int 99)) aNil)) dNe))) (sRet (cst (.bl false))) sNil) (sSeq (sIf (tst (b2 (b1 (aCons (var 3) (aCons (cst (.int 99)) aNil)) m_carried) (mkL (aCons (mkT (aCons (cst (.str "last")) (aCons (cst .non) (aCons (mkT (aCons (cst (.int 4)) (aCons (cst (.int 0)) (aCons (cst (.int 2)) aNil)))) aNil)))) aNil)) dNe)) (sRet (cst (.bl false))) sNil) (sSeq (sIf (fOr (tst (b2 (b1 (aCons (var 3) (aCons (cst (.int 99)) aNil)) m_tour) (mkL (aCons (cst (.int 0)) (aCons (cst (.int 1)) (aCons (cst (.int 2)) (aCons (cst (.int 3)) (aCons (cst (.int 4)) (aCons (cst (.int 3)) (aCons (cst (.int 2)) (aCons (cst (.int 1)) (aCons (cst (.int 0)) aNil)))))))))) dNe)) (tst (b2 (b1 (aCons (var 3) (aCons (b2 (var 1) (cst (.int 1)) dSub) aNil)) m_tour) (mkL (aCons (cst (.int 0)) aNil)) dNe))) (sRet (cst (.bl false))) sNil) (sSeq (sIf (fOr (tst (b2 (b1 (aCons (var 3) (aCons (b1 (aCons (var 3) (aCons (cst (.int 99)) aNil)) m_tour) (aCons (cst (.int 99)) aNil))) m_seen) (mkL (aCons (cst (.str "last")) (aCons (cst (.str "wxyz")) aNil))) dNe)) (tst (b2 (b1 (aCons (var 3) (aCons (mkL (aCons (cst (.int 4)) (aCons (cst (.int 4)) (aCons (cst (.int 3)) (aCons (cst (.int 4)) aNil))))) (aCons (var 1) aNil))) m_seen) (mkL (aCons (cst (.str "wxyz")) aNil)) dNe))) (sRet (cst (.bl false))) sNil) (sSeq (sIf (fOr (tst (b2 (b1 (aCons (var 3) (aCons (cst (.int 99)) aNil)) m_covered) (cst (.int 18)) dNe)) (tst (b2 (b1 (aCons (var 3) aNil) m_fullest) (mkT (aCons (cst (.int 99)) (aCons (cst (.int 18)) aNil))) dNe))) (sRet (cst (.bl false))) sNil) (sSeq (sIf (fOr (tst (b2 (b1 (aCons (var 3) (aCons (cst (.str "wxyz")) aNil)) m_idle_days) (var 1) dNe)) (tst (b2 (b1 (aCons (var 3) (aCons (cst (.str "last")) aNil)) m_idle_days) (cst (.int 0)) dNe))) (sRet (cst (.bl false))) sNil) (sSeq (sIf (fOr (tst (b2 (b1 (aCons (var 2) (aCons (cst (.int 0)) (aCons (cst (.int 4)) aNil))) m_highest) (cst (.int 9)) dNe)) (tst (b2 (b1 (aCons (var 2) (aCons (var 4) (aCons (cst (.int 4)) (aCons (cst (.int 0)) aNil)))) m_way) (mkL (aCons (cst (.int 4)) (aCons (cst (.int 3)) (aCons (cst (.int 2)) (aCons (cst (.int 1)) (aCons (cst (.int 0)) aNil)))))) dNe))) (sRet (cst (.bl false))) sNil) (sRet (b2 (b1 (aCons (var 3) (aCons (cst (.int 5)) aNil)) m_dues) (mkL (aCons (mkT (aCons (cst (.str "last")) (aCons (cst (.int 45)) aNil))) (aCons (mkT (aCons (cst (.str "too")) (aCons (cst (.int 0)) aNil))) (aCons (mkT (aCons (cst (.str "wxyz")) (aCons (b2 (cst (.int 45)) (b2 (cst (.int 100)) (var 1) dSub) dMul) aNil))) (aCons (mkT (aCons (cst (.str "x")) (aCons (cst (.int 0)) aNil))) aNil))))) dEq)))))))))))))))))))))) := rfl
def rest97 : Sv :=
  (sSeq (sSet 2 (mkT (aCons (b2 (mkT (aCons (mkT (aCons (mkT (aCons (cst (.int 20)) (aCons (cst (.int 40)) (aCons (cst (.int 9)) aNil)))) aNil)) aNil)) (cst (.int 5)) dMul) (aCons (mkT (aCons (mkT (aCons (cst (.int 0)) (aCons (cst (.int 1)) (aCons (cst (.int 9)) aNil)))) (aCons (mkT (aCons (cst (.int 1)) (aCons (cst (.int 2)) (aCons (cst (.int 9)) aNil)))) (aCons (mkT (aCons (cst (.int 2)) (aCons (cst (.int 3)) (aCons (cst (.int 9)) aNil)))) (aCons (mkT (aCons (cst (.int 3)) (aCons (cst (.int 4)) (aCons (cst (.int 9)) aNil)))) aNil))))) aNil)))) (sSeq (sAsg (.tp [(.nm 3), (.nm 4)]) (mkT (aCons (mkO (aCons (var 2) aNil) m_Show___init__) (aCons (mkT (aCons (cst (.int 9)) (aCons (cst (.int 9)) (aCons (cst (.int 20)) (aCons (cst (.int 9)) aNil))))) aNil)))) (sSeq (sIf (fOr (tst (b2 (mcl (var 3) (aCons (cst (.str "wxyz")) (aCons (var 4) (aCons (cst (.int 0)) (aCons (cst (.int 99)) aNil)))) m_Show_lend) (cst (.int 1)) dNe)) (tst (b2 (mcl (var 3) (aCons (cst (.str "last")) (aCons (var 4) (aCons (cst (.int 99)) (aCons (cst (.int 99)) aNil)))) m_Show_lend) (cst (.int 2)) dNe))) (sRet (cst (.bl false))) sNil) (sSeq (sExp (mcl (var 3) (aCons (cst (.str "x")) (aCons (mkT (aCons (cst (.int 9)) (aCons (cst (.int 9)) (aCons (cst (.int 1)) (aCons (cst (.int 8)) aNil))))) (aCons (cst (.int 0)) (aCons (cst (.int 99)) aNil)))) m_Show_lend)) (sSeq (sIf (fOr (tst (b2 (mcl (var 3) (aCons (cst (.str "wxyz")) (aCons (cst (.int 4)) (aCons (cst (.int 0)) (aCons (cst (.int 11)) (aCons (var 1) (aCons (cst (.int 99)) aNil)))))) m_Show_hang) (cst (.int 1)) dNe)) (tst (b2 (mcl (var 3) (aCons (cst (.str "last")) (aCons (cst (.int 4)) (aCons (cst (.int 0)) (aCons (cst (.int 2)) (aCons (cst (.int 99)) (aCons (cst (.int 99)) aNil)))))) m_Show_hang) (cst (.int 1)) dNe))) (sRet (cst (.bl false))) sNil) (sSeq (sIf (fOr (tst (b2 (told tw (mcl (var 3) (aCons (cst (.str "x")) (aCons (cst (.int 0)) (aCons (cst (.int 0)) (aCons (cst (.int 0)) (aCons (cst (.int 0)) (aCons (cst (.int 0)) aNil)))))) m_Show_hang)) (cst (.str "too bright")) dNe)) (tst (b2 (b1 (aCons (var 3) (aCons (cst (.str "x")) (aCons (cst (.int 0)) (aCons (cst (.int 99)) aNil)))) m_places_for) (mkL aNil) dNe))) (sRet (cst (.bl false))) sNil) (sSeq (sExp (mcl (var 3) (aCons (cst (.str "too")) (aCons (mkT (aCons (cst (.int 1)) (aCons (cst (.int 1)) (aCons (cst (.int 1)) (aCons (cst (.int 9)) aNil))))) (aCons (cst (.int 88)) (aCons (cst (.int 99)) aNil)))) m_Show_lend)) (sSeq (sIf (tst (b2 (told tw (mcl (var 3) (aCons (cst (.str "too")) (aCons (cst (.int 4)) (aCons (cst (.int 0)) (aCons (cst (.int 0)) (aCons (cst (.int 99)) (aCons (cst (.int 99)) aNil)))))) m_Show_hang)) (cst (.str "too heavy")) dNe)) (sRet (cst (.bl false))) sNil) (sSeq (sIf (fOr (tst (b2 (b1 (aCons (var 3) (aCons (cst (.str "too")) (aCons (cst (.int 4)) (aCons (cst (.int 0)) (aCons (cst (.int 0)) (aCons (cst (.int 90)) aNil)))))) m_longest_stay) (cst (.int 98)) dNe)) (tst (b2 (b1 (aCons (var 3) (aCons (cst (.str "too")) (aCons (cst (.int 4)) (aCons (cst (.int 0)) (aCons (cst (.int 11)) (aCons (cst (.int 88)) aNil)))))) m_longest_stay) (b2 (var 1) (cst (.int 1)) dSub) dNe))) (sRet (cst (.bl false))) sNil) (sSeq (sIf (fOr (tst (b2 (b1 (aCons (var 3) (aCons (cst (.int 4)) (aCons (cst (.int 0)) (aCons (cst (.int 0)) (aCons (cst (.int 99)) aNil))))) m_free) (mkL (aCons (mkT (aCons (cst (.int 0)) (aCons (cst (.int 2)) aNil))) aNil)) dNe)) (tst (b2 (b1 (aCons (var 3) (aCons (cst (.int 4)) (aCons (cst (.int 0)) (aCons (cst (.int 0)) (aCons (cst (.int 98)) aNil))))) m_free) (mkL (aCons (mkT (aCons (cst (.int 0)) (aCons (cst (.int 11)) aNil))) aNil)) dNe))) (sRet (cst (.bl false))) sNil) (sSeq (sIf (fOr (tst (b2 (b1 (aCons (var 3) (aCons (cst (.int 4)) (aCons (cst (.int 0)) aNil))) m_bare) (mkL (aCons (mkT (aCons (cst (.int 0)) (aCons (b2 (var 1) (cst (.int 1)) dSub) aNil))) aNil)) dNe)) (tst (b2 (b1 (aCons (var 3) (aCons (cst (.int 3)) (aCons (cst (.int 0)) aNil))) m_bare) (mkL (aCons (mkT (aCons (cst (.int 0)) (aCons (cst (.int 99)) aNil))) aNil)) dNe))) (sRet (cst (.bl false))) sNil) (sSeq (sIf (fOr (tst (b2 (b1 (aCons (var 3) (aCons (var 1) aNil)) m_doors_passed) (cst (.int 4)) dNe)) (tst (b2 (b1 (aCons (var 3) (aCons (cst (.int 99)) aNil)) m_doors_passed) (cst (.int 4)) dNe))) (sRet (cst (.bl false))) sNil) (sSeq (sIf (fOr (tst (b2 (b1 (aCons (var 3) (aCons (cst (.str "wxyz")) aNil)) m_days_of) (mkL (aCons (var 1) aNil)) dNe)) (tst (b2 (b1 (aCons (var 3) (aCons (cst (.str "last")) aNil)) m_days_of) (mkL (aCons (cst (.int 99)) aNil)) dNe))) (sRet (cst (.bl false))) sNil) (sSeq (sIf (tst (b2 (b1 (aCons (var 3) (aCons (cst (.int 99)) aNil)) m_carried) (mkL (aCons (mkT (aCons (cst (.str "last")) (aCons (cst .non) (aCons (mkT (aCons (cst (.int 4)) (aCons (cst (.int 0)) (aCons (cst (.int 2)) aNil)))) aNil)))) aNil)) dNe)) (sRet (cst (.bl false))) sNil) (sSeq (sIf (fOr (tst (b2 (b1 (aCons (var 3) (aCons (cst (.int 99)) aNil)) m_tour) (mkL (aCons (cst (.int 0)) (aCons (cst (.int 1)) (aCons (cst (.int 2)) (aCons (cst (.int 3)) (aCons (cst (.int 4)) (aCons (cst (.int 3)) (aCons (cst (.int 2)) (aCons (cst (.int 1)) (aCons (cst (.int 0)) aNil)))))))))) dNe)) (tst (b2 (b1 (aCons (var 3) (aCons (b2 (var 1) (cst (.int 1)) dSub) aNil)) m_tour) (mkL (aCons (cst (.int 0)) aNil)) dNe))) (sRet (cst (.bl false))) sNil) (sSeq (sIf (fOr (tst (b2 (b1 (aCons (var 3) (aCons (b1 (aCons (var 3) (aCons (cst (.int 99)) aNil)) m_tour) (aCons (cst (.int 99)) aNil))) m_seen) (mkL (aCons (cst (.str "last")) (aCons (cst (.str "wxyz")) aNil))) dNe)) (tst (b2 (b1 (aCons (var 3) (aCons (mkL (aCons (cst (.int 4)) (aCons (cst (.int 4)) (aCons (cst (.int 3)) (aCons (cst (.int 4)) aNil))))) (aCons (var 1) aNil))) m_seen) (mkL (aCons (cst (.str "wxyz")) aNil)) dNe))) (sRet (cst (.bl false))) sNil) (sSeq (sIf (fOr (tst (b2 (b1 (aCons (var 3) (aCons (cst (.int 99)) aNil)) m_covered) (cst (.int 18)) dNe)) (tst (b2 (b1 (aCons (var 3) aNil) m_fullest) (mkT (aCons (cst (.int 99)) (aCons (cst (.int 18)) aNil))) dNe))) (sRet (cst (.bl false))) sNil) (sSeq (sIf (fOr (tst (b2 (b1 (aCons (var 3) (aCons (cst (.str "wxyz")) aNil)) m_idle_days) (var 1) dNe)) (tst (b2 (b1 (aCons (var 3) (aCons (cst (.str "last")) aNil)) m_idle_days) (cst (.int 0)) dNe))) (sRet (cst (.bl false))) sNil) (sSeq (sIf (fOr (tst (b2 (b1 (aCons (var 2) (aCons (cst (.int 0)) (aCons (cst (.int 4)) aNil))) m_highest) (cst (.int 9)) dNe)) (tst (b2 (b1 (aCons (var 2) (aCons (var 4) (aCons (cst (.int 4)) (aCons (cst (.int 0)) aNil)))) m_way) (mkL (aCons (cst (.int 4)) (aCons (cst (.int 3)) (aCons (cst (.int 2)) (aCons (cst (.int 1)) (aCons (cst (.int 0)) aNil)))))) dNe))) (sRet (cst (.bl false))) sNil) (sRet (b2 (b1 (aCons (var 3) (aCons (cst (.int 5)) aNil)) m_dues) (mkL (aCons (mkT (aCons (cst (.str "last")) (aCons (cst (.int 45)) aNil))) (aCons (mkT (aCons (cst (.str "too")) (aCons (cst (.int 0)) aNil))) (aCons (mkT (aCons (cst (.str "wxyz")) (aCons (b2 (cst (.int 45)) (b2 (cst (.int 100)) (var 1) dSub) dMul) aNil))) (aCons (mkT (aCons (cst (.str "x")) (aCons (cst (.int 0)) aNil))) aNil))))) dEq)))))))))))))))))))))
def outB (r : Out Flw) : Bool := match r with
  | .ok (.ret (.bl true)) _ => true
  | _ => false
abbrev rho97 (d : D) (q : Int) : Rho := [some d, some (.int q), none, none, none]
theorem day97_0 (ns : List Int) : outB (rest97 (rho97 (.scr ns) 90) []) = true := by kernel_rfl
theorem day97_1 (ns : List Int) : outB (rest97 (rho97 (.scr ns) 91) []) = true := by kernel_rfl
theorem day97_2 (ns : List Int) : outB (rest97 (rho97 (.scr ns) 92) []) = true := by kernel_rfl
theorem day97_3 (ns : List Int) : outB (rest97 (rho97 (.scr ns) 93) []) = true := by kernel_rfl
theorem day97_4 (ns : List Int) : outB (rest97 (rho97 (.scr ns) 94) []) = true := by kernel_rfl
theorem day97_5 (ns : List Int) : outB (rest97 (rho97 (.scr ns) 95) []) = true := by kernel_rfl
theorem day97_6 (ns : List Int) : outB (rest97 (rho97 (.scr ns) 96) []) = true := by kernel_rfl
theorem day97_7 (ns : List Int) : outB (rest97 (rho97 (.scr ns) 97) []) = true := by kernel_rfl
theorem all97 (ns : List Int) : ∀ d : Nat, d < 8 → outB (rest97 (rho97 (.scr ns) (90 + (d : Int))) []) = true
  | 0, _ => day97_0 ns
  | 1, _ => day97_1 ns
  | 2, _ => day97_2 ns
  | 3, _ => day97_3 ns
  | 4, _ => day97_4 ns
  | 5, _ => day97_5 ns
  | 6, _ => day97_6 ns
  | 7, _ => day97_7 ns
  | n + 8, h => absurd h (by omega)
theorem law_true (ns : List Int) (_ : ns.length ≤ 63) (_ : ∀ z ∈ ns, Builtin.Int.intBits z ≤ 1048576) : ∃ S', m_law [.scr ns] [] = .ok (.bl true) S' := by
  obtain ⟨q0, ⟨q0a, q0b⟩, e0⟩ := pick_z ns 0 (by decide) 8 (by decide)
  obtain ⟨d, hd⟩ : ∃ d : Nat, (d : Int) = q0 := ⟨q0.toNat, by omega⟩
  have h := all97 ns d (by omega)
  have : ∃ S', rest97 (rho97 (.scr ns) (90 + (d : Int))) [] = .ok (.ret (.bl true)) S' := by
    revert h
    generalize rest97 (rho97 (.scr ns) (90 + (d : Int))) [] = r
    intro h
    unfold outB at h
    split at h
    · exact ⟨_, rfl⟩
    · exact nomatch h
  obtain ⟨S', e⟩ := this
  refine ⟨S', ?_⟩
  unfold m_law
  refine runB_ret ?_
  rw [law_split]
  rw [seq_nx (ρ' := rho97 (.scr ns) (90 + (d : Int))) (S' := []) (by
    simp only [startR, ev_sSet, ev_sAsg, ev_sExp, ev_sRet, ev_sIf, ev_sSeq, ev_sNil, ev_sPar, ev_stR, ev_stR0, ev_b1, ev_b2, ev_b3, ev_mkT, ev_mkL, ev_aCons, ev_aNil, ev_var, ev_cst, ev_pr, ev_tst, ev_fNot, ev_fAnd, ev_fOr, ev_fIf, ev_vAnd, ev_vNot, ev_yes, ev_oNone, ev_oSome, ev_mcl, ev_obj, ev_neg, ev_add, ev_sub, ev_bindN, ev_bindT, ev_bindT0, ev_bindTc, ev_asSeq, List.map_cons, List.map_nil, List.cons_append, List.nil_append, List.getElem?_cons_zero, List.getElem?_cons_succ, List.set, Out.bind_ok, Out.bind_exc, if_true, if_false, Bool.false_eq_true, Bool.not_true, Bool.not_false, e0, hd]
    rfl)]
  exact e

end Law
set_option maxHeartbeats 8000000

open PySem PySem.W PySem.Calls PyProof.Rows
theorem PySem.Challenge.cw_hangrooms_k97_edges_by_hand_holds : PySem.Challenge.rw_hangrooms_k97_edges_by_hand.Holds := by
  w_on; o_law
  refine HandSHeadRun.head_any (r := Law.R) (q := view Law.R.prog [85]) (H := Law.hk) (ob := Law.ob) (M := 20000) (loose := Law.loose) (d := HandSHeadRun.topDef Law.R.prog 85) (kwd := []) Law.ob_eq
    (by kernel_rfl) (fun s => by kernel_rfl) Law.run (by kernel_rfl) (by kernel_rfl) (by kernel_rfl) (by rfl) (by first | assumption | decide +kernel) (by decide +kernel) ⟨rfl, rfl, rfl, rfl, rfl, by decide +kernel⟩ ?hw ?hc
  case hw => w_witness2
  case hc =>
    refine LamX.walk_ofTsE (l := PySem.Challenge.rw_hangrooms_k97_edges_by_hand) (n := 63) (k := 14) (x := "script") (CX := fun _ => L2.CX0) rfl (by decide) (by kernel_rfl) ⟨rfl, by decide, by decide⟩ ?F (fun _ _ _ _ _ z => z)
    intro w mg fa h Y G hmg0
    obtain ⟨K, KX, c⟩ := Y
    have hmg : mg ("law" : PySem.Str) = some (.ref fa) := by
      have e : (HandSHeadRun.topDef Law.R.prog 85).name = ("law" : PySem.Str) := by kernel_rfl
      rw [← e]
      exact hmg0
    have T := Law.facts KX G c.t.d c.more
    have e := hmg.symm.trans T.g_law
    cases e
    obtain ⟨fd, F⟩ := T.d_law
    have b := L2.FunD.bindsA (ps := ["script"]) F fun _ _ _ _ _ _ us hl => match us, hl with | [_], _ => rfl
    have nd : Hr.ndB Law.tf K = true := (Bool.and_eq_true_iff.mp c.more).2
    exact ⟨K, KX, Hr.law_at KX c Law.law_true (fun s v => b s [v] rfl) fun base hT => Law.ok_law T (Hr.tab_is (tf := Law.tf) (x := "law") rfl nd (by decide) hT) F⟩

