import PyProof.Rows.All
import Wide.All
import OpenK.AllK
import Wide.FinOn
import KE.KStateDown
import HandS.Base
import HandS.Call
import HandS.List
import HandS.Dict
import HandS.Ends
import HandS.More
import HandS.Words
import HandS.WordsExc
import HandS.Defaults
import HandS.HeadEnd
import HandS.HeadHook1
import HandS.HeadHook2
import HandS.HeadHook3
import HandS.HeadHook4
import HandS.Head0
import HandS.Head1
import HandS.Head2
import HandS.ForMost
import HandS.Walk
import HandS.Evl
import HandS.IsInst
import HandS.Codes
import HandS.FStr
import HandS.SetKeys
import HandS.SetBool
import HandS.Set
import HandS.Strs
import HandS.Deep
import KE.KUnpackStar
import HandS.CallLocal
import KE.GoesMore
import KE.GoesEnum
import KE.GoesEnumKw
import HandS.Zip0
import HandS.DictComp
import HandS.TupAny
import KE.DatumOrd
import HandS.SortKw
import HandS.NoneIn
import HandS.Sort
import HandS.DictTup
import HandS.Text
import HandS.SetFor
import PySem.Challenge.RW_fencelanes_k66_whole_no_fewer_waits
set_option Elab.async false
set_option linter.all false
set_option maxRecDepth 100000
set_option maxHeartbeats 4000000
namespace Fl
open PySem PySem.Spec PyProof.Rows L2
def top (i : Nat) : Stmt := PySem.Challenge.pw_fencelanes_k66_whole_no_fewer_waits.main.body.getD i (.Pass ⟨0, 0, 0, 0⟩)
abbrev FnP (K : PySem.W.Frag) (x : Str) (st : Stmt) (f : Addr) (fd : FuncData) : Prop := FunD K x x (defArgs st) (defBody st) (defScope st) [] [] f fd
abbrev s_is_whole : Stmt := top 20
abbrev s_is_within : Stmt := top 21
abbrev s_is_name : Stmt := top 22
abbrev s_are_names : Stmt := top 23
abbrev s_is_number : Stmt := top 24
abbrev s_is_value : Stmt := top 25
abbrev s_is_by : Stmt := top 26
abbrev s_is_lane : Stmt := top 27
abbrev s_is_part : Stmt := top 30
abbrev s_is_command : Stmt := top 31
abbrev s_sources_of : Stmt := top 32
abbrev s_written_by : Stmt := top 33
abbrev s_rooms_of : Stmt := top 34
abbrev s_shows : Stmt := top 35
abbrev s_is_room : Stmt := top 42
abbrev s_check_rooms : Stmt := top 43
abbrev s_stands_in : Stmt := top 44
abbrev s_check_lanes : Stmt := top 45
abbrev s_Book_init : Stmt := inClass (top 46) 0
abbrev s_Book_spots : Stmt := inClass (top 46) 5
abbrev s_Book_command : Stmt := inClass (top 46) 6
abbrev s_check_book : Stmt := top 47
abbrev s_is_spot : Stmt := top 48
abbrev s_check_spot : Stmt := top 49
abbrev s_touching : Stmt := top 53
abbrev s_clash_word : Stmt := top 54
abbrev s_clash : Stmt := top 55
abbrev s_is_script_row : Stmt := top 60
abbrev s_check_script : Stmt := top 61
abbrev s_how_many_lanes : Stmt := top 62
abbrev s_rows_ahead : Stmt := top 63
abbrev s_is_link : Stmt := top 64
abbrev s_links_of : Stmt := top 65
abbrev s_links : Stmt := top 66
abbrev s_numbers_of : Stmt := top 69
abbrev s_fenced_rows : Stmt := top 70
abbrev s_check_prefix : Stmt := top 71
abbrev s_fenced : Stmt := top 72
abbrev s_all_spots : Stmt := top 74
abbrev s_command_at : Stmt := top 75
abbrev s_sets_of : Stmt := top 76
abbrev s_first_with : Stmt := top 77
abbrev s_hangs : Stmt := top 78
abbrev s_elders_of : Stmt := top 79
abbrev s_clocks : Stmt := top 80
abbrev s_is_ahead : Stmt := top 81
abbrev s_check_two : Stmt := top 82
abbrev s_ahead : Stmt := top 83
abbrev s_law_cell : Stmt := top 85
abbrev s_law_heap : Stmt := top 86
abbrev s_law_draw : Stmt := top 87
abbrev s_law_term : Stmt := top 88
abbrev s_law_terms : Stmt := top 89
abbrev s_law_halls : Stmt := top 90
abbrev s_law_number : Stmt := top 91
abbrev s_law_plain_deed : Stmt := top 92
abbrev s_law_sources : Stmt := top 93
abbrev s_law_target : Stmt := top 94
abbrev s_law_written : Stmt := top 95
abbrev s_law_near : Stmt := top 96
abbrev s_law_meets : Stmt := top 97
abbrev s_law_rows : Stmt := top 98
abbrev s_law_rows_ahead : Stmt := top 99
abbrev s_law_pairs : Stmt := top 100
abbrev s_law_fenced_by : Stmt := top 101
abbrev s_law_order : Stmt := top 102
abbrev s_law_counted : Stmt := top 103
abbrev s_law_gone_through : Stmt := top 104
abbrev s_law_right : Stmt := top 105
abbrev s_law : Stmt := top 106
def d_is_whole : He.DefD := ⟨("is_whole", none), "is_whole", "is_whole", defArgs s_is_whole, defBody s_is_whole, defScope s_is_whole, [], []⟩
def d_is_within : He.DefD := ⟨("is_within", none), "is_within", "is_within", defArgs s_is_within, defBody s_is_within, defScope s_is_within, [], []⟩
def d_is_name : He.DefD := ⟨("is_name", none), "is_name", "is_name", defArgs s_is_name, defBody s_is_name, defScope s_is_name, [], []⟩
def d_are_names : He.DefD := ⟨("are_names", none), "are_names", "are_names", defArgs s_are_names, defBody s_are_names, defScope s_are_names, [], []⟩
def d_is_number : He.DefD := ⟨("is_number", none), "is_number", "is_number", defArgs s_is_number, defBody s_is_number, defScope s_is_number, [], []⟩
def d_is_value : He.DefD := ⟨("is_value", none), "is_value", "is_value", defArgs s_is_value, defBody s_is_value, defScope s_is_value, [], []⟩
def d_is_by : He.DefD := ⟨("is_by", none), "is_by", "is_by", defArgs s_is_by, defBody s_is_by, defScope s_is_by, [], []⟩
def d_is_lane : He.DefD := ⟨("is_lane", none), "is_lane", "is_lane", defArgs s_is_lane, defBody s_is_lane, defScope s_is_lane, [], []⟩
def d_is_part : He.DefD := ⟨("is_part", none), "is_part", "is_part", defArgs s_is_part, defBody s_is_part, defScope s_is_part, [], []⟩
def d_is_command : He.DefD := ⟨("is_command", none), "is_command", "is_command", defArgs s_is_command, defBody s_is_command, defScope s_is_command, [], []⟩
def d_sources_of : He.DefD := ⟨("sources_of", none), "sources_of", "sources_of", defArgs s_sources_of, defBody s_sources_of, defScope s_sources_of, [], []⟩
def d_written_by : He.DefD := ⟨("written_by", none), "written_by", "written_by", defArgs s_written_by, defBody s_written_by, defScope s_written_by, [], []⟩
def d_rooms_of : He.DefD := ⟨("rooms_of", none), "rooms_of", "rooms_of", defArgs s_rooms_of, defBody s_rooms_of, defScope s_rooms_of, [], []⟩
def d_shows : He.DefD := ⟨("shows", none), "shows", "shows", defArgs s_shows, defBody s_shows, defScope s_shows, [], []⟩
def d_is_room : He.DefD := ⟨("is_room", none), "is_room", "is_room", defArgs s_is_room, defBody s_is_room, defScope s_is_room, [], []⟩
def d_check_rooms : He.DefD := ⟨("check_rooms", none), "check_rooms", "check_rooms", defArgs s_check_rooms, defBody s_check_rooms, defScope s_check_rooms, [], []⟩
def d_stands_in : He.DefD := ⟨("stands_in", none), "stands_in", "stands_in", defArgs s_stands_in, defBody s_stands_in, defScope s_stands_in, [], []⟩
def d_check_lanes : He.DefD := ⟨("check_lanes", none), "check_lanes", "check_lanes", defArgs s_check_lanes, defBody s_check_lanes, defScope s_check_lanes, [], []⟩
def d_Book_init : He.DefD := ⟨("Book", some "__init__"), "__init__", "Book.__init__", defArgs s_Book_init, defBody s_Book_init, defScope s_Book_init, [.adr (He.dflAt ("Book", some "__init__") 0)], []⟩
def d_Book_spots : He.DefD := ⟨("Book", some "spots"), "spots", "Book.spots", defArgs s_Book_spots, defBody s_Book_spots, defScope s_Book_spots, [], []⟩
def d_Book_command : He.DefD := ⟨("Book", some "command"), "command", "Book.command", defArgs s_Book_command, defBody s_Book_command, defScope s_Book_command, [], []⟩
def d_check_book : He.DefD := ⟨("check_book", none), "check_book", "check_book", defArgs s_check_book, defBody s_check_book, defScope s_check_book, [], []⟩
def d_is_spot : He.DefD := ⟨("is_spot", none), "is_spot", "is_spot", defArgs s_is_spot, defBody s_is_spot, defScope s_is_spot, [], []⟩
def d_check_spot : He.DefD := ⟨("check_spot", none), "check_spot", "check_spot", defArgs s_check_spot, defBody s_check_spot, defScope s_check_spot, [], []⟩
def d_touching : He.DefD := ⟨("touching", none), "touching", "touching", defArgs s_touching, defBody s_touching, defScope s_touching, [], []⟩
def d_clash_word : He.DefD := ⟨("clash_word", none), "clash_word", "clash_word", defArgs s_clash_word, defBody s_clash_word, defScope s_clash_word, [], []⟩
def d_clash : He.DefD := ⟨("clash", none), "clash", "clash", defArgs s_clash, defBody s_clash, defScope s_clash, [], []⟩
def d_is_script_row : He.DefD := ⟨("is_script_row", none), "is_script_row", "is_script_row", defArgs s_is_script_row, defBody s_is_script_row, defScope s_is_script_row, [], []⟩
def d_check_script : He.DefD := ⟨("check_script", none), "check_script", "check_script", defArgs s_check_script, defBody s_check_script, defScope s_check_script, [], []⟩
def d_how_many_lanes : He.DefD := ⟨("how_many_lanes", none), "how_many_lanes", "how_many_lanes", defArgs s_how_many_lanes, defBody s_how_many_lanes, defScope s_how_many_lanes, [], []⟩
def d_rows_ahead : He.DefD := ⟨("rows_ahead", none), "rows_ahead", "rows_ahead", defArgs s_rows_ahead, defBody s_rows_ahead, defScope s_rows_ahead, [], []⟩
def d_is_link : He.DefD := ⟨("is_link", none), "is_link", "is_link", defArgs s_is_link, defBody s_is_link, defScope s_is_link, [], []⟩
def d_links_of : He.DefD := ⟨("links_of", none), "links_of", "links_of", defArgs s_links_of, defBody s_links_of, defScope s_links_of, [], []⟩
def d_links : He.DefD := ⟨("links", none), "links", "links", defArgs s_links, defBody s_links, defScope s_links, [], []⟩
def d_numbers_of : He.DefD := ⟨("numbers_of", none), "numbers_of", "numbers_of", defArgs s_numbers_of, defBody s_numbers_of, defScope s_numbers_of, [], []⟩
def d_fenced_rows : He.DefD := ⟨("fenced_rows", none), "fenced_rows", "fenced_rows", defArgs s_fenced_rows, defBody s_fenced_rows, defScope s_fenced_rows, [], []⟩
def d_check_prefix : He.DefD := ⟨("check_prefix", none), "check_prefix", "check_prefix", defArgs s_check_prefix, defBody s_check_prefix, defScope s_check_prefix, [], []⟩
def d_fenced : He.DefD := ⟨("fenced", none), "fenced", "fenced", defArgs s_fenced, defBody s_fenced, defScope s_fenced, [], [("prefix", .str "f")]⟩
def d_all_spots : He.DefD := ⟨("all_spots", none), "all_spots", "all_spots", defArgs s_all_spots, defBody s_all_spots, defScope s_all_spots, [], []⟩
def d_command_at : He.DefD := ⟨("command_at", none), "command_at", "command_at", defArgs s_command_at, defBody s_command_at, defScope s_command_at, [], []⟩
def d_sets_of : He.DefD := ⟨("sets_of", none), "sets_of", "sets_of", defArgs s_sets_of, defBody s_sets_of, defScope s_sets_of, [], []⟩
def d_first_with : He.DefD := ⟨("first_with", none), "first_with", "first_with", defArgs s_first_with, defBody s_first_with, defScope s_first_with, [], []⟩
def d_hangs : He.DefD := ⟨("hangs", none), "hangs", "hangs", defArgs s_hangs, defBody s_hangs, defScope s_hangs, [], []⟩
def d_elders_of : He.DefD := ⟨("elders_of", none), "elders_of", "elders_of", defArgs s_elders_of, defBody s_elders_of, defScope s_elders_of, [], []⟩
def d_clocks : He.DefD := ⟨("clocks", none), "clocks", "clocks", defArgs s_clocks, defBody s_clocks, defScope s_clocks, [], []⟩
def d_is_ahead : He.DefD := ⟨("is_ahead", none), "is_ahead", "is_ahead", defArgs s_is_ahead, defBody s_is_ahead, defScope s_is_ahead, [], []⟩
def d_check_two : He.DefD := ⟨("check_two", none), "check_two", "check_two", defArgs s_check_two, defBody s_check_two, defScope s_check_two, [], []⟩
def d_ahead : He.DefD := ⟨("ahead", none), "ahead", "ahead", defArgs s_ahead, defBody s_ahead, defScope s_ahead, [], []⟩
def d_law_cell : He.DefD := ⟨("_law_cell", none), "_law_cell", "_law_cell", defArgs s_law_cell, defBody s_law_cell, defScope s_law_cell, [], []⟩
def d_law_heap : He.DefD := ⟨("_law_heap", none), "_law_heap", "_law_heap", defArgs s_law_heap, defBody s_law_heap, defScope s_law_heap, [], []⟩
def d_law_draw : He.DefD := ⟨("_law_draw", none), "_law_draw", "_law_draw", defArgs s_law_draw, defBody s_law_draw, defScope s_law_draw, [], []⟩
def d_law_term : He.DefD := ⟨("_law_term", none), "_law_term", "_law_term", defArgs s_law_term, defBody s_law_term, defScope s_law_term, [], []⟩
def d_law_terms : He.DefD := ⟨("_law_terms", none), "_law_terms", "_law_terms", defArgs s_law_terms, defBody s_law_terms, defScope s_law_terms, [], []⟩
def d_law_halls : He.DefD := ⟨("_law_halls", none), "_law_halls", "_law_halls", defArgs s_law_halls, defBody s_law_halls, defScope s_law_halls, [], []⟩
def d_law_number : He.DefD := ⟨("_law_number", none), "_law_number", "_law_number", defArgs s_law_number, defBody s_law_number, defScope s_law_number, [], []⟩
def d_law_plain_deed : He.DefD := ⟨("_law_plain_deed", none), "_law_plain_deed", "_law_plain_deed", defArgs s_law_plain_deed, defBody s_law_plain_deed, defScope s_law_plain_deed, [], []⟩
def d_law_sources : He.DefD := ⟨("_law_sources", none), "_law_sources", "_law_sources", defArgs s_law_sources, defBody s_law_sources, defScope s_law_sources, [], []⟩
def d_law_target : He.DefD := ⟨("_law_target", none), "_law_target", "_law_target", defArgs s_law_target, defBody s_law_target, defScope s_law_target, [], []⟩
def d_law_written : He.DefD := ⟨("_law_written", none), "_law_written", "_law_written", defArgs s_law_written, defBody s_law_written, defScope s_law_written, [], []⟩
def d_law_near : He.DefD := ⟨("_law_near", none), "_law_near", "_law_near", defArgs s_law_near, defBody s_law_near, defScope s_law_near, [], []⟩
def d_law_meets : He.DefD := ⟨("_law_meets", none), "_law_meets", "_law_meets", defArgs s_law_meets, defBody s_law_meets, defScope s_law_meets, [], []⟩
def d_law_rows : He.DefD := ⟨("_law_rows", none), "_law_rows", "_law_rows", defArgs s_law_rows, defBody s_law_rows, defScope s_law_rows, [], []⟩
def d_law_rows_ahead : He.DefD := ⟨("_law_rows_ahead", none), "_law_rows_ahead", "_law_rows_ahead", defArgs s_law_rows_ahead, defBody s_law_rows_ahead, defScope s_law_rows_ahead, [], []⟩
def d_law_pairs : He.DefD := ⟨("_law_pairs", none), "_law_pairs", "_law_pairs", defArgs s_law_pairs, defBody s_law_pairs, defScope s_law_pairs, [], []⟩
def d_law_fenced_by : He.DefD := ⟨("_law_fenced_by", none), "_law_fenced_by", "_law_fenced_by", defArgs s_law_fenced_by, defBody s_law_fenced_by, defScope s_law_fenced_by, [], []⟩
def d_law_order : He.DefD := ⟨("_law_order", none), "_law_order", "_law_order", defArgs s_law_order, defBody s_law_order, defScope s_law_order, [], []⟩
def d_law_counted : He.DefD := ⟨("_law_counted", none), "_law_counted", "_law_counted", defArgs s_law_counted, defBody s_law_counted, defScope s_law_counted, [], []⟩
def d_law_gone_through : He.DefD := ⟨("_law_gone_through", none), "_law_gone_through", "_law_gone_through", defArgs s_law_gone_through, defBody s_law_gone_through, defScope s_law_gone_through, [], []⟩
def d_law_right : He.DefD := ⟨("_law_right", none), "_law_right", "_law_right", defArgs s_law_right, defBody s_law_right, defScope s_law_right, [], []⟩
def d_law : He.DefD := ⟨("law", none), "law", "law", defArgs s_law, defBody s_law, defScope s_law, [], []⟩
def fns : List He.DefD := [d_is_whole, d_is_within, d_is_name, d_are_names, d_is_number, d_is_value, d_is_by, d_is_lane, d_is_part, d_is_command, d_sources_of, d_written_by, d_rooms_of, d_shows, d_is_room, d_check_rooms, d_stands_in, d_check_lanes, d_Book_init, d_Book_spots, d_Book_command, d_check_book, d_is_spot, d_check_spot, d_touching, d_clash_word, d_clash, d_is_script_row, d_check_script, d_how_many_lanes, d_rows_ahead, d_is_link, d_links_of, d_links, d_numbers_of] ++ [d_fenced_rows, d_check_prefix, d_fenced, d_all_spots, d_command_at, d_sets_of, d_first_with, d_hangs, d_elders_of, d_clocks, d_is_ahead, d_check_two, d_ahead, d_law_cell, d_law_heap, d_law_draw, d_law_term, d_law_terms, d_law_halls, d_law_number, d_law_plain_deed, d_law_sources, d_law_target, d_law_written, d_law_near, d_law_meets, d_law_rows, d_law_rows_ahead, d_law_pairs, d_law_fenced_by, d_law_order, d_law_counted, d_law_gone_through, d_law_right, d_law]
def facts : List He.Fa := ([.int "MOST_SIGNS" 6, .int "MOST_LANES_commands" 6, .int "MOST_NUMBER" 999999, .int "MOST_VALUE" 9999, .int "MOST_BY" 99, .int "MOST_FROMS" 3, .int "MOST_ROOMS" 12, .int "MOST_LANES_books" 6, .int "MOST_COMMANDS" 60, .int "MOST_SIZE" 99, .int "MOST_PLACE" 1999, .int "MOST_ROWS" 24, .int "MOST_PREFIX" 5, .str "LETTERS" "abcdefghijklmnopqrstuvwxyz", .str "SIGNS" "abcdefghijklmnopqrstuvwxyz0123456789", .str "PREFIX" "f", .glo "is_whole", .glo "is_within", .glo "is_name", .glo "are_names"] : List He.Fa) ++ ([.glo "is_number", .glo "is_value", .glo "is_by", .glo "is_lane", .glo "is_part", .glo "is_command", .glo "sources_of", .glo "written_by", .glo "rooms_of", .glo "shows", .glo "is_room", .glo "check_rooms", .glo "stands_in", .glo "check_lanes", .glo "check_book", .glo "is_spot", .glo "check_spot", .glo "touching", .glo "clash_word", .glo "clash"] : List He.Fa) ++ ([.glo "is_script_row", .glo "check_script", .glo "how_many_lanes", .glo "rows_ahead", .glo "is_link", .glo "links_of", .glo "links", .glo "numbers_of", .glo "fenced_rows", .glo "check_prefix", .glo "fenced", .glo "all_spots", .glo "command_at", .glo "sets_of", .glo "first_with", .glo "hangs", .glo "elders_of", .glo "clocks", .glo "is_ahead", .glo "check_two"] : List He.Fa) ++ ([.glo "ahead", .glo "_law_cell", .glo "_law_heap", .glo "_law_draw", .glo "_law_term", .glo "_law_terms", .glo "_law_halls", .glo "_law_number", .glo "_law_plain_deed", .glo "_law_sources", .glo "_law_target", .glo "_law_written", .glo "_law_near", .glo "_law_meets", .glo "_law_rows", .glo "_law_rows_ahead", .glo "_law_pairs", .glo "_law_fenced_by", .glo "_law_order", .glo "_law_counted"] : List He.Fa) ++ ([.glo "_law_gone_through", .glo "_law_right", .glo "law", .glo "PARTS", .glo "FORMS", .glo "FENCED", .glo "Book", .free "isinstance", .free "int", .free "bool", .free "str", .free "tuple", .free "len", .free "all", .free "any", .free "zip", .free "sum", .free "enumerate", .free "range", .free "max"] : List He.Fa) ++ ([.free "min", .free "sorted", .free "list", .free "abs", .free "divmod", .cls "Book", .mkr "Book", .meth "Book" "spots", .meth "Book" "command", .noat "Book" "rooms", .noat "Book" "lanes"] : List He.Fa)
def partsV : List (Str × He.Dv) := [("name", .glo "is_name"), ("names", .glo "are_names"), ("number", .glo "is_number"), ("value", .glo "is_value"), ("by", .glo "is_by"), ("lane", .glo "is_lane")]
def formsV : List (Str × List Str) := [("put", ["name", "number"]), ("copy", ["name", "name"]), ("reckon", ["name", "names", "name"]), ("look", ["name"]), ("show", ["name"]), ("wait", ["name", "value"]), ("set", ["name", "by"]), ("give", ["name", "lane"]), ("take", ["name"])]
def tabs : List He.Tab := [(fun K => He.ga K "PARTS", partsV.map (·.1)), (fun K => He.ga K "FORMS", formsV.map (·.1))]
def tupS (K : PySem.W.Frag) (a : Addr) (zs : List Str) : Bool := match K.lookup a with
  | some ⟨.type c, _, .seq its _, _⟩ => decide (c = "tuple") && (decide (its.size ≤ sizeLine) && He.relAll (zs.map V.str) its.toList)
  | _ => false
def formAt (K : PySem.W.Frag) (k : Str) : Addr := match PySem.W.nsIn K (He.ga K "FORMS") k with
  | some (some (.ref a)) => a
  | _ => 0
def formsB (K : PySem.W.Frag) : Bool := formsV.all fun q => He.eqO (PySem.W.nsIn K (He.ga K "FORMS") q.1) (some (some (.ref (formAt K q.1)))) && tupS K (formAt K q.1) q.2
def insB (K : PySem.W.Frag) (C : Addr) : Bool := He.eqO (PySem.W.findIn K (.ref C) "__class__") (some (some (.builtin "object.__class__"))) && (He.eqO (PySem.W.specialIn K (.builtin "object.__class__") "__get__") (some (some (.builtin "getset_descriptor.__get__"))) &&
  (decide (PySem.W.takesIn K (.builtin "object.__class__") = some true) && (decide (PySem.W.mroIn K C (.type "object") = some true) && decide (PySem.W.kitOne K (.ref C) (.ref C) = some true))))
def more (K : PySem.W.Frag) : Bool := He.tupB K "FENCED" [.str "wait", .str "set"] && (He.valsB K (He.ga K "PARTS") partsV && (formsB K && insB K (He.ga K "Book")))
def loose : List PySem.Str := (["FenceError", "LostError", "StopError", "NoBook", "NoRooms", "NoLanes", "NoName", "NoScript", "NoSpot", "TooMany", "LETTERS", "SIGNS", "MOST_SIGNS", "MOST_LANES_commands", "MOST_NUMBER", "MOST_VALUE", "MOST_BY", "MOST_FROMS", "is_whole", "is_within"] : List PySem.Str) ++ (["is_name", "are_names", "is_number", "is_value", "is_by", "is_lane", "PARTS", "FORMS", "is_part", "is_command", "sources_of", "written_by", "rooms_of", "shows", "MOST_ROOMS", "MOST_LANES_books", "MOST_COMMANDS", "MOST_SIZE", "MOST_PLACE", "is_room"] : List PySem.Str) ++ (["check_rooms", "stands_in", "check_lanes", "Book", "check_book", "is_spot", "check_spot", "room_row", "command_row", "rows_of", "touching", "clash_word", "clash", "PREFIX", "MOST_ROWS", "FENCED", "is_script_row", "check_script", "how_many_lanes", "rows_ahead"] : List PySem.Str) ++ (["is_link", "links_of", "links", "MOST_PREFIX", "numbers_of", "fenced_rows", "check_prefix", "fenced", "all_spots", "command_at", "sets_of", "first_with", "hangs", "elders_of", "clocks", "is_ahead", "check_two", "ahead", "_law_cell", "_law_heap"] : List PySem.Str) ++ (["_law_draw", "_law_term", "_law_terms", "_law_halls", "_law_number", "_law_plain_deed", "_law_sources", "_law_target", "_law_written", "_law_near", "_law_meets", "_law_rows", "_law_rows_ahead", "_law_pairs", "_law_fenced_by", "_law_order", "_law_counted", "_law_gone_through", "_law_right"] : List PySem.Str)
end Fl
set_option maxHeartbeats 0
namespace Fl
open PySem PySem.W PySem.Calls PyProof.Rows L2
abbrev R : PySem.W.OpenRow := PySem.W.OpenLaw.row PySem.Challenge.rw_fencelanes_k66_whole_no_fewer_waits
abbrev hk : PySem.W.Hook := He.hookX 4 facts fns tabs [] more
def ob (s : PySem.W.SharedT) : He.AlX := He.obsX 4 facts fns tabs [] more (HandSHeadRun.getT s)
theorem ob_eq (s : PySem.W.SharedT) : ob s = hk.obs s.abs := He.obsX_eq (HandSHeadRun.getT_eq s)
noncomputable section
abbrev wf (w : World) (b : Bool) : World := w.withFollow "special-get-raises" b
abbrev En (w : World) (os : OsState) := HandSHeadRun.endF (HandSHeadRun.stepQ (HandSHeadRun.denQ HandSHeadRun.tabQ) R.prog w) 6000 R.prog w os
abbrev qv : Program := PySem.W.view R.prog [106]
abbrev seenS (s : PySem.W.SharedT) := HandSHeadRun.seenQ qv loose (importedModules R.prog.main.body) (fun s => PySem.W.xlAt qv [] s && PySem.W.recOk R.toRowW.records s) s.abs
abbrev KK (s : PySem.W.SharedT) : PySem.W.Frag := He.frT (HandSHeadRun.getT s) (He.asD (HandSHeadRun.getT s) 4)
abbrev obF (s : PySem.W.SharedT) : Bool := facts.all fun f => f.ok (KK s)
abbrev obD (s : PySem.W.SharedT) := (((fns.all fun d => d.ok (KK s)), fns.map fun d => He.fnW (KK s) d.at_), (tabs.map fun t => He.dicW (KK s) (t.1 (KK s))), more (KK s) && He.tabsB (HandSHeadRun.getT s) [] (KK s))
abbrev valD (w : World) := (((true, fns.map He.DefD.val), (tabs.map fun t => some (He.keysIn w.params t.2)), true) : (Bool × List He.FnW) × List (Option (List (Option (Str × Int)))) × Bool)
theorem a0 (w : World) (os : OsState) : (En (wf w false) os).map (fun s => (HandSHeadRun.looksF R.prog (boot_heap (wf w false).params) s.abs, seenS s)) = some (true, PySem.W.openGood qv loose) := by kernel_rfl
theorem a1 (w : World) (os : OsState) : (En (wf w true) os).map (fun s => (HandSHeadRun.looksF R.prog (boot_heap (wf w true).params) s.abs, seenS s)) = some (true, PySem.W.openGood qv loose) := by kernel_rfl
theorem b0 (w : World) (os : OsState) : (En (wf w false) os).map obF = some true := by kernel_rfl
theorem b1 (w : World) (os : OsState) : (En (wf w true) os).map obF = some true := by kernel_rfl
theorem c0 (w : World) (os : OsState) : (En (wf w false) os).map obD = some (valD (wf w false)) := by kernel_rfl
theorem c1 (w : World) (os : OsState) : (En (wf w true) os).map obD = some (valD (wf w true)) := by kernel_rfl
end
end Fl
set_option maxHeartbeats 0
namespace Fl
open PySem PySem.W PySem.Calls PyProof.Rows L2
noncomputable section
theorem joined (w : World) (os : OsState) (ha : (En w os).map (fun s => (HandSHeadRun.looksF R.prog (boot_heap w.params) s.abs, seenS s)) = some (true, PySem.W.openGood qv loose)) (hb : (En w os).map obF = some true) (hc : (En w os).map obD = some (valD w)) :
    (En w os).map (fun s => (HandSHeadRun.looksF R.prog (boot_heap w.params) s.abs, seenS s, ob s)) = some (true, PySem.W.openGood qv loose, hk.val w) := by
  obtain ⟨s, e, ea⟩ := Option.map_eq_some_iff.mp ha
  rw [e] at hb hc ⊢
  have eb : obF s = true := Option.some.inj hb
  have ec : obD s = valD w := Option.some.inj hc
  have e1 : HandSHeadRun.looksF R.prog (boot_heap w.params) s.abs = true := congrArg (fun z => z.1) ea
  have e2 : seenS s = PySem.W.openGood qv loose := congrArg (fun z => z.2) ea
  have ed : (fns.all fun d => d.ok (KK s)) = true := congrArg (fun z => z.1.1) ec
  have ef : (fns.map fun d => He.fnW (KK s) d.at_) = fns.map He.DefD.val := congrArg (fun z => z.1.2) ec
  have et : (tabs.map fun t => He.dicW (KK s) (t.1 (KK s))) = tabs.map fun t => some (He.keysIn w.params t.2) := congrArg (fun z => z.2.1) ec
  have em : (more (KK s) && He.tabsB (HandSHeadRun.getT s) [] (KK s)) = true := congrArg (fun z => z.2.2) ec
  have eo : ob s = hk.val w := by
    show ((((facts.all fun f => f.ok (KK s)) && fns.all fun d => d.ok (KK s), fns.map fun d => He.fnW (KK s) d.at_), tabs.map fun t => He.dicW (KK s) (t.1 (KK s))), more (KK s) && He.tabsB (HandSHeadRun.getT s) [] (KK s)) = (((true, fns.map He.DefD.val), tabs.map fun t => some (He.keysIn w.params t.2)), true)
    have eb2 : (facts.all fun f => f.ok (KK s)) = true := eb
    rw [ed, ef, et, em, eb2]
    rfl
  exact congrArg some (Prod.ext e1 (Prod.ext e2 eo))
theorem run0 (w : World) : HandSHeadRun.RunEq R qv hk ob 6000 loose (wf w false) := fun os => joined (wf w false) os (a0 w os) (b0 w os) (c0 w os)
theorem run1 (w : World) : HandSHeadRun.RunEq R qv hk ob 6000 loose (wf w true) := fun os => joined (wf w true) os (a1 w os) (b1 w os) (c1 w os)
theorem run (w : World) : HandSHeadRun.RunEq R qv hk ob 6000 loose w :=
  PySem.W.byRow2 "special-get-raises" (P := fun w => HandSHeadRun.RunEq R qv hk ob 6000 loose w) run0 run1 w
end
end Fl
set_option maxHeartbeats 2000000
namespace Fl
open PySem PySem.Spec PyProof.Rows L2 Evl

inductive D where
  | non
  | bl (b : Bool)
  | int (i : Int)
  | str (s : Str)
  | tup (ds : List D)
  | lst (ds : List D)
  | dk (kvs : List (Key × D))
  | dt (kvs : List (List Key × D))
  | book (rs ls : D)
  | ty (n : String)
  | cr

mutual
def Rp (C : Addr) (H : Hp) : V → D → Prop
  | v, .non => v = .non
  | v, .bl b => v = .bl b
  | v, .int i => v = .int i
  | v, .str s => v = .str s
  | v, .tup ds => ∃ a xs, v = .ref a ∧ H a = some (.tup xs) ∧ RpL C H xs ds
  | v, .lst ds => ∃ a xs, v = .ref a ∧ H a = some (.lst xs) ∧ RpL C H xs ds
  | v, .dk kvs => ∃ a ks, v = .ref a ∧ H a = some (.dK ks) ∧ RpK C H ks kvs
  | v, .dt kvs => ∃ a ks, v = .ref a ∧ H a = some (.dT ks) ∧ RpT C H ks kvs
  | v, .book rs ls => ∃ a dx r l, v = .ref a ∧ H a = some (.ins C dx [("rooms", r), ("lanes", l)]) ∧ Rp C H r rs ∧ Rp C H l ls
  | v, .ty n => v = .ty n
  | v, .cr => v = .ref C
def RpL (C : Addr) (H : Hp) : List V → List D → Prop
  | [], [] => True
  | x :: xs, d :: ds => Rp C H x d ∧ RpL C H xs ds
  | [], _ :: _ => False
  | _ :: _, [] => False
def RpK (C : Addr) (H : Hp) : List (Key × V) → List (Key × D) → Prop
  | [], [] => True
  | x :: xs, (k, d) :: ds => (x.1 = k ∧ Rp C H x.2 d) ∧ RpK C H xs ds
  | [], _ :: _ => False
  | _ :: _, [] => False
def RpT (C : Addr) (H : Hp) : List (List Key × V) → List (List Key × D) → Prop
  | [], [] => True
  | x :: xs, (k, d) :: ds => (x.1 = k ∧ Rp C H x.2 d) ∧ RpT C H xs ds
  | [], _ :: _ => False
  | _ :: _, [] => False
end
mutual
def D.fz : D → Bool
  | .non => true
  | .bl _ => true
  | .int _ => true
  | .str _ => true
  | .tup ds => fzL ds
  | .lst _ => false
  | .dk _ => false
  | .dt _ => false
  | .book _ _ => false
  | .ty _ => true
  | .cr => true
def fzL : List D → Bool
  | [] => true
  | d :: ds => d.fz && fzL ds
end
def Tx (H H' : Hp) : Prop := ∀ a xs, H a = some (.tup xs) → H' a = some (.tup xs)
theorem Tx.refl (H : Hp) : Tx H H := fun _ _ h => h
theorem Tx.trans {H H1 H2 : Hp} (a : Tx H H1) (b : Tx H1 H2) : Tx H H2 := fun x o h => b x o (a x o h)
theorem Tx.ex {H H' : Hp} (e : Ex H H') : Tx H H' := fun a xs h => e a _ h
theorem Tx.put {H : Hp} {p : Addr} {o : HO} (h : ∀ xs, H p ≠ some (.tup xs)) : Tx H (upd H p o) := fun a xs e => by
  rw [upd_ne (fun z => by subst z; exact h xs e)]
  exact e
theorem Tx.lst {H : Hp} {p : Addr} {o : HO} {xs : List V} (h : H p = some (.lst xs)) : Tx H (upd H p o) := Tx.put fun ys e => by rw [h] at e; cases e
theorem Tx.dk {H : Hp} {p : Addr} {o : HO} {xs : List (Key × V)} (h : H p = some (.dK xs)) : Tx H (upd H p o) := Tx.put fun ys e => by rw [h] at e; cases e
theorem Tx.dt {H : Hp} {p : Addr} {o : HO} {xs : List (List Key × V)} (h : H p = some (.dT xs)) : Tx H (upd H p o) := Tx.put fun ys e => by rw [h] at e; cases e
theorem Tx.new {H : Hp} {p : Addr} {o : HO} (h : H p = none) : Tx H (upd H p o) := Tx.ex (Ex.new h)
section
variable {C : Addr} {H H' : Hp}
mutual
theorem Rp.ex (e : Ex H H') : ∀ {d : D} {v : V}, Rp C H v d → Rp C H' v d
  | .non, _, h => h
  | .bl _, _, h => h
  | .int _, _, h => h
  | .str _, _, h => h
  | .tup ds, _, h => by
    obtain ⟨a, xs, e1, e2, e3⟩ := h
    exact ⟨a, xs, e1, e a _ e2, RpL.ex e e3⟩
  | .lst ds, _, h => by
    obtain ⟨a, xs, e1, e2, e3⟩ := h
    exact ⟨a, xs, e1, e a _ e2, RpL.ex e e3⟩
  | .dk kvs, _, h => by
    obtain ⟨a, xs, e1, e2, e3⟩ := h
    exact ⟨a, xs, e1, e a _ e2, RpK.ex e e3⟩
  | .dt kvs, _, h => by
    obtain ⟨a, xs, e1, e2, e3⟩ := h
    exact ⟨a, xs, e1, e a _ e2, RpT.ex e e3⟩
  | .book rs ls, _, h => by
    obtain ⟨a, dx, r, l, e1, e2, e3, e4⟩ := h
    exact ⟨a, dx, r, l, e1, e a _ e2, Rp.ex e e3, Rp.ex e e4⟩
  | .ty _, _, h => h
  | .cr, _, h => h
theorem RpL.ex (e : Ex H H') : ∀ {ds : List D} {xs : List V}, RpL C H xs ds → RpL C H' xs ds
  | [], [], _ => True.intro
  | d :: ds, x :: xs, h => ⟨Rp.ex e h.1, RpL.ex e h.2⟩
  | [], _ :: _, h => h.elim
  | _ :: _, [], h => h.elim
theorem RpK.ex (e : Ex H H') : ∀ {ds : List (Key × D)} {xs : List (Key × V)}, RpK C H xs ds → RpK C H' xs ds
  | [], [], _ => True.intro
  | (k, d) :: ds, x :: xs, h => ⟨⟨h.1.1, Rp.ex e h.1.2⟩, RpK.ex e h.2⟩
  | [], _ :: _, h => h.elim
  | _ :: _, [], h => h.elim
theorem RpT.ex (e : Ex H H') : ∀ {ds : List (List Key × D)} {xs : List (List Key × V)}, RpT C H xs ds → RpT C H' xs ds
  | [], [], _ => True.intro
  | (k, d) :: ds, x :: xs, h => ⟨⟨h.1.1, Rp.ex e h.1.2⟩, RpT.ex e h.2⟩
  | [], _ :: _, h => h.elim
  | _ :: _, [], h => h.elim
end
mutual
theorem Rp.fz (e : Tx H H') : ∀ {d : D} {v : V}, d.fz = true → Rp C H v d → Rp C H' v d
  | .non, _, _, h => h
  | .bl _, _, _, h => h
  | .int _, _, _, h => h
  | .str _, _, _, h => h
  | .tup ds, _, z, h => by
    obtain ⟨a, xs, e1, e2, e3⟩ := h
    exact ⟨a, xs, e1, e a _ e2, RpL.fz e (by simpa [D.fz] using z) e3⟩
  | .lst ds, _, z, h => by simp [D.fz] at z
  | .dk kvs, _, z, h => by simp [D.fz] at z
  | .dt kvs, _, z, h => by simp [D.fz] at z
  | .book rs ls, _, z, h => by simp [D.fz] at z
  | .ty _, _, _, h => h
  | .cr, _, _, h => h
theorem RpL.fz (e : Tx H H') : ∀ {ds : List D} {xs : List V}, fzL ds = true → RpL C H xs ds → RpL C H' xs ds
  | [], [], _, _ => True.intro
  | d :: ds, x :: xs, z, h => by
    have z' : (d.fz && fzL ds) = true := by simpa [fzL] using z
    exact ⟨Rp.fz e (Bool.and_eq_true_iff.mp z').1 h.1, RpL.fz e (Bool.and_eq_true_iff.mp z').2 h.2⟩
  | [], _ :: _, _, h => h.elim
  | _ :: _, [], _, h => h.elim
end
theorem fzL_iff : ∀ {ds : List D}, fzL ds = true ↔ ∀ d ∈ ds, d.fz = true
  | [] => by simp [fzL]
  | d :: ds => by simp [fzL, fzL_iff (ds := ds)]
theorem fz_tup {ds : List D} (h : ∀ d ∈ ds, d.fz = true) : (D.tup ds).fz = true := by
  simp only [D.fz]
  exact fzL_iff.mpr h
theorem fzL_append {a b : List D} (ha : fzL a = true) (hb : fzL b = true) : fzL (a ++ b) = true := fzL_iff.mpr fun d hd => (List.mem_append.mp hd).elim (fzL_iff.mp ha d) (fzL_iff.mp hb d)
theorem fzL_map {α : Type} {f : α → D} {l : List α} (h : ∀ a ∈ l, (f a).fz = true) : fzL (l.map f) = true := fzL_iff.mpr fun d hd => by
  obtain ⟨a, ha, e⟩ := List.mem_map.mp hd
  rw [← e]
  exact h a ha
theorem RpL.length : ∀ {ds : List D} {xs : List V}, RpL C H xs ds → xs.length = ds.length
  | [], [], _ => rfl
  | _ :: ds, _ :: xs, h => congrArg Nat.succ (RpL.length h.2)
  | [], _ :: _, h => h.elim
  | _ :: _, [], h => h.elim
theorem RpL.get : ∀ {ds : List D} {xs : List V} {i : Nat} {d : D}, RpL C H xs ds → ds[i]? = some d → ∃ x, xs[i]? = some x ∧ Rp C H x d
  | [], [], i, d, _, e => by simp at e
  | c :: ds, x :: xs, 0, d, h, e => by
    have e' : c = d := Option.some.inj (by simpa using e)
    exact ⟨x, rfl, e' ▸ h.1⟩
  | c :: ds, x :: xs, i + 1, d, h, e => by
    obtain ⟨y, h1, h2⟩ := RpL.get (i := i) h.2 (by simpa using e)
    exact ⟨y, by simpa using h1, h2⟩
  | [], _ :: _, _, _, h, _ => h.elim
  | _ :: _, [], _, _, h, _ => h.elim
theorem RpL.getV : ∀ {ds : List D} {xs : List V} {i : Nat} {x : V}, RpL C H xs ds → xs[i]? = some x → ∃ d, ds[i]? = some d ∧ Rp C H x d
  | [], [], i, d, _, e => by simp at e
  | c :: ds, x :: xs, 0, d, h, e => by
    have e' : x = d := Option.some.inj (by simpa using e)
    exact ⟨c, rfl, e' ▸ h.1⟩
  | c :: ds, x :: xs, i + 1, d, h, e => by
    obtain ⟨y, h1, h2⟩ := RpL.getV (i := i) h.2 (by simpa using e)
    exact ⟨y, by simpa using h1, h2⟩
  | [], _ :: _, _, _, h, _ => h.elim
  | _ :: _, [], _, _, h, _ => h.elim
theorem RpL.append : ∀ {ds es : List D} {xs ys : List V}, RpL C H xs ds → RpL C H ys es → RpL C H (xs ++ ys) (ds ++ es)
  | [], _, [], _, _, g => g
  | _ :: ds, _, _ :: xs, _, h, g => ⟨h.1, RpL.append h.2 g⟩
  | [], _, _ :: _, _, h, _ => h.elim
  | _ :: _, _, [], _, h, _ => h.elim
theorem RpL.snoc {ds : List D} {xs : List V} {d : D} {x : V} (h : RpL C H xs ds) (g : Rp C H x d) : RpL C H (xs ++ [x]) (ds ++ [d]) := h.append ⟨g, True.intro⟩
theorem RpL.take : ∀ {ds : List D} {xs : List V} (n : Nat), RpL C H xs ds → RpL C H (xs.take n) (ds.take n)
  | [], [], n, _ => by simp [RpL]
  | _ :: ds, _ :: xs, 0, _ => True.intro
  | _ :: ds, _ :: xs, n + 1, h => ⟨h.1, RpL.take n h.2⟩
  | [], _ :: _, _, h => h.elim
  | _ :: _, [], _, h => h.elim
theorem RpL.drop : ∀ {ds : List D} {xs : List V} (n : Nat), RpL C H xs ds → RpL C H (xs.drop n) (ds.drop n)
  | [], [], n, _ => by simp [RpL]
  | _ :: ds, _ :: xs, 0, h => h
  | _ :: ds, _ :: xs, n + 1, h => RpL.drop n h.2
  | [], _ :: _, _, h => h.elim
  | _ :: _, [], _, h => h.elim
theorem RpL.set : ∀ {ds : List D} {xs : List V} {d : D} {x : V} (i : Nat), RpL C H xs ds → Rp C H x d → RpL C H (xs.set i x) (ds.set i d)
  | [], [], _, _, _, _, _ => True.intro
  | _ :: ds, _ :: xs, _, _, 0, h, g => ⟨g, h.2⟩
  | _ :: ds, _ :: xs, _, _, i + 1, h, g => ⟨h.1, RpL.set i h.2 g⟩
  | [], _ :: _, _, _, _, h, _ => h.elim
  | _ :: _, [], _, _, _, h, _ => h.elim
theorem RpL.ints : ∀ {ns : List Int} {xs : List V}, RpL C H xs (ns.map D.int) → xs = ns.map V.int
  | [], [], _ => rfl
  | n :: ns, x :: xs, h => by
    have h1 : x = V.int n := h.1
    rw [h1, RpL.ints (ns := ns) h.2]
    rfl
  | [], _ :: _, h => h.elim
  | _ :: _, [], h => h.elim
theorem RpL.of_ints : ∀ {ns : List Int}, RpL C H (ns.map V.int) (ns.map D.int)
  | [] => True.intro
  | n :: ns => ⟨rfl, RpL.of_ints⟩
theorem RpL.strs : ∀ {ns : List Str} {xs : List V}, RpL C H xs (ns.map D.str) → xs = ns.map V.str
  | [], [], _ => rfl
  | n :: ns, x :: xs, h => by
    have h1 : x = V.str n := h.1
    rw [h1, RpL.strs (ns := ns) h.2]
    rfl
  | [], _ :: _, h => h.elim
  | _ :: _, [], h => h.elim
theorem RpL.of_strs : ∀ {ns : List Str}, RpL C H (ns.map V.str) (ns.map D.str)
  | [] => True.intro
  | n :: ns => ⟨rfl, RpL.of_strs⟩
theorem RpL.bls : ∀ {ns : List Bool} {xs : List V}, RpL C H xs (ns.map D.bl) → xs = ns.map V.bl
  | [], [], _ => rfl
  | n :: ns, x :: xs, h => by
    have h1 : x = V.bl n := h.1
    rw [h1, RpL.bls (ns := ns) h.2]
    rfl
  | [], _ :: _, h => h.elim
  | _ :: _, [], h => h.elim
theorem RpK.length : ∀ {ds : List (Key × D)} {xs : List (Key × V)}, RpK C H xs ds → xs.length = ds.length
  | [], [], _ => rfl
  | (_, _) :: ds, _ :: xs, h => congrArg Nat.succ (RpK.length h.2)
  | [], _ :: _, h => h.elim
  | _ :: _, [], h => h.elim
end
def lookD {κ : Type} [DecidableEq κ] (kvs : List (κ × D)) (k : κ) : Option D := (kvs.find? fun kv => decide (kv.1 = k)).map (·.2)
def putD {κ : Type} [DecidableEq κ] (kvs : List (κ × D)) (k : κ) (d : D) : List (κ × D) := if kvs.any (fun kv => decide (kv.1 = k)) then kvs.map (fun kv => if kv.1 = k then (k, d) else kv) else kvs ++ [(k, d)]
end Fl
set_option maxHeartbeats 2000000
namespace Fl
open PySem PySem.Spec PyProof.Rows L2 Evl

structure Good (P : Program) (w : World) (K : PySem.W.Frag) (X : Cx) : Prop where
  P : X.prog = P
  w : X.w = w
  K : X.K = K
  calm : X.calm = true
  units : X.A.units + 65 < cLine
theorem Good.b {P : Program} {w : World} {K : PySem.W.Frag} {X : Cx} (g : Good P w K X) {s : Shared} {H : Hp} {scope : Scope} {cenv : Env} {fp : List Addr} : Good P w K (X.blk s H scope cenv fp) := ⟨g.P, g.w, g.K, g.calm, g.units⟩
section
variable (P : Program) (w : World) (K : PySem.W.Frag)
def rB (f : Value → Value → Sem Value) : R2 := fun x y H Q => ∃ r : R2, (∀ X, Good P w K X → OpR X f r) ∧ r x y H Q
def rC (f : Value) : List V → Hp → VK → Prop := fun xs H Q => ∃ r, (∀ X, Good P w K X → CallR X f r) ∧ r xs H Q
def rI_ : R2 := fun x y H Q => ∃ r : R2, (∀ X, Good P w K X → IxR X r) ∧ r x y H Q
def rM (id : String) : V → List V → Hp → VK → Prop := fun x xs H Q => ∃ r, (∀ X, Good P w K X → MtR X id r) ∧ r x xs H Q
def rS : V → Option Int → Option Int → Hp → VK → Prop := fun x lo hi H Q => ∃ r, (∀ X, Good P w K X → SlR X r) ∧ r x lo hi H Q
def rSet : TSet := fun o i v H Q => ∃ r, (∀ X, Good P w K X → PSet X r) ∧ r o i v H Q
def ItR (X : Cx) (tg : Expr) (ri : V → Hp → (It → Hp → Prop) → Prop) : Prop := ∀ (pins : List (Addr × Obj)) (s : Shared) (σ : L2.St) (H : Hp) (x : V) (v : Value) (R : It → Hp → Prop), Inv X pins σ H s → RelV x v → ri x H R →
  wpAny (model X.prog X.w) X.A (pyIter v) (PIE X pins σ tg R) X.xe s
def iB (tg : Expr) (tl : TE) : TI := fun σ H R => tl σ H fun x H1 => ∃ ri, (∀ X, Good P w K X → ItR X tg ri) ∧ ri x H1 R
end
section
variable {P : Program} {w : World} {K : PySem.W.Frag} {X : Cx}
theorem op_b {f : Value → Value → Sem Value} (g : Good P w K X) : OpR X f (rB P w K f) := fun pins s σ H x y v u Q I rx ry ⟨r, h, q⟩ => h X g pins s σ H x y v u Q I rx ry q
theorem c_b {f : Value} (g : Good P w K X) : CallR X f (rC P w K f) := fun pins s σ H xs us Q I r ⟨_, h, q⟩ => h X g pins s σ H xs us Q I r q
theorem ix_b (g : Good P w K X) : IxR X (rI_ P w K) := fun a b pins s σ H x y v u Q I rx ry ⟨_, h, q⟩ e => h X g a b pins s σ H x y v u Q I rx ry q e
theorem mt_b {id : String} (g : Good P w K X) : MtR X id (rM P w K id) := fun pins s σ H x xs v us Q I rx rs ⟨_, h, q⟩ => h X g pins s σ H x xs v us Q I rx rs q
theorem sl_b (g : Good P w K X) : SlR X (rS P w K) := fun pins s σ H x v vl vu lo hi sl Q I rx h1 h2 h3 ⟨_, h, q⟩ => h X g pins s σ H x v vl vu lo hi sl Q I rx h1 h2 h3 q
theorem pi_b {tg e : Expr} {te : TE} (g : Good P w K X) (he : PE X e te) : PI X tg e (iB P w K tg te) := by
  refine ⟨fun pins s σ H R I h => ?_⟩
  refine thn (he.run pins s σ H _ I h) fun v s1 ⟨x, H1, I1, r1, ri, hr, q⟩ => ?_
  exact hr X g pins s1 σ H1 x v R I1 r1 q
theorem it_list {tg : Expr} : ItR X tg (fun x H R => ∃ a, x = .ref a ∧ (∃ xs, SqL X.K H a xs) ∧ R (Itl X.K a) H) := by
  intro pins s σ H x v R I1 r1 h
  obtain ⟨a, e, ⟨xs, hq⟩, q⟩ := h
  subst e
  cases r1
  obtain ⟨its, rv, p, hz⟩ := I1.list hq
  refine wpAny_pyIter_list p.isList ?_
  refine ⟨s.heap.objs.size, [s.heap.objs.size], _, _, H, rfl, I1.kept (t' := s.toks) fun b o e => Heap.get?_push_of_some _ e, turn_list a _, ⟨_, Heap.get?_push_size _ rfl, rfl, rfl⟩, fun b hb => ?_, q⟩
  have e : b = s.heap.objs.size := by simpa using hb
  subst e
  exact I1.fpOk (Nat.le_refl _) (I1.hok.fresh (Nat.le_refl _))
theorem it_tup {tg : Expr} : ItR X tg (fun x H R => ∃ a, x = .ref a ∧ (∃ xs, SqT X.K H a xs) ∧ R (Itt X.K a) H) := by
  intro pins s σ H x v R I1 r1 h
  obtain ⟨a, e, ⟨xs, hq⟩, q⟩ := h
  subst e
  cases r1
  obtain ⟨its, rv, p, hz⟩ := I1.tuple hq
  refine wpAny_pyIter_tuple (show s.heap.IsTuple a its.toArray from p) ?_
  refine ⟨s.heap.objs.size, [s.heap.objs.size], _, _, H, rfl, I1.kept (t' := s.toks) fun b o e => Heap.get?_push_of_some _ e, turn_tuple a _, ⟨_, Heap.get?_push_size _ rfl, rfl, rfl⟩, fun b hb => ?_, q⟩
  have e : b = s.heap.objs.size := by simpa using hb
  subst e
  exact I1.fpOk (Nat.le_refl _) (I1.hok.fresh (Nat.le_refl _))
theorem it_str {tg : Expr} : ItR X tg (fun x H R => ∃ z, x = .str z ∧ R (Its z) H) := by
  intro pins s σ H y v R I1 r1 h
  obtain ⟨x, ex, q⟩ := h
  subst ex
  obtain ⟨t, rfl⟩ := r1
  cases ha : x.cps.all (· < 128)
  · exact wpAny_pyIter_wide ha (pi_one (tk := s.toks) I1 _ (turn_str _ x t "str_iterator" (.inr rfl)) ⟨_, Heap.get?_push_size _ rfl, rfl, rfl⟩ q)
  · exact wpAny_pyIter_ascii ha (pi_one (tk := s.toks) I1 _ (turn_str _ x t "str_ascii_iterator" (.inl rfl)) ⟨_, Heap.get?_push_size _ rfl, rfl, rfl⟩ q)
end

def EvP (te : TE) (σ : L2.St) (H : Hp) (Φ : V → Hp → Prop) : Prop := ∀ H1, Ex H H1 → ∀ Q : VK, (∀ v H2, Ex H1 H2 → Φ v H2 → Q v H2) → te σ H1 Q
def Ed (C : Addr) (te : TE) (σ : L2.St) (H : Hp) (d : D) : Prop := EvP te σ H fun v H2 => Rp C H2 v d
def EdA (C : Addr) (ta : TA) (σ : L2.St) (H : Hp) (ds : List D) : Prop := ∀ H1, Ex H H1 → ∀ Q : List V → Hp → Prop, (∀ vs H2, Ex H1 H2 → RpL C H2 vs ds → Q vs H2) → ta σ H1 Q
section
variable {C : Addr} {te ta tb tc : TE} {σ : L2.St} {H H' : Hp} {d x y z : D} {t u : TT}
theorem EvP.mono {Φ : V → Hp → Prop} (e : Ex H H') (h : EvP te σ H Φ) : EvP te σ H' Φ := fun H1 a Q q => h H1 (e.trans a) Q q
theorem EvP.imp {Φ Ψ : V → Hp → Prop} (h : EvP te σ H Φ) (i : ∀ v H2, Ex H H2 → Φ v H2 → Ψ v H2) : EvP te σ H Ψ := fun H1 a Q q => h H1 a Q fun v H2 e p => q v H2 e (i v H2 (a.trans e) p)
theorem Ed.mono (e : Ex H H') (h : Ed C te σ H d) : Ed C te σ H' d := fun H1 a Q q => h H1 (e.trans a) Q q
theorem Ed.is (h : Ed C te σ H x) (e : x = y) : Ed C te σ H y := e ▸ h
theorem ed_var {i : Nat} {v : V} (h : σ[i]? = some (some v)) (r : Rp C H v d) : Ed C (tVar i) σ H d := fun H1 e _ q => ⟨v, h, q v H1 (Ex.refl H1) (r.ex e)⟩
theorem ed_int {i : Int} : Ed C (tC (.int i)) σ H (.int i) := fun H1 _ _ q => q _ H1 (Ex.refl H1) rfl
theorem ed_str {i : Str} : Ed C (tC (.str i)) σ H (.str i) := fun H1 _ _ q => q _ H1 (Ex.refl H1) rfl
theorem ed_bl {i : Bool} : Ed C (tC (.bl i)) σ H (.bl i) := fun H1 _ _ q => q _ H1 (Ex.refl H1) rfl
theorem ed_non : Ed C (tC .non) σ H .non := fun H1 _ _ q => q _ H1 (Ex.refl H1) rfl
theorem ea0 : EdA C tNil σ H [] := fun H1 _ _ q => q [] H1 (Ex.refl H1) True.intro
theorem ea1 {tr : TA} {ds : List D} (h : Ed C ta σ H d) (hr : EdA C tr σ H ds) : EdA C (tCons ta tr) σ H (d :: ds) := fun H1 e _ q =>
  h H1 e _ fun v H2 e2 r => hr H2 (e.trans e2) _ fun vs H3 e3 rs => q _ H3 (e2.trans e3) ⟨r.ex e3, rs⟩
theorem EdA.mono {tr : TA} {ds : List D} (e : Ex H H') (h : EdA C tr σ H ds) : EdA C tr σ H' ds := fun H1 a Q q => h H1 (e.trans a) Q q
def DOp (C : Addr) (r : R2) (x y z : D) : Prop := ∀ H v u, Rp C H v x → Rp C H u y → ∀ Q : VK, (∀ o H2, Ex H H2 → Rp C H2 o z → Q o H2) → r v u H Q
theorem ed_op {r : R2} (ha : Ed C ta σ H x) (hb : Ed C tb σ H y) (ho : DOp C r x y z) : Ed C (tOp r ta tb) σ H z := fun H1 e Q q =>
  ha H1 e _ fun v H2 e2 r2 => hb H2 (e.trans e2) _ fun u H3 e3 r3 => ho H3 v u (r2.ex e3) r3 Q fun o H4 e4 r4 => q o H4 ((e2.trans e3).trans e4) r4
theorem ed_un {i : Int} (h : Ed C ta σ H (.int i)) : Ed C (tUn (rU fun i => .int (-i)) ta) σ H (.int (-i)) := fun H1 e Q q => h H1 e _ fun v H2 e2 r => ⟨i, r, q _ H2 e2 rfl⟩
def DCall (C : Addr) (r : List V → Hp → VK → Prop) (xs : List D) (z : D) : Prop := ∀ H vs, RpL C H vs xs → ∀ Q : VK, (∀ o H2, Ex H H2 → Rp C H2 o z → Q o H2) → r vs H Q
theorem ed_cb {r : List V → Hp → VK → Prop} {ts : TA} {xs : List D} (ha : EdA C ts σ H xs) (hr : DCall C r xs z) : Ed C (tCB r ts) σ H z := fun H1 e Q q =>
  ha H1 e _ fun vs H2 e2 r2 => hr H2 vs r2 Q fun o H3 e3 r3 => q o H3 (e2.trans e3) r3
theorem absB {p : Prop} {b c : Bool} (h : b = c) (e : b = !c) : p := by
  rw [e] at h
  cases c <;> cases h
theorem et_cmp {b : Bool} (h : Ed C te σ H (.bl b)) : EvT (tTest te) σ H b := fun H1 e _ q => h H1 e _ fun v H2 e2 r => ⟨b, r, q H2 e2⟩
theorem et_val {b : Bool} (h : Ed C te σ H (.bl b)) : EvT (tB te) σ H b := fun H1 e _ q => h H1 e _ fun v H2 e2 r => ⟨b, r, q H2 e2⟩
theorem ed_and {a b : Bool} (h1 : Ed C ta σ H (.bl a)) (h2 : a = true → Ed C tb σ H (.bl b)) : Ed C (tAndV ta tb) σ H (.bl (a && b)) := fun H1 e Q q => h1 H1 e _ fun v H2 e2 r => ⟨a, r, by
  cases a with
  | true => exact h2 rfl H2 (e.trans e2) _ fun v H3 e3 r3 => q v H3 (e2.trans e3) r3
  | false => exact q _ H2 e2 rfl⟩
theorem ed_or {a b : Bool} (h1 : Ed C ta σ H (.bl a)) (h2 : a = false → Ed C tb σ H (.bl b)) : Ed C (tOrV ta tb) σ H (.bl (a || b)) := fun H1 e Q q => h1 H1 e _ fun v H2 e2 r => ⟨a, r, by
  cases a with
  | false => exact h2 rfl H2 (e.trans e2) _ fun v H3 e3 r3 => q v H3 (e2.trans e3) r3
  | true => exact q _ H2 e2 rfl⟩
theorem ed_not {a : Bool} (h1 : Ed C ta σ H (.bl a)) : Ed C (tNotV ta) σ H (.bl (!a)) := fun H1 e _ q => h1 H1 e _ fun v H2 e2 r => ⟨a, r, q _ H2 e2 rfl⟩
theorem ed_if {b : Bool} (h : EvT t σ H b) (h1 : b = true → Ed C ta σ H d) (h2 : b = false → Ed C tb σ H d) : Ed C (tIf t ta tb) σ H d := fun H1 e Q q => h H1 e _ fun H2 e2 => by
  cases b with
  | true => exact h1 rfl H2 (e.trans e2) _ fun v H3 e3 r3 => q v H3 (e2.trans e3) r3
  | false => exact h2 rfl H2 (e.trans e2) _ fun v H3 e3 r3 => q v H3 (e2.trans e3) r3
theorem ed_chain {r r' : R2} {a b : Bool} {x y z : D} (ha : Ed C ta σ H x) (hb : Ed C tb σ H y) (hc : Ed C tc σ H z) (h1 : DOp C r x y (.bl a)) (h2 : DOp C r' y z (.bl b)) : Ed C (tChain r r' ta tb tc) σ H (.bl (a && b)) := fun H1 e Q q =>
  ha H1 e _ fun v H2 e2 r2 => hb H2 (e.trans e2) _ fun u H3 e3 r3 => h1 H3 v u (r2.ex e3) r3 _ fun o H4 e4 r4 => ⟨a, r4, by
    cases a with
    | true =>
      show tc σ H4 fun w' H4 => r' u w' H4 Q
      exact hc H4 (((e.trans e2).trans e3).trans e4) _ fun v' H5 e5 r5 => h2 H5 u v' ((r3.ex e4).ex e5) r5 Q fun o' H6 e6 r6 => q o' H6 ((((e2.trans e3).trans e4).trans e5).trans e6) r6
    | false => exact q _ H4 ((e2.trans e3).trans e4) rfl⟩
theorem ed_tup {ts : TA} {ds : List D} (h : EdA C ts σ H ds) (hl : ds.length ≤ 100000 := by exact Nat.le_of_ble_eq_true rfl) : Ed C (tTup ts) σ H (.tup ds) := fun H1 e Q q =>
  h H1 e _ fun vs H2 e2 r => ⟨by rw [r.length]; exact sz_of hl, fun p hp => q _ _ (e2.trans (Ex.new hp)) ⟨p, vs, rfl, upd_same, r.ex (Ex.new hp)⟩⟩
theorem ed_lst {ts : TA} {ds : List D} (h : EdA C ts σ H ds) (hl : ds.length ≤ 100000 := by exact Nat.le_of_ble_eq_true rfl) : Ed C (tLst ts) σ H (.lst ds) := fun H1 e Q q =>
  h H1 e _ fun vs H2 e2 r => ⟨by rw [r.length]; exact sz_of hl, fun p hp => q _ _ (e2.trans (Ex.new hp)) ⟨p, vs, rfl, upd_same, r.ex (Ex.new hp)⟩⟩
theorem ed_fld {K : PySem.W.Frag} {f : Str} {rs ls d : D} (h : Ed C ta σ H (.book rs ls)) (hc : Cls K C) (hn : NoAttr K C f) (hf : (f = "rooms" ∧ d = rs) ∨ (f = "lanes" ∧ d = ls)) : Ed C (tFld K ta f) σ H d := fun H1 e Q q =>
  h H1 e _ fun v H2 e2 ⟨a, dx, r, l, h1, h2, h3, h4⟩ => by
    rcases hf with ⟨rfl, rfl⟩ | ⟨rfl, rfl⟩
    · exact ⟨a, C, dx, _, r, h1, h2, hc, hn, rfl, q r H2 e2 h3⟩
    · exact ⟨a, C, dx, _, l, h1, h2, hc, hn, rfl, q l H2 e2 h4⟩
end

def Nw (H : Hp) (v : V) (d : D) : Prop := d.fz = false → ∀ a, v = .ref a → H a = none
theorem Nw.fz {H : Hp} {v : V} {d : D} (h : d.fz = true) : Nw H v d := fun z => by rw [h] at z; cases z
theorem Nw.back {H H' : Hp} {v : V} {d : D} (e : Ex H H') (h : Nw H' v d) : Nw H v d := fun z a q => fresh_back e (h z a q)
def spA {α : Type} (C : Addr) (args : α → List D) (pre : α → Prop) (res : α → D → Prop) : Sp := fun vs H Q _ => ∃ a : α, RpL C H vs (args a) ∧ pre a ∧ ∀ d v H', res a d → Ex H H' → Rp C H' v d → Nw H v d → Q v H'
abbrev spF {α : Type} (C : Addr) (args : α → List D) (pre : α → Prop) (f : α → D) : Sp := spA C args pre fun a d => d = f a
theorem spA_len {α : Type} {C : Addr} {args : α → List D} {pre : α → Prop} {res : α → D → Prop} {n : Nat} (h : ∀ a, (args a).length = n) : ∀ vs H Q E, spA C args pre res vs H Q E → vs.length = n := fun vs H Q E ⟨a, r, _⟩ => r.length.trans (h a)
section
variable {C : Addr} {σ : L2.St} {H : Hp} {d : D} {ts : TA} {E : XK} {α : Type} {args : α → List D} {pre : α → Prop}
theorem ed_call {f : α → D} (a : α) (h : EdA C ts σ H (args a)) (hp : pre a) : Ed C (tCall (spF C args pre f) [] E ts) σ H (f a) := fun H1 e Q q =>
  h H1 e _ fun vs H2 e2 r => ⟨a, by rw [List.append_nil]; exact r, hp, fun d v H3 ed e3 r3 _ => q v H3 (e2.trans e3) (ed ▸ r3)⟩
theorem ev_call {f : α → D} (a : α) (h : EdA C ts σ H (args a)) (hp : pre a) : EvP (tCall (spF C args pre f) [] E ts) σ H fun v H2 => Rp C H2 v (f a) ∧ Nw H v (f a) := fun H1 e Q q =>
  h H1 e _ fun vs H2 e2 r => ⟨a, by rw [List.append_nil]; exact r, hp, fun d v H3 ed e3 r3 n3 => q v H3 (e2.trans e3) ⟨ed ▸ r3, ed ▸ n3.back (e.trans e2)⟩⟩
theorem ev_callD {res : α → D → Prop} (a : α) (h : EdA C ts σ H (args a)) (hp : pre a) : EvP (tCall (spA C args pre res) [] E ts) σ H fun v H2 => ∃ d, res a d ∧ Rp C H2 v d ∧ Nw H v d := fun H1 e Q q =>
  h H1 e _ fun vs H2 e2 r => ⟨a, by rw [List.append_nil]; exact r, hp, fun d v H3 p e3 r3 n3 => q v H3 (e2.trans e3) ⟨d, p, r3, n3.back (e.trans e2)⟩⟩
end

structure Callee (P : Program) (w : World) (K : PySem.W.Frag) (mg : Str → Option Value) (base : Heap) (x : Str) (k : Nat) (ps : List Str) (sp : Sp) : Prop where
  ex : ∃ (f : Addr) (fd : FuncData), FnOk P w K mg base CX0 k f fd ps sp ∧ mg x = some (.ref f) ∧ PySem.W.keepIn K (.ref f) = true ∧ Binds K fd ps []
theorem pe_c {X : Cx} {x : Str} {k : Nat} {ps : List Str} {sp : Sp} {e : Expr} {es : List Expr} {ts : TA} {p pos : Pos} {E : XK} (c : Callee X.prog X.w X.K X.mg X.base x k ps sp) (hr : Room k X.A) (hg : Gl X x) (hx : Passes CX0 X E) (ha : PA X (e :: es) ts)
    (hs : starEach (e :: es) X.env = (false, eval e X.env) :: starEach es X.env := by rfl) (hb : (backTo pos (starEach es X.env)).any (·.1) = false := by rfl) (hd : (x == ("__debug__" : Str)) = false := by decide) : PE X (.Call (.Name x p) (e :: es) [] pos) (tCall sp [] E ts) := by
  obtain ⟨f, fd, F, hm, hk, b⟩ := c.ex
  exact pe_call F hr hg hm hk b .nil hx ha hd hs hb
end Fl
set_option maxHeartbeats 2000000
namespace Fl
open PySem PySem.Spec PyProof.Rows L2 Evl
structure TF (w : World) (K : PySem.W.Frag) (mg : Str → Option Value) : Prop where
  h : ∃ h : Heap, K.In h ∧ h.Ns mainGlobals mg
  c : He.SaysT facts fns tabs w K
  mo : more K = true
abbrev CB (K : PySem.W.Frag) : Addr := He.ga K "Book"
section
variable {w : World} {K : PySem.W.Frag} {mg : Str → Option Value}
theorem TF.glo_ (T : TF w K mg) (i : Nat) {x : Str} (h : facts[i]? = some (.glo x) := by rfl) : mg x = some (.ref (He.ga K x)) := by
  obtain ⟨_, X, G⟩ := T.h
  exact He.glo_ok X G (T.c.d.fact i h)
theorem TF.free_ (T : TF w K mg) (i : Nat) {x : Str} (h : facts[i]? = some (.free x) := by rfl) : mg x = none := by
  obtain ⟨_, X, G⟩ := T.h
  exact He.free_ok X G (T.c.d.fact i h)
theorem TF.int_ (T : TF w K mg) (i : Nat) {x : Str} {j : Int} (h : facts[i]? = some (.int x j) := by rfl) : ∃ t, mg x = some (.int j t) := by
  obtain ⟨_, X, G⟩ := T.h
  exact He.int_ok X G (T.c.d.fact i h)
theorem TF.str_ (T : TF w K mg) (i : Nat) {x z : Str} (h : facts[i]? = some (.str x z) := by rfl) : ∃ t, mg x = some (.str z t) := by
  obtain ⟨_, X, G⟩ := T.h
  exact He.str_ok X G (T.c.d.fact i h)
theorem TF.MOST_SIGNS (T : TF w K mg) : ∃ t, mg "MOST_SIGNS" = some (.int 6 t) := T.int_ 0
theorem TF.MOST_LANES_commands (T : TF w K mg) : ∃ t, mg "MOST_LANES_commands" = some (.int 6 t) := T.int_ 1
theorem TF.MOST_NUMBER (T : TF w K mg) : ∃ t, mg "MOST_NUMBER" = some (.int 999999 t) := T.int_ 2
theorem TF.MOST_VALUE (T : TF w K mg) : ∃ t, mg "MOST_VALUE" = some (.int 9999 t) := T.int_ 3
theorem TF.MOST_BY (T : TF w K mg) : ∃ t, mg "MOST_BY" = some (.int 99 t) := T.int_ 4
theorem TF.MOST_FROMS (T : TF w K mg) : ∃ t, mg "MOST_FROMS" = some (.int 3 t) := T.int_ 5
theorem TF.MOST_ROOMS (T : TF w K mg) : ∃ t, mg "MOST_ROOMS" = some (.int 12 t) := T.int_ 6
theorem TF.MOST_LANES_books (T : TF w K mg) : ∃ t, mg "MOST_LANES_books" = some (.int 6 t) := T.int_ 7
theorem TF.MOST_COMMANDS (T : TF w K mg) : ∃ t, mg "MOST_COMMANDS" = some (.int 60 t) := T.int_ 8
theorem TF.MOST_SIZE (T : TF w K mg) : ∃ t, mg "MOST_SIZE" = some (.int 99 t) := T.int_ 9
theorem TF.MOST_PLACE (T : TF w K mg) : ∃ t, mg "MOST_PLACE" = some (.int 1999 t) := T.int_ 10
theorem TF.MOST_ROWS (T : TF w K mg) : ∃ t, mg "MOST_ROWS" = some (.int 24 t) := T.int_ 11
theorem TF.MOST_PREFIX (T : TF w K mg) : ∃ t, mg "MOST_PREFIX" = some (.int 5 t) := T.int_ 12
theorem TF.LETTERS (T : TF w K mg) : ∃ t, mg "LETTERS" = some (.str "abcdefghijklmnopqrstuvwxyz" t) := T.str_ 13
theorem TF.SIGNS (T : TF w K mg) : ∃ t, mg "SIGNS" = some (.str "abcdefghijklmnopqrstuvwxyz0123456789" t) := T.str_ 14
theorem TF.PREFIX (T : TF w K mg) : ∃ t, mg "PREFIX" = some (.str "f" t) := T.str_ 15
theorem TF.g_is_whole (T : TF w K mg) : mg "is_whole" = some (.ref (He.ga K "is_whole")) := T.glo_ 16
theorem TF.g_is_within (T : TF w K mg) : mg "is_within" = some (.ref (He.ga K "is_within")) := T.glo_ 17
theorem TF.g_is_name (T : TF w K mg) : mg "is_name" = some (.ref (He.ga K "is_name")) := T.glo_ 18
theorem TF.g_are_names (T : TF w K mg) : mg "are_names" = some (.ref (He.ga K "are_names")) := T.glo_ 19
theorem TF.g_is_number (T : TF w K mg) : mg "is_number" = some (.ref (He.ga K "is_number")) := T.glo_ 20
theorem TF.g_is_value (T : TF w K mg) : mg "is_value" = some (.ref (He.ga K "is_value")) := T.glo_ 21
theorem TF.g_is_by (T : TF w K mg) : mg "is_by" = some (.ref (He.ga K "is_by")) := T.glo_ 22
theorem TF.g_is_lane (T : TF w K mg) : mg "is_lane" = some (.ref (He.ga K "is_lane")) := T.glo_ 23
theorem TF.g_is_part (T : TF w K mg) : mg "is_part" = some (.ref (He.ga K "is_part")) := T.glo_ 24
theorem TF.g_is_command (T : TF w K mg) : mg "is_command" = some (.ref (He.ga K "is_command")) := T.glo_ 25
theorem TF.g_sources_of (T : TF w K mg) : mg "sources_of" = some (.ref (He.ga K "sources_of")) := T.glo_ 26
theorem TF.g_written_by (T : TF w K mg) : mg "written_by" = some (.ref (He.ga K "written_by")) := T.glo_ 27
theorem TF.g_rooms_of (T : TF w K mg) : mg "rooms_of" = some (.ref (He.ga K "rooms_of")) := T.glo_ 28
theorem TF.g_shows (T : TF w K mg) : mg "shows" = some (.ref (He.ga K "shows")) := T.glo_ 29
theorem TF.g_is_room (T : TF w K mg) : mg "is_room" = some (.ref (He.ga K "is_room")) := T.glo_ 30
theorem TF.g_check_rooms (T : TF w K mg) : mg "check_rooms" = some (.ref (He.ga K "check_rooms")) := T.glo_ 31
theorem TF.g_stands_in (T : TF w K mg) : mg "stands_in" = some (.ref (He.ga K "stands_in")) := T.glo_ 32
theorem TF.g_check_lanes (T : TF w K mg) : mg "check_lanes" = some (.ref (He.ga K "check_lanes")) := T.glo_ 33
theorem TF.g_check_book (T : TF w K mg) : mg "check_book" = some (.ref (He.ga K "check_book")) := T.glo_ 34
theorem TF.g_is_spot (T : TF w K mg) : mg "is_spot" = some (.ref (He.ga K "is_spot")) := T.glo_ 35
theorem TF.g_check_spot (T : TF w K mg) : mg "check_spot" = some (.ref (He.ga K "check_spot")) := T.glo_ 36
theorem TF.g_touching (T : TF w K mg) : mg "touching" = some (.ref (He.ga K "touching")) := T.glo_ 37
theorem TF.g_clash_word (T : TF w K mg) : mg "clash_word" = some (.ref (He.ga K "clash_word")) := T.glo_ 38
theorem TF.g_clash (T : TF w K mg) : mg "clash" = some (.ref (He.ga K "clash")) := T.glo_ 39
theorem TF.g_is_script_row (T : TF w K mg) : mg "is_script_row" = some (.ref (He.ga K "is_script_row")) := T.glo_ 40
theorem TF.g_check_script (T : TF w K mg) : mg "check_script" = some (.ref (He.ga K "check_script")) := T.glo_ 41
theorem TF.g_how_many_lanes (T : TF w K mg) : mg "how_many_lanes" = some (.ref (He.ga K "how_many_lanes")) := T.glo_ 42
theorem TF.g_rows_ahead (T : TF w K mg) : mg "rows_ahead" = some (.ref (He.ga K "rows_ahead")) := T.glo_ 43
theorem TF.g_is_link (T : TF w K mg) : mg "is_link" = some (.ref (He.ga K "is_link")) := T.glo_ 44
theorem TF.g_links_of (T : TF w K mg) : mg "links_of" = some (.ref (He.ga K "links_of")) := T.glo_ 45
theorem TF.g_links (T : TF w K mg) : mg "links" = some (.ref (He.ga K "links")) := T.glo_ 46
theorem TF.g_numbers_of (T : TF w K mg) : mg "numbers_of" = some (.ref (He.ga K "numbers_of")) := T.glo_ 47
theorem TF.g_fenced_rows (T : TF w K mg) : mg "fenced_rows" = some (.ref (He.ga K "fenced_rows")) := T.glo_ 48
theorem TF.g_check_prefix (T : TF w K mg) : mg "check_prefix" = some (.ref (He.ga K "check_prefix")) := T.glo_ 49
theorem TF.g_fenced (T : TF w K mg) : mg "fenced" = some (.ref (He.ga K "fenced")) := T.glo_ 50
theorem TF.g_all_spots (T : TF w K mg) : mg "all_spots" = some (.ref (He.ga K "all_spots")) := T.glo_ 51
theorem TF.g_command_at (T : TF w K mg) : mg "command_at" = some (.ref (He.ga K "command_at")) := T.glo_ 52
theorem TF.g_sets_of (T : TF w K mg) : mg "sets_of" = some (.ref (He.ga K "sets_of")) := T.glo_ 53
theorem TF.g_first_with (T : TF w K mg) : mg "first_with" = some (.ref (He.ga K "first_with")) := T.glo_ 54
theorem TF.g_hangs (T : TF w K mg) : mg "hangs" = some (.ref (He.ga K "hangs")) := T.glo_ 55
theorem TF.g_elders_of (T : TF w K mg) : mg "elders_of" = some (.ref (He.ga K "elders_of")) := T.glo_ 56
theorem TF.g_clocks (T : TF w K mg) : mg "clocks" = some (.ref (He.ga K "clocks")) := T.glo_ 57
theorem TF.g_is_ahead (T : TF w K mg) : mg "is_ahead" = some (.ref (He.ga K "is_ahead")) := T.glo_ 58
theorem TF.g_check_two (T : TF w K mg) : mg "check_two" = some (.ref (He.ga K "check_two")) := T.glo_ 59
theorem TF.g_ahead (T : TF w K mg) : mg "ahead" = some (.ref (He.ga K "ahead")) := T.glo_ 60
theorem TF.g_law_cell (T : TF w K mg) : mg "_law_cell" = some (.ref (He.ga K "_law_cell")) := T.glo_ 61
theorem TF.g_law_heap (T : TF w K mg) : mg "_law_heap" = some (.ref (He.ga K "_law_heap")) := T.glo_ 62
theorem TF.g_law_draw (T : TF w K mg) : mg "_law_draw" = some (.ref (He.ga K "_law_draw")) := T.glo_ 63
theorem TF.g_law_term (T : TF w K mg) : mg "_law_term" = some (.ref (He.ga K "_law_term")) := T.glo_ 64
theorem TF.g_law_terms (T : TF w K mg) : mg "_law_terms" = some (.ref (He.ga K "_law_terms")) := T.glo_ 65
theorem TF.g_law_halls (T : TF w K mg) : mg "_law_halls" = some (.ref (He.ga K "_law_halls")) := T.glo_ 66
theorem TF.g_law_number (T : TF w K mg) : mg "_law_number" = some (.ref (He.ga K "_law_number")) := T.glo_ 67
theorem TF.g_law_plain_deed (T : TF w K mg) : mg "_law_plain_deed" = some (.ref (He.ga K "_law_plain_deed")) := T.glo_ 68
theorem TF.g_law_sources (T : TF w K mg) : mg "_law_sources" = some (.ref (He.ga K "_law_sources")) := T.glo_ 69
theorem TF.g_law_target (T : TF w K mg) : mg "_law_target" = some (.ref (He.ga K "_law_target")) := T.glo_ 70
theorem TF.g_law_written (T : TF w K mg) : mg "_law_written" = some (.ref (He.ga K "_law_written")) := T.glo_ 71
theorem TF.g_law_near (T : TF w K mg) : mg "_law_near" = some (.ref (He.ga K "_law_near")) := T.glo_ 72
theorem TF.g_law_meets (T : TF w K mg) : mg "_law_meets" = some (.ref (He.ga K "_law_meets")) := T.glo_ 73
theorem TF.g_law_rows (T : TF w K mg) : mg "_law_rows" = some (.ref (He.ga K "_law_rows")) := T.glo_ 74
theorem TF.g_law_rows_ahead (T : TF w K mg) : mg "_law_rows_ahead" = some (.ref (He.ga K "_law_rows_ahead")) := T.glo_ 75
theorem TF.g_law_pairs (T : TF w K mg) : mg "_law_pairs" = some (.ref (He.ga K "_law_pairs")) := T.glo_ 76
theorem TF.g_law_fenced_by (T : TF w K mg) : mg "_law_fenced_by" = some (.ref (He.ga K "_law_fenced_by")) := T.glo_ 77
theorem TF.g_law_order (T : TF w K mg) : mg "_law_order" = some (.ref (He.ga K "_law_order")) := T.glo_ 78
theorem TF.g_law_counted (T : TF w K mg) : mg "_law_counted" = some (.ref (He.ga K "_law_counted")) := T.glo_ 79
theorem TF.g_law_gone_through (T : TF w K mg) : mg "_law_gone_through" = some (.ref (He.ga K "_law_gone_through")) := T.glo_ 80
theorem TF.g_law_right (T : TF w K mg) : mg "_law_right" = some (.ref (He.ga K "_law_right")) := T.glo_ 81
theorem TF.g_law (T : TF w K mg) : mg "law" = some (.ref (He.ga K "law")) := T.glo_ 82
theorem TF.PARTS (T : TF w K mg) : mg "PARTS" = some (.ref (He.ga K "PARTS")) := T.glo_ 83
theorem TF.FORMS (T : TF w K mg) : mg "FORMS" = some (.ref (He.ga K "FORMS")) := T.glo_ 84
theorem TF.FENCED (T : TF w K mg) : mg "FENCED" = some (.ref (He.ga K "FENCED")) := T.glo_ 85
theorem TF.Book (T : TF w K mg) : mg "Book" = some (.ref (He.ga K "Book")) := T.glo_ 86
theorem TF.f_isinstance (T : TF w K mg) : mg "isinstance" = none := T.free_ 87
theorem TF.f_int (T : TF w K mg) : mg "int" = none := T.free_ 88
theorem TF.f_bool (T : TF w K mg) : mg "bool" = none := T.free_ 89
theorem TF.f_str (T : TF w K mg) : mg "str" = none := T.free_ 90
theorem TF.f_tuple (T : TF w K mg) : mg "tuple" = none := T.free_ 91
theorem TF.f_len (T : TF w K mg) : mg "len" = none := T.free_ 92
theorem TF.f_all (T : TF w K mg) : mg "all" = none := T.free_ 93
theorem TF.f_any (T : TF w K mg) : mg "any" = none := T.free_ 94
theorem TF.f_zip (T : TF w K mg) : mg "zip" = none := T.free_ 95
theorem TF.f_sum (T : TF w K mg) : mg "sum" = none := T.free_ 96
theorem TF.f_enumerate (T : TF w K mg) : mg "enumerate" = none := T.free_ 97
theorem TF.f_range (T : TF w K mg) : mg "range" = none := T.free_ 98
theorem TF.f_max (T : TF w K mg) : mg "max" = none := T.free_ 99
theorem TF.f_min (T : TF w K mg) : mg "min" = none := T.free_ 100
theorem TF.f_sorted (T : TF w K mg) : mg "sorted" = none := T.free_ 101
theorem TF.f_list (T : TF w K mg) : mg "list" = none := T.free_ 102
theorem TF.f_abs (T : TF w K mg) : mg "abs" = none := T.free_ 103
theorem TF.f_divmod (T : TF w K mg) : mg "divmod" = none := T.free_ 104
theorem TF.cls (T : TF w K mg) : Cls K (CB K) := He.cls_ok (T.c.d.fact 105 (f := .cls "Book") rfl)
theorem TF.mkr (T : TF w K mg) : Mk K (CB K) (He.ma K (CB K) "__init__") := He.mkr_ok (T.c.d.fact 106 (f := .mkr "Book") rfl)
theorem TF.m_spots (T : TF w K mg) : Meth K (CB K) "spots" (He.ma K (CB K) "spots") := He.meth_ok (T.c.d.fact 107 (f := .meth "Book" "spots") rfl)
theorem TF.m_command (T : TF w K mg) : Meth K (CB K) "command" (He.ma K (CB K) "command") := He.meth_ok (T.c.d.fact 108 (f := .meth "Book" "command") rfl)
theorem TF.n_rooms (T : TF w K mg) : NoAttr K (CB K) "rooms" := He.noat_ok (T.c.d.fact 109 (f := .noat "Book" "rooms") rfl)
theorem TF.n_lanes (T : TF w K mg) : NoAttr K (CB K) "lanes" := He.noat_ok (T.c.d.fact 110 (f := .noat "Book" "lanes") rfl)
theorem TF.d_is_whole (T : TF w K mg) : ∃ fd, FunD K "is_whole" "is_whole" (defArgs s_is_whole) (defBody s_is_whole) (defScope s_is_whole) [] [] (He.ga K "is_whole") fd := T.c.d.def_ 0 (d := Fl.d_is_whole) rfl
theorem TF.d_is_within (T : TF w K mg) : ∃ fd, FunD K "is_within" "is_within" (defArgs s_is_within) (defBody s_is_within) (defScope s_is_within) [] [] (He.ga K "is_within") fd := T.c.d.def_ 1 (d := Fl.d_is_within) rfl
theorem TF.d_is_name (T : TF w K mg) : ∃ fd, FunD K "is_name" "is_name" (defArgs s_is_name) (defBody s_is_name) (defScope s_is_name) [] [] (He.ga K "is_name") fd := T.c.d.def_ 2 (d := Fl.d_is_name) rfl
theorem TF.d_are_names (T : TF w K mg) : ∃ fd, FunD K "are_names" "are_names" (defArgs s_are_names) (defBody s_are_names) (defScope s_are_names) [] [] (He.ga K "are_names") fd := T.c.d.def_ 3 (d := Fl.d_are_names) rfl
theorem TF.d_is_number (T : TF w K mg) : ∃ fd, FunD K "is_number" "is_number" (defArgs s_is_number) (defBody s_is_number) (defScope s_is_number) [] [] (He.ga K "is_number") fd := T.c.d.def_ 4 (d := Fl.d_is_number) rfl
theorem TF.d_is_value (T : TF w K mg) : ∃ fd, FunD K "is_value" "is_value" (defArgs s_is_value) (defBody s_is_value) (defScope s_is_value) [] [] (He.ga K "is_value") fd := T.c.d.def_ 5 (d := Fl.d_is_value) rfl
theorem TF.d_is_by (T : TF w K mg) : ∃ fd, FunD K "is_by" "is_by" (defArgs s_is_by) (defBody s_is_by) (defScope s_is_by) [] [] (He.ga K "is_by") fd := T.c.d.def_ 6 (d := Fl.d_is_by) rfl
theorem TF.d_is_lane (T : TF w K mg) : ∃ fd, FunD K "is_lane" "is_lane" (defArgs s_is_lane) (defBody s_is_lane) (defScope s_is_lane) [] [] (He.ga K "is_lane") fd := T.c.d.def_ 7 (d := Fl.d_is_lane) rfl
theorem TF.d_is_part (T : TF w K mg) : ∃ fd, FunD K "is_part" "is_part" (defArgs s_is_part) (defBody s_is_part) (defScope s_is_part) [] [] (He.ga K "is_part") fd := T.c.d.def_ 8 (d := Fl.d_is_part) rfl
theorem TF.d_is_command (T : TF w K mg) : ∃ fd, FunD K "is_command" "is_command" (defArgs s_is_command) (defBody s_is_command) (defScope s_is_command) [] [] (He.ga K "is_command") fd := T.c.d.def_ 9 (d := Fl.d_is_command) rfl
theorem TF.d_sources_of (T : TF w K mg) : ∃ fd, FunD K "sources_of" "sources_of" (defArgs s_sources_of) (defBody s_sources_of) (defScope s_sources_of) [] [] (He.ga K "sources_of") fd := T.c.d.def_ 10 (d := Fl.d_sources_of) rfl
theorem TF.d_written_by (T : TF w K mg) : ∃ fd, FunD K "written_by" "written_by" (defArgs s_written_by) (defBody s_written_by) (defScope s_written_by) [] [] (He.ga K "written_by") fd := T.c.d.def_ 11 (d := Fl.d_written_by) rfl
theorem TF.d_rooms_of (T : TF w K mg) : ∃ fd, FunD K "rooms_of" "rooms_of" (defArgs s_rooms_of) (defBody s_rooms_of) (defScope s_rooms_of) [] [] (He.ga K "rooms_of") fd := T.c.d.def_ 12 (d := Fl.d_rooms_of) rfl
theorem TF.d_shows (T : TF w K mg) : ∃ fd, FunD K "shows" "shows" (defArgs s_shows) (defBody s_shows) (defScope s_shows) [] [] (He.ga K "shows") fd := T.c.d.def_ 13 (d := Fl.d_shows) rfl
theorem TF.d_is_room (T : TF w K mg) : ∃ fd, FunD K "is_room" "is_room" (defArgs s_is_room) (defBody s_is_room) (defScope s_is_room) [] [] (He.ga K "is_room") fd := T.c.d.def_ 14 (d := Fl.d_is_room) rfl
theorem TF.d_check_rooms (T : TF w K mg) : ∃ fd, FunD K "check_rooms" "check_rooms" (defArgs s_check_rooms) (defBody s_check_rooms) (defScope s_check_rooms) [] [] (He.ga K "check_rooms") fd := T.c.d.def_ 15 (d := Fl.d_check_rooms) rfl
theorem TF.d_stands_in (T : TF w K mg) : ∃ fd, FunD K "stands_in" "stands_in" (defArgs s_stands_in) (defBody s_stands_in) (defScope s_stands_in) [] [] (He.ga K "stands_in") fd := T.c.d.def_ 16 (d := Fl.d_stands_in) rfl
theorem TF.d_check_lanes (T : TF w K mg) : ∃ fd, FunD K "check_lanes" "check_lanes" (defArgs s_check_lanes) (defBody s_check_lanes) (defScope s_check_lanes) [] [] (He.ga K "check_lanes") fd := T.c.d.def_ 17 (d := Fl.d_check_lanes) rfl
theorem TF.d_Book_init (T : TF w K mg) : ∃ fd, FunD K "__init__" "Book.__init__" (defArgs s_Book_init) (defBody s_Book_init) (defScope s_Book_init) [.ref (He.dflAt ("Book", some "__init__") 0 K)] [] (He.ma K (CB K) "__init__") fd := T.c.d.def_ 18 (d := Fl.d_Book_init) rfl
theorem TF.d_Book_spots (T : TF w K mg) : ∃ fd, FunD K "spots" "Book.spots" (defArgs s_Book_spots) (defBody s_Book_spots) (defScope s_Book_spots) [] [] (He.ma K (CB K) "spots") fd := T.c.d.def_ 19 (d := Fl.d_Book_spots) rfl
theorem TF.d_Book_command (T : TF w K mg) : ∃ fd, FunD K "command" "Book.command" (defArgs s_Book_command) (defBody s_Book_command) (defScope s_Book_command) [] [] (He.ma K (CB K) "command") fd := T.c.d.def_ 20 (d := Fl.d_Book_command) rfl
theorem TF.d_check_book (T : TF w K mg) : ∃ fd, FunD K "check_book" "check_book" (defArgs s_check_book) (defBody s_check_book) (defScope s_check_book) [] [] (He.ga K "check_book") fd := T.c.d.def_ 21 (d := Fl.d_check_book) rfl
theorem TF.d_is_spot (T : TF w K mg) : ∃ fd, FunD K "is_spot" "is_spot" (defArgs s_is_spot) (defBody s_is_spot) (defScope s_is_spot) [] [] (He.ga K "is_spot") fd := T.c.d.def_ 22 (d := Fl.d_is_spot) rfl
theorem TF.d_check_spot (T : TF w K mg) : ∃ fd, FunD K "check_spot" "check_spot" (defArgs s_check_spot) (defBody s_check_spot) (defScope s_check_spot) [] [] (He.ga K "check_spot") fd := T.c.d.def_ 23 (d := Fl.d_check_spot) rfl
theorem TF.d_touching (T : TF w K mg) : ∃ fd, FunD K "touching" "touching" (defArgs s_touching) (defBody s_touching) (defScope s_touching) [] [] (He.ga K "touching") fd := T.c.d.def_ 24 (d := Fl.d_touching) rfl
theorem TF.d_clash_word (T : TF w K mg) : ∃ fd, FunD K "clash_word" "clash_word" (defArgs s_clash_word) (defBody s_clash_word) (defScope s_clash_word) [] [] (He.ga K "clash_word") fd := T.c.d.def_ 25 (d := Fl.d_clash_word) rfl
theorem TF.d_clash (T : TF w K mg) : ∃ fd, FunD K "clash" "clash" (defArgs s_clash) (defBody s_clash) (defScope s_clash) [] [] (He.ga K "clash") fd := T.c.d.def_ 26 (d := Fl.d_clash) rfl
theorem TF.d_is_script_row (T : TF w K mg) : ∃ fd, FunD K "is_script_row" "is_script_row" (defArgs s_is_script_row) (defBody s_is_script_row) (defScope s_is_script_row) [] [] (He.ga K "is_script_row") fd := T.c.d.def_ 27 (d := Fl.d_is_script_row) rfl
theorem TF.d_check_script (T : TF w K mg) : ∃ fd, FunD K "check_script" "check_script" (defArgs s_check_script) (defBody s_check_script) (defScope s_check_script) [] [] (He.ga K "check_script") fd := T.c.d.def_ 28 (d := Fl.d_check_script) rfl
theorem TF.d_how_many_lanes (T : TF w K mg) : ∃ fd, FunD K "how_many_lanes" "how_many_lanes" (defArgs s_how_many_lanes) (defBody s_how_many_lanes) (defScope s_how_many_lanes) [] [] (He.ga K "how_many_lanes") fd := T.c.d.def_ 29 (d := Fl.d_how_many_lanes) rfl
theorem TF.d_rows_ahead (T : TF w K mg) : ∃ fd, FunD K "rows_ahead" "rows_ahead" (defArgs s_rows_ahead) (defBody s_rows_ahead) (defScope s_rows_ahead) [] [] (He.ga K "rows_ahead") fd := T.c.d.def_ 30 (d := Fl.d_rows_ahead) rfl
theorem TF.d_is_link (T : TF w K mg) : ∃ fd, FunD K "is_link" "is_link" (defArgs s_is_link) (defBody s_is_link) (defScope s_is_link) [] [] (He.ga K "is_link") fd := T.c.d.def_ 31 (d := Fl.d_is_link) rfl
theorem TF.d_links_of (T : TF w K mg) : ∃ fd, FunD K "links_of" "links_of" (defArgs s_links_of) (defBody s_links_of) (defScope s_links_of) [] [] (He.ga K "links_of") fd := T.c.d.def_ 32 (d := Fl.d_links_of) rfl
theorem TF.d_links (T : TF w K mg) : ∃ fd, FunD K "links" "links" (defArgs s_links) (defBody s_links) (defScope s_links) [] [] (He.ga K "links") fd := T.c.d.def_ 33 (d := Fl.d_links) rfl
theorem TF.d_numbers_of (T : TF w K mg) : ∃ fd, FunD K "numbers_of" "numbers_of" (defArgs s_numbers_of) (defBody s_numbers_of) (defScope s_numbers_of) [] [] (He.ga K "numbers_of") fd := T.c.d.def_ 34 (d := Fl.d_numbers_of) rfl
theorem TF.d_fenced_rows (T : TF w K mg) : ∃ fd, FunD K "fenced_rows" "fenced_rows" (defArgs s_fenced_rows) (defBody s_fenced_rows) (defScope s_fenced_rows) [] [] (He.ga K "fenced_rows") fd := T.c.d.def_ 35 (d := Fl.d_fenced_rows) rfl
theorem TF.d_check_prefix (T : TF w K mg) : ∃ fd, FunD K "check_prefix" "check_prefix" (defArgs s_check_prefix) (defBody s_check_prefix) (defScope s_check_prefix) [] [] (He.ga K "check_prefix") fd := T.c.d.def_ 36 (d := Fl.d_check_prefix) rfl
theorem TF.d_fenced (T : TF w K mg) : ∃ fd, FunD K "fenced" "fenced" (defArgs s_fenced) (defBody s_fenced) (defScope s_fenced) [] [("prefix", V.str "f")] (He.ga K "fenced") fd := T.c.d.def_ 37 (d := Fl.d_fenced) rfl
theorem TF.d_all_spots (T : TF w K mg) : ∃ fd, FunD K "all_spots" "all_spots" (defArgs s_all_spots) (defBody s_all_spots) (defScope s_all_spots) [] [] (He.ga K "all_spots") fd := T.c.d.def_ 38 (d := Fl.d_all_spots) rfl
theorem TF.d_command_at (T : TF w K mg) : ∃ fd, FunD K "command_at" "command_at" (defArgs s_command_at) (defBody s_command_at) (defScope s_command_at) [] [] (He.ga K "command_at") fd := T.c.d.def_ 39 (d := Fl.d_command_at) rfl
theorem TF.d_sets_of (T : TF w K mg) : ∃ fd, FunD K "sets_of" "sets_of" (defArgs s_sets_of) (defBody s_sets_of) (defScope s_sets_of) [] [] (He.ga K "sets_of") fd := T.c.d.def_ 40 (d := Fl.d_sets_of) rfl
theorem TF.d_first_with (T : TF w K mg) : ∃ fd, FunD K "first_with" "first_with" (defArgs s_first_with) (defBody s_first_with) (defScope s_first_with) [] [] (He.ga K "first_with") fd := T.c.d.def_ 41 (d := Fl.d_first_with) rfl
theorem TF.d_hangs (T : TF w K mg) : ∃ fd, FunD K "hangs" "hangs" (defArgs s_hangs) (defBody s_hangs) (defScope s_hangs) [] [] (He.ga K "hangs") fd := T.c.d.def_ 42 (d := Fl.d_hangs) rfl
theorem TF.d_elders_of (T : TF w K mg) : ∃ fd, FunD K "elders_of" "elders_of" (defArgs s_elders_of) (defBody s_elders_of) (defScope s_elders_of) [] [] (He.ga K "elders_of") fd := T.c.d.def_ 43 (d := Fl.d_elders_of) rfl
theorem TF.d_clocks (T : TF w K mg) : ∃ fd, FunD K "clocks" "clocks" (defArgs s_clocks) (defBody s_clocks) (defScope s_clocks) [] [] (He.ga K "clocks") fd := T.c.d.def_ 44 (d := Fl.d_clocks) rfl
theorem TF.d_is_ahead (T : TF w K mg) : ∃ fd, FunD K "is_ahead" "is_ahead" (defArgs s_is_ahead) (defBody s_is_ahead) (defScope s_is_ahead) [] [] (He.ga K "is_ahead") fd := T.c.d.def_ 45 (d := Fl.d_is_ahead) rfl
theorem TF.d_check_two (T : TF w K mg) : ∃ fd, FunD K "check_two" "check_two" (defArgs s_check_two) (defBody s_check_two) (defScope s_check_two) [] [] (He.ga K "check_two") fd := T.c.d.def_ 46 (d := Fl.d_check_two) rfl
theorem TF.d_ahead (T : TF w K mg) : ∃ fd, FunD K "ahead" "ahead" (defArgs s_ahead) (defBody s_ahead) (defScope s_ahead) [] [] (He.ga K "ahead") fd := T.c.d.def_ 47 (d := Fl.d_ahead) rfl
theorem TF.d_law_cell (T : TF w K mg) : ∃ fd, FunD K "_law_cell" "_law_cell" (defArgs s_law_cell) (defBody s_law_cell) (defScope s_law_cell) [] [] (He.ga K "_law_cell") fd := T.c.d.def_ 48 (d := Fl.d_law_cell) rfl
theorem TF.d_law_heap (T : TF w K mg) : ∃ fd, FunD K "_law_heap" "_law_heap" (defArgs s_law_heap) (defBody s_law_heap) (defScope s_law_heap) [] [] (He.ga K "_law_heap") fd := T.c.d.def_ 49 (d := Fl.d_law_heap) rfl
theorem TF.d_law_draw (T : TF w K mg) : ∃ fd, FunD K "_law_draw" "_law_draw" (defArgs s_law_draw) (defBody s_law_draw) (defScope s_law_draw) [] [] (He.ga K "_law_draw") fd := T.c.d.def_ 50 (d := Fl.d_law_draw) rfl
theorem TF.d_law_term (T : TF w K mg) : ∃ fd, FunD K "_law_term" "_law_term" (defArgs s_law_term) (defBody s_law_term) (defScope s_law_term) [] [] (He.ga K "_law_term") fd := T.c.d.def_ 51 (d := Fl.d_law_term) rfl
theorem TF.d_law_terms (T : TF w K mg) : ∃ fd, FunD K "_law_terms" "_law_terms" (defArgs s_law_terms) (defBody s_law_terms) (defScope s_law_terms) [] [] (He.ga K "_law_terms") fd := T.c.d.def_ 52 (d := Fl.d_law_terms) rfl
theorem TF.d_law_halls (T : TF w K mg) : ∃ fd, FunD K "_law_halls" "_law_halls" (defArgs s_law_halls) (defBody s_law_halls) (defScope s_law_halls) [] [] (He.ga K "_law_halls") fd := T.c.d.def_ 53 (d := Fl.d_law_halls) rfl
theorem TF.d_law_number (T : TF w K mg) : ∃ fd, FunD K "_law_number" "_law_number" (defArgs s_law_number) (defBody s_law_number) (defScope s_law_number) [] [] (He.ga K "_law_number") fd := T.c.d.def_ 54 (d := Fl.d_law_number) rfl
theorem TF.d_law_plain_deed (T : TF w K mg) : ∃ fd, FunD K "_law_plain_deed" "_law_plain_deed" (defArgs s_law_plain_deed) (defBody s_law_plain_deed) (defScope s_law_plain_deed) [] [] (He.ga K "_law_plain_deed") fd := T.c.d.def_ 55 (d := Fl.d_law_plain_deed) rfl
theorem TF.d_law_sources (T : TF w K mg) : ∃ fd, FunD K "_law_sources" "_law_sources" (defArgs s_law_sources) (defBody s_law_sources) (defScope s_law_sources) [] [] (He.ga K "_law_sources") fd := T.c.d.def_ 56 (d := Fl.d_law_sources) rfl
theorem TF.d_law_target (T : TF w K mg) : ∃ fd, FunD K "_law_target" "_law_target" (defArgs s_law_target) (defBody s_law_target) (defScope s_law_target) [] [] (He.ga K "_law_target") fd := T.c.d.def_ 57 (d := Fl.d_law_target) rfl
theorem TF.d_law_written (T : TF w K mg) : ∃ fd, FunD K "_law_written" "_law_written" (defArgs s_law_written) (defBody s_law_written) (defScope s_law_written) [] [] (He.ga K "_law_written") fd := T.c.d.def_ 58 (d := Fl.d_law_written) rfl
theorem TF.d_law_near (T : TF w K mg) : ∃ fd, FunD K "_law_near" "_law_near" (defArgs s_law_near) (defBody s_law_near) (defScope s_law_near) [] [] (He.ga K "_law_near") fd := T.c.d.def_ 59 (d := Fl.d_law_near) rfl
theorem TF.d_law_meets (T : TF w K mg) : ∃ fd, FunD K "_law_meets" "_law_meets" (defArgs s_law_meets) (defBody s_law_meets) (defScope s_law_meets) [] [] (He.ga K "_law_meets") fd := T.c.d.def_ 60 (d := Fl.d_law_meets) rfl
theorem TF.d_law_rows (T : TF w K mg) : ∃ fd, FunD K "_law_rows" "_law_rows" (defArgs s_law_rows) (defBody s_law_rows) (defScope s_law_rows) [] [] (He.ga K "_law_rows") fd := T.c.d.def_ 61 (d := Fl.d_law_rows) rfl
theorem TF.d_law_rows_ahead (T : TF w K mg) : ∃ fd, FunD K "_law_rows_ahead" "_law_rows_ahead" (defArgs s_law_rows_ahead) (defBody s_law_rows_ahead) (defScope s_law_rows_ahead) [] [] (He.ga K "_law_rows_ahead") fd := T.c.d.def_ 62 (d := Fl.d_law_rows_ahead) rfl
theorem TF.d_law_pairs (T : TF w K mg) : ∃ fd, FunD K "_law_pairs" "_law_pairs" (defArgs s_law_pairs) (defBody s_law_pairs) (defScope s_law_pairs) [] [] (He.ga K "_law_pairs") fd := T.c.d.def_ 63 (d := Fl.d_law_pairs) rfl
theorem TF.d_law_fenced_by (T : TF w K mg) : ∃ fd, FunD K "_law_fenced_by" "_law_fenced_by" (defArgs s_law_fenced_by) (defBody s_law_fenced_by) (defScope s_law_fenced_by) [] [] (He.ga K "_law_fenced_by") fd := T.c.d.def_ 64 (d := Fl.d_law_fenced_by) rfl
theorem TF.d_law_order (T : TF w K mg) : ∃ fd, FunD K "_law_order" "_law_order" (defArgs s_law_order) (defBody s_law_order) (defScope s_law_order) [] [] (He.ga K "_law_order") fd := T.c.d.def_ 65 (d := Fl.d_law_order) rfl
theorem TF.d_law_counted (T : TF w K mg) : ∃ fd, FunD K "_law_counted" "_law_counted" (defArgs s_law_counted) (defBody s_law_counted) (defScope s_law_counted) [] [] (He.ga K "_law_counted") fd := T.c.d.def_ 66 (d := Fl.d_law_counted) rfl
theorem TF.d_law_gone_through (T : TF w K mg) : ∃ fd, FunD K "_law_gone_through" "_law_gone_through" (defArgs s_law_gone_through) (defBody s_law_gone_through) (defScope s_law_gone_through) [] [] (He.ga K "_law_gone_through") fd := T.c.d.def_ 67 (d := Fl.d_law_gone_through) rfl
theorem TF.d_law_right (T : TF w K mg) : ∃ fd, FunD K "_law_right" "_law_right" (defArgs s_law_right) (defBody s_law_right) (defScope s_law_right) [] [] (He.ga K "_law_right") fd := T.c.d.def_ 68 (d := Fl.d_law_right) rfl
theorem TF.d_law (T : TF w K mg) : ∃ fd, FunD K "law" "law" (defArgs s_law) (defBody s_law) (defScope s_law) [] [] (He.ga K "law") fd := T.c.d.def_ 69 (d := Fl.d_law) rfl
end
theorem bt_isinstance : bootBuiltins "isinstance" = some (.builtin "isinstance") := by decide +kernel
theorem bt_len : bootBuiltins "len" = some (.builtin "len") := by decide +kernel
theorem bt_all : bootBuiltins "all" = some (.builtin "all") := by decide +kernel
theorem bt_any : bootBuiltins "any" = some (.builtin "any") := by decide +kernel
theorem bt_sum : bootBuiltins "sum" = some (.builtin "sum") := by decide +kernel
theorem bt_max : bootBuiltins "max" = some (.builtin "max") := by decide +kernel
theorem bt_min : bootBuiltins "min" = some (.builtin "min") := by decide +kernel
theorem bt_sorted : bootBuiltins "sorted" = some (.builtin "sorted") := by decide +kernel
theorem bt_abs : bootBuiltins "abs" = some (.builtin "abs") := by decide +kernel
theorem bt_divmod : bootBuiltins "divmod" = some (.builtin "divmod") := by decide +kernel
theorem bt_int : bootBuiltins "int" = some (.type "int") := by decide +kernel
theorem bt_bool : bootBuiltins "bool" = some (.type "bool") := by decide +kernel
theorem bt_str : bootBuiltins "str" = some (.type "str") := by decide +kernel
theorem bt_tuple : bootBuiltins "tuple" = some (.type "tuple") := by decide +kernel
theorem bt_list : bootBuiltins "list" = some (.type "list") := by decide +kernel
theorem bt_range : bootBuiltins "range" = some (.type "range") := by decide +kernel
theorem bt_enumerate : bootBuiltins "enumerate" = some (.type "enumerate") := by decide +kernel
theorem bt_zip : bootBuiltins "zip" = some (.type "zip") := by decide +kernel
section
variable {X : Cx}
theorem pe_gi {x : Str} {i : Int} {pos : Pos} (h : ∃ t, X.mg x = some (.int i t)) (hg : Gl X x := by rfl) (hd : (x == ("__debug__" : Str)) = false := by decide) : PE X (.Name x pos) (tC (.int i)) := by
  obtain ⟨t, e⟩ := h
  exact pe_glob hg e ⟨t, rfl⟩ hd
theorem pe_gs {x z : Str} {pos : Pos} (h : ∃ t, X.mg x = some (.str z t)) (hg : Gl X x := by rfl) (hd : (x == ("__debug__" : Str)) = false := by decide) : PE X (.Name x pos) (tC (.str z)) := by
  obtain ⟨t, e⟩ := h
  exact pe_glob hg e ⟨t, rfl⟩ hd
theorem pe_gr {x : Str} {a : Addr} {pos : Pos} (h : X.mg x = some (.ref a)) (hg : Gl X x := by rfl) (hd : (x == ("__debug__" : Str)) = false := by decide) : PE X (.Name x pos) (tC (.ref a)) := pe_glob hg h rfl hd
theorem pe_ty {x : Str} {T : String} {pos : Pos} (hm : X.mg x = none) (hv : bootBuiltins x = some (.type T)) (hg : Gl X x := by rfl) (hn : x ≠ "__name__" := by decide) (hd : (x == ("__debug__" : Str)) = false := by decide) : PE X (.Name x pos) (tC (.ty T)) := pe_bltn hg hm hv rfl hn hd
end
end Fl
set_option maxHeartbeats 2000000
namespace Fl
open PySem PySem.Spec PyProof.Rows L2 Evl
section
variable {P : Program} {w : World} {K : PySem.W.Frag} {C : Addr}
theorem dop_of {f : Value → Value → Sem Value} {r : R2} {x y z : D} (hr : ∀ X, Good P w K X → OpR X f r) (h : ∀ H v u, Rp C H v x → Rp C H u y → ∀ Q : VK, (∀ o H2, Ex H H2 → Rp C H2 o z → Q o H2) → r v u H Q) : DOp C (rB P w K f) x y z :=
  fun H v u rx ry Q q => ⟨r, hr, h H v u rx ry Q q⟩
theorem o_add {i j : Int} : DOp C (rB P w K (binaryOp .Add)) (.int i) (.int j) (.int (i + j)) := dop_of (fun _ _ => op_add) fun H v u rx ry Q q => ⟨i, j, rx, ry, q _ H (Ex.refl H) rfl⟩
theorem o_sub {i j : Int} : DOp C (rB P w K (binaryOp .Sub)) (.int i) (.int j) (.int (i - j)) := dop_of (fun _ _ => op_sub) fun H v u rx ry Q q => ⟨i, j, rx, ry, q _ H (Ex.refl H) rfl⟩
theorem o_mul {i j : Int} (h : -(2 ^ 64) < i ∧ i < 2 ^ 64) : DOp C (rB P w K (binaryOp .Mult)) (.int i) (.int j) (.int (i * j)) := dop_of (fun _ _ => op_mul) fun H v u rx ry Q q => ⟨i, j, rx, ry, .inl h, q _ H (Ex.refl H) rfl⟩
theorem o_mod {i j : Int} (h : 0 < j) : DOp C (rB P w K (binaryOp .Mod)) (.int i) (.int j) (.int (i % j)) := dop_of (fun _ _ => op_mod) fun H v u rx ry Q q => ⟨i, j, rx, ry, h, q _ H (Ex.refl H) rfl⟩
theorem o_fdiv {i j : Int} (h : CDiv i j) : DOp C (rB P w K (binaryOp .FloorDiv)) (.int i) (.int j) (.int (i / j)) := dop_of (fun _ _ => op_fdiv) fun H v u rx ry Q q => ⟨i, j, rx, ry, h, q _ H (Ex.refl H) rfl⟩
theorem o_shl {i j : Int} (h : CPow i j) : DOp C (rB P w K (binaryOp .LShift)) (.int i) (.int j) (.int (i * 2 ^ j.toNat)) := dop_of (fun _ _ => op_shl) fun H v u rx ry Q q => ⟨i, j, rx, ry, h, q _ H (Ex.refl H) rfl⟩
theorem o_pow {i j : Int} (h : CPow i j) : DOp C (rB P w K (binaryOp .Pow)) (.int i) (.int j) (.int (i ^ j.toNat)) := dop_of (fun _ _ => op_pow) fun H v u rx ry Q q => ⟨i, j, rx, ry, h, q _ H (Ex.refl H) rfl⟩
theorem o_shr {i j : Int} (h : 0 ≤ j) : DOp C (rB P w K (binaryOp .RShift)) (.int i) (.int j) (.int (i / 2 ^ j.toNat)) := dop_of (fun _ _ => op_shr) fun H v u rx ry Q q => ⟨i, j, rx, ry, h, q _ H (Ex.refl H) rfl⟩
theorem o_and {i j : Int} : DOp C (rB P w K (binaryOp .BitAnd)) (.int i) (.int j) (.int (Builtin.bitAnd i j)) := dop_of (fun _ _ => op_and) fun H v u rx ry Q q => ⟨i, j, rx, ry, q _ H (Ex.refl H) rfl⟩
theorem o_lt {i j : Int} : DOp C (rB P w K (compareOp .Lt)) (.int i) (.int j) (.bl (decide (i < j))) := dop_of (fun _ _ => op_lt) fun H v u rx ry Q q => ⟨i, j, rx, ry, q _ H (Ex.refl H) rfl⟩
theorem o_le {i j : Int} : DOp C (rB P w K (compareOp .LtE)) (.int i) (.int j) (.bl (decide (i ≤ j))) := dop_of (fun _ _ => op_le) fun H v u rx ry Q q => ⟨i, j, rx, ry, q _ H (Ex.refl H) rfl⟩
theorem o_gt {i j : Int} : DOp C (rB P w K (compareOp .Gt)) (.int i) (.int j) (.bl (decide (j < i))) := dop_of (fun _ _ => op_gt) fun H v u rx ry Q q => ⟨i, j, rx, ry, q _ H (Ex.refl H) rfl⟩
theorem o_ge {i j : Int} : DOp C (rB P w K (compareOp .GtE)) (.int i) (.int j) (.bl (decide (j ≤ i))) := dop_of (fun _ _ => op_ge) fun H v u rx ry Q q => ⟨i, j, rx, ry, q _ H (Ex.refl H) rfl⟩
theorem o_adds {i j : Str} (h : i.length + j.length ≤ 100000) : DOp C (rB P w K (binaryOp .Add)) (.str i) (.str j) (.str (i ++ j)) := dop_of (fun _ _ => op_add_str) fun H v u rx ry Q q => ⟨i, j, rx, ry, sz_of h, q _ H (Ex.refl H) rfl⟩
theorem o_addl {xs ys : List D} (h : xs.length + ys.length ≤ 100000) : DOp C (rB P w K (binaryOp .Add)) (.lst xs) (.lst ys) (.lst (xs ++ ys)) := dop_of (fun _ _ => op_cat) fun H v u ⟨a, vs, e1, e2, e3⟩ ⟨b, us, f1, f2, f3⟩ Q q =>
  ⟨a, b, vs, us, e1, f1, e2, f2, by rw [e3.length, f3.length]; exact sz_of h, fun p hp => q _ _ (Ex.new hp) ⟨p, _, rfl, upd_same, (e3.append f3).ex (Ex.new hp)⟩⟩
theorem RpL.rep {H : Hp} {xs : List D} {vs : List V} (h : RpL C H vs xs) : ∀ n : Nat, RpL C H (List.replicate n vs).flatten (List.replicate n xs).flatten
  | 0 => True.intro
  | n + 1 => by
    rw [List.replicate_succ, List.replicate_succ, List.flatten_cons, List.flatten_cons]
    exact h.append (RpL.rep h n)
theorem o_rep {xs : List D} {k : Int} (h0 : -(2 ^ 62) ≤ k ∧ k < 2 ^ 62) (h : xs.length * k.toNat ≤ 100000) : DOp C (rB P w K (binaryOp .Mult)) (.lst xs) (.int k) (.lst (List.replicate k.toNat xs).flatten) := dop_of (fun _ _ => op_rep) fun H v u ⟨a, vs, e1, e2, e3⟩ ry Q q =>
  ⟨a, k, vs, e1, ry, e2, by omega, by omega, by rw [e3.length]; exact sz_of h, fun p hp => q _ _ (Ex.new hp) ⟨p, _, rfl, upd_same, (e3.rep k.toNat).ex (Ex.new hp)⟩⟩
def D.sc : D → Bool
  | .non => true
  | .bl _ => true
  | .int _ => true
  | .str _ => true
  | _ => false
def D.v : D → V
  | .non => .non
  | .bl b => .bl b
  | .int i => .int i
  | .str s => .str s
  | _ => .non
theorem Rp.v {H : Hp} {v : V} {d : D} (h : d.sc = true) (r : Rp C H v d) : v = d.v := by
  cases d <;> first | exact r | cases h
theorem Rp.of_v {H : Hp} {d : D} (h : d.sc = true) : Rp C H d.v d := by
  cases d <;> first | rfl | cases h
theorem o_eq {x y : D} (hx : x.sc = true) (hy : y.sc = true) (hs : scal x.v y.v = true) : DOp C (rB P w K (compareOp .Eq)) x y (.bl (decide (x.v = y.v))) := dop_of (fun _ _ => op_eq) fun H v u rx ry Q q => by
  rw [rx.v hx, ry.v hy]
  exact ⟨hs, q _ H (Ex.refl H) rfl⟩
theorem o_ne {x y : D} (hx : x.sc = true) (hy : y.sc = true) (hs : scal x.v y.v = true) : DOp C (rB P w K (compareOp .NotEq)) x y (.bl (!decide (x.v = y.v))) := dop_of (fun _ _ => op_ne) fun H v u rx ry Q q => by
  rw [rx.v hx, ry.v hy]
  exact ⟨hs, q _ H (Ex.refl H) rfl⟩
theorem o_eqi {i j : Int} : DOp C (rB P w K (compareOp .Eq)) (.int i) (.int j) (.bl (decide (i = j))) := by
  have h := o_eq (P := P) (w := w) (K := K) (C := C) (x := .int i) (y := .int j) rfl rfl rfl
  have e : decide ((D.int i).v = (D.int j).v) = decide (i = j) := by simp [D.v]
  rw [e] at h
  exact h
theorem o_nei {i j : Int} : DOp C (rB P w K (compareOp .NotEq)) (.int i) (.int j) (.bl (!decide (i = j))) := by
  have h := o_ne (P := P) (w := w) (K := K) (C := C) (x := .int i) (y := .int j) rfl rfl rfl
  have e : decide ((D.int i).v = (D.int j).v) = decide (i = j) := by simp [D.v]
  rw [e] at h
  exact h
theorem o_eqs {i j : Str} : DOp C (rB P w K (compareOp .Eq)) (.str i) (.str j) (.bl (decide (i = j))) := by
  have h := o_eq (P := P) (w := w) (K := K) (C := C) (x := .str i) (y := .str j) rfl rfl rfl
  have e : decide ((D.str i).v = (D.str j).v) = decide (i = j) := by simp [D.v]
  rw [e] at h
  exact h
theorem o_nes {i j : Str} : DOp C (rB P w K (compareOp .NotEq)) (.str i) (.str j) (.bl (!decide (i = j))) := by
  have h := o_ne (P := P) (w := w) (K := K) (C := C) (x := .str i) (y := .str j) rfl rfl rfl
  have e : decide ((D.str i).v = (D.str j).v) = decide (i = j) := by simp [D.v]
  rw [e] at h
  exact h
def D.isN : D → Bool
  | .non => true
  | _ => false
theorem Rp.isN {H : Hp} {v : V} {d : D} (r : Rp C H v d) : decide (v = V.non) = d.isN := by
  cases d with
  | non => exact decide_eq_true r
  | bl b => exact decide_eq_false fun e => by rw [show v = V.bl b from r] at e; cases e
  | int b => exact decide_eq_false fun e => by rw [show v = V.int b from r] at e; cases e
  | str b => exact decide_eq_false fun e => by rw [show v = V.str b from r] at e; cases e
  | tup ds => obtain ⟨a, xs, e, _⟩ := r; exact decide_eq_false fun z => by rw [e] at z; cases z
  | lst ds => obtain ⟨a, xs, e, _⟩ := r; exact decide_eq_false fun z => by rw [e] at z; cases z
  | dk ds => obtain ⟨a, xs, e, _⟩ := r; exact decide_eq_false fun z => by rw [e] at z; cases z
  | dt ds => obtain ⟨a, xs, e, _⟩ := r; exact decide_eq_false fun z => by rw [e] at z; cases z
  | book a b => obtain ⟨a, dx, r, l, e, _⟩ := r; exact decide_eq_false fun z => by rw [e] at z; cases z
  | ty b => exact decide_eq_false fun e => by rw [show v = V.ty b from r] at e; cases e
  | cr => exact decide_eq_false fun e => by rw [show v = V.ref C from r] at e; cases e
theorem o_isN {x : D} : DOp C (rB P w K (compareOp .Is)) x .non (.bl x.isN) := dop_of (fun _ _ => op_isN) fun H v u rx ry Q q => ⟨ry, by rw [rx.isN]; exact q _ H (Ex.refl H) rfl⟩
theorem o_notN {x : D} : DOp C (rB P w K (compareOp .IsNot)) x .non (.bl (!x.isN)) := dop_of (fun _ _ => op_notN) fun H v u rx ry Q q => ⟨ry, by rw [rx.isN]; exact q _ H (Ex.refl H) rfl⟩
theorem o_insign {c : Nat} {z : Str} : DOp C (rB P w K (compareOp .In)) (.str ⟨#[c]⟩) (.str z) (.bl (decide (c ∈ z.cps.toList))) := dop_of (fun _ _ => op_in_sign) fun H v u rx ry Q q => ⟨c, z, rx, ry, q _ H (Ex.refl H) rfl⟩
theorem o_ninsign {c : Nat} {z : Str} : DOp C (rB P w K (compareOp .NotIn)) (.str ⟨#[c]⟩) (.str z) (.bl (!decide (c ∈ z.cps.toList))) := dop_of (fun _ _ => op_notIn_sign) fun H v u rx ry Q q => ⟨c, z, rx, ry, q _ H (Ex.refl H) rfl⟩
theorem inV_strs {z : Str} : ∀ {zs : List Str}, inV (.str z) (zs.map V.str) = decide (z ∈ zs)
  | [] => by simp [inV]
  | a :: r => by
    have ih := inV_strs (z := z) (zs := r)
    unfold inV at ih ⊢
    rw [List.map_cons, List.any_cons, ih]
    have e : eqV (V.str a) (V.str z) = (a == z) := rfl
    rw [e, Bool.eq_iff_iff]
    simp only [Bool.or_eq_true, beq_iff_eq, decide_eq_true_eq, List.mem_cons]
    constructor
    · rintro (h | h)
      · exact Or.inl h.symm
      · exact Or.inr h
    · rintro (h | h)
      · exact Or.inl h.symm
      · exact Or.inr h
theorem flat_strs {zs : List Str} : (zs.map V.str).all flatV = true := List.all_eq_true.mpr fun v hv => by
  obtain ⟨z, _, rfl⟩ := List.mem_map.mp hv
  rfl
theorem o_intup {z : Str} {zs : List Str} : DOp C (rB P w K (compareOp .In)) (.str z) (.tup (zs.map D.str)) (.bl (decide (z ∈ zs))) := dop_of (r := rIn K false) (fun X g => g.K ▸ op_in_seq) fun H v u rx ⟨a, xs, e1, e2, e3⟩ Q q => by
  have ex : xs = zs.map V.str := e3.strs
  subst ex
  have rx : v = V.str z := rx
  subst rx
  refine ⟨a, _, e1, .inr (st_of e2), rfl, flat_strs, ?_⟩
  show Q (.bl (inV (.str z) (zs.map V.str))) H
  rw [inV_strs]
  exact q _ H (Ex.refl H) rfl
theorem o_nintup {z : Str} {zs : List Str} : DOp C (rB P w K (compareOp .NotIn)) (.str z) (.tup (zs.map D.str)) (.bl (!decide (z ∈ zs))) := dop_of (r := rIn K true) (fun X g => g.K ▸ op_notIn_seq) fun H v u rx ⟨a, xs, e1, e2, e3⟩ Q q => by
  have ex : xs = zs.map V.str := e3.strs
  subst ex
  have rx : v = V.str z := rx
  subst rx
  refine ⟨a, _, e1, .inr (st_of e2), rfl, flat_strs, ?_⟩
  show Q (.bl (!inV (.str z) (zs.map V.str))) H
  rw [inV_strs]
  exact q _ H (Ex.refl H) rfl
theorem o_inlst {z : Str} {zs : List Str} : DOp C (rB P w K (compareOp .In)) (.str z) (.lst (zs.map D.str)) (.bl (decide (z ∈ zs))) := dop_of (r := rIn K false) (fun X g => g.K ▸ op_in_seq) fun H v u rx ⟨a, xs, e1, e2, e3⟩ Q q => by
  have ex : xs = zs.map V.str := e3.strs
  subst ex
  have rx : v = V.str z := rx
  subst rx
  refine ⟨a, _, e1, .inl (sq_of e2), rfl, flat_strs, ?_⟩
  show Q (.bl (inV (.str z) (zs.map V.str))) H
  rw [inV_strs]
  exact q _ H (Ex.refl H) rfl
theorem o_ninlst {z : Str} {zs : List Str} : DOp C (rB P w K (compareOp .NotIn)) (.str z) (.lst (zs.map D.str)) (.bl (!decide (z ∈ zs))) := dop_of (r := rIn K true) (fun X g => g.K ▸ op_notIn_seq) fun H v u rx ⟨a, xs, e1, e2, e3⟩ Q q => by
  have ex : xs = zs.map V.str := e3.strs
  subst ex
  have rx : v = V.str z := rx
  subst rx
  refine ⟨a, _, e1, .inl (sq_of e2), rfl, flat_strs, ?_⟩
  show Q (.bl (!inV (.str z) (zs.map V.str))) H
  rw [inV_strs]
  exact q _ H (Ex.refl H) rfl
theorem atI_rel {H : Hp} {ds : List D} {xs : List V} {i : Int} {d : D} (h : RpL C H xs ds) (e : atI ds i = some d) : ∃ x, atI xs i = some x ∧ Rp C H x d := by
  unfold atI at e ⊢
  rw [h.length]
  cases q : ixN ds.length i with
  | none =>
    rw [q] at e
    cases e
  | some j =>
    rw [q] at e
    obtain ⟨x, h1, h2⟩ := h.get (i := j) (d := d) e
    exact ⟨x, h1, h2⟩
theorem o_ixt {ds : List D} {i : Int} {d : D} (h : atI ds i = some d) : DOp C (rI_ P w K) (.tup ds) (.int i) d := fun H v u ⟨a, xs, e1, e2, e3⟩ ry Q q => by
  obtain ⟨x, h1, h2⟩ := atI_rel e3 h
  exact ⟨rIxT K, fun X g => g.K ▸ ix_tup, a, xs, i, x, e1, ry, st_of e2, h1, q x H (Ex.refl H) h2⟩
theorem o_ixl {ds : List D} {i : Int} {d : D} (h : atI ds i = some d) : DOp C (rI_ P w K) (.lst ds) (.int i) d := fun H v u ⟨a, xs, e1, e2, e3⟩ ry Q q => by
  obtain ⟨x, h1, h2⟩ := atI_rel e3 h
  exact ⟨rIxL K, fun X g => g.K ▸ ix_list, a, xs, i, x, e1, ry, sq_of e2, h1, q x H (Ex.refl H) h2⟩
theorem o_ixs {z : Str} {i : Int} {c : Nat} (hl : z.length ≤ 100000) (h : atI z.cps.toList i = some c) : DOp C (rI_ P w K) (.str z) (.int i) (.str ⟨#[c]⟩) := fun H v u rx ry Q q =>
  ⟨rIxS, fun X g => ix_str, z, i, c, rx, ry, sz_of hl, h, q _ H (Ex.refl H) rfl⟩
theorem dcall_of {f : Value} {r : List V → Hp → VK → Prop} {xs : List D} {z : D} (hr : ∀ X, Good P w K X → CallR X f r) (h : ∀ H vs, RpL C H vs xs → ∀ Q : VK, (∀ o H2, Ex H H2 → Rp C H2 o z → Q o H2) → r vs H Q) : DCall C (rC P w K f) xs z :=
  fun H vs rx Q q => ⟨r, hr, h H vs rx Q q⟩
theorem RpL.one {H : Hp} {vs : List V} {x : D} (h : RpL C H vs [x]) : ∃ v, vs = [v] ∧ Rp C H v x := by
  match vs, h with
  | [v], h => exact ⟨v, rfl, h.1⟩
theorem RpL.two {H : Hp} {vs : List V} {x y : D} (h : RpL C H vs [x, y]) : ∃ v u, vs = [v, u] ∧ Rp C H v x ∧ Rp C H u y := by
  match vs, h with
  | [v, u], h => exact ⟨v, u, rfl, h.1, h.2.1⟩
theorem RpL.three {H : Hp} {vs : List V} {x y z : D} (h : RpL C H vs [x, y, z]) : ∃ v u o, vs = [v, u, o] ∧ Rp C H v x ∧ Rp C H u y ∧ Rp C H o z := by
  match vs, h with
  | [v, u, o], h => exact ⟨v, u, o, rfl, h.1, h.2.1, h.2.2.1⟩
theorem RpL.four {H : Hp} {vs : List V} {x y z t : D} (h : RpL C H vs [x, y, z, t]) : ∃ v u o m, vs = [v, u, o, m] ∧ Rp C H v x ∧ Rp C H u y ∧ Rp C H o z ∧ Rp C H m t := by
  match vs, h with
  | [v, u, o, m], h => exact ⟨v, u, o, m, rfl, h.1, h.2.1, h.2.2.1, h.2.2.2.1⟩
theorem RpL.nil {H : Hp} {vs : List V} (h : RpL C H vs []) : vs = [] := by
  match vs, h with
  | [], h => rfl
theorem k_lens {z : Str} (h : z.length ≤ 100000) : DCall C (rC P w K (.builtin "len")) [.str z] (.int z.length) := dcall_of (fun _ _ => call_len_str) fun H vs rx Q q => by
  obtain ⟨v, rfl, r⟩ := rx.one
  exact ⟨z, by rw [show v = V.str z from r], sz_of h, q _ H (Ex.refl H) rfl⟩
theorem k_lent {ds : List D} : DCall C (rC P w K (.builtin "len")) [.tup ds] (.int ds.length) := dcall_of (r := fun xs H Q => ∃ p ys, xs = [.ref p] ∧ (SqL K H p ys ∨ SqT K H p ys) ∧ Q (.int ys.length) H) (fun X g => g.K ▸ call_len_seq) fun H vs rx Q q => by
  obtain ⟨v, rfl, a, xs, rfl, e2, e3⟩ := rx.one
  refine ⟨a, xs, rfl, .inr (st_of e2), ?_⟩
  rw [e3.length]
  exact q _ H (Ex.refl H) rfl
theorem k_lenl {ds : List D} : DCall C (rC P w K (.builtin "len")) [.lst ds] (.int ds.length) := dcall_of (r := fun xs H Q => ∃ p ys, xs = [.ref p] ∧ (SqL K H p ys ∨ SqT K H p ys) ∧ Q (.int ys.length) H) (fun X g => g.K ▸ call_len_seq) fun H vs rx Q q => by
  obtain ⟨v, rfl, a, xs, rfl, e2, e3⟩ := rx.one
  refine ⟨a, xs, rfl, .inl (sq_of e2), ?_⟩
  rw [e3.length]
  exact q _ H (Ex.refl H) rfl
theorem k_all {bs : List Bool} : DCall C (rC P w K (.builtin "all")) [.lst (bs.map D.bl)] (.bl (bs.all id)) := dcall_of (r := rAll K) (fun X g => g.K ▸ cr_all g.calm) fun H vs rx Q q => by
  obtain ⟨v, rfl, a, xs, rfl, e2, e3⟩ := rx.one
  have ex := e3.bls
  subst ex
  exact ⟨a, bs, rfl, sq_of e2, q _ H (Ex.refl H) rfl⟩
theorem k_any {bs : List Bool} : DCall C (rC P w K (.builtin "any")) [.lst (bs.map D.bl)] (.bl (bs.any id)) := dcall_of (r := rAny K) (fun X g => g.K ▸ cr_any g.calm) fun H vs rx Q q => by
  obtain ⟨v, rfl, a, xs, rfl, e2, e3⟩ := rx.one
  have ex := e3.bls
  subst ex
  exact ⟨a, bs, rfl, sq_of e2, q _ H (Ex.refl H) rfl⟩
theorem k_sum {ns : List Int} : DCall C (rC P w K (.builtin "sum")) [.lst (ns.map D.int)] (.int ns.sum) := dcall_of (r := rSum K) (fun X g => g.K ▸ cr_sum g.calm) fun H vs rx Q q => by
  obtain ⟨v, rfl, a, xs, rfl, e2, e3⟩ := rx.one
  have ex := e3.ints
  subst ex
  exact ⟨a, ns, rfl, sq_of e2, q _ H (Ex.refl H) rfl⟩
theorem k_allM {α : Type} {xs : List α} {g : α → Bool} : DCall C (rC P w K (.builtin "all")) [.lst (xs.map fun a => D.bl (g a))] (.bl (xs.all g)) := by
  have h := k_all (P := P) (w := w) (K := K) (C := C) (bs := xs.map g)
  rw [List.map_map, List.all_map] at h
  exact h
theorem k_anyM {α : Type} {xs : List α} {g : α → Bool} : DCall C (rC P w K (.builtin "any")) [.lst (xs.map fun a => D.bl (g a))] (.bl (xs.any g)) := by
  have h := k_any (P := P) (w := w) (K := K) (C := C) (bs := xs.map g)
  rw [List.map_map, List.any_map] at h
  exact h
theorem k_sumM {α : Type} {xs : List α} {g : α → Int} : DCall C (rC P w K (.builtin "sum")) [.lst (xs.map fun a => D.int (g a))] (.int (xs.map g).sum) := by
  have h := k_sum (P := P) (w := w) (K := K) (C := C) (ns := xs.map g)
  rw [List.map_map] at h
  exact h
theorem k_max2 {i j : Int} : DCall C (rC P w K (.builtin "max")) [.int i, .int j] (.int (if j > i then j else i)) := dcall_of (fun X g => call_max2 g.calm) fun H vs rx Q q => by
  obtain ⟨v, u, rfl, r1, r2⟩ := rx.two
  exact ⟨i, j, by rw [show v = V.int i from r1, show u = V.int j from r2], q _ H (Ex.refl H) rfl⟩
theorem k_min2 {i j : Int} : DCall C (rC P w K (.builtin "min")) [.int i, .int j] (.int (if j < i then j else i)) := dcall_of (fun X g => call_min2 g.calm) fun H vs rx Q q => by
  obtain ⟨v, u, rfl, r1, r2⟩ := rx.two
  exact ⟨i, j, by rw [show v = V.int i from r1, show u = V.int j from r2], q _ H (Ex.refl H) rfl⟩
theorem k_tuple {ds : List D} : DCall C (rC P w K (.type "tuple")) [.lst ds] (.tup ds) := dcall_of (r := fun xs H Q => ∃ p ys, xs = [.ref p] ∧ ((SqL K H p ys ∧ ∀ l, H l = none → Q (.ref l) (upd H l (.tup ys))) ∨ (SqT K H p ys ∧ Q (.ref p) H))) (fun X g => g.K ▸ call_tuple_of) fun H vs rx Q q => by
  obtain ⟨v, rfl, a, xs, rfl, e2, e3⟩ := rx.one
  exact ⟨a, xs, rfl, .inl ⟨sq_of e2, fun p hp => q _ _ (Ex.new hp) ⟨p, xs, rfl, upd_same, e3.ex (Ex.new hp)⟩⟩⟩
theorem k_list {ds : List D} : DCall C (rC P w K (.type "list")) [.tup ds] (.lst ds) := dcall_of (r := fun xs H Q => ∃ p ys, xs = [.ref p] ∧ (SqL K H p ys ∨ SqT K H p ys) ∧ ∀ l, H l = none → Q (.ref l) (upd H l (.lst ys))) (fun X g => g.K ▸ call_list_of) fun H vs rx Q q => by
  obtain ⟨v, rfl, a, xs, rfl, e2, e3⟩ := rx.one
  exact ⟨a, xs, rfl, .inr (st_of e2), fun p hp => q _ _ (Ex.new hp) ⟨p, xs, rfl, upd_same, e3.ex (Ex.new hp)⟩⟩
theorem k_intb {b : Bool} : DCall C (rC P w K (.type "int")) [.bl b] (.int (if b then 1 else 0)) := dcall_of (fun X g => call_int1) fun H vs rx Q q => by
  obtain ⟨v, rfl, r⟩ := rx.one
  exact .inr ⟨b, by rw [show v = V.bl b from r], q _ H (Ex.refl H) rfl⟩
theorem k_str {i : Int} (h : i.natAbs.log2 < 1920) : DCall C (rC P w K (.type "str")) [.int i] (.str (toString i)) := dcall_of (fun X g => call_str_int) fun H vs rx Q q => by
  obtain ⟨v, rfl, r⟩ := rx.one
  exact ⟨i, by rw [show v = V.int i from r], h, q _ H (Ex.refl H) rfl⟩
def D.tyN : D → Option String
  | .non => some "NoneType"
  | .bl _ => some "bool"
  | .int _ => some "int"
  | .str _ => some "str"
  | .tup _ => some "tuple"
  | .lst _ => some "list"
  | _ => none
theorem Rp.ty {H : Hp} {v : V} {d : D} {n : String} (h : d.tyN = some n) (r : Rp C H v d) : TyX K H v (.type n) := by
  cases d with
  | non => cases h; cases (show v = V.non from r); exact .base .non
  | bl b => cases h; cases (show v = V.bl b from r); exact .base (.bl _)
  | int b => cases h; cases (show v = V.int b from r); exact .base (.int _)
  | str b => cases h; cases (show v = V.str b from r); exact .base (.str _)
  | tup ds => cases h; obtain ⟨a, xs, rfl, e, _⟩ := r; exact .base (.tup e)
  | lst ds => cases h; obtain ⟨a, xs, rfl, e, _⟩ := r; exact .base (.lst e)
  | _ => cases h
theorem k_isi {x : D} {t n : String} {b : Bool} (hx : x.tyN = some t) (h : kitB t n = some b) : DCall C (rC P w K (.builtin "isinstance")) [x, .ty n] (.bl b) := dcall_of (r := rIsi K) (fun X g => g.K ▸ call_isi) fun H vs rx Q q => by
  obtain ⟨v, u, rfl, r1, r2⟩ := rx.two
  exact ⟨v, u, .type t, .type n, b, rfl, by rw [show u = V.ty n from r2]; exact .ty n, r1.ty hx, kit_ty h, q _ H (Ex.refl H) rfl⟩
theorem k_isB {rs ls : D} (h : C8.InsC K C) : DCall C (rC P w K (.builtin "isinstance")) [.book rs ls, .cr] (.bl true) := dcall_of (r := fun xs H Q => ∃ a dx fs, xs = [.ref a, .ref C] ∧ H a = some (.ins C dx fs) ∧ Q (.bl true) H) (fun X g => by
    have h' : C8.InsC X.K C := g.K.symm ▸ h
    exact C8.call_isC h') fun H vs rx Q q => by
  obtain ⟨v, u, rfl, ⟨a, dx, r, l, e1, e2, _⟩, r2⟩ := rx.two
  exact ⟨a, dx, _, by rw [e1, show u = V.ref C from r2], e2, q _ H (Ex.refl H) rfl⟩
theorem kit_ii : kitB "int" "int" = some true := by decide +kernel
theorem kit_ib : kitB "int" "bool" = some false := by decide +kernel
theorem kit_ss : kitB "str" "str" = some true := by decide +kernel
theorem kit_tt : kitB "tuple" "tuple" = some true := by decide +kernel
end
end Fl
set_option maxHeartbeats 2000000
namespace Fl
open PySem PySem.Spec PyProof.Rows L2 Evl

structure DWalk (C : Addr) (J : It) (H : Hp) (ds : List D) (A : List Addr) : Prop where
  ex : ∃ (G : Hp → Prop) (Y : Nat → Hp → V → Hp → Prop), Walk J ds.length G Y ∧ (∀ H', (∀ a ∈ A, H' a = H a) → Tx H H' → G H') ∧
    ∀ i H1 x H2, i < ds.length → (∀ a ∈ A, H1 a = H a) → Tx H H1 → Y i H1 x H2 → Ex H1 H2 ∧ ∃ d, ds[i]? = some d ∧ (Ex H H1 ∨ d.fz = true → Rp C H2 x d)
def EvI (C : Addr) (wi : TI) (σ : L2.St) (H : Hp) (ds : List D) (B : Hp → Addr → Prop) : Prop := ∀ H1, Ex H H1 → ∀ R : It → Hp → Prop, (∀ J A H2, Ex H1 H2 → DWalk C J H2 ds A → (∀ a ∈ A, B H1 a ∧ ∃ o, H2 a = some o) → R J H2) → wi σ H1 R
def B0 : Hp → Addr → Prop := fun _ _ => False
def BN : Hp → Addr → Prop := fun H a => H a = none
section
variable {P : Program} {w : World} {K : PySem.W.Frag} {C : Addr} {te : TE} {ta : TA} {σ : L2.St} {H H' : Hp} {ds : List D} {tg : Expr}
theorem EvI.mono {wi : TI} {B : Hp → Addr → Prop} (e : Ex H H') (h : EvI C wi σ H ds B) : EvI C wi σ H' ds B := fun H1 a R q => h H1 (e.trans a) R q
theorem dw_tup {a : Addr} {xs : List V} (h : H a = some (.tup xs)) (r : RpL C H xs ds) : DWalk C (Itt K a) H ds [] := by
  refine ⟨fun H' => SqT K H' a xs, YAt xs, ?_, fun H' _ t => st_of (t a _ h), fun i H1 x H2 hi _ t y => ?_⟩
  · have w := walk_tup (K := K) (a := a) (xs := xs)
    rw [r.length] at w
    exact w
  · obtain ⟨rfl, e⟩ := y
    obtain ⟨d, e1, e2⟩ := r.getV e
    exact ⟨Ex.refl _, d, e1, fun z => z.elim (fun e => e2.ex e) fun z => e2.fz t z⟩
theorem dw_lst {a : Addr} {xs : List V} (h : H a = some (.lst xs)) (r : RpL C H xs ds) : DWalk C (Itl K a) H ds [a] := by
  refine ⟨fun H' => SqL K H' a xs, YAt xs, ?_, fun H' e _ => sq_of ((e a List.mem_cons_self).trans h), fun i H1 x H2 hi _ t y => ?_⟩
  · have w := walk_list (K := K) (a := a) (xs := xs)
    rw [r.length] at w
    exact w
  · obtain ⟨rfl, e⟩ := y
    obtain ⟨d, e1, e2⟩ := r.getV e
    exact ⟨Ex.refl _, d, e1, fun z => z.elim (fun e => e2.ex e) fun z => e2.fz t z⟩
theorem dw_str {z : Str} : DWalk C (Its z) H (z.cps.toList.map fun c => D.str ⟨#[c]⟩) [] := by
  refine ⟨fun _ => True, fun i H v H' => H' = H ∧ ∃ c, z.cps[i]? = some c ∧ v = .str ⟨#[c]⟩, ?_, fun _ _ _ => True.intro, fun i H1 x H2 hi _ t y => ?_⟩
  · have w := walk_str (z := z)
    rw [show z.cps.size = (z.cps.toList.map fun c => D.str ⟨#[c]⟩).length by simp] at w
    exact w
  · obtain ⟨rfl, c, e1, e2⟩ := y
    exact ⟨Ex.refl _, D.str ⟨#[c]⟩, by simp [List.getElem?_map, e1], fun _ => e2⟩
abbrev rangeD (lo : Int) (n : Nat) : List D := (List.range n).map fun i => D.int (lo + (i : Nat))
theorem dw_range {lo : Int} {n : Nat} : DWalk C (Itr lo n) H (rangeD lo n) [] := by
  refine ⟨fun _ => True, YFn fun i => .int (lo + i), ?_, fun _ _ _ => True.intro, fun i H1 x H2 hi _ t y => ?_⟩
  · have w := walk_range (lo := lo) (n := n)
    have e : n = (rangeD lo n).length := by simp [rangeD]
    have w2 : Walk (Itr lo n) (rangeD lo n).length (fun _ => True) (YFn fun i => .int (lo + i)) := by rw [← e]; exact w
    exact w2
  · obtain ⟨rfl, e2⟩ := y
    have hi' : i < n := by simpa [rangeD] using hi
    exact ⟨Ex.refl _, D.int (lo + (i : Nat)), by simp [rangeD, hi'], fun _ => e2⟩
theorem ei_tup (h : Ed C te σ H (.tup ds)) : EvI C (iB P w K tg te) σ H ds B0 := fun H1 e R q => h H1 e _ fun v H2 e2 ⟨a, xs, e3, e4, e5⟩ =>
  ⟨_, fun X g => g.K ▸ it_tup, a, e3, ⟨xs, st_of e4⟩, q _ [] H2 e2 (dw_tup e4 e5) fun a ha => nomatch ha⟩
theorem ei_str {z : Str} (h : Ed C te σ H (.str z)) : EvI C (iB P w K tg te) σ H (z.cps.toList.map fun c => D.str ⟨#[c]⟩) B0 := fun H1 e R q => h H1 e _ fun v H2 e2 r =>
  ⟨_, fun X g => it_str, z, r, q _ [] H2 e2 dw_str fun a ha => nomatch ha⟩
theorem ei_lst (h : Ed C te σ H (.lst ds)) : EvI C (iB P w K tg te) σ H ds fun _ _ => True := fun H1 e R q => h H1 e _ fun v H2 e2 ⟨a, xs, e3, e4, e5⟩ =>
  ⟨_, fun X g => g.K ▸ it_list, a, e3, ⟨xs, sq_of e4⟩, q _ [a] H2 e2 (dw_lst e4 e5) fun b hb => ⟨True.intro, by
    have e : b = a := by simpa using hb
    rw [e]
    exact ⟨_, e4⟩⟩⟩
theorem ei_new (h : EvP te σ H fun v H2 => Rp C H2 v (.lst ds) ∧ Nw H v (.lst ds)) : EvI C (iB P w K tg te) σ H ds fun H1 a => H a = none := fun H1 e R q => h H1 e _ fun v H2 e2 ⟨⟨a, xs, e3, e4, e5⟩, nw⟩ =>
  ⟨_, fun X g => g.K ▸ it_list, a, e3, ⟨xs, sq_of e4⟩, q _ [a] H2 e2 (dw_lst e4 e5) fun b hb => by
    have e : b = a := by simpa using hb
    rw [e]
    exact ⟨nw rfl a e3, _, e4⟩⟩
theorem ei_range1 {n : Int} (h : EdA C ta σ H [.int n]) (hn : -(2 ^ 61) ≤ n ∧ n < 2 ^ 61) : EvI C (iRng1 ta) σ H (rangeD 0 n.toNat) B0 := fun H1 e R q => h H1 e _ fun vs H2 e2 r => by
  obtain ⟨v, rfl, r1⟩ := r.one
  have r' : v = V.int n := by assumption
  exact ⟨n, by rw [r'], by omega, by omega, q _ [] H2 e2 dw_range fun a ha => nomatch ha⟩
theorem ei_range2 {m n : Int} (h : EdA C ta σ H [.int m, .int n]) (hm : -(2 ^ 61) ≤ m ∧ m < 2 ^ 61) (hn : -(2 ^ 61) ≤ n ∧ n < 2 ^ 61) : EvI C (iRng2 ta) σ H (rangeD m (n - m).toNat) B0 := fun H1 e R q => h H1 e _ fun vs H2 e2 r => by
  obtain ⟨v, u, rfl, r1, r2⟩ := r.two
  exact ⟨m, n, by rw [show v = V.int m from r1, show u = V.int n from r2], ⟨by omega, by omega, by omega, by omega⟩, q _ [] H2 e2 dw_range fun a ha => nomatch ha⟩
end
section
variable {K : PySem.W.Frag} {C : Addr} {σ : L2.St} {H : Hp} {x : V} {k : L2.St → Hp → Prop}
theorem g_tup2 {d1 d2 : D} {g1 g2 : TG} (r : Rp C H x (.tup [d1, d2])) (h : ∀ v1 v2, Rp C H v1 d1 → Rp C H v2 d2 → g1 v1 σ H fun σ1 H1 => g2 v2 σ1 H1 k) : gTup K 2 (gCons g1 (gCons g2 gNil)) x σ H k := by
  obtain ⟨a, xs, e1, e2, e3⟩ := r
  obtain ⟨v1, v2, rfl, r1, r2⟩ := e3.two
  exact ⟨a, _, e1, st_of e2, rfl, v1, [v2], rfl, by
    have h' := h v1 v2 r1 r2
    have m : ∀ σ1 H1, g2 v2 σ1 H1 k → gCons g2 gNil [v2] σ1 H1 k := fun σ1 H1 z => ⟨v2, [], rfl, by
      have e : k = fun σ' H' => gNil [] σ' H' k := by
        funext σ' H'
        exact propext ⟨fun z => ⟨rfl, z⟩, fun z => z.2⟩
      rw [e] at z
      exact z⟩
    have e : (fun σ1 H1 => g2 v2 σ1 H1 k) = fun σ1 H1 => gCons g2 gNil [v2] σ1 H1 k := by
      funext σ1 H1
      refine propext ⟨m σ1 H1, fun z => ?_⟩
      obtain ⟨v, r, q, z⟩ := z
      cases q
      have e : k = fun σ' H' => gNil [] σ' H' k := by
        funext σ' H'
        exact propext ⟨fun z => ⟨rfl, z⟩, fun z => z.2⟩
      rw [e]
      exact z
    rw [e] at h'
    exact h'⟩
theorem g_two {i j : Nat} {d1 d2 : D} (r : Rp C H x (.tup [d1, d2])) (h : ∀ v1 v2, Rp C H v1 d1 → Rp C H v2 d2 → k ((σ.set i (some v1)).set j (some v2)) H) : gTup K 2 (gCons (gName i) (gCons (gName j) gNil)) x σ H k := g_tup2 r h
theorem g_four {i1 i2 i3 i4 : Nat} {d1 d2 d3 d4 : D} (r : Rp C H x (.tup [d1, d2, d3, d4])) (h : ∀ v1 v2 v3 v4, Rp C H v1 d1 → Rp C H v2 d2 → Rp C H v3 d3 → Rp C H v4 d4 → k ((((σ.set i1 (some v1)).set i2 (some v2)).set i3 (some v3)).set i4 (some v4)) H) :
    gTup K 4 (gCons (gName i1) (gCons (gName i2) (gCons (gName i3) (gCons (gName i4) gNil)))) x σ H k := by
  obtain ⟨a, xs, e1, e2, e3⟩ := r
  obtain ⟨v1, v2, v3, v4, rfl, r1, r2, r3, r4⟩ := e3.four
  exact ⟨a, _, e1, st_of e2, rfl, v1, _, rfl, v2, _, rfl, v3, _, rfl, v4, _, rfl, rfl, h v1 v2 v3 v4 r1 r2 r3 r4⟩
end

section
variable {P : Program} {w : World} {K : PySem.W.Frag} {C : Addr} {σ : L2.St} {H : Hp} {ds : List D}
theorem rpl_upd {H : Hp} {p : Addr} {xs ys : List V} {ds : List D} {o : HO} (h : H p = some (.lst ys)) (hz : fzL ds = true) (r : RpL C H xs ds) : RpL C (upd H p o) xs ds := r.fz (Tx.lst h) hz
theorem ev_lc {α : Type} {wi : TI} {g : TG} {tt : TT} {te : TE} {vs : List Nat} {B : Hp → Addr → Prop} {xs : List α} {F : α → D} (keep : α → Bool) (f : α → D) (h : EvI C wi σ H (xs.map F) B) (hl : xs.length ≤ 40000) (hz : ∀ a ∈ xs, keep a = true → (f a).fz = true)
    (hs : ∀ (i : Nat) (a : α) (x : V) (H1 : Hp), xs[i]? = some a → Ex H H1 → Rp C H1 x (F a) → ∀ k : L2.St → Hp → Prop, (∀ σ2, wipe σ2 vs = wipe σ vs → EvT tt σ2 H1 (keep a) → (keep a = true → Ed C te σ2 H1 (f a)) → k σ2 H1) → g x (wipe σ vs) H1 k) :
    EvP (tLc wi g tt te vs) σ H fun v H2 => Rp C H2 v (.lst ((xs.filter keep).map f)) ∧ Nw H v (.lst ((xs.filter keep).map f)) := fun H0 e Q q => h H0 e _ fun J A H1 e1 dw hA Dl hD => by
  obtain ⟨G, Y, wk, hG, hY⟩ := dw.ex
  refine lc_it wk (fun i H' => Ex H1 H' ∧ ∃ acc, H' Dl = some (.lst acc) ∧ RpL C H' acc (((xs.take i).filter keep).map f)) ⟨Ex.new hD, [], upd_same, by simp [RpL]⟩ (fun i H' _ p => hG H' (fun a ha => by
      obtain ⟨_, o, ho⟩ := hA a ha
      rw [ho]
      exact p.1 a _ ho) (Tx.ex p.1)) (fun i x H2 H3 hi p y => ?_) fun H' p => ?_
  · obtain ⟨p1, acc, p2, p3⟩ := p
    obtain ⟨e3, d, hd, hr⟩ := hY i H2 x H3 hi (fun a ha => by
      obtain ⟨_, o, ho⟩ := hA a ha
      rw [ho]
      exact p1 a _ ho) (Tx.ex p1) y
    have eH : Ex H1 H3 := p1.trans e3
    have hr := hr (.inl p1)
    obtain ⟨a, ha, rfl⟩ : ∃ a, xs[i]? = some a ∧ F a = d := by
      rw [List.getElem?_map] at hd
      cases q : xs[i]? with
      | none => rw [q] at hd; cases hd
      | some a => rw [q] at hd; exact ⟨a, rfl, Option.some.inj hd⟩
    have hmem : a ∈ xs := List.mem_of_getElem? ha
    have hlen : acc.length ≤ xs.length := by
      rw [p3.length, List.length_map]
      refine Nat.le_trans (List.length_filter_le _ _) ?_
      rw [List.length_take]
      omega
    have htake : xs.take (i + 1) = xs.take i ++ [a] := by
      rw [List.take_add_one, ha]
      rfl
    have hfz : fzL (((xs.take i).filter keep).map f) = true := fzL_map fun b hb => hz b (List.mem_of_mem_take (List.mem_filter.mp hb).1) (List.mem_filter.mp hb).2
    refine hs i a x H3 ha ((e.trans e1).trans eH) hr _ fun σ2 hw ht he => ⟨hw, ?_⟩
    refine ht H3 (Ex.refl _) _ fun H4 e4 => ?_
    cases hk : keep a with
    | false =>
      refine ⟨eH.trans e4, acc, e4 _ _ (e3 _ _ p2), ?_⟩
      rw [htake, List.filter_append, List.filter_cons, if_neg (by rw [hk]; decide), List.filter_nil, List.append_nil]
      exact p3.ex (e3.trans e4)
    | true =>
      refine he hk H4 e4 _ fun v H5 e5 r5 => ⟨acc, e5 _ _ (e4 _ _ (e3 _ _ p2)), sz_lt (by omega), Ex.mut ((eH.trans e4).trans e5) hD, acc ++ [v], upd_same, ?_⟩
      rw [htake, List.filter_append, List.filter_cons, if_pos hk, List.filter_nil, List.map_append]
      have hD5 : H5 Dl = some (.lst acc) := e5 _ _ (e4 _ _ (e3 _ _ p2))
      exact rpl_upd (p := Dl) hD5 (fzL_append hfz (fzL_iff.mpr fun z hz' => by
        have e : z = f a := by simpa using hz'
        rw [e]
        exact hz a hmem hk)) ((p3.ex ((e3.trans e4).trans e5)).snoc r5)
  · obtain ⟨p1, acc, p2, p3⟩ := p
    rw [List.length_map, List.take_length] at p3
    refine q (.ref Dl) H' (e1.trans p1) ⟨⟨Dl, acc, rfl, p2, p3⟩, fun _ a ea => ?_⟩
    cases ea
    exact fresh_back (e.trans e1) hD
theorem ed_lc {α : Type} {wi : TI} {g : TG} {tt : TT} {te : TE} {vs : List Nat} {B : Hp → Addr → Prop} {xs : List α} {F : α → D} (keep : α → Bool) (f : α → D) (h : EvI C wi σ H (xs.map F) B) (hl : xs.length ≤ 40000) (hz : ∀ a ∈ xs, keep a = true → (f a).fz = true)
    (hs : ∀ (i : Nat) (a : α) (x : V) (H1 : Hp), xs[i]? = some a → Ex H H1 → Rp C H1 x (F a) → ∀ k : L2.St → Hp → Prop, (∀ σ2, wipe σ2 vs = wipe σ vs → EvT tt σ2 H1 (keep a) → (keep a = true → Ed C te σ2 H1 (f a)) → k σ2 H1) → g x (wipe σ vs) H1 k) :
    Ed C (tLc wi g tt te vs) σ H (.lst ((xs.filter keep).map f)) := (ev_lc keep f h hl hz hs).imp fun _ _ _ p => p.1
theorem et_yes : EvT tYes σ H true := fun H1 _ _ q => q H1 (Ex.refl H1)
theorem ev_map {α : Type} {wi : TI} {g : TG} {te : TE} {vs : List Nat} {B : Hp → Addr → Prop} {xs : List α} {F : α → D} (f : α → D) (h : EvI C wi σ H (xs.map F) B) (hl : xs.length ≤ 40000) (hz : ∀ a ∈ xs, (f a).fz = true)
    (hs : ∀ (i : Nat) (a : α) (x : V) (H1 : Hp), xs[i]? = some a → Ex H H1 → Rp C H1 x (F a) → ∀ k : L2.St → Hp → Prop, (∀ σ2, wipe σ2 vs = wipe σ vs → Ed C te σ2 H1 (f a) → k σ2 H1) → g x (wipe σ vs) H1 k) :
    EvP (tLc wi g tYes te vs) σ H fun v H2 => Rp C H2 v (.lst (xs.map f)) ∧ Nw H v (.lst (xs.map f)) := by
  have h1 := ev_lc (tt := tYes) (te := te) (g := g) (vs := vs) (fun _ => true) f h hl (fun d hd _ => hz d hd) (fun i d x H1 hi e r k q => hs i d x H1 hi e r k fun σ2 hw he => q σ2 hw et_yes fun _ => he)
  have e : xs.filter (fun _ => true) = xs := List.filter_eq_self.mpr fun _ _ => rfl
  rw [e] at h1
  exact h1
theorem ed_map {α : Type} {wi : TI} {g : TG} {te : TE} {vs : List Nat} {B : Hp → Addr → Prop} {xs : List α} {F : α → D} (f : α → D) (h : EvI C wi σ H (xs.map F) B) (hl : xs.length ≤ 40000) (hz : ∀ a ∈ xs, (f a).fz = true)
    (hs : ∀ (i : Nat) (a : α) (x : V) (H1 : Hp), xs[i]? = some a → Ex H H1 → Rp C H1 x (F a) → ∀ k : L2.St → Hp → Prop, (∀ σ2, wipe σ2 vs = wipe σ vs → Ed C te σ2 H1 (f a) → k σ2 H1) → g x (wipe σ vs) H1 k) :
    Ed C (tLc wi g tYes te vs) σ H (.lst (xs.map f)) := (ev_map f h hl hz hs).imp fun _ _ _ p => p.1
end

section
variable {C : Addr} {σ : L2.St} {H : Hp} {d : D} {te : TE} {E : Ends} {tu tw tz : TS} {t : TT}
theorem sd_ret (h : EvP te σ H fun v H2 => Rp C H2 v d ∧ Nw H v d) (k : ∀ v H1, Ex H H1 → Rp C H1 v d → Nw H v d → E.rt v H1) : tRet te E σ H := h H (Ex.refl H) _ fun v H1 e p => k v H1 e p.1 p.2
theorem sd_retF (h : Ed C te σ H d) (hz : d.fz = true) (k : ∀ v H1, Ex H H1 → Rp C H1 v d → Nw H v d → E.rt v H1) : tRet te E σ H := h H (Ex.refl H) _ fun v H1 e p => k v H1 e p (.fz hz)
theorem qd_asg {i : Nat} (h : Ed C te σ H d) (k : ∀ v H1, Ex H H1 → Rp C H1 v d → tz E (σ.set i (some v)) H1) : tSeq (tAsg te (gName i)) tz E σ H := h H (Ex.refl H) _ fun v H1 e p => k v H1 e p
theorem qd_asgP {i : Nat} {Φ : V → Hp → Prop} (h : EvP te σ H Φ) (k : ∀ v H1, Ex H H1 → Φ v H1 → tz E (σ.set i (some v)) H1) : tSeq (tAsg te (gName i)) tz E σ H := h H (Ex.refl H) _ fun v H1 e p => k v H1 e p
theorem qd_if {b : Bool} (h : EvT t σ H b) (h1 : b = true → ∀ H1, Ex H H1 → tu { E with nx := tz E } σ H1) (h2 : b = false → ∀ H1, Ex H H1 → tw { E with nx := tz E } σ H1) : tSeq (tIfS t tu tw) tz E σ H := q_if h h1 h2
theorem qd_when {b : Bool} (h : EvT t σ H b) (h1 : b = true → ∀ H1, Ex H H1 → tu { E with nx := tz E } σ H1) (h2 : b = false → ∀ H1, Ex H H1 → tz E σ H1) : tSeq (tIfS t tu tNext) tz E σ H := q_when h h1 h2
theorem qd_no (h : EvT t σ H false) (h2 : ∀ H1, Ex H H1 → tz E σ H1) : tSeq (tIfS t tu tNext) tz E σ H := q_when h (fun z => nomatch z) fun _ => h2
theorem qd_yes (h : EvT t σ H true) (h2 : ∀ H1, Ex H H1 → tu { E with nx := tz E } σ H1) : tSeq (tIfS t tu tw) tz E σ H := q_if h (fun _ => h2) fun z => nomatch z
end
end Fl
set_option maxHeartbeats 2000000
namespace Fl
open PySem PySem.Spec PyProof.Rows L2 Evl
def kD : Key → D
  | .inl i => .int i
  | .inr s => .str s
abbrev tD (ks : List Key) : D := .tup (ks.map kD)
theorem kD_fz (k : Key) : (kD k).fz = true := by cases k <;> rfl
theorem tD_fz (ks : List Key) : (tD ks).fz = true := by
  show fzL _ = true
  exact fzL_map fun a _ => kD_fz a
def RK {κ : Type} (R : V → D → Prop) : List (κ × V) → List (κ × D) → Prop
  | [], [] => True
  | x :: xs, y :: ys => (x.1 = y.1 ∧ R x.2 y.2) ∧ RK R xs ys
  | [], _ :: _ => False
  | _ :: _, [] => False
section
variable {C : Addr} {H H' : Hp}
theorem rp_key {v : V} {k : Key} : Rp C H v (kD k) ↔ v = kV k := by cases k <;> exact Iff.rfl
theorem rpl_keys : ∀ {ks : List Key} {vs : List V}, RpL C H vs (ks.map kD) ↔ vs = ks.map kV
  | [], [] => ⟨fun _ => rfl, fun _ => True.intro⟩
  | [], _ :: _ => ⟨fun h => h.elim, fun h => nomatch h⟩
  | k :: ks, [] => ⟨fun h => h.elim, fun h => nomatch h⟩
  | k :: ks, v :: vs => by
    constructor
    · intro h
      have h1 := rp_key.mp h.1
      have h2 := rpl_keys.mp h.2
      rw [h1, h2]
      rfl
    · intro h
      rw [List.map_cons] at h
      injection h with h1 h2
      exact ⟨rp_key.mpr h1, rpl_keys.mpr h2⟩
theorem rpK_iff : ∀ {ks : List (Key × V)} {kvs : List (Key × D)}, RpK C H ks kvs ↔ RK (Rp C H) ks kvs
  | [], [] => Iff.rfl
  | [], (_, _) :: _ => Iff.rfl
  | _ :: _, [] => Iff.rfl
  | x :: xs, (k, d) :: ys => by
    show ((x.1 = k ∧ Rp C H x.2 d) ∧ RpK C H xs ys) ↔ _
    rw [rpK_iff (ks := xs) (kvs := ys)]
    rfl
theorem rpT_iff : ∀ {ks : List (List Key × V)} {kvs : List (List Key × D)}, RpT C H ks kvs ↔ RK (Rp C H) ks kvs
  | [], [] => Iff.rfl
  | [], (_, _) :: _ => Iff.rfl
  | _ :: _, [] => Iff.rfl
  | x :: xs, (k, d) :: ys => by
    show ((x.1 = k ∧ Rp C H x.2 d) ∧ RpT C H xs ys) ↔ _
    rw [rpT_iff (ks := xs) (kvs := ys)]
    rfl
end
section
variable {κ : Type} [DecidableEq κ] {R R' : V → D → Prop}
theorem RK.imp (i : ∀ v d, R v d → R' v d) : ∀ {xs : List (κ × V)} {ys : List (κ × D)}, RK R xs ys → RK R' xs ys
  | [], [], _ => True.intro
  | _ :: xs, _ :: ys, h => ⟨⟨h.1.1, i _ _ h.1.2⟩, RK.imp i h.2⟩
  | [], _ :: _, h => h.elim
  | _ :: _, [], h => h.elim
theorem RK.impM : ∀ {xs : List (κ × V)} {ys : List (κ × D)}, (∀ v d, (∃ k, (k, d) ∈ ys) → R v d → R' v d) → RK R xs ys → RK R' xs ys
  | [], [], _, _ => True.intro
  | _ :: xs, y :: ys, i, h => ⟨⟨h.1.1, i _ _ ⟨y.1, List.mem_cons_self⟩ h.1.2⟩, RK.impM (fun v d ⟨k, hk⟩ => i v d ⟨k, List.mem_cons_of_mem _ hk⟩) h.2⟩
  | [], _ :: _, _, h => h.elim
  | _ :: _, [], _, h => h.elim
theorem RK.length : ∀ {xs : List (κ × V)} {ys : List (κ × D)}, RK R xs ys → xs.length = ys.length
  | [], [], _ => rfl
  | _ :: xs, _ :: ys, h => congrArg Nat.succ (RK.length h.2)
  | [], _ :: _, h => h.elim
  | _ :: _, [], h => h.elim
theorem RK.val : ∀ {xs : List (κ × V)} {ys : List (κ × D)} (k : κ), RK R xs ys → (valV xs k = none ∧ lookD ys k = none) ∨ ∃ v d, valV xs k = some v ∧ lookD ys k = some d ∧ R v d
  | [], [], k, _ => .inl ⟨rfl, rfl⟩
  | x :: xs, y :: ys, k, h => by
    by_cases e : x.1 = k
    · refine .inr ⟨x.2, y.2, ?_, ?_, h.1.2⟩
      · simp [valV, e]
      · simp [lookD, h.1.1 ▸ e]
    · have e' : ¬ y.1 = k := fun z => e (h.1.1.trans z)
      have ih := RK.val k h.2
      have h1 : valV (x :: xs) k = valV xs k := by simp [valV, e]
      have h2 : lookD (y :: ys) k = lookD ys k := by simp [lookD, e']
      rw [h1, h2]
      exact ih
  | [], _ :: _, _, h => h.elim
  | _ :: _, [], _, h => h.elim
theorem RK.get {xs : List (κ × V)} {ys : List (κ × D)} {k : κ} {d : D} (h : RK R xs ys) (e : lookD ys k = some d) : ∃ v, valV xs k = some v ∧ R v d := by
  rcases h.val k with ⟨_, h2⟩ | ⟨v, d', h1, h2, h3⟩
  · rw [e] at h2; cases h2
  · rw [e] at h2; cases h2; exact ⟨v, h1, h3⟩
theorem RK.none {xs : List (κ × V)} {ys : List (κ × D)} {k : κ} (h : RK R xs ys) (e : lookD ys k = none) : valV xs k = none := by
  rcases h.val k with ⟨h1, _⟩ | ⟨v, d', h1, h2, h3⟩
  · exact h1
  · rw [e] at h2; cases h2
theorem RK.some {xs : List (κ × V)} {ys : List (κ × D)} (k : κ) (h : RK R xs ys) : (valV xs k).isSome = (lookD ys k).isSome := by
  rcases h.val k with ⟨h1, h2⟩ | ⟨v, d', h1, h2, h3⟩
  · rw [h1, h2]
    rfl
  · rw [h1, h2]
    rfl
theorem RK.any (k : κ) : ∀ {xs : List (κ × V)} {ys : List (κ × D)}, RK R xs ys → (xs.any fun kv => decide (kv.1 = k)) = ys.any fun kv => decide (kv.1 = k)
  | [], [], _ => rfl
  | x :: xs, y :: ys, h => by
    rw [List.any_cons, List.any_cons, h.1.1, RK.any k h.2]
  | [], _ :: _, h => h.elim
  | _ :: _, [], h => h.elim
theorem RK.app : ∀ {xs xs' : List (κ × V)} {ys ys' : List (κ × D)}, RK R xs ys → RK R xs' ys' → RK R (xs ++ xs') (ys ++ ys')
  | [], _, [], _, _, g => g
  | _ :: _, _, _ :: _, _, h, g => ⟨h.1, RK.app h.2 g⟩
  | [], _, _ :: _, _, h, _ => h.elim
  | _ :: _, _, [], _, h, _ => h.elim
theorem RK.rep {k : κ} {v : V} {d : D} (r : R v d) : ∀ {xs : List (κ × V)} {ys : List (κ × D)}, RK R xs ys → RK R (xs.map fun kv => if kv.1 = k then (kv.1, v) else kv) (ys.map fun kv => if kv.1 = k then (k, d) else kv)
  | [], [], _ => True.intro
  | x :: xs, y :: ys, h => by
    refine ⟨?_, RK.rep r h.2⟩
    by_cases e : x.1 = k
    · have e' : y.1 = k := h.1.1 ▸ e
      dsimp only
      rw [if_pos e, if_pos e']
      exact ⟨e, r⟩
    · have e' : ¬ y.1 = k := fun z => e (h.1.1.trans z)
      dsimp only
      rw [if_neg e, if_neg e']
      exact h.1
  | [], _ :: _, h => h.elim
  | _ :: _, [], h => h.elim
theorem RK.put {k : κ} {v : V} {d : D} {xs : List (κ × V)} {ys : List (κ × D)} (h : RK R xs ys) (r : R v d) : RK R (putK xs k v) (putD ys k d) := by
  unfold putK putD
  rw [h.any k]
  split
  · exact h.rep r
  · exact h.app ⟨⟨rfl, r⟩, True.intro⟩
end
theorem lookD_put {κ : Type} [DecidableEq κ] {k j : κ} {d : D} : ∀ (ys : List (κ × D)), lookD (putD ys k d) j = if j = k then some d else lookD ys j := by
  intro ys
  unfold putD
  split
  · rename_i h
    induction ys with
    | nil => simp at h
    | cons y ys ih =>
      by_cases e : y.1 = k
      · by_cases ej : j = k
        · subst ej
          simp [lookD, e]
        · rw [if_neg ej]
          have ih' : lookD (ys.map fun kv => if kv.1 = k then (k, d) else kv) j = lookD ys j := by
            clear ih h
            induction ys with
            | nil => rfl
            | cons z zs ih2 =>
              by_cases ez : z.1 = k
              · have e1 : ¬ k = j := fun q => ej q.symm
                simp only [lookD, List.map_cons, if_pos ez, List.find?_cons, decide_eq_false e1]
                have e2 : ¬ z.1 = j := fun q => e1 (ez.symm.trans q)
                simp only [decide_eq_false e2]
                exact ih2
              · simp only [lookD, List.map_cons, if_neg ez, List.find?_cons]
                split
                · rfl
                · exact ih2
          have e1 : ¬ k = j := fun q => ej q.symm
          have e2 : ¬ y.1 = j := fun q => e1 (e.symm.trans q)
          simp only [lookD, List.map_cons, if_pos e, List.find?_cons, decide_eq_false e1, decide_eq_false e2]
          exact ih'
      · have h' : (ys.any fun kv => decide (kv.1 = k)) = true := by simpa [e] using h
        by_cases ej : y.1 = j
        · have e3 : ¬ j = k := fun q => e (ej.trans q)
          rw [if_neg e3]
          simp only [lookD, List.map_cons, if_neg e, List.find?_cons, decide_eq_true ej]
        · have := ih h'
          simp only [lookD, List.map_cons, if_neg e, List.find?_cons, decide_eq_false ej] at this ⊢
          exact this
  · rename_i h
    have hn : ∀ y ∈ ys, ¬ y.1 = k := fun y hy z => h (List.any_eq_true.mpr ⟨y, hy, decide_eq_true z⟩)
    induction ys with
    | nil =>
      by_cases e : j = k
      · subst e; simp [lookD]
      · rw [if_neg e]
        have e' : ¬ k = j := fun q => e q.symm
        simp [lookD, e']
    | cons y ys ih =>
      have ih' := ih (fun z => h (by rw [List.any_cons, z, Bool.or_true])) fun z hz => hn z (List.mem_cons_of_mem _ hz)
      by_cases ej : y.1 = j
      · have e3 : ¬ j = k := fun q => hn y List.mem_cons_self (ej.trans q)
        rw [if_neg e3]
        simp [lookD, ej]
      · simp only [lookD, List.cons_append, List.find?_cons, decide_eq_false ej] at ih' ⊢
        exact ih'
section
variable {X : Cx} {P : Program} {w : World} {K : PySem.W.Frag} {C : Addr}
def rInDict (neg : Bool) : R2 := fun y x H Q => ∃ a o, x = .ref a ∧ DGet H a y o ∧ Q (.bl (if neg then !o.isSome else o.isSome)) H
theorem op_inDict (hu : X.A.units + 1 < cLine) : OpR X (compareOp .In) (rInDict false) := by
  intro pins s σ H y x u v Q I ry rx h
  obtain ⟨a, o, rfl, g, q⟩ := h
  obtain rfl : v = Value.ref a := rx
  exact d_in hu I g ry fun s3 I3 => ⟨.bl o.isSome, H, I3, rfl, q⟩
theorem op_ninDict (hu : X.A.units + 1 < cLine) : OpR X (compareOp .NotIn) (rInDict true) := by
  intro pins s σ H y x u v Q I ry rx h
  obtain ⟨a, o, rfl, g, q⟩ := h
  obtain rfl : v = Value.ref a := rx
  exact d_notIn hu I g ry fun s3 I3 => ⟨.bl (!o.isSome), H, I3, rfl, q⟩
def rIxDict : R2 := fun x y H Q => ∃ a v, x = .ref a ∧ DGet H a y (some v) ∧ Q v H
theorem ix_dict (hu : X.A.units + 1 < cLine) : IxR X rIxDict := by
  intro value slice pins s σ H x y v u Q I rx ry h hs
  obtain ⟨a, v0, rfl, g, q⟩ := h
  obtain rfl : v = Value.ref a := rx
  exact tail_any (dict_typeIs I g) PySem.F.slot_dict_getitem.lookup (d_getItem hu I g ry fun w' s3 I3 rw' => ⟨v0, H, I3, rw', q⟩) hs
def rSetDict : TSet := fun o i v H Q => ∃ a H', o = .ref a ∧ DPut H a i v H' ∧ Q H'
theorem set_dict (hu : X.A.units + 1 < cLine) : PSet X rSetDict := by
  intro pins s σ H o i v ov iv u Q I ro ri rv h
  obtain ⟨a, H', rfl, g, q⟩ := h
  obtain rfl : ov = Value.ref a := ro
  exact d_setItem hu I g ri rv fun s4 I4 => ⟨H', I4, q⟩
theorem set_b (g : Good P w K X) : PSet X (rSet P w K) := fun pins s σ H o i v ov iv u Q I ro ri rv ⟨r, h, q⟩ => h X g pins s σ H o i v ov iv u Q I ro ri rv q
theorem Good.u1 (g : Good P w K X) : X.A.units + 1 < cLine := by have := g.units; omega
theorem o_inK {k : Key} {kvs : List (Key × D)} : DOp C (rB P w K (compareOp .In)) (kD k) (.dk kvs) (.bl (lookD kvs k).isSome) := dop_of (fun X g => op_inDict g.u1) fun H v u rx ⟨a, ks, e1, e2, e3⟩ Q q => by
  rw [rp_key.mp rx]
  refine ⟨a, _, e1, DGet.k e2, ?_⟩
  rw [if_neg (by decide), (rpK_iff.mp e3).some k]
  exact q _ H (Ex.refl H) rfl
theorem o_ninK {k : Key} {kvs : List (Key × D)} : DOp C (rB P w K (compareOp .NotIn)) (kD k) (.dk kvs) (.bl (!(lookD kvs k).isSome)) := dop_of (fun X g => op_ninDict g.u1) fun H v u rx ⟨a, ks, e1, e2, e3⟩ Q q => by
  rw [rp_key.mp rx]
  refine ⟨a, _, e1, DGet.k e2, ?_⟩
  rw [if_pos rfl, (rpK_iff.mp e3).some k]
  exact q _ H (Ex.refl H) rfl
theorem o_inT {k : List Key} {kvs : List (List Key × D)} : DOp C (rB P w K (compareOp .In)) (tD k) (.dt kvs) (.bl (lookD kvs k).isSome) := dop_of (fun X g => op_inDict g.u1) fun H v u ⟨b, xs, f1, f2, f3⟩ ⟨a, ks, e1, e2, e3⟩ Q q => by
  rw [rpl_keys.mp f3] at f2
  subst f1
  refine ⟨a, _, e1, DGet.t e2 f2, ?_⟩
  rw [if_neg (by decide), (rpT_iff.mp e3).some k]
  exact q _ H (Ex.refl H) rfl
theorem o_ixK {k : Key} {kvs : List (Key × D)} {d : D} (h : lookD kvs k = some d) : DOp C (rI_ P w K) (.dk kvs) (kD k) d := fun H u v ⟨a, ks, e1, e2, e3⟩ rx Q q => by
  obtain ⟨v0, h1, h2⟩ := (rpK_iff.mp e3).get h
  refine ⟨rIxDict, fun X g => ix_dict g.u1, a, v0, e1, ?_, q v0 H (Ex.refl H) h2⟩
  rw [rp_key.mp rx, ← h1]
  exact DGet.k e2
theorem o_ixT {k : List Key} {kvs : List (List Key × D)} {d : D} (h : lookD kvs k = some d) : DOp C (rI_ P w K) (.dt kvs) (tD k) d := fun H u v ⟨a, ks, e1, e2, e3⟩ ⟨b, xs, f1, f2, f3⟩ Q q => by
  obtain ⟨v0, h1, h2⟩ := (rpT_iff.mp e3).get h
  rw [rpl_keys.mp f3] at f2
  subst f1
  refine ⟨rIxDict, fun X g => ix_dict g.u1, a, v0, e1, ?_, q v0 H (Ex.refl H) h2⟩
  rw [← h1]
  exact DGet.t e2 f2
end
section
variable {P : Program} {w : World} {K : PySem.W.Frag} {C : Addr} {σ : L2.St} {H : Hp} {te to ti : TE} {tz : TS} {E : Ends} {d : D}
theorem q_putK {a : Addr} {k : Key} {ks : List (Key × V)} (he : Ed C te σ H d) (ho : EvP to σ H fun v _ => v = V.ref a) (hi : Ed C ti σ H (kD k)) (ha : H a = some (.dK ks)) (hl : ks.length ≤ 10000)
    (q : ∀ v H1, Ex H H1 → Rp C H1 v d → E.nx σ (upd H1 a (.dK (putK ks k v)))) : tAsg te (gSub to ti (rSet P w K)) E σ H :=
  he H (Ex.refl H) _ fun v H1 e1 r1 => ho H1 e1 _ fun u H2 e2 r2 => hi H2 (e1.trans e2) _ fun y H3 e3 r3 => by
    have e : Ex H H3 := (e1.trans e2).trans e3
    refine ⟨rSetDict, fun X g => set_dict g.u1, a, _, r2, ?_, q v H3 e (r1.ex (e2.trans e3))⟩
    rw [rp_key.mp r3]
    exact DPut.k (e a _ ha) (Nat.lt_of_le_of_lt hl (by decide))
theorem q_putT {a : Addr} {k : List Key} {ks : List (List Key × V)} (he : Ed C te σ H d) (ho : EvP to σ H fun v _ => v = V.ref a) (hi : Ed C ti σ H (tD k)) (ha : H a = some (.dT ks)) (hl : ks.length ≤ 10000)
    (q : ∀ v H1, Ex H H1 → Rp C H1 v d → E.nx σ (upd H1 a (.dT (putK ks k v)))) : tAsg te (gSub to ti (rSet P w K)) E σ H :=
  he H (Ex.refl H) _ fun v H1 e1 r1 => ho H1 e1 _ fun u H2 e2 r2 => hi H2 (e1.trans e2) _ fun y H3 e3 ⟨b, xs, f1, f2, f3⟩ => by
    have e : Ex H H3 := (e1.trans e2).trans e3
    rw [rpl_keys.mp f3] at f2
    subst f1
    exact ⟨rSetDict, fun X g => set_dict g.u1, a, _, r2, DPut.t (e a _ ha) f2 (Nat.lt_of_le_of_lt hl (by decide)), q v H3 e (r1.ex (e2.trans e3))⟩
theorem q_for {α : Type} {wi : TI} {g : TG} {tb : TS} {B : Hp → Addr → Prop} {xs : List α} {F : α → D} (h : EvI C wi σ H (xs.map F) B)
    (q : ∀ (A : List Addr) (H1 : Hp), Ex H H1 → (∀ a ∈ A, B H a ∧ ∃ o, H1 a = some o) → ∃ Pv : Nat → L2.St → Hp → Prop, Pv 0 σ H1 ∧ (∀ i σ' H', i ≤ xs.length → Pv i σ' H' → Tx H1 H' ∧ ∀ a ∈ A, H' a = H1 a) ∧
      (∀ i a x σ' H' H'', xs[i]? = some a → Pv i σ' H' → Ex H' H'' → (Ex H1 H' ∨ (F a).fz = true → Rp C H'' x (F a)) → g x σ' H'' fun σ2 H2 => tb { E with nx := Pv (i + 1), ct := Pv (i + 1), bk := E.nx } σ2 H2) ∧
      ∀ σ' H', Pv xs.length σ' H' → E.nx σ' H') : tFor wi g tb E σ H := h H (Ex.refl H) _ fun J A H1 e1 dw hA => by
  obtain ⟨G, Y, wk, hG, hY⟩ := dw.ex
  obtain ⟨Pv, h0, hT, hs, hd⟩ := q A H1 e1 hA
  have hlen : (xs.map F).length = xs.length := List.length_map _
  refine for_it wk Pv h0 (fun i σ' H' hi p => hG H' (hT i σ' H' (hlen ▸ hi) p).2 (hT i σ' H' (hlen ▸ hi) p).1) (fun i x σ' H' H'' hi p y => ?_) fun σ' H' p => hd σ' H' (hlen ▸ p)
  have hi' : i < xs.length := hlen ▸ hi
  obtain ⟨e3, d, hd, hr⟩ := hY i H' x H'' hi (hT i σ' H' (Nat.le_of_lt hi') p).2 (hT i σ' H' (Nat.le_of_lt hi') p).1 y
  have hd' : (xs.map F)[i]? = some (F xs[i]) := by rw [List.getElem?_map, List.getElem?_eq_getElem hi']; rfl
  rw [hd'] at hd
  cases hd
  exact hs i xs[i] x σ' H' H'' (List.getElem?_eq_getElem hi') p e3 hr
theorem q_for0 {α : Type} {wi : TI} {g : TG} {tb : TS} {xs : List α} {F : α → D} (h : EvI C wi σ H (xs.map F) B0) (hz : ∀ a ∈ xs, (F a).fz = true)
    (q : ∀ H1, Ex H H1 → ∃ Pv : Nat → L2.St → Hp → Prop, Pv 0 σ H1 ∧ (∀ i σ' H', Pv i σ' H' → Tx H1 H') ∧
      (∀ i a x σ' H' H'', xs[i]? = some a → Pv i σ' H' → Ex H' H'' → Rp C H'' x (F a) → g x σ' H'' fun σ2 H2 => tb { E with nx := Pv (i + 1), ct := Pv (i + 1), bk := E.nx } σ2 H2) ∧
      ∀ σ' H', Pv xs.length σ' H' → E.nx σ' H') : tFor wi g tb E σ H := q_for h fun A H1 e1 hA => by
  obtain ⟨Pv, h0, hT, hs, hd⟩ := q H1 e1
  refine ⟨Pv, h0, fun i σ' H' _ p => ⟨hT i σ' H' p, fun a ha => (hA a ha).1.elim⟩, fun i a x σ' H' H'' hi p e r => hs i a x σ' H' H'' hi p e (r (.inr (hz a (List.mem_of_getElem? hi)))), hd⟩
theorem qs_putK {a : Addr} {k : Key} {ks : List (Key × V)} (he : Ed C te σ H d) (ho : EvP to σ H fun v _ => v = V.ref a) (hi : Ed C ti σ H (kD k)) (ha : H a = some (.dK ks)) (hl : ks.length ≤ 10000)
    (q : ∀ v H1, Ex H H1 → Rp C H1 v d → tz E σ (upd H1 a (.dK (putK ks k v)))) : tSeq (tAsg te (gSub to ti (rSet P w K))) tz E σ H := q_putK (E := ⟨tz E, E.rt, E.bk, E.ct⟩) he ho hi ha hl q
theorem qs_putT {a : Addr} {k : List Key} {ks : List (List Key × V)} (he : Ed C te σ H d) (ho : EvP to σ H fun v _ => v = V.ref a) (hi : Ed C ti σ H (tD k)) (ha : H a = some (.dT ks)) (hl : ks.length ≤ 10000)
    (q : ∀ v H1, Ex H H1 → Rp C H1 v d → tz E σ (upd H1 a (.dT (putK ks k v)))) : tSeq (tAsg te (gSub to ti (rSet P w K))) tz E σ H := q_putT (E := ⟨tz E, E.rt, E.bk, E.ct⟩) he ho hi ha hl q
theorem qs_for {α : Type} {wi : TI} {g : TG} {tb : TS} {B : Hp → Addr → Prop} {xs : List α} {F : α → D} (h : EvI C wi σ H (xs.map F) B)
    (q : ∀ (A : List Addr) (H1 : Hp), Ex H H1 → (∀ a ∈ A, B H a ∧ ∃ o, H1 a = some o) → ∃ Pv : Nat → L2.St → Hp → Prop, Pv 0 σ H1 ∧ (∀ i σ' H', i ≤ xs.length → Pv i σ' H' → Tx H1 H' ∧ ∀ a ∈ A, H' a = H1 a) ∧
      (∀ i a x σ' H' H'', xs[i]? = some a → Pv i σ' H' → Ex H' H'' → (Ex H1 H' ∨ (F a).fz = true → Rp C H'' x (F a)) → g x σ' H'' fun σ2 H2 => tb { E with nx := Pv (i + 1), ct := Pv (i + 1), bk := tz E } σ2 H2) ∧
      ∀ σ' H', Pv xs.length σ' H' → tz E σ' H') : tSeq (tFor wi g tb) tz E σ H := q_for (E := ⟨tz E, E.rt, E.bk, E.ct⟩) h q
theorem qs_for0 {α : Type} {wi : TI} {g : TG} {tb : TS} {xs : List α} {F : α → D} (h : EvI C wi σ H (xs.map F) B0) (hz : ∀ a ∈ xs, (F a).fz = true)
    (q : ∀ H1, Ex H H1 → ∃ Pv : Nat → L2.St → Hp → Prop, Pv 0 σ H1 ∧ (∀ i σ' H', Pv i σ' H' → Tx H1 H') ∧
      (∀ i a x σ' H' H'', xs[i]? = some a → Pv i σ' H' → Ex H' H'' → Rp C H'' x (F a) → g x σ' H'' fun σ2 H2 => tb { E with nx := Pv (i + 1), ct := Pv (i + 1), bk := tz E } σ2 H2) ∧
      ∀ σ' H', Pv xs.length σ' H' → tz E σ' H') : tSeq (tFor wi g tb) tz E σ H := q_for0 (E := ⟨tz E, E.rt, E.bk, E.ct⟩) h hz q
end
end Fl
set_option maxHeartbeats 4000000
namespace Fl
open PySem PySem.Spec PyProof.Rows L2 Evl PpSet
open PySem.Sem (wp)
def keyM (e : Int × Value) : Key := match e.2 with
  | .int k _ => .inl k
  | .str x _ => .inr x
  | _ => .inl 0
def GoodM (w : World) (e : Int × Value) : Prop := ∃ k, RelV (kV k) e.2 ∧ e.1 = keyH w k
theorem keyM_of {k : Key} {e : Int × Value} (h : RelV (kV k) e.2) : keyM e = k := by
  unfold keyM
  cases k with
  | inl i =>
    obtain ⟨t, q⟩ := (show ∃ t, e.2 = Value.int i t from h)
    rw [q]
  | inr x =>
    obtain ⟨t, q⟩ := (show ∃ t, e.2 = Value.str x t from h)
    rw [q]
def SetM (w : World) (h : Heap) (a : Addr) (S : Key → Bool) (n : Nat) : Prop :=
  ∃ o es ep t, h.get? a = some o ∧ o.ExactSet ∧ o.data = .set es ep t ∧ (∀ e ∈ es.toList, GoodM w e) ∧ (es.toList.map keyM).Nodup ∧ (∀ k, S k = true ↔ k ∈ es.toList.map keyM) ∧
    es.size < scanBound ∧ t.fits es.size = true ∧ es.size = n ∧ Ris t.place.toList ∧ (w.params.followText "set-order" = true ∨ t.led = true)
section
variable {P : Program} {w : World} {h h' : Heap} {a : Addr} {S : Key → Bool} {n : Nat}
theorem SetM.at (R : SetM w h a S n) (k : ∀ o, h.get? a = some o → h'.get? a = some o) : SetM w h' a S n := by
  obtain ⟨o, es, ep, t, ho, r⟩ := R
  exact ⟨o, es, ep, t, k o ho, r⟩
theorem goodM_elems {l : List (Int × Value)} (g : ∀ e ∈ l, GoodM w e) : ElemsOf (mixKind P w) l := fun e he => by
  obtain ⟨k, h1, h2⟩ := g e he
  exact ⟨⟨k, kV_is h1, h2⟩, key_scan h1⟩
theorem goodM_is {e : Int × Value} (g : GoodM w e) (k : Key) : (mixKind P w).is k e.2 = true ↔ keyM e = k := by
  obtain ⟨k0, h1, _⟩ := g
  rw [keyM_of h1]
  constructor
  · intro h
    exact (mixKind P w).inj _ _ _ (kV_is h1) h
  · intro h
    rw [← h]
    exact kV_is h1
theorem goodM_mem {l : List (Int × Value)} (g : ∀ e ∈ l, GoodM w e) (k : Key) : k ∈ l.map keyM ↔ ∃ e ∈ l, (mixKind P w).is k e.2 = true := by
  rw [List.mem_map]
  constructor
  · rintro ⟨e, he, q⟩
    exact ⟨e, he, (goodM_is (g e he) k).2 q⟩
  · rintro ⟨e, he, q⟩
    exact ⟨e, he, (goodM_is (g e he) k).1 q⟩
theorem SetM.setOf (R : SetM w h a S n) : h.SetOf (mixKind P w) a S n := by
  obtain ⟨o, es, ep, t, ho, hx, hd, g, nd, hm, hb, hf, hn, _⟩ := R
  exact ⟨o, es, ep, t, ho, hx, hd, goodM_elems g, fun k => (hm k).trans (goodM_mem g k), hb, hf, hn⟩
end
section
variable {P : Program} {w : World} {A : Around} {E : Value → Shared → Prop} {s : Shared} {a : Addr} {S : Key → Bool} {n : Nat}
theorem setM_add_tail {g : Bool → Sem Unit} (hg : ∀ (b : Bool) (s₁ : Shared) (Q' : Unit → Shared → Prop), Q' () s₁ → wpAny (model P w) A (g b) Q' E s₁)
    {o : Obj} {es : Array (Int × Value)} {ep : Nat} {t : SetTable} (ho : s.heap.get? a = some o) (hex : o.ExactSet) (hd : o.data = .set es ep t)
    {es1 : Array (Int × Value)} {t2 : SetTable} {S' : Key → Bool} (g1 : ∀ e ∈ es1.toList, GoodM w e) (nd1 : (es1.toList.map keyM).Nodup) (m1 : ∀ k, S' k = true ↔ k ∈ es1.toList.map keyM)
    (hb1 : es1.size < scanBound) (hf2 : t2.fits es1.size = true) (hr : Ris t2.place.toList) (hl : w.params.followText "set-order" = true ∨ t2.led = true) {wasDummy : Bool} {R : Option Bool → Shared → Prop}
    (hR : ∀ h', Heap.SameBut a s.heap h' → SetM w h' a S' es1.size → R (some true) { s with heap := h' }) :
    wpAny (model P w) A (do
        storeSet a es1 t2
        if (!wasDummy && t2.tooFull) = true then do
            g (relayAll t2 es1 (SetTable.grown es1.size)).2.2
            storeSet a (relayAll t2 es1 (SetTable.grown es1.size)).1 (relayAll t2 es1 (SetTable.grown es1.size)).2.1
            pure (some true)
          else pure (some true)) R E s := by
  refine wpAny_bind (wpAny_storeSet_of ho hd ?_ (fits_of_scanBound hb1))
  have ho1 := store_at (es' := es1) (t' := t2) ho hd
  have sb1 := Heap.SameBut.update s.heap a (Obj.putSet es1 t2)
  split
  · have pm := relayAll_perm t2 es1 (SetTable.grown es1.size)
    have hf3 := relayAll_fits t2 es1 (SetTable.grown es1.size)
    have hr3 := relayAll_ris t2 es1 (SetTable.grown es1.size)
    have hl3 := relayAll_led t2 es1 (SetTable.grown es1.size)
    generalize relayAll t2 es1 (SetTable.grown es1.size) = Z at pm hf3 hr3 hl3 ⊢
    obtain ⟨es2, t3, gave⟩ := Z
    dsimp only at pm hf3 hr3 hl3 ⊢
    have hsz : es2.size = es1.size := by rw [← Array.length_toList, pm.length_eq, Array.length_toList]
    have hb2 : es2.size < scanBound := by rw [hsz]; exact hb1
    refine wpAny_bind (hg _ _ _ ?_)
    refine wpAny_bind (wpAny_storeSet_of ho1 rfl ?_ (fits_of_scanBound hb2))
    have ho2 := store_at (es' := es2) (t' := t3) ho1 rfl
    refine wpAny_pure (hR _ (sb1.trans (Heap.SameBut.update _ a _)) ?_)
    exact ⟨_, es2, _, t3, ho2, hex, rfl, fun e he => g1 e (pm.mem_iff.mp he), (pm.map keyM).nodup_iff.mpr nd1, fun k => (m1 k).trans (pm.map keyM).mem_iff.symm, hb2, hf3, hsz, hr3,
      hl.imp id fun z => by rw [hl3]; exact z⟩
  · exact wpAny_pure (hR _ sb1 ⟨_, es1, _, t2, ho1, hex, rfl, g1, nd1, m1, hb1, hf2, rfl, hr, hl⟩)

theorem setM_add_hashed {k : Key} {u : Value} {Q : Bool → Shared → Prop} (ru : RelV (kV k) u) (R : SetM w s.heap a S n) (room : n + 1 < scanBound)
    (hQ : ∀ h', Heap.SameBut a s.heap h' → SetM w h' a (fun j => S j || decide (j = k)) (if S k = true then n else n + 1) → Q (!S k) { s with heap := h' }) :
    wpAny (model P w) A (setAddHashed a u ((mixKind P w).hash k)) Q E s := by
  obtain ⟨o, es, ep, t, ho, hex, hd, g, nd, hm, hb, hf, hn, hr, hl⟩ := R
  have hkey : (mixKind P w).is k u = true := kV_is ru
  have hsc : u.scannable = true := key_scan ru
  have hel : ElemsOf (mixKind P w) es.toList := goodM_elems g
  unfold setAddHashed setAddHashedIn
  refine wpAny_holding (wpAny_bind (wpAny_setState_of ho hd hf ?_))
  dsimp only
  rw [byScan_of hsc hb hel]
  simp only [↓reduceIte]
  unfold setAddByScan
  refine wpAny_bind ?_
  refine wpAny_bind (wpAny_rule ?_)
  refine wpAny_bind (wpAny_setScan_of hkey ho hd hf hel ?_)
  cases hfi : List.findIdx? (fun e => (mixKind P w).is k e.2) es.toList with
  | some j =>
    dsimp only
    obtain ⟨hj, pj, _⟩ := List.findIdx?_eq_some_iff_getElem.mp hfi
    have hSk : S k = true := (hm k).2 ((goodM_mem (P := P) (w := w) g k).2 ⟨es.toList[j], List.getElem_mem hj, pj⟩)
    refine wpAny_pure (wpAny_pure ?_)
    have q := hQ s.heap (Heap.SameBut.refl a s.heap) ⟨o, es, ep, t, ho, hex, hd, g, nd, fun i => by
      rw [Bool.or_eq_true, decide_eq_true_eq, ← hm i]
      exact ⟨fun z => z.elim id (fun e => e ▸ hSk), .inl⟩, hb, hf, by rw [if_pos hSk]; exact hn, hr, hl⟩
    rw [hSk] at q
    exact q
  | none =>
    dsimp only
    have hnk : k ∉ es.toList.map keyM := fun z => by
      obtain ⟨e, he, q⟩ := (goodM_mem (P := P) (w := w) g k).1 z
      have c := List.findIdx?_eq_none_iff.mp hfi e he
      rw [q] at c
      cases c
    have hSk : S k = false := by
      cases q : S k with
      | false => rfl
      | true => exact absurd ((hm k).1 q) hnk
    have hgw : ∀ (b : Bool) {s₁ : Shared} {Q' : Unit → Shared → Prop}, Q' () s₁ → wpAny (model P w) A (match b with | true => rule "set.scan.the-table-gave-way" | false => pure ()) Q' E s₁ :=
      fun b s₁ Q' q => by cases b <;> first | exact wpAny_pure q | exact wpAny_rule q
    have pm := layNew_perm t es ((mixKind P w).hash k) u
    have hf1 := layNew_fits t es ((mixKind P w).hash k) u
    have hr1 := layNew_ris t es ((mixKind P w).hash k) u hr
    have hl1 := layNew_led t es ((mixKind P w).hash k) u
    generalize layNew t es ((mixKind P w).hash k) u = Z at pm hf1 hr1 hl1 ⊢
    obtain ⟨es1, t1, wasDummy, gave⟩ := Z
    dsimp only at pm hf1 hr1 hl1 ⊢
    rw [Array.toList_push] at pm
    have pc : es1.toList.Perm (((mixKind P w).hash k, u) :: es.toList) := pm.trans (List.perm_append_singleton _ _)
    have pk : (es1.toList.map keyM).Perm (k :: es.toList.map keyM) := by
      have z := pc.map keyM
      rw [List.map_cons, keyM_of (e := (_, u)) ru] at z
      exact z
    have g1 : ∀ e ∈ es1.toList, GoodM w e := fun e he => by
      rcases List.mem_cons.mp (pc.mem_iff.mp he) with z | z
      · rw [z]; exact ⟨k, ru, rfl⟩
      · exact g e z
    have nd1 : (es1.toList.map keyM).Nodup := pk.nodup_iff.mpr (List.nodup_cons.mpr ⟨hnk, nd⟩)
    have m1 : ∀ i, (S i || decide (i = k)) = true ↔ i ∈ es1.toList.map keyM := fun i => by
      rw [Bool.or_eq_true, decide_eq_true_eq, hm i, pk.mem_iff, List.mem_cons]
      exact Or.comm
    have hsz : es1.size = n + 1 := by rw [← Array.length_toList, pc.length_eq, List.length_cons, Array.length_toList, hn]
    have hb1 : es1.size < scanBound := by rw [hsz]; exact room
    have hled : w.params.followText "set-order" = true ∨ t1.led = true := hl.imp id fun z => by rw [hl1]; exact z
    have fin : ∀ h', Heap.SameBut a s.heap h' → SetM w h' a (fun j => S j || decide (j = k)) es1.size → Q true { s with heap := h' } := fun h' sb r => by
      have q := hQ h' sb
      rw [hSk] at q
      rw [hsz] at r
      exact q r
    refine wpAny_bind (hgw _ ?_)
    split
    · refine wpAny_bind ?_
      rw [hashByValue_scannable 8 hsc]
      refine wpAny_pure ?_
      refine setM_add_tail ?_ ho hex hd g1 nd1 m1 hb1 ?_ ?_ ?_ ?_
      · intro b s₁ Q' q; cases b <;> first | exact wpAny_pure q | exact wpAny_rule q
      · first | (split <;> first | exact hf1 | exact SetTable.fits_plain_off hf1) | exact hf1
      · first | (split <;> exact hr1) | exact hr1
      · first | (split <;> exact hled) | exact hled
      · intro h' sb r; dsimp only; exact wpAny_pure (fin h' sb r)
    · refine wpAny_bind (wpAny_pure ?_)
      simp only [↓reduceIte]
      refine setM_add_tail ?_ ho hex hd g1 nd1 m1 hb1 hf1 hr1 hled ?_
      · intro b s₁ Q' q; cases b <;> first | exact wpAny_pure q | exact wpAny_rule q
      · intro h' sb r; dsimp only; exact wpAny_pure (fin h' sb r)

theorem setM_add {k : Key} {u : Value} {Q : Value → Shared → Prop} (ru : RelV (kV k) u) (R : SetM w s.heap a S n) (room : n + 1 < scanBound)
    (hQ : ∀ h', Heap.SameBut a s.heap h' → SetM w h' a (fun j => S j || decide (j = k)) (if S k = true then n else n + 1) → Q .none { s with heap := h', toks := s.toks + 1 }) :
    wpAny (model P w) A (call (.builtin "set.add") [.ref a, u]) Q E s := by
  have hS : s.heap.SetOf (mixKind P w) a S n := R.setOf
  refine wpAny_call_entry F.slot_set_add hS.typeIs F.entry_set_add ?_ (F.args_set_add_2 _ _)
  unfold Builtin.«set.add» Builtin.Frozenset.oneOther
  simp only [List.isEmpty_nil, bind_assoc]
  unfold Builtin.Frozenset.addrOf setAdd
  refine wpAny_bind (wpAny_pure ?_)
  try dsimp only
  refine wpAny_bind (wpAny_pure ?_)
  try dsimp only
  refine wpAny_bind ?_
  refine wpAny_holding ?_
  refine wpAny_bind ((mixKind P w).pyHash (kV_is ru) ?_)
  refine setM_add_hashed (P := P) ru (s := { s with toks := s.toks + 1 }) R room fun h' sb r => ?_
  show wpAny _ _ (ret Value.none) _ _ _
  exact wpAny_pure ⟨_, rfl, hQ h' sb r⟩

end
theorem setM_fresh {h : Heap} (w : World) : SetM w (h.push { cls := .type "set", dict := none, data := .set #[] 0 (.fresh 0 0 (!w.params.followText "set-order")) }) h.objs.size (fun _ => false) 0 :=
  ⟨_, #[], 0, _, Heap.get?_push_size _ rfl, ⟨rfl, rfl, rfl⟩, rfl, (fun e he => by simp at he), (by simp), (fun k => by simp), (by decide), (by rfl), rfl, List.Pairwise.nil, by
    show _ ∨ (!w.params.followText "set-order") = true
    cases w.params.followText "set-order"
    · exact .inr rfl
    · exact .inl rfl⟩
def SetMO (w : World) (a : Addr) (S : Key → Bool) (n : Nat) : HO := .ext fun h => SetM w h a S n
theorem setMO_new {w : World} {P : Program} {H : Hp} {h : Heap} {a : Addr} {S : Key → Bool} {n : Nat} (R : SetM w h a S n) : ObjOk P w H h a (SetMO w a S n) := by
  have ⟨o, _, _, _, ho, _⟩ := R
  exact ⟨R, ⟨o, ho⟩, fun h1 h2 p k => SetM.at p k⟩
section
variable {X : Cx}
theorem setMO_get {pins : List (Addr × Obj)} {σ : L2.St} {H : Hp} {s : Shared} {a : Addr} {S : Key → Bool} {n : Nat} (I : Inv X pins σ H s) (ha : H a = some (SetMO X.w a S n)) : SetM X.w s.heap a S n := (I.hok a _ ha).1
theorem addM_ok {pins : List (Addr × Obj)} {σ : L2.St} {H : Hp} {s : Shared} {E : Value → Shared → Prop} {D : Addr} {S : Key → Bool} {n : Nat} {y : Key} {u : Value} {Q : Value → Shared → Prop} (I : Inv X pins σ H s) (ru : RelV (kV y) u) (hD : H D = some (SetMO X.w D S n)) (room : n + 1 < scanBound)
    (h : ∀ s', Inv X pins σ (upd H D (SetMO X.w D (fun j => S j || decide (j = y)) (if S y = true then n else n + 1))) s' → Q .none s') : wpAny (model X.prog X.w) X.A (call (.builtin "set.add") [.ref D, u]) Q E s := by
  have R := setMO_get I hD
  refine setM_add ru R room fun h' sb new => ?_
  have he : ∃ u, h'.get? D = some u := by
    have ⟨o, _, _, _, ho, _⟩ := new
    exact ⟨o, ho⟩
  exact h _ (I.write (e := D) (t' := s.toks + 1) (by rw [hD]; trivial) (.inl rfl) (fun b u hb hu => (sb.2 b hb).trans hu) he (setMO_new new))
def tScM (w : World) (wi : TI) (g : TG) (tt : TT) (te : TE) (vs : List Nat) : TE := fun σ H Q => wi σ H fun J H1 => ∀ D, H1 D = none → ∃ W : Nat → Nat → Hp → Prop, (∃ m, W 0 m (upd H1 D (SetMO w D (fun _ => false) 0))) ∧ ∀ i m H, W i m H →
  (J.stop i H ∧ Q (.ref D) H) ∨ (J.go i H ∧ ∃ Nx : Hp → Prop, (∀ H', Nx H' → ∃ m', m' < m ∧ W (i + 1) m' H') ∧ ∀ x H', J.yld i H x H' → g x (wipe σ vs) H' fun σ2 H2 => wipe σ2 vs = wipe σ vs ∧ tt σ2 H2 fun b H3 =>
    if b = true then te σ2 H3 fun y H4 => ∃ (c : Key) (S : Key → Bool) (n : Nat), y = kV c ∧ H4 D = some (SetMO w D S n) ∧ n + 1 < scanBound ∧ Nx (upd H4 D (SetMO w D (fun j => S j || decide (j = c)) (if S c = true then n else n + 1))) else Nx H3)
theorem scM_core {pins : List (Addr × Obj)} {s : Shared} {σ : L2.St} {H : Hp} {Q : VK} {elt tg iter : Expr} {ifs : List Expr} {scope : Scope} {own : List (PySem.Str × Nat)} {pos pos' : Pos} {wi : TI} {g : TG} {tt : TT} {te : TE} {use : Option (Value → Sem Unit)} {Qf : Value → Shared → Prop}
    (hc : X.calm = true) (hN : X.N.Nodup) (I : Inv X pins σ H s) (hi : PI X tg iter wi) (ok : BlkOk X.N X.env.scope scope own)
    (hg : ∀ (s : Shared) (H : Hp) (C : Addr) (cl : List (PySem.Str × Addr)) (fp : List Addr), PG (X.blk s H scope (compEnvC scope cl C X.env) fp) tg g) (ht : ∀ (s : Shared) (H : Hp) (C : Addr) (cl : List (PySem.Str × Addr)) (fp : List Addr), PTs (X.blk s H scope (compEnvC scope cl C X.env) fp) ifs tt)
    (he : ∀ (s : Shared) (H : Hp) (C : Addr) (cl : List (PySem.Str × Addr)) (fp : List Addr), PE (X.blk s H scope (compEnvC scope cl C X.env) fp) elt te) (hs : ∀ x, foldedSetIterable iter X.env x = pure x)
    (h : tScM X.w wi g tt te (own.map (·.2)) σ H Q)
    (hRR : ∀ D C s' m H', Inv X pins σ H' s' → Q (.ref D) H' → s'.heap.Ns C m → FpOk X pins H' C → compPost (model X.prog X.w) X.A X.xe use Qf (.ref D) C (.ok .next) s') :
    wpAny (model X.prog X.w) X.A (comprehension (.SetComp elt [⟨tg, iter, ifs, 0⟩] scope pos) scope X.env pos' (newSet (.type "set")) false (eval iter X.env) use) Qf X.xe s := by
  have hfree : ∀ y ∈ scope.names, y.2 = .free → ∃ c, X.env.cells.lookup y.1 = some c := fun y hy e => by
    rcases ok.free y hy e with k | k
    · exact I.ok.has _ (.inl k)
    · exact I.ok.has _ (.inr k)
  refine wpAny_comprehension_free (use := use) rfl hs (closure_ok hfree) ok.kind (fun y hy e => by rw [ok.uniq y hy, e])
    (thn (hi.run pins s σ H _ I h) fun xv s1 hx => thn hx fun itv s2 h2 => ?_)
  obtain ⟨it, fp, tn, J, H2, e, I2, T, st2, f2, q⟩ := h2
  subst e
  refine newSet_ok (newEnv_comp ?_)
  generalize hD : s2.heap.objs.size = D
  have hDn : H2 D = none := I2.hok.fresh (Nat.le_of_eq hD)
  obtain ⟨W, ⟨m0, w0⟩, turn⟩ := q D hDn
  generalize hs3 : ({ s2 with heap := s2.heap.push { cls := .type "set", dict := none, data := .set #[] 0 (.fresh 0 0 (!X.w.params.followText "set-order")) } } : Shared) = s3
  have I3 : Inv X pins σ (upd H2 D (SetMO X.w D (fun _ => false) 0)) s3 := by
    rw [← hs3]
    refine I2.laid (t' := s2.toks) (fun b o e => Heap.get?_push_of_some _ e) (Nat.le_of_eq hD) ?_
    rw [← hD]
    exact setMO_new (setM_fresh X.w)
  have h3 : s3.heap = s2.heap.push { cls := .type "set", dict := none, data := .set #[] 0 (.fresh 0 0 (!X.w.params.followText "set-order")) } := by rw [← hs3]
  have sz : ∀ b ∈ fp, b < s2.heap.objs.size := fun b hb => by
    obtain ⟨o, e, _⟩ := T.obj _ _ st2 b hb
    exact Heap.lt_size e
  have f3 : ∀ b ∈ fp, FpOk X pins (upd H2 D (SetMO X.w D (fun _ => false) 0)) b ∧ b < s3.heap.objs.size := fun b hb => by
    have hlt := sz b hb
    refine ⟨⟨?_, (f2 b hb).2⟩, by rw [h3, Heap.size_push]; exact Nat.lt_succ_of_lt hlt⟩
    rw [upd_ne (by rw [← hD]; exact Nat.ne_of_lt hlt)]
    exact (f2 b hb).1
  have st3 : tn 0 s3.heap := T.keep _ _ _ st2 fun b _ o e => by rw [h3]; exact Heap.get?_push_of_some _ e
  have I4 := block_start I3 ok hN f3
  have pg := hg s3 (upd H2 D (SetMO X.w D (fun _ => false) 0)) s3.heap.objs.size (cellsFrom (s3.heap.objs.size + 1) scope.names (cloFrom X.env.cells scope.names [])) fp
  have pt := ht s3 (upd H2 D (SetMO X.w D (fun _ => false) 0)) s3.heap.objs.size (cellsFrom (s3.heap.objs.size + 1) scope.names (cloFrom X.env.cells scope.names [])) fp
  have pe := he s3 (upd H2 D (SetMO X.w D (fun _ => false) 0)) s3.heap.objs.size (cellsFrom (s3.heap.objs.size + 1) scope.names (cloFrom X.env.cells scope.names [])) fp
  show codeAny _ _ (.compStart (.SetComp elt [⟨tg, iter, ifs, 0⟩] scope pos) 0 (.ref it) (.ref D) (compEnvC scope (cellsFrom (s3.heap.objs.size + 1) scope.names (cloFrom X.env.cells scope.names [])) s3.heap.objs.size X.env)) (compPost (model X.prog X.w) X.A X.xe use Qf (.ref D) s3.heap.objs.size) { s3 with heap := pushCells (s3.heap.push { cls := .type "dict", data := .dict #[] }) scope.names }
  have nfp : ∀ b ∈ fp, (upd H2 D (SetMO X.w D (fun _ => false) 0)) b = none := fun b hb => (f3 b hb).1.1
  generalize hce : compEnvC scope (cellsFrom (s3.heap.objs.size + 1) scope.names (cloFrom X.env.cells scope.names [])) s3.heap.objs.size X.env = ce at I4 pg pt pe ⊢
  have cL : ce.locals = s3.heap.objs.size := by subst hce; rfl
  generalize hH3 : upd H2 D (SetMO X.w D (fun _ => false) 0) = H3 at I3 I4 pg pt pe w0 nfp f3
  generalize hs4 : ({ s3 with heap := pushCells (s3.heap.push { cls := .type "dict", data := .dict #[] }) scope.names } : Shared) = s4 at I4 ⊢
  have st4 : tn 0 s4.heap := T.keep _ _ _ st3 fun b _ o e => by rw [← hs4]; exact pushCells_keeps _ _ _ _ (Heap.get?_push_of_some _ e)
  have stat : ∀ {σ' : L2.St} {H' : Hp} {s' : Shared}, Inv (X.blk s3 H3 scope ce fp) [] σ' H' s' → (∀ b ∈ fp, H' b = none) → ∀ b ∈ fp, FpOk (X.blk s3 H3 scope ce fp) [] H' b := fun {σ' H' s'} I' hn b hb =>
    ⟨hn b hb, (I'.ok.exf b hb).1, I'.ok.exfs b hb, .inl hb, fun x c e => (I'.ok.exf b hb).2 x c e, fun p hp => absurd (show p ∈ ([] : List (Addr × Obj)) ++ [] from hp) (by simp)⟩
  have loop : codeAny (model X.prog X.w) X.A (.compLoop (.SetComp elt [⟨tg, iter, ifs, 0⟩] scope pos) 0 (.ref it) (.ref D) ce) (compPost (model X.prog X.w) X.A X.xe use Qf (.ref D) s3.heap.objs.size) s4 := by
    refine compLoopS_any (fun n s' => ∃ i H', Inv (X.blk s3 H3 scope ce fp) [] (wipe σ (own.map (·.2))) H' s' ∧ tn i s'.heap ∧ (∀ b ∈ fp, H' b = none) ∧ W i n H') ?_ m0 ⟨0, H3, I4, st4, nfp, w0⟩
    rintro n s5 ⟨i, H5, I5, st5, n5, w5⟩
    rcases turn i n H5 w5 with ⟨stop, qq⟩ | ⟨go, Nx, hNx, step⟩
    · have td := T.done (X.blk s3 H3 scope ce fp) rfl rfl rfl hc i [] s5 _ H5 (fun _ _ => False) I5 (stat I5 n5) st5 stop
      refine thnF td fun r s6 ⟨hr, I6⟩ => ?_
      subst hr
      have I7 : Inv X pins σ H5 s6 := I3.call' (ch := fp) I6.os I6.base I6.hok I6.bare fun b hb => ⟨(f3 b hb).1.2.2.2.1, (f3 b hb).1.2.1, (f3 b hb).1.2.2.2.2.1, (f3 b hb).1.2.2.2.2.2⟩
      have nC : H5 s3.heap.objs.size = none := by
        have z : H5 ce.locals = none := I6.free
        rw [cL] at z
        exact z
      obtain ⟨m, hn, _⟩ := I6.loc
      have hn : s6.heap.Ns ce.locals m := hn
      rw [cL] at hn
      exact hRR D s3.heap.objs.size s6 m H5 I7 qq hn (I3.fpOk (Nat.le_refl _) nC)
    · have ti := T.item (X.blk s3 H3 scope ce fp) rfl rfl rfl hc i [] s5 _ H5 (fun _ _ => False) I5 (stat I5 n5) st5 go
      refine thnF ti fun r s6 ⟨u, hr, h6⟩ => ?_
      subst hr
      refine thnF h6 fun _ s7 ⟨x, H7, I7, r7, y7, st7, n7⟩ => ?_
      have I7' := I7.pinned (stat I7 n7) (T.obj _ _ st7)
      refine thnF (pg.run _ s7 _ H7 x u _ I7' r7 (step x H7 y7)) fun _ s8 ⟨σ8, H8, I8, hw8, q8⟩ => ?_
      refine thnF (pt.run _ s8 σ8 H8 _ I8 q8) fun b s9 ⟨H9, I9, q9⟩ => ?_
      have fin : ∀ {s' : Shared} {H' : Hp}, Inv (X.blk s3 H3 scope ce fp) ([] ++ pinsAt fp s7.heap) σ8 H' s' → Nx H' → ∃ m, m < n ∧ ∃ i H', Inv (X.blk s3 H3 scope ce fp) [] (wipe σ (own.map (·.2))) H' s' ∧ tn i s'.heap ∧ (∀ b ∈ fp, H' b = none) ∧ W i m H' := fun {s' H'} I' nx => by
        obtain ⟨m', hm, w'⟩ := hNx H' nx
        have pin' : ∀ b ∈ fp, ∀ o, s7.heap.get? b = some o → s'.heap.get? b = some o ∧ H' b = none := fun b hb o e =>
          let z := I'.pin (b, o) (List.mem_append_right _ (List.mem_append_right _ (mem_pinsAt hb e)))
          ⟨z.1, z.2.1⟩
        have hl : (wipe σ (own.map (·.2))).length = σ8.length := by rw [← hw8, wipe_length]
        refine ⟨m', hm, i + 1, H', (I'.unpinned (pins := [])).weak hl (fun j v e => ?_), T.keep _ _ _ st7 fun b hb o e => (pin' b hb o e).1, fun b hb => ?_, w'⟩
        · rw [← hw8] at e
          exact (wipe_some e).1
        · obtain ⟨o, e, _⟩ := T.obj _ _ st7 b hb
          exact (pin' b hb o e).2
      cases b with
      | false =>
        simp only [Bool.false_eq_true, if_false] at q9 ⊢
        exact fin I9 q9
      | true =>
        simp only [if_true] at q9 ⊢
        refine thnF (pe.run _ s9 σ8 H9 _ I9 q9) fun z s10 ⟨yv, H10, I10, r10, cb, S0, n0, ey, hD10, hz10, nx⟩ => ?_
        subst ey
        exact addM_ok (X := X.blk s3 H3 scope ce fp) I10 r10 hD10 hz10 fun s11 I11 => fin I11 nx
  exact codeAny_compStart_set loop (T.self X.A 0 _ _ _ st4 loop)
theorem pe_scM {elt tg iter : Expr} {ifs : List Expr} {scope : Scope} {own : List (PySem.Str × Nat)} {pos : Pos} {wi : TI} {g : TG} {tt : TT} {te : TE} (hc : X.calm = true) (hN : X.N.Nodup) (hi : PI X tg iter wi) (ok : BlkOk X.N X.env.scope scope own)
    (hg : ∀ (s : Shared) (H : Hp) (C : Addr) (cl : List (PySem.Str × Addr)) (fp : List Addr), PG (X.blk s H scope (compEnvC scope cl C X.env) fp) tg g) (ht : ∀ (s : Shared) (H : Hp) (C : Addr) (cl : List (PySem.Str × Addr)) (fp : List Addr), PTs (X.blk s H scope (compEnvC scope cl C X.env) fp) ifs tt)
    (he : ∀ (s : Shared) (H : Hp) (C : Addr) (cl : List (PySem.Str × Addr)) (fp : List Addr), PE (X.blk s H scope (compEnvC scope cl C X.env) fp) elt te) (hs : ∀ x, foldedSetIterable iter X.env x = pure x := by intro _; rfl) :
    PE X (.SetComp elt [⟨tg, iter, ifs, 0⟩] scope pos) (tScM X.w wi g tt te (own.map (·.2))) := by
  refine ⟨fun pins s σ H Q I h => ?_⟩
  rw [eval_SetComp]
  refine scM_core hc hN I hi ok hg ht he hs h fun D C s' m H' I' q hn f => ⟨m, hn, fun h'' sb => ?_⟩
  obtain ⟨f0, f1, f2, f3, f4, f5⟩ := f
  exact ⟨.ref D, H', I'.turned (t' := s'.toks) (fun b o hb e => (sb.2 b hb).trans e) f0 f1 f3 f4 f5, rfl, q⟩

end
theorem compTurnS2_out (elt t0 i0 t1 i1 : Expr) (ifs0 ifs1 : List Expr) (scope : Scope) (pos : Pos) (it acc : Value) (env : Env) :
    compTurn (.SetComp elt [⟨t0, i0, ifs0, 0⟩, ⟨t1, i1, ifs1, 0⟩] scope pos) 0 it acc env = (do
      standAt i0.pos
      match ← pyNext it with
      | none => pure (.done .next)
      | some v =>
        letOwnedTupleGo t0 it v
        assign t0 env v
        let mut ok := true
        for c in ifs0 do
          if ok then ok ← isTrue c env (eval c env)
        if ok then
          let x ← eval i1 env
          standAt i1.pos
          let x ← foldedSetIterable i1 env x
          let _ ← runOwn (.compStart (.SetComp elt [⟨t0, i0, ifs0, 0⟩, ⟨t1, i1, ifs1, 0⟩] scope pos) 1 (← holding [x] (pyIter x)) acc env) env
        again (.compLoop (.SetComp elt [⟨t0, i0, ifs0, 0⟩, ⟨t1, i1, ifs1, 0⟩] scope pos) 0 it acc env)) := by rfl
theorem compTurnS2_in (elt t0 i0 t1 i1 : Expr) (ifs0 ifs1 : List Expr) (scope : Scope) (pos : Pos) (it acc : Value) (env : Env) :
    compTurn (.SetComp elt [⟨t0, i0, ifs0, 0⟩, ⟨t1, i1, ifs1, 0⟩] scope pos) 1 it acc env = (do
      standAt i1.pos
      match ← pyNext it with
      | none => pure (.done .next)
      | some v =>
        letOwnedTupleGo t1 it v
        assign t1 env v
        let mut ok := true
        for c in ifs1 do
          if ok then ok ← isTrue c env (eval c env)
        if ok then
          (do let v ← eval elt env; standAt elt.pos; let _ ← call (.builtin "set.add") [acc, v])
        again (.compLoop (.SetComp elt [⟨t0, i0, ifs0, 0⟩, ⟨t1, i1, ifs1, 0⟩] scope pos) 1 it acc env)) := by rfl

section
variable {prog : Program} {w : World} {A : Around} {R : Result → Shared → Prop} {s : Shared} {elt t0 i0 t1 i1 : Expr} {ifs0 ifs1 : List Expr} {scope : Scope} {pos : Pos} {it acc : Value} {env : Env}
theorem compLoopS2_out (hs : ∀ x, foldedSetIterable i1 env x = pure x) (I : Nat → Shared → Prop)
    (turn : ∀ n s, I n s → wpAny (model prog w) A (pyNext it) (fun r s₁ => match r with
      | none => R (.ok .next) s₁
      | some v => wpAny (model prog w) A (letOwnedTupleGo t0 it v) (fun _ s₁' => wpAny (model prog w) A (assign t0 env v) (fun _ s₂ =>
          wpAny (model prog w) A (forIn ifs0 true fun c r => if r = true then do let ok ← isTrue c env (eval c env); pure (ForInStep.yield ok) else pure (ForInStep.yield r)) (fun ok s₃ =>
            if ok = true then wpAny (model prog w) A (eval i1 env) (fun x s₄ => wpAny (model prog w) A (pyIter x) (fun it1 s₅ =>
              codeAny (model prog w) A (.compStart (.SetComp elt [⟨t0, i0, ifs0, 0⟩, ⟨t1, i1, ifs1, 0⟩] scope pos) 1 it1 acc env) (fun r s' => match r with
                | .ok _ => ∃ m, m < n ∧ I m s'
                | .error _ => False) s₅) (notedBy (model prog w) A env fun e s' => R (.error e) s') s₄) (notedBy (model prog w) A env fun e s' => R (.error e) s') s₃
            else ∃ m, m < n ∧ I m s₃) (notedBy (model prog w) A env fun e s' => R (.error e) s') s₂) (notedBy (model prog w) A env fun e s' => R (.error e) s') s₁') (notedBy (model prog w) A env fun e s' => R (.error e) s') s₁) (notedBy (model prog w) A env fun e s' => R (.error e) s') s)
    (n : Nat) (h : I n s) :
    codeAny (model prog w) A (.compLoop (.SetComp elt [⟨t0, i0, ifs0, 0⟩, ⟨t1, i1, ifs1, 0⟩] scope pos) 0 it acc env) R s := by
  refine codeAny_loop rfl I (fun n s hI => ?_) n h
  show wpAny _ A ((compTurn (.SetComp elt [⟨t0, i0, ifs0, 0⟩, ⟨t1, i1, ifs1, 0⟩] scope pos) 0 it acc env).onRaise (fun x => do noteFrame x env; theTreesLotGoes x)) _ _ s
  refine wpAny_noted ?_
  rw [compTurnS2_out]
  refine wpAny_bind (wpAny_standAt (wpAny_bind (wpAny_mono (turn n s hI) (fun r s₁ h₁ => ?_) fun _ _ h' => h')))
  cases r with
  | none => exact wpAny_pure h₁
  | some v =>
    refine wpAny_bind (wpAny_mono h₁ (fun _ s₁' h₁' => ?_) fun _ _ h' => h')
    refine wpAny_bind (wpAny_mono h₁' (fun _ s₂ h₂ => wpAny_bind (wpAny_mono h₂ (fun ok s₃ h₃ => ?_) fun _ _ h' => h')) fun _ _ h' => h')
    cases ok with
    | false => exact wpAny_pure ⟨rfl, h₃⟩
    | true =>
      refine wpAny_bind (wpAny_mono h₃ (fun x s₄ h₄ => ?_) fun _ _ h' => h')
      refine wpAny_bind (wpAny_standAt (wpAny_bind (wpAny_of_eq (hs x) (wpAny_bind (wpAny_holding (wpAny_mono h₄ (fun it1 s₅ h₅ => ?_) fun _ _ h' => h'))))))
      refine wpAny_bind (wpAny_runOwn ?_)
      rw [Around.mark_none]
      refine codeAny_mono h₅ fun r s' hr => ?_
      cases r with
      | ok f =>
        first
          | exact wpAny_pure ⟨rfl, hr⟩
          | exact wpAny_bind (wpAny_pure (wpAny_pure ⟨rfl, hr⟩))
      | error e => exact hr.elim
theorem compLoopS2_in (I : Nat → Shared → Prop)
    (turn : ∀ n s, I n s → wpAny (model prog w) A (pyNext it) (fun r s₁ => match r with
      | none => R (.ok .next) s₁
      | some v => wpAny (model prog w) A (letOwnedTupleGo t1 it v) (fun _ s₁' => wpAny (model prog w) A (assign t1 env v) (fun _ s₂ =>
          wpAny (model prog w) A (forIn ifs1 true fun c r => if r = true then do let ok ← isTrue c env (eval c env); pure (ForInStep.yield ok) else pure (ForInStep.yield r)) (fun ok s₃ =>
            if ok = true then wpAny (model prog w) A (eval elt env) (fun x s₄ =>
              wpAny (model prog w) A (call (.builtin "set.add") [acc, x]) (fun _ s₅ => ∃ m, m < n ∧ I m s₅) (notedBy (model prog w) A env fun e s' => R (.error e) s') s₄) (notedBy (model prog w) A env fun e s' => R (.error e) s') s₃
            else ∃ m, m < n ∧ I m s₃) (notedBy (model prog w) A env fun e s' => R (.error e) s') s₂) (notedBy (model prog w) A env fun e s' => R (.error e) s') s₁') (notedBy (model prog w) A env fun e s' => R (.error e) s') s₁) (notedBy (model prog w) A env fun e s' => R (.error e) s') s)
    (n : Nat) (h : I n s) :
    codeAny (model prog w) A (.compLoop (.SetComp elt [⟨t0, i0, ifs0, 0⟩, ⟨t1, i1, ifs1, 0⟩] scope pos) 1 it acc env) R s := by
  refine codeAny_loop rfl I (fun n s hI => ?_) n h
  show wpAny _ A ((compTurn (.SetComp elt [⟨t0, i0, ifs0, 0⟩, ⟨t1, i1, ifs1, 0⟩] scope pos) 1 it acc env).onRaise (fun x => do noteFrame x env; theTreesLotGoes x)) _ _ s
  refine wpAny_noted ?_
  rw [compTurnS2_in]
  refine wpAny_bind (wpAny_standAt (wpAny_bind (wpAny_mono (turn n s hI) (fun r s₁ h₁ => ?_) fun _ _ h' => h')))
  cases r with
  | none => exact wpAny_pure h₁
  | some v =>
    refine wpAny_bind (wpAny_mono h₁ (fun _ s₁' h₁' => ?_) fun _ _ h' => h')
    refine wpAny_bind (wpAny_mono h₁' (fun _ s₂ h₂ => wpAny_bind (wpAny_mono h₂ (fun ok s₃ h₃ => ?_) fun _ _ h' => h')) fun _ _ h' => h')
    cases ok with
    | false => exact wpAny_pure ⟨rfl, h₃⟩
    | true =>
      exact wpAny_bind (wpAny_bind (wpAny_mono h₃ (fun x s₄ h₄ => wpAny_bind (wpAny_standAt (wpAny_bind (wpAny_mono h₄ (fun _ s₅ h₅ => wpAny_pure (wpAny_pure ⟨rfl, h₅⟩)) fun _ _ h' => h')))) fun _ _ h' => h'))
theorem compStartS1_ok (h0 : codeAny (model prog w) A (.compLoop (.SetComp elt [⟨t0, i0, ifs0, 0⟩, ⟨t1, i1, ifs1, 0⟩] scope pos) 1 it acc env) R s)
    (h : wpAny (model prog w) A (pyIter it) (fun it' s' => codeAny (model prog w) A (.compLoop (.SetComp elt [⟨t0, i0, ifs0, 0⟩, ⟨t1, i1, ifs1, 0⟩] scope pos) 1 it' acc env) R s')
      (notedBy (model prog w) A env fun x s' => R (.error x) s') s) :
    codeAny (model prog w) A (.compStart (.SetComp elt [⟨t0, i0, ifs0, 0⟩, ⟨t1, i1, ifs1, 0⟩] scope pos) 1 it acc env) R s := by
  refine codeAny_of_tree ?_
  show wpAny _ _ ((compStart (.SetComp elt [⟨t0, i0, ifs0, 0⟩, ⟨t1, i1, ifs1, 0⟩] scope pos) 1 it acc env).onRaise (fun x => do noteFrame x env; standAt theWindowsPlace)) _ _ s
  refine wpAny_notedAt ?_
  unfold compStart
  show wpAny _ _ (ask >>= _) _ _ s
  refine wpAny_bind (wpAny_askSetting (wpAny_ite ?_))
  split
  · first
      | exact wpAny_bind (wpAny_pure (wpAny_pure (And.intro rfl h0)))
      | exact wpAny_pure (And.intro rfl h0)
  · first
      | exact wpAny_bind (wpAny_rule (wpAny_bind (wpAny_standAt (wpAny_bind (wpAny_mono h (fun it' s' h' => wpAny_pure (And.intro rfl h')) fun _ _ x => x)))))
      | (refine wpAny_bind (wpAny_rule ?_); show wpAny _ _ (standAt i1.pos >>= _) _ _ s; exact wpAny_bind (wpAny_standAt (wpAny_bind (wpAny_mono h (fun it' s' h' => wpAny_pure (And.intro rfl h')) fun _ _ x => x))))
end


section
variable {X : Cx}
def tScM2 (w : World) (wi : TI) (g : TG) (tt : TT) (wi1 : TI) (g1 : TG) (tt1 : TT) (te : TE) (vs vs1 : List Nat) : TE := fun σ H Q => wi σ H fun J H1 => ∀ D, H1 D = none → ∃ W : Nat → Nat → Hp → Prop, (∃ m, W 0 m (upd H1 D (SetMO w D (fun _ => false) 0))) ∧ ∀ i m H, W i m H →
  (J.stop i H ∧ Q (.ref D) H) ∨ (J.go i H ∧ ∃ Nx : Hp → Prop, (∀ H', Nx H' → ∃ m', m' < m ∧ W (i + 1) m' H') ∧ ∀ x H', J.yld i H x H' → g x (wipe σ vs) H' fun σ2 H2 => wipe σ2 vs = wipe σ vs ∧ tt σ2 H2 fun b H3 =>
    if b = true then wi1 σ2 H3 fun J1 H4 => ∃ W1 : Nat → Nat → Hp → Prop, (∃ m, W1 0 m H4) ∧ ∀ j k H, W1 j k H →
      (J1.stop j H ∧ Nx H) ∨ (J1.go j H ∧ ∃ Nx1 : Hp → Prop, (∀ H', Nx1 H' → ∃ k', k' < k ∧ W1 (j + 1) k' H') ∧ ∀ x H', J1.yld j H x H' → g1 x (wipe σ2 vs1) H' fun σ3 H5 => wipe σ3 vs1 = wipe σ2 vs1 ∧ tt1 σ3 H5 fun b H6 =>
        if b = true then te σ3 H6 fun y H7 => ∃ (c : Key) (S : Key → Bool) (n : Nat), y = kV c ∧ H7 D = some (SetMO w D S n) ∧ n + 1 < scanBound ∧ Nx1 (upd H7 D (SetMO w D (fun j => S j || decide (j = c)) (if S c = true then n else n + 1))) else Nx1 H6)
    else Nx H3)
theorem scM2_core {pins : List (Addr × Obj)} {s : Shared} {σ : L2.St} {H : Hp} {Q : VK} {elt tg iter tg1 iter1 : Expr} {ifs ifs1 : List Expr} {scope : Scope} {own : List (Str × Nat)} {vs1 : List Nat} {pos pos' : Pos} {wi wi1 : TI} {g g1 : TG} {tt tt1 : TT} {te : TE} {use : Option (Value → Sem Unit)} {Qf : Value → Shared → Prop}
    (hc : X.calm = true) (hN : X.N.Nodup) (I : Inv X pins σ H s) (hi : PI X tg iter wi) (ok : BlkOk X.N X.env.scope scope own) (hv : ∀ i ∈ vs1, i ∈ own.map (·.2))
    (hg : ∀ (s : Shared) (H : Hp) (C : Addr) (cl : List (Str × Addr)) (fp : List Addr), PG (X.blk s H scope (compEnvC scope cl C X.env) fp) tg g) (ht : ∀ (s : Shared) (H : Hp) (C : Addr) (cl : List (Str × Addr)) (fp : List Addr), PTs (X.blk s H scope (compEnvC scope cl C X.env) fp) ifs tt)
    (he : ∀ (s : Shared) (H : Hp) (C : Addr) (cl : List (Str × Addr)) (fp : List Addr), PE (X.blk s H scope (compEnvC scope cl C X.env) fp) elt te) (hs : ∀ x, foldedSetIterable iter X.env x = pure x)
    (hi1 : ∀ (s : Shared) (H : Hp) (C : Addr) (cl : List (Str × Addr)) (fp : List Addr), PI (X.blk s H scope (compEnvC scope cl C X.env) fp) tg1 iter1 wi1)
    (hg1 : ∀ (s : Shared) (H : Hp) (C : Addr) (cl : List (Str × Addr)) (fp : List Addr), PG (X.blk s H scope (compEnvC scope cl C X.env) fp) tg1 g1)
    (ht1 : ∀ (s : Shared) (H : Hp) (C : Addr) (cl : List (Str × Addr)) (fp : List Addr), PTs (X.blk s H scope (compEnvC scope cl C X.env) fp) ifs1 tt1)
    (hs1 : ∀ env x, foldedSetIterable iter1 env x = pure x)
    (h : tScM2 X.w wi g tt wi1 g1 tt1 te (own.map (·.2)) vs1 σ H Q)
    (hRR : ∀ D C s' m H', Inv X pins σ H' s' → Q (.ref D) H' → s'.heap.Ns C m → FpOk X pins H' C → compPost (model X.prog X.w) X.A X.xe use Qf (.ref D) C (.ok .next) s') :
    wpAny (model X.prog X.w) X.A (comprehension (.SetComp elt [⟨tg, iter, ifs, 0⟩, ⟨tg1, iter1, ifs1, 0⟩] scope pos) scope X.env pos' (newSet (.type "set")) false (eval iter X.env) use) Qf X.xe s := by
  have hfree : ∀ y ∈ scope.names, y.2 = .free → ∃ c, X.env.cells.lookup y.1 = some c := fun y hy e => by
    rcases ok.free y hy e with k | k
    · exact I.ok.has _ (.inl k)
    · exact I.ok.has _ (.inr k)
  refine wpAny_comprehension_free (use := use) rfl hs (closure_ok hfree) ok.kind (fun y hy e => by rw [ok.uniq y hy, e])
    (thn (hi.run pins s σ H _ I h) fun xv s1 hx => thn hx fun itv s2 h2 => ?_)
  obtain ⟨it, fp, tn, J, H2, e, I2, T, st2, f2, q⟩ := h2
  subst e
  refine newSet_ok (newEnv_comp ?_)
  generalize hD : s2.heap.objs.size = D
  have hDn : H2 D = none := I2.hok.fresh (Nat.le_of_eq hD)
  obtain ⟨W, ⟨m0, w0⟩, turn⟩ := q D hDn
  generalize hs3 : ({ s2 with heap := s2.heap.push { cls := .type "set", dict := none, data := .set #[] 0 (.fresh 0 0 (!X.w.params.followText "set-order")) } } : Shared) = s3
  have I3 : Inv X pins σ (upd H2 D (SetMO X.w D (fun _ => false) 0)) s3 := by
    rw [← hs3]
    refine I2.laid (t' := s2.toks) (fun b o e => Heap.get?_push_of_some _ e) (Nat.le_of_eq hD) ?_
    rw [← hD]
    exact setMO_new (setM_fresh X.w)
  have h3 : s3.heap = s2.heap.push { cls := .type "set", dict := none, data := .set #[] 0 (.fresh 0 0 (!X.w.params.followText "set-order")) } := by rw [← hs3]
  have sz : ∀ b ∈ fp, b < s2.heap.objs.size := fun b hb => by
    obtain ⟨o, e, _⟩ := T.obj _ _ st2 b hb
    exact Heap.lt_size e
  have f3 : ∀ b ∈ fp, FpOk X pins (upd H2 D (SetMO X.w D (fun _ => false) 0)) b ∧ b < s3.heap.objs.size := fun b hb => by
    have hlt := sz b hb
    refine ⟨⟨?_, (f2 b hb).2⟩, by rw [h3, Heap.size_push]; exact Nat.lt_succ_of_lt hlt⟩
    rw [upd_ne (by rw [← hD]; exact Nat.ne_of_lt hlt)]
    exact (f2 b hb).1
  have st3 : tn 0 s3.heap := T.keep _ _ _ st2 fun b _ o e => by rw [h3]; exact Heap.get?_push_of_some _ e
  have I4 := block_start I3 ok hN f3
  have pg := hg s3 (upd H2 D (SetMO X.w D (fun _ => false) 0)) s3.heap.objs.size (cellsFrom (s3.heap.objs.size + 1) scope.names (cloFrom X.env.cells scope.names [])) fp
  have pt := ht s3 (upd H2 D (SetMO X.w D (fun _ => false) 0)) s3.heap.objs.size (cellsFrom (s3.heap.objs.size + 1) scope.names (cloFrom X.env.cells scope.names [])) fp
  have pe := he s3 (upd H2 D (SetMO X.w D (fun _ => false) 0)) s3.heap.objs.size (cellsFrom (s3.heap.objs.size + 1) scope.names (cloFrom X.env.cells scope.names [])) fp
  have pi1 := hi1 s3 (upd H2 D (SetMO X.w D (fun _ => false) 0)) s3.heap.objs.size (cellsFrom (s3.heap.objs.size + 1) scope.names (cloFrom X.env.cells scope.names [])) fp
  have pg1 := hg1 s3 (upd H2 D (SetMO X.w D (fun _ => false) 0)) s3.heap.objs.size (cellsFrom (s3.heap.objs.size + 1) scope.names (cloFrom X.env.cells scope.names [])) fp
  have pt1 := ht1 s3 (upd H2 D (SetMO X.w D (fun _ => false) 0)) s3.heap.objs.size (cellsFrom (s3.heap.objs.size + 1) scope.names (cloFrom X.env.cells scope.names [])) fp
  show codeAny _ _ (.compStart (.SetComp elt [⟨tg, iter, ifs, 0⟩, ⟨tg1, iter1, ifs1, 0⟩] scope pos) 0 (.ref it) (.ref D) (compEnvC scope (cellsFrom (s3.heap.objs.size + 1) scope.names (cloFrom X.env.cells scope.names [])) s3.heap.objs.size X.env)) (compPost (model X.prog X.w) X.A X.xe use Qf (.ref D) s3.heap.objs.size) { s3 with heap := pushCells (s3.heap.push { cls := .type "dict", data := .dict #[] }) scope.names }
  have nfp : ∀ b ∈ fp, (upd H2 D (SetMO X.w D (fun _ => false) 0)) b = none := fun b hb => (f3 b hb).1.1
  generalize hce : compEnvC scope (cellsFrom (s3.heap.objs.size + 1) scope.names (cloFrom X.env.cells scope.names [])) s3.heap.objs.size X.env = ce at I4 pg pt pe pi1 pg1 pt1 ⊢
  have cL : ce.locals = s3.heap.objs.size := by subst hce; rfl
  generalize hH3 : upd H2 D (SetMO X.w D (fun _ => false) 0) = H3 at I3 I4 pg pt pe pi1 pg1 pt1 w0 nfp f3
  generalize hs4 : ({ s3 with heap := pushCells (s3.heap.push { cls := .type "dict", data := .dict #[] }) scope.names } : Shared) = s4 at I4 ⊢
  have st4 : tn 0 s4.heap := T.keep _ _ _ st3 fun b _ o e => by rw [← hs4]; exact pushCells_keeps _ _ _ _ (Heap.get?_push_of_some _ e)
  have stat : ∀ {σ' : L2.St} {H' : Hp} {s' : Shared}, Inv (X.blk s3 H3 scope ce fp) [] σ' H' s' → (∀ b ∈ fp, H' b = none) → ∀ b ∈ fp, FpOk (X.blk s3 H3 scope ce fp) [] H' b := fun {σ' H' s'} I' hn b hb =>
    ⟨hn b hb, (I'.ok.exf b hb).1, I'.ok.exfs b hb, .inl hb, fun x c e => (I'.ok.exf b hb).2 x c e, fun p hp => absurd (show p ∈ ([] : List (Addr × Obj)) ++ [] from hp) (by simp)⟩
  have loop : codeAny (model X.prog X.w) X.A (.compLoop (.SetComp elt [⟨tg, iter, ifs, 0⟩, ⟨tg1, iter1, ifs1, 0⟩] scope pos) 0 (.ref it) (.ref D) ce) (compPost (model X.prog X.w) X.A X.xe use Qf (.ref D) s3.heap.objs.size) s4 := by
    refine compLoopS2_out (hs1 ce) (fun n s' => ∃ i H', Inv (X.blk s3 H3 scope ce fp) [] (wipe σ (own.map (·.2))) H' s' ∧ tn i s'.heap ∧ (∀ b ∈ fp, H' b = none) ∧ W i n H') ?_ m0 ⟨0, H3, I4, st4, nfp, w0⟩
    rintro n s5 ⟨i, H5, I5, st5, n5, w5⟩
    rcases turn i n H5 w5 with ⟨stop, qq⟩ | ⟨go, Nx, hNx, step⟩
    · have td := T.done (X.blk s3 H3 scope ce fp) rfl rfl rfl hc i [] s5 _ H5 (fun _ _ => False) I5 (stat I5 n5) st5 stop
      refine thnF td fun r s6 ⟨hr, I6⟩ => ?_
      subst hr
      have I7 : Inv X pins σ H5 s6 := I3.call' (ch := fp) I6.os I6.base I6.hok I6.bare fun b hb => ⟨(f3 b hb).1.2.2.2.1, (f3 b hb).1.2.1, (f3 b hb).1.2.2.2.2.1, (f3 b hb).1.2.2.2.2.2⟩
      have nC : H5 s3.heap.objs.size = none := by
        have z : H5 ce.locals = none := I6.free
        rw [cL] at z
        exact z
      obtain ⟨m, hn, _⟩ := I6.loc
      have hn : s6.heap.Ns ce.locals m := hn
      rw [cL] at hn
      exact hRR D s3.heap.objs.size s6 m H5 I7 qq hn (I3.fpOk (Nat.le_refl _) nC)
    · have ti := T.item (X.blk s3 H3 scope ce fp) rfl rfl rfl hc i [] s5 _ H5 (fun _ _ => False) I5 (stat I5 n5) st5 go
      refine thnF ti fun r s6 ⟨u, hr, h6⟩ => ?_
      subst hr
      refine thnF h6 fun _ s7 ⟨x, H7, I7, r7, y7, st7, n7⟩ => ?_
      have I7' := I7.pinned (stat I7 n7) (T.obj _ _ st7)
      refine thnF (pg.run _ s7 _ H7 x u _ I7' r7 (step x H7 y7)) fun _ s8 ⟨σ8, H8, I8, hw8, q8⟩ => ?_
      refine thnF (pt.run _ s8 σ8 H8 _ I8 q8) fun b s9 ⟨H9, I9, q9⟩ => ?_
      have fin : ∀ {σ9 : L2.St} {s' : Shared} {H' : Hp}, Inv (X.blk s3 H3 scope ce fp) ([] ++ pinsAt fp s7.heap) σ9 H' s' → (wipe σ (own.map (·.2))).length = σ9.length → (∀ (j : Nat) v, (wipe σ (own.map (·.2)))[j]? = some (some v) → σ9[j]? = some (some v)) → Nx H' →
          ∃ m, m < n ∧ ∃ i H', Inv (X.blk s3 H3 scope ce fp) [] (wipe σ (own.map (·.2))) H' s' ∧ tn i s'.heap ∧ (∀ b ∈ fp, H' b = none) ∧ W i m H' := fun {σ9 s' H'} I' hl hk nx => by
        obtain ⟨m', hm, w'⟩ := hNx H' nx
        have pin' : ∀ b ∈ fp, ∀ o, s7.heap.get? b = some o → s'.heap.get? b = some o ∧ H' b = none := fun b hb o e =>
          let z := I'.pin (b, o) (List.mem_append_right _ (List.mem_append_right _ (mem_pinsAt hb e)))
          ⟨z.1, z.2.1⟩
        refine ⟨m', hm, i + 1, H', (I'.unpinned (pins := [])).weak hl hk, T.keep _ _ _ st7 fun b hb o e => (pin' b hb o e).1, fun b hb => ?_, w'⟩
        obtain ⟨o, e, _⟩ := T.obj _ _ st7 b hb
        exact (pin' b hb o e).2
      have hl8 : (wipe σ (own.map (·.2))).length = σ8.length := by rw [← hw8, wipe_length]
      have hk8 : ∀ (j : Nat) v, (wipe σ (own.map (·.2)))[j]? = some (some v) → σ8[j]? = some (some v) := fun j v e => by
        rw [← hw8] at e
        exact (wipe_some e).1
      have hk9 : ∀ (j : Nat) v, (wipe σ (own.map (·.2)))[j]? = some (some v) → (wipe σ8 vs1)[j]? = some (some v) := fun j v e => by
        rw [← hw8] at e
        obtain ⟨e1, e2⟩ := wipe_some e
        rw [wipe_out fun z => e2 (hv j z)]
        exact e1
      cases b with
      | false =>
        simp only [Bool.false_eq_true, if_false] at q9 ⊢
        exact fin I9 hl8 hk8 q9
      | true =>
        simp only [if_true] at q9 ⊢
        refine thnF (pi1.run _ s9 σ8 H9 _ I9 q9) fun xv s10 hx => thnF hx fun itv s11 h11 => ?_
        obtain ⟨it1, fp1, tn1, J1, H11, e1, I11, T1, st11, f11, W1, ⟨m1, w1⟩, turn1⟩ := h11
        subst e1
        have stat1 : ∀ {H' : Hp}, (∀ b ∈ fp1, H' b = none) → ∀ b ∈ fp1, FpOk (X.blk s3 H3 scope ce fp) ([] ++ pinsAt fp s7.heap) H' b := fun hn b hb => ⟨hn b hb, (f11 b hb).2⟩
        have loop1 : codeAny (model X.prog X.w) X.A (.compLoop (.SetComp elt [⟨tg, iter, ifs, 0⟩, ⟨tg1, iter1, ifs1, 0⟩] scope pos) 1 (.ref it1) (.ref D) ce)
            (fun r s' => match r with
              | .ok _ => ∃ m, m < n ∧ ∃ i H', Inv (X.blk s3 H3 scope ce fp) [] (wipe σ (own.map (·.2))) H' s' ∧ tn i s'.heap ∧ (∀ b ∈ fp, H' b = none) ∧ W i m H'
              | .error _ => False) s11 := by
          refine compLoopS2_in (fun k s' => ∃ j H', Inv (X.blk s3 H3 scope ce fp) ([] ++ pinsAt fp s7.heap) (wipe σ8 vs1) H' s' ∧ tn1 j s'.heap ∧ (∀ b ∈ fp1, H' b = none) ∧ W1 j k H') ?_ m1 ⟨0, H11, I11.weak (wipe_length _ _) (fun j v e => (wipe_some e).1), st11, fun b hb => (f11 b hb).1, w1⟩
          rintro k s12 ⟨j, H12, I12, st12, n12, w12⟩
          rcases turn1 j k H12 w12 with ⟨stop1, nx1⟩ | ⟨go1, Nx1, hNx1, step1⟩
          · refine thnF (T1.done (X.blk s3 H3 scope ce fp) rfl rfl rfl hc j _ s12 (wipe σ8 vs1) H12 (fun _ _ => False) I12 (stat1 n12) st12 stop1) fun r s13 ⟨hr, I13⟩ => ?_
            subst hr
            exact fin I13 (hl8.trans (wipe_length σ8 vs1).symm) hk9 nx1
          · refine thnF (T1.item (X.blk s3 H3 scope ce fp) rfl rfl rfl hc j _ s12 (wipe σ8 vs1) H12 (fun _ _ => False) I12 (stat1 n12) st12 go1) fun r s13 ⟨u1, hr, h13⟩ => ?_
            subst hr
            refine thnF h13 fun _ s14 ⟨x1, H14, I14, r14, y14, st14, n14⟩ => ?_
            have I14' := I14.pinned (stat1 n14) (T1.obj _ _ st14)
            refine thnF (pg1.run _ s14 (wipe σ8 vs1) H14 x1 u1 _ I14' r14 (step1 x1 H14 y14)) fun _ s15 ⟨σ15, H15, I15, hw15, q15⟩ => ?_
            refine thnF (pt1.run _ s15 σ15 H15 _ I15 q15) fun b1 s16 ⟨H16, I16, q16⟩ => ?_
            have fin1 : ∀ {s' : Shared} {H' : Hp}, Inv (X.blk s3 H3 scope ce fp) (([] ++ pinsAt fp s7.heap) ++ pinsAt fp1 s14.heap) σ15 H' s' → Nx1 H' → ∃ m, m < k ∧ ∃ j H', Inv (X.blk s3 H3 scope ce fp) ([] ++ pinsAt fp s7.heap) (wipe σ8 vs1) H' s' ∧ tn1 j s'.heap ∧ (∀ b ∈ fp1, H' b = none) ∧ W1 j m H' := fun {s' H'} I' nx => by
              obtain ⟨m', hm, w'⟩ := hNx1 H' nx
              have pin' : ∀ b ∈ fp1, ∀ o, s14.heap.get? b = some o → s'.heap.get? b = some o ∧ H' b = none := fun b hb o e =>
                let z := I'.pin (b, o) (List.mem_append_right _ (List.mem_append_right _ (mem_pinsAt hb e)))
                ⟨z.1, z.2.1⟩
              refine ⟨m', hm, j + 1, H', I'.unpinned.weak (by rw [← hw15, wipe_length]) (fun j v e => by rw [← hw15] at e; exact (wipe_some e).1), T1.keep _ _ _ st14 fun b hb o e => (pin' b hb o e).1, fun b hb => ?_, w'⟩
              obtain ⟨o, e, _⟩ := T1.obj _ _ st14 b hb
              exact (pin' b hb o e).2
            cases b1 with
            | false =>
              simp only [Bool.false_eq_true, if_false] at q16 ⊢
              exact fin1 I16 q16
            | true =>
              simp only [if_true] at q16 ⊢
              refine thnF (pe.run _ s16 σ15 H16 _ I16 q16) fun z s17 ⟨yv, H17, I17, r17, cb, S0, n0, ey, hD17, hz17, nx⟩ => ?_
              subst ey
              exact addM_ok (X := X.blk s3 H3 scope ce fp) I17 r17 hD17 hz17 fun s18 I18 => fin1 I18 nx
        exact compStartS1_ok loop1 (T1.self X.A 0 _ _ _ st11 loop1)
  exact codeAny_compStart_set loop (T.self X.A 0 _ _ _ st4 loop)
theorem pe_scM2 {elt tg iter tg1 iter1 : Expr} {ifs ifs1 : List Expr} {scope : Scope} {own : List (Str × Nat)} {vs1 : List Nat} {pos : Pos} {wi wi1 : TI} {g g1 : TG} {tt tt1 : TT} {te : TE} (hc : X.calm = true) (hN : X.N.Nodup) (hi : PI X tg iter wi) (ok : BlkOk X.N X.env.scope scope own) (hv : ∀ i ∈ vs1, i ∈ own.map (·.2))
    (hg : ∀ (s : Shared) (H : Hp) (C : Addr) (cl : List (Str × Addr)) (fp : List Addr), PG (X.blk s H scope (compEnvC scope cl C X.env) fp) tg g) (ht : ∀ (s : Shared) (H : Hp) (C : Addr) (cl : List (Str × Addr)) (fp : List Addr), PTs (X.blk s H scope (compEnvC scope cl C X.env) fp) ifs tt)
    (hi1 : ∀ (s : Shared) (H : Hp) (C : Addr) (cl : List (Str × Addr)) (fp : List Addr), PI (X.blk s H scope (compEnvC scope cl C X.env) fp) tg1 iter1 wi1)
    (hg1 : ∀ (s : Shared) (H : Hp) (C : Addr) (cl : List (Str × Addr)) (fp : List Addr), PG (X.blk s H scope (compEnvC scope cl C X.env) fp) tg1 g1) (ht1 : ∀ (s : Shared) (H : Hp) (C : Addr) (cl : List (Str × Addr)) (fp : List Addr), PTs (X.blk s H scope (compEnvC scope cl C X.env) fp) ifs1 tt1)
    (he : ∀ (s : Shared) (H : Hp) (C : Addr) (cl : List (Str × Addr)) (fp : List Addr), PE (X.blk s H scope (compEnvC scope cl C X.env) fp) elt te) (hs : ∀ x, foldedSetIterable iter X.env x = pure x := by intro _; rfl) (hs1 : ∀ env x, foldedSetIterable iter1 env x = pure x := by intro _ _; rfl) :
    PE X (.SetComp elt [⟨tg, iter, ifs, 0⟩, ⟨tg1, iter1, ifs1, 0⟩] scope pos) (tScM2 X.w wi g tt wi1 g1 tt1 te (own.map (·.2)) vs1) := by
  refine ⟨fun pins s σ H Q I h => ?_⟩
  rw [eval_SetComp]
  refine scM2_core hc hN I hi ok hv hg ht he hs hi1 hg1 ht1 hs1 h fun D C s' m H' I' q hn f => ⟨m, hn, fun h'' sb => ?_⟩
  obtain ⟨f0, f1, f2, f3, f4, f5⟩ := f
  exact ⟨.ref D, H', I'.turned (t' := s'.toks) (fun b o hb e => (sb.2 b hb).trans e) f0 f1 f3 f4 f5, rfl, q⟩
end
end Fl
set_option maxHeartbeats 4000000
namespace Fl
open PySem PySem.Spec PyProof.Rows L2 Evl
open PySem.Sem (wp)
theorem ints_keys : ∀ (l : List Value), (∀ v ∈ l, ∃ i : Int, RelV (kV (.inl i)) v) → ∃ ns : List Int, IntsAre l ns ∧ l.map (fun v => keyM (0, v)) = ns.map Sum.inl
  | [], _ => ⟨[], .nil, rfl⟩
  | v :: l, h => by
    obtain ⟨ns, h1, h2⟩ := ints_keys l fun u hu => h u (List.mem_cons_of_mem _ hu)
    obtain ⟨i, r⟩ := h v List.mem_cons_self
    have e := keyM_of (e := (0, v)) r
    obtain ⟨t, q⟩ := (show ∃ t, v = Value.int i t from r)
    subst q
    exact ⟨i :: ns, .cons i t h1, by rw [List.map_cons, List.map_cons, e, h2]⟩
theorem strs_keys : ∀ (l : List Value), (∀ v ∈ l, ∃ x : Str, RelV (kV (.inr x)) v) → ∃ xs : List Str, StrsAre l xs ∧ l.map (fun v => keyM (0, v)) = xs.map Sum.inr
  | [], _ => ⟨[], .nil, rfl⟩
  | v :: l, h => by
    obtain ⟨ns, h1, h2⟩ := strs_keys l fun u hu => h u (List.mem_cons_of_mem _ hu)
    obtain ⟨i, r⟩ := h v List.mem_cons_self
    have e := keyM_of (e := (0, v)) r
    obtain ⟨t, q⟩ := (show ∃ t, v = Value.str i t from r)
    subst q
    exact ⟨i :: ns, .cons i t h1, by rw [List.map_cons, List.map_cons, e, h2]⟩
theorem keyM_snd (l : List (Int × Value)) : (l.map (·.2)).map (fun v => keyM (0, v)) = l.map keyM := by
  rw [List.map_map]
  rfl
section
variable {P : Program} {w : World} {A : Around} {E : Value → Shared → Prop} {s : Shared} {a : Addr} {S : Key → Bool} {n : Nat}
theorem sortedM_ints {Q : Value → Shared → Prop} (R : SetM w s.heap a S n) (hS : ∀ k, S k = true → ∃ i : Int, k = .inl i) (hh : A.handled = none) (h64 : n < 64)
    (hQ : ∀ s' p (out : Array Value) (c : Nat) (ns : List Int), (∀ b o, s.heap.get? b = some o → s'.heap.get? b = some o) → s'.gens = s.gens → s'.os = s.os → s.heap.objs.size ≤ p →
      s'.heap.get? p = some (seqObj "list" out c) → IntsAre out.toList ns → ns.Pairwise (· < ·) → (∀ k, k ∈ ns ↔ S (.inl k) = true) → ns.length = n → Q (.ref p) s') :
    wpAny (model P w) A (call (.builtin "sorted") [.ref a]) Q E s := by
  obtain ⟨o, es, ep, t, ho, hex, hd, g, nd, hm, hb, hf, hn, hr, hl⟩ := R
  refine Calls.call_function_entry kind_sorted plain_sorted entry_sorted (args_sorted1 _) ?_
  unfold Builtin.«sorted»
  refine wpAny_bind (m := checkCount "sorted" 1 1 _) (wpAny_pure ?_)
  refine wpAny_bind (collect_set (A := A.in1) hh ⟨o, ho, hex.1, hd⟩ hf hb hr hl fun s1 vs k1 hz g1 o1 pm => ?_)
  have hvl : vs.length = n := by rw [pm.length_eq, List.length_map, Array.length_toList]; exact hn
  obtain ⟨ns, hI, hk⟩ := ints_keys vs fun v hv => by
    obtain ⟨e, he, q⟩ := List.mem_map.mp (pm.mem_iff.mp hv)
    obtain ⟨k, h1, _⟩ := g e he
    obtain ⟨i, rfl⟩ := hS k ((hm k).2 (List.mem_map.mpr ⟨e, he, keyM_of h1⟩))
    exact ⟨i, q ▸ h1⟩
  have pk : (ns.map Sum.inl).Perm (es.toList.map keyM) := by
    have q := pm.map (fun v => keyM (0, v))
    rw [keyM_snd, hk] at q
    exact q
  refine wpAny_bind (wpAny_newList ?_ (by rw [hvl, sizeLine_eq]; omega))
  have hoL : (s1.heap.push (seqObj "list" vs.toArray 0)).get? s1.heap.objs.size = some (seqObj "list" vs.toArray 0) := Heap.get?_push_size _ rfl
  refine wpAny_bind (wpAny_holding (wpAny_call_entry slot_list_sort ⟨_, hoL, rfl⟩ entry_list_sort (list_sort_tree hoL hI (by rw [hvl]; exact h64) fun out ns' a1 a2 a3 => ⟨_, rfl, ?_⟩) (args_list_sort _)))
  obtain ⟨c, hc⟩ := sortedHeap_at (vs := vs) (out := out) hoL
  have pn : (ns'.map Sum.inl).Perm (es.toList.map keyM) := (a2.map Sum.inl).trans pk
  refine wpAny_pure ⟨_, rfl, hQ _ s1.heap.objs.size out c ns' (fun b u e => ?_) g1 o1 hz hc a1 (lt_of_le_nodup ns' a3 (List.Pairwise.of_map _ (fun a b h e => h (congrArg _ e)) (pn.nodup_iff.mpr nd))) (fun k => ?_) ?_⟩
  · have q := k1 b u e
    have hlt := Heap.lt_size q
    show (sortedHeap (s1.heap.push (seqObj "list" vs.toArray 0)) s1.heap.objs.size vs out).get? b = some u
    rw [sortedHeap_old (Nat.ne_of_lt hlt) (by rw [size_push']; exact Nat.lt_succ_of_lt hlt)]
    exact Heap.get?_push_of_some _ q
  · rw [hm (.inl k), ← pn.mem_iff, List.mem_map]
    constructor
    · intro h
      exact ⟨k, h, rfl⟩
    · rintro ⟨j, hj, e⟩
      cases e
      exact hj
  · have := pn.length_eq
    simp only [List.length_map, Array.length_toList] at this
    exact this.trans hn
theorem sortedM_strs {Q : Value → Shared → Prop} (R : SetM w s.heap a S n) (hS : ∀ k, S k = true → ∃ x : Str, k = .inr x) (hh : A.handled = none) (h64 : n < 64)
    (hQ : ∀ s' p (out : Array Value) (c : Nat) (ns : List Str), (∀ b o, s.heap.get? b = some o → s'.heap.get? b = some o) → s'.gens = s.gens → s'.os = s.os → s.heap.objs.size ≤ p →
      s'.heap.get? p = some (seqObj "list" out c) → StrsAre out.toList ns → ns.Nodup → (∀ k, k ∈ ns ↔ S (.inr k) = true) → ns.length = n → Q (.ref p) s') :
    wpAny (model P w) A (call (.builtin "sorted") [.ref a]) Q E s := by
  obtain ⟨o, es, ep, t, ho, hex, hd, g, nd, hm, hb, hf, hn, hr, hl⟩ := R
  refine Calls.call_function_entry kind_sorted plain_sorted entry_sorted (args_sorted1 _) ?_
  unfold Builtin.«sorted»
  refine wpAny_bind (m := checkCount "sorted" 1 1 _) (wpAny_pure ?_)
  refine wpAny_bind (collect_set (A := A.in1) hh ⟨o, ho, hex.1, hd⟩ hf hb hr hl fun s1 vs k1 hz g1 o1 pm => ?_)
  have hvl : vs.length = n := by rw [pm.length_eq, List.length_map, Array.length_toList]; exact hn
  obtain ⟨ns, hI, hk⟩ := strs_keys vs fun v hv => by
    obtain ⟨e, he, q⟩ := List.mem_map.mp (pm.mem_iff.mp hv)
    obtain ⟨k, h1, _⟩ := g e he
    obtain ⟨i, rfl⟩ := hS k ((hm k).2 (List.mem_map.mpr ⟨e, he, keyM_of h1⟩))
    exact ⟨i, q ▸ h1⟩
  have pk : (ns.map Sum.inr).Perm (es.toList.map keyM) := by
    have q := pm.map (fun v => keyM (0, v))
    rw [keyM_snd, hk] at q
    exact q
  refine wpAny_bind (wpAny_newList ?_ (by rw [hvl, sizeLine_eq]; omega))
  have hoL : (s1.heap.push (seqObj "list" vs.toArray 0)).get? s1.heap.objs.size = some (seqObj "list" vs.toArray 0) := Heap.get?_push_size _ rfl
  refine wpAny_bind (wpAny_holding (wpAny_call_entry slot_list_sort ⟨_, hoL, rfl⟩ entry_list_sort (list_sort_treeK strKind_oneLt hoL hI.keysOf (fun v₁ v₂ rest e => keyKind_strs (by rw [← e]; exact hI)) (by rw [hvl]; exact h64) fun st' hp hs => ?_) (args_list_sort _)))
  obtain ⟨ns', a1, a2, a3⟩ := sorted_out_str hI hp hs
  refine ⟨_, rfl, ?_⟩
  obtain ⟨c, hc⟩ := sortedHeap_at (vs := vs) (out := ((arrOf st').map (·.2))) hoL
  have pn : (ns'.map Sum.inr).Perm (es.toList.map keyM) := (a2.map Sum.inr).trans pk
  refine wpAny_pure ⟨_, rfl, hQ _ s1.heap.objs.size _ c ns' (fun b u e => ?_) g1 o1 hz hc a1 (List.Pairwise.of_map _ (fun a b h e => h (congrArg _ e)) (pn.nodup_iff.mpr nd)) (fun k => ?_) ?_⟩
  · have q := k1 b u e
    have hlt := Heap.lt_size q
    show (sortedHeap (s1.heap.push (seqObj "list" vs.toArray 0)) s1.heap.objs.size vs _).get? b = some u
    rw [sortedHeap_old (Nat.ne_of_lt hlt) (by rw [size_push']; exact Nat.lt_succ_of_lt hlt)]
    exact Heap.get?_push_of_some _ q
  · rw [hm (.inr k), ← pn.mem_iff, List.mem_map]
    constructor
    · intro h
      exact ⟨k, h, rfl⟩
    · rintro ⟨j, hj, e⟩
      cases e
      exact hj
  · have := pn.length_eq
    simp only [List.length_map, Array.length_toList] at this
    exact this.trans hn
end
section
variable {X : Cx}
def rSortedMI (w : World) : List V → Hp → VK → Prop := fun vs H Q => ∃ (a : Addr) (S : Key → Bool) (n : Nat), vs = [V.ref a] ∧ H a = some (SetMO w a S n) ∧ (∀ k, S k = true → ∃ i : Int, k = .inl i) ∧ n < 64 ∧
  ∀ (ns : List Int) (p : Addr), ns.Pairwise (· < ·) → (∀ k : Int, k ∈ ns ↔ S (.inl k) = true) → ns.length = n → H p = none → Q (.ref p) (upd H p (.lst (ns.map V.int)))
theorem cr_sortedMI (hc : X.calm = true) : CallR X (.builtin "sorted") (rSortedMI X.w) := by
  intro pins s σ H vs us Q I r h
  obtain ⟨a, S, n, rfl, ha, hS, h64, q⟩ := h
  have R := setMO_get I ha
  rw [Vals.ref1 r]
  refine sortedM_ints R hS (I.ok.hd hc) h64 fun s' p out c ns k g o hp hg hi hs hm hl => ?_
  have hlen : (ns.map V.int).length ≤ sizeLine := by rw [List.length_map, hl, sizeLine_eq]; omega
  have hn : H p = none := I.hok.fresh hp
  have J : Inv X pins σ (upd H p (.lst (ns.map V.int))) { s with heap := s'.heap, gens := s'.gens, drawn := s'.drawn, toks := s'.toks } :=
    I.call (ch := []) (Un.laid k hp hn) (I.hok.laid k hp ⟨hlen, out.toList, c, vals_of_ints hi, hg⟩) (by rw [g]; exact I.bare) (fun _ z => nomatch z)
  have e : s' = { s with heap := s'.heap, gens := s'.gens, drawn := s'.drawn, toks := s'.toks } := by
    cases s'
    cases s
    cases o
    rfl
  rw [e]
  exact ⟨.ref p, _, J, rfl, q ns p hs hm hl hn⟩
def rSortedMS (w : World) : List V → Hp → VK → Prop := fun vs H Q => ∃ (a : Addr) (S : Key → Bool) (n : Nat), vs = [V.ref a] ∧ H a = some (SetMO w a S n) ∧ (∀ k, S k = true → ∃ i : Str, k = .inr i) ∧ n < 64 ∧
  ∀ (ns : List Str) (p : Addr), ns.Nodup → (∀ k : Str, k ∈ ns ↔ S (.inr k) = true) → ns.length = n → H p = none → Q (.ref p) (upd H p (.lst (ns.map V.str)))
theorem cr_sortedMS (hc : X.calm = true) : CallR X (.builtin "sorted") (rSortedMS X.w) := by
  intro pins s σ H vs us Q I r h
  obtain ⟨a, S, n, rfl, ha, hS, h64, q⟩ := h
  have R := setMO_get I ha
  rw [Vals.ref1 r]
  refine sortedM_strs R hS (I.ok.hd hc) h64 fun s' p out c ns k g o hp hg hi hs hm hl => ?_
  have hlen : (ns.map V.str).length ≤ sizeLine := by rw [List.length_map, hl, sizeLine_eq]; omega
  have hn : H p = none := I.hok.fresh hp
  have J : Inv X pins σ (upd H p (.lst (ns.map V.str))) { s with heap := s'.heap, gens := s'.gens, drawn := s'.drawn, toks := s'.toks } :=
    I.call (ch := []) (Un.laid k hp hn) (I.hok.laid k hp ⟨hlen, out.toList, c, vals_of_strs hi, hg⟩) (by rw [g]; exact I.bare) (fun _ z => nomatch z)
  have e : s' = { s with heap := s'.heap, gens := s'.gens, drawn := s'.drawn, toks := s'.toks } := by
    cases s'
    cases s
    cases o
    rfl
  rw [e]
  exact ⟨.ref p, _, J, rfl, q ns p hs hm hl hn⟩
end
end Fl
set_option maxHeartbeats 2000000
namespace Fl
open PySem PySem.Spec PyProof.Rows L2 Evl
theorem w_it {J : It} {n : Nat} {G : Hp → Prop} {Y : Nat → Hp → V → Hp → Prop} (w : Walk J n G Y) {Body : V → Hp → (Hp → Prop) → Prop} {Qd : Hp → Prop} {H0 : Hp} (Pv : Nat → Hp → Prop) (h0 : Pv 0 H0) (hG : ∀ i H, i ≤ n → Pv i H → G H)
    (hs : ∀ i x H H', i < n → Pv i H → Y i H x H' → Body x H' (Pv (i + 1))) (hd : ∀ H, Pv n H → Qd H) :
    ∃ W : Nat → Nat → Hp → Prop, (∃ m, W 0 m H0) ∧ ∀ i m H, W i m H → (J.stop i H ∧ Qd H) ∨ (J.go i H ∧ ∃ Nx : Hp → Prop, (∀ H', Nx H' → ∃ m', m' < m ∧ W (i + 1) m' H') ∧ ∀ x H', J.yld i H x H' → Body x H' Nx) := by
  refine ⟨fun i m H => m = n - i ∧ i ≤ n ∧ Pv i H, ⟨n, by simp, Nat.zero_le _, h0⟩, ?_⟩
  rintro i m H ⟨rfl, hi, p⟩
  have q := hG i H hi p
  by_cases hlt : i < n
  · exact .inr ⟨w.goes i H hlt q, Pv (i + 1), fun H' p' => ⟨n - (i + 1), by omega, rfl, hlt, p'⟩, fun x H' y => hs i x H H' hlt p (w.yields i H x H' hlt q y)⟩
  · have e : i = n := by omega
    subst e
    exact .inl ⟨w.stops H q, hd H p⟩
def IsSet (w : World) (H : Hp) (v : V) (ks : List Key) : Prop := ∃ a S n, v = .ref a ∧ H a = some (SetMO w a S n) ∧ (∀ k, S k = true ↔ k ∈ ks) ∧ n ≤ ks.length
section
variable {P : Program} {w : World} {K : PySem.W.Frag} {C : Addr} {σ : L2.St} {H : Hp}
theorem item_of {α : Type} {xs : List α} {F : α → D} {i : Nat} {d : D} (hd : (xs.map F)[i]? = some d) : ∃ a, xs[i]? = some a ∧ F a = d := by
  rw [List.getElem?_map] at hd
  cases q : xs[i]? with
  | none => rw [q] at hd; cases hd
  | some a => rw [q] at hd; exact ⟨a, rfl, Option.some.inj hd⟩
theorem take_item {α : Type} {xs : List α} {i : Nat} {a : α} (h : xs[i]? = some a) : xs.take (i + 1) = xs.take i ++ [a] := by
  rw [List.take_add_one, h]
  rfl
theorem set_step {S : Key → Bool} {ks : List Key} {n : Nat} {c : Key} (h : ∀ k, S k = true ↔ k ∈ ks) (hn : n ≤ ks.length) : (∀ k, (S k || decide (k = c)) = true ↔ k ∈ ks ++ [c]) ∧ (if S c = true then n else n + 1) ≤ (ks ++ [c]).length := by
  refine ⟨fun k => ?_, ?_⟩
  · rw [Bool.or_eq_true, h k, decide_eq_true_eq, List.mem_append, List.mem_singleton]
  · rw [List.length_append, List.length_singleton]
    split <;> omega
theorem ev_sc {α : Type} {wi : TI} {g : TG} {te : TE} {vs : List Nat} {B : Hp → Addr → Prop} {xs : List α} {F : α → D} (kf : α → Key) (h : EvI C wi σ H (xs.map F) B) (hl : xs.length ≤ 1000)
    (hs : ∀ (a : α) (x : V) (H1 : Hp), a ∈ xs → Ex H H1 → Rp C H1 x (F a) → ∀ k : L2.St → Hp → Prop, (∀ σ2, wipe σ2 vs = wipe σ vs → EvP te σ2 H1 (fun v _ => v = kV (kf a)) → k σ2 H1) → g x (wipe σ vs) H1 k) :
    EvP (tScM w wi g tYes te vs) σ H fun v H2 => IsSet w H2 v (xs.map kf) := fun H0 e Q q => h H0 e _ fun J A H1 e1 dw hA Dl hD => by
  obtain ⟨G, Y, wk, hG, hY⟩ := dw.ex
  refine w_it wk (fun i H' => Ex H1 H' ∧ ∃ S n, H' Dl = some (SetMO w Dl S n) ∧ (∀ k, S k = true ↔ k ∈ (xs.take i).map kf) ∧ n ≤ ((xs.take i).map kf).length) ⟨Ex.new hD, _, 0, upd_same, by simp, by simp⟩ (fun i H' _ p => hG H' (fun a ha => by
      obtain ⟨_, o, ho⟩ := hA a ha
      rw [ho]
      exact p.1 a _ ho) (Tx.ex p.1)) (fun i x H2 H3 hi p y => ?_) fun H' p => ?_
  · obtain ⟨p1, S, n, p2, p3, p4⟩ := p
    obtain ⟨e3, d, hd, hr⟩ := hY i H2 x H3 hi (fun a ha => by
      obtain ⟨_, o, ho⟩ := hA a ha
      rw [ho]
      exact p1 a _ ho) (Tx.ex p1) y
    have eH : Ex H1 H3 := p1.trans e3
    have hr := hr (.inl p1)
    obtain ⟨a, ha, rfl⟩ := item_of hd
    refine hs a x H3 (List.mem_of_getElem? ha) ((e.trans e1).trans eH) hr _ fun σ2 hw he => ⟨hw, ?_⟩
    refine he H3 (Ex.refl _) _ fun v H4 e4 r4 => ?_
    have hD4 := e4 _ _ (e3 _ _ p2)
    have hlt : n ≤ xs.length := Nat.le_trans p4 (by rw [List.length_map, List.length_take]; omega)
    have st := set_step (c := kf a) p3 p4
    rw [take_item ha, List.map_append]
    exact ⟨kf a, S, n, r4, hD4, Nat.lt_of_le_of_lt (Nat.succ_le_succ (Nat.le_trans hlt hl)) (by decide), Ex.mut (eH.trans e4) hD, _, _, upd_same, st.1, st.2⟩
  · obtain ⟨p1, S, n, p2, p3, p4⟩ := p
    rw [show (xs.map F).length = xs.length from List.length_map _, List.take_length] at p3 p4
    exact q (.ref Dl) H' (e1.trans p1) ⟨Dl, S, n, rfl, p2, p3, p4⟩
theorem ev_sc2 {α β : Type} {wi wi1 : TI} {g g1 : TG} {te : TE} {vs vs1 : List Nat} {B : Hp → Addr → Prop} {xs : List α} {F : α → D} (ys : α → List β) (Gf : β → D) (kf : β → Key) (h : EvI C wi σ H (xs.map F) B) (hl : (xs.flatMap ys).length ≤ 1000) (hz : ∀ a ∈ xs, ∀ b ∈ ys a, (Gf b).fz = true)
    (hs : ∀ (a : α) (x : V) (H1 : Hp), a ∈ xs → Ex H H1 → Rp C H1 x (F a) → ∀ k : L2.St → Hp → Prop, (∀ σ2, wipe σ2 vs = wipe σ vs → EvI C wi1 σ2 H1 ((ys a).map Gf) B0 →
      (∀ (b : β) (y : V) (H2 : Hp), b ∈ ys a → Ex H H2 → Rp C H2 y (Gf b) → ∀ k' : L2.St → Hp → Prop, (∀ σ3, wipe σ3 vs1 = wipe σ2 vs1 → EvP te σ3 H2 (fun v _ => v = kV (kf b)) → k' σ3 H2) → g1 y (wipe σ2 vs1) H2 k') → k σ2 H1) → g x (wipe σ vs) H1 k) :
    EvP (tScM2 w wi g tYes wi1 g1 tYes te vs vs1) σ H fun v H2 => IsSet w H2 v ((xs.flatMap ys).map kf) := fun H0 e Q q => h H0 e _ fun J A H1 e1 dw hA Dl hD => by
  obtain ⟨G, Y, wk, hG, hY⟩ := dw.ex
  refine w_it wk (fun i H' => Ex H1 H' ∧ ∃ S n, H' Dl = some (SetMO w Dl S n) ∧ (∀ k, S k = true ↔ k ∈ ((xs.take i).flatMap ys).map kf) ∧ n ≤ (((xs.take i).flatMap ys).map kf).length) ⟨Ex.new hD, _, 0, upd_same, by simp, by simp⟩ (fun i H' _ p => hG H' (fun a ha => by
      obtain ⟨_, o, ho⟩ := hA a ha
      rw [ho]
      exact p.1 a _ ho) (Tx.ex p.1)) (fun i x H2 H3 hi p y => ?_) fun H' p => ?_
  · obtain ⟨p1, S, n, p2, p3, p4⟩ := p
    obtain ⟨e3, d, hd, hr⟩ := hY i H2 x H3 hi (fun a ha => by
      obtain ⟨_, o, ho⟩ := hA a ha
      rw [ho]
      exact p1 a _ ho) (Tx.ex p1) y
    have eH : Ex H1 H3 := p1.trans e3
    have hr := hr (.inl p1)
    obtain ⟨a, ha, rfl⟩ := item_of hd
    have hb : ((xs.take (i + 1)).flatMap ys).length ≤ 1000 := by
      refine Nat.le_trans ?_ hl
      have e : xs.flatMap ys = (xs.take (i + 1)).flatMap ys ++ (xs.drop (i + 1)).flatMap ys := by
        rw [← List.flatMap_append, List.take_append_drop]
      rw [e, List.length_append]
      omega
    rw [take_item ha, List.flatMap_append, List.flatMap_singleton] at hb ⊢
    refine hs a x H3 (List.mem_of_getElem? ha) ((e.trans e1).trans eH) hr _ fun σ2 hw hI hin => ⟨hw, ?_⟩
    show wi1 σ2 H3 _
    refine hI H3 (Ex.refl _) _ fun J1 A1 H4 e4 dw1 hA1 => ?_
    obtain ⟨G1, Y1, wk1, hG1, hY1⟩ := dw1.ex
    have e4' : Ex H1 H4 := eH.trans e4
    have hA0 : A1 = [] := by
      cases A1 with
      | nil => rfl
      | cons b bs => exact (hA1 b List.mem_cons_self).1.elim
    subst hA0
    have ham : a ∈ xs := List.mem_of_getElem? ha
    have hD4 := e4 _ _ (e3 _ _ p2)
    refine w_it wk1 (fun j H' => Tx H4 H' ∧ Ex H1 H' ∧ ∃ S n, H' Dl = some (SetMO w Dl S n) ∧ (∀ k, S k = true ↔ k ∈ ((xs.take i).flatMap ys ++ (ys a).take j).map kf) ∧ n ≤ (((xs.take i).flatMap ys ++ (ys a).take j).map kf).length) ⟨Tx.refl _, e4', S, n, hD4, by simpa using p3, by simpa using p4⟩
      (fun j H' _ p => hG1 H' (fun _ z => nomatch z) p.1) (fun j y2 H5 H6 hj p yy => ?_) fun H' p => ?_
    · obtain ⟨p0, p1', S', n', p2', p3', p4'⟩ := p
      obtain ⟨e6, d2, hd2, hr2⟩ := hY1 j H5 y2 H6 hj (fun _ z => nomatch z) p0 yy
      obtain ⟨b, hb2, rfl⟩ := item_of hd2
      have hbm : b ∈ ys a := List.mem_of_getElem? hb2
      have hr2 := hr2 (.inr (hz a ham b hbm))
      refine hin b y2 H6 hbm ((e.trans e1).trans (p1'.trans e6)) hr2 _ fun σ3 hw3 he => ⟨hw3, ?_⟩
      refine he H6 (Ex.refl _) _ fun v H7 e7 r7 => ?_
      have hD7 := e7 _ _ (e6 _ _ p2')
      have st := set_step (c := kf b) p3' p4'
      have hlt : n' + 1 < scanBound := by
        have h1 : n' ≤ 1000 := by
          refine Nat.le_trans p4' ?_
          rw [List.length_map, List.length_append, List.length_take]
          rw [List.length_append] at hb
          omega
        exact Nat.lt_of_le_of_lt (Nat.succ_le_succ h1) (by decide)
      rw [take_item hb2, ← List.append_assoc, List.map_append (l₂ := [b])]
      exact ⟨kf b, S', n', r7, hD7, hlt, (p0.trans ((Tx.ex e6).trans (Tx.ex e7))).trans (Tx.put fun ys' z => by rw [hD7] at z; cases z), Ex.mut ((p1'.trans e6).trans e7) hD, _, _, upd_same, st.1, st.2⟩
    · obtain ⟨p0, p1', S', n', p2', p3', p4'⟩ := p
      rw [show ((ys a).map Gf).length = (ys a).length from List.length_map _, List.take_length] at p3' p4'
      exact ⟨p1', S', n', p2', p3', p4'⟩
  · obtain ⟨p1, S, n, p2, p3, p4⟩ := p
    rw [show (xs.map F).length = xs.length from List.length_map _, List.take_length] at p3 p4
    exact q (.ref Dl) H' (e1.trans p1) ⟨Dl, S, n, rfl, p2, p3, p4⟩
end
end Fl
set_option maxHeartbeats 4000000
namespace Fl
open PySem PySem.Spec PyProof.Rows L2 Evl
theorem callee_of {P : Program} {w : World} {K : PySem.W.Frag} {mg : Str → Option Value} {base : Heap} {x qual : Str} {st : Stmt} {f : Addr} {fd : FuncData} {k : Nat} {ps : List Str} {sp : Sp}
    (F : FunD K x qual (defArgs st) (defBody st) (defScope st) [] [] f fd) (G : FnOk P w K mg base CX0 k f fd ps sp) (hm : mg x = some (.ref f))
    (hb : ∀ (kV doc pm : Value) (an : Option Addr) (cdv ct : Value) (us : List Value), us.length = ps.length → bindArgs (PySem.W.fnOf x qual (defArgs st) (defBody st) (defScope st) .none kV doc pm an cdv ct) ⟨us, []⟩ = pure (ps.zip us)) : Callee P w K mg base x k ps sp :=
  ⟨f, fd, G, hm, F.kp, F.bindsN hb⟩
theorem ret_of {C : Addr} {σ : L2.St} {H : Hp} {d : D} {te : TE} {Q : VK} {nx : L2.St → Hp → Prop} {res : D → Prop} (h : Ed C te σ H d) (hz : d.fz = true) (q : ∀ d v H', res d → Ex H H' → Rp C H' v d → Nw H v d → Q v H') (hr : res d) : tRet te { nx := nx, rt := Q } σ H := sd_retF h hz fun v H' => q d v H' hr
theorem q_ex {C : Addr} {H H1 : Hp} {Q : VK} {res : D → Prop} (e1 : Ex H H1) (q : ∀ d v H', res d → Ex H H' → Rp C H' v d → Nw H v d → Q v H') : ∀ d v H', res d → Ex H1 H' → Rp C H' v d → Nw H1 v d → Q v H' :=
  fun d v H' p e r n => q d v H' p (e1.trans e) r (n.back e1)
theorem hu_un {k : Nat} {A : Around} (hr : Room k A) : A.units + 65 < cLine := by
  have := hr.un
  omega
theorem sc_is_whole : FnScope ["thing"] ["thing"] (defScope s_is_whole) := ⟨rfl, rfl, rfl, by decide +kernel, rfl, by decide +kernel, by decide +kernel⟩
theorem sc_is_within : FnScope ["thing", "low", "high"] ["thing", "low", "high"] (defScope s_is_within) := ⟨rfl, rfl, rfl, by decide +kernel, rfl, by decide +kernel, by decide +kernel⟩
theorem sc_is_name : FnScope ["thing", "sign"] ["thing"] (defScope s_is_name) := ⟨rfl, rfl, rfl, by decide +kernel, rfl, by decide +kernel, by decide +kernel⟩
theorem sc_are_names : FnScope ["thing", "part"] ["thing"] (defScope s_are_names) := ⟨rfl, rfl, rfl, by decide +kernel, rfl, by decide +kernel, by decide +kernel⟩
theorem sc_is_number : FnScope ["thing"] ["thing"] (defScope s_is_number) := ⟨rfl, rfl, rfl, by decide +kernel, rfl, by decide +kernel, by decide +kernel⟩
theorem sc_is_value : FnScope ["thing"] ["thing"] (defScope s_is_value) := ⟨rfl, rfl, rfl, by decide +kernel, rfl, by decide +kernel, by decide +kernel⟩
theorem sc_is_by : FnScope ["thing"] ["thing"] (defScope s_is_by) := ⟨rfl, rfl, rfl, by decide +kernel, rfl, by decide +kernel, by decide +kernel⟩
theorem sc_is_lane : FnScope ["thing"] ["thing"] (defScope s_is_lane) := ⟨rfl, rfl, rfl, by decide +kernel, rfl, by decide +kernel, by decide +kernel⟩
theorem sc_sources_of : FnScope ["command"] ["command"] (defScope s_sources_of) := ⟨rfl, rfl, rfl, by decide +kernel, rfl, by decide +kernel, by decide +kernel⟩
theorem sc_written_by : FnScope ["command"] ["command"] (defScope s_written_by) := ⟨rfl, rfl, rfl, by decide +kernel, rfl, by decide +kernel, by decide +kernel⟩
theorem sc_shows : FnScope ["command"] ["command"] (defScope s_shows) := ⟨rfl, rfl, rfl, by decide +kernel, rfl, by decide +kernel, by decide +kernel⟩
section
variable {P : Program} {w : World} {K : PySem.W.Frag} {mg : Str → Option Value} {base : Heap} {C : Addr}
theorem ed_ty {n : String} {σ : L2.St} {H : Hp} : Ed C (tC (.ty n)) σ H (.ty n) := fun H1 _ _ q => q _ H1 (Ex.refl H1) rfl
theorem ed_cr {σ : L2.St} {H : Hp} : Ed C (tC (.ref C)) σ H .cr := fun H1 _ _ q => q _ H1 (Ex.refl H1) rfl
abbrev spWhole (C : Addr) : Sp := spF C (fun i : Int => [.int i]) (fun _ => True) fun _ => .bl true
theorem c_is_whole (T : TF w K mg) : Callee P w K mg base "is_whole" 1 ["thing"] (spWhole (CB K)) := by
  obtain ⟨fd, F⟩ := T.d_is_whole
  refine callee_of F (F.ok sc_is_whole (spA_len fun _ => rfl) fun cdv A outer s H vs Q E hr h => ?_) T.g_is_whole fun _ _ _ _ _ _ us hl => match us, hl with | [_], _ => rfl
  obtain ⟨a, r, hp, q⟩ := h
  have g : Good P w K (L2.Cx.nox (cxOf CX0 P w K mg base ["thing"] "is_whole" (defScope s_is_whole) (He.ga K "is_whole") cdv A outer s H E)) := ⟨rfl, rfl, rfl, rfl, hu_un hr⟩
  have hu := hu_of hr
  refine ⟨_, PSs.nox (pss_one (ps_ret (pe_and (pe_callB (c_b g) (by rfl) T.f_isinstance bt_isinstance (pa_cons (pv 0) (pa_cons (pe_ty T.f_int bt_int) pa_nil))) (pe_one (pe_not (pe_callB (c_b g) (by rfl) T.f_isinstance bt_isinstance (pa_cons (pv 0) (pa_cons (pe_ty T.f_bool bt_bool) pa_nil)))))))), ?_⟩
  obtain ⟨v, rfl, r1⟩ := r.one
  exact ret_of (ed_and (ed_cb (ea1 (ed_var rfl r1) (ea1 ed_ty ea0)) (k_isi rfl kit_ii)) fun _ => ed_not (ed_cb (ea1 (ed_var rfl r1) (ea1 ed_ty ea0)) (k_isi rfl kit_ib))) rfl q rfl
abbrev spWithin (C : Addr) : Sp := spF C (fun i : Int × Int × Int => [.int i.1, .int i.2.1, .int i.2.2]) (fun _ => True) fun i => .bl (decide (i.2.1 ≤ i.1) && decide (i.1 ≤ i.2.2))
theorem c_is_within (T : TF w K mg) (c_is_whole : Callee P w K mg base "is_whole" 1 ["thing"] (spWhole (CB K))) : Callee P w K mg base "is_within" 2 ["thing", "low", "high"] (spWithin (CB K)) := by
  obtain ⟨fd, F⟩ := T.d_is_within
  refine callee_of F (F.ok sc_is_within (spA_len fun _ => rfl) fun cdv A outer s H vs Q E hr h => ?_) T.g_is_within fun _ _ _ _ _ _ us hl => match us, hl with | [_, _, _], _ => rfl
  obtain ⟨a, r, hp, q⟩ := h
  have g : Good P w K (L2.Cx.nox (cxOf CX0 P w K mg base ["thing", "low", "high"] "is_within" (defScope s_is_within) (He.ga K "is_within") cdv A outer s H E)) := ⟨rfl, rfl, rfl, rfl, hu_un hr⟩
  have hu := hu_of hr
  refine ⟨_, PSs.nox (pss_one (ps_ret (pe_and (pe_c c_is_whole (hr.mono (by decide)) (by rfl) pass0 (pa_cons (pv 0) pa_nil)) (pe_one (pe_chain (op_b g) (op_b g) (pv 1) (pv 0) (pv 2)))))), ?_⟩
  obtain ⟨v, u, o, rfl, r1, r2, r3⟩ := r.three
  exact ret_of (ed_and (ed_call a.1 (ea1 (ed_var rfl r1) ea0) trivial) fun _ => ed_chain (ed_var rfl r2) (ed_var rfl r1) (ed_var rfl r3) o_le o_le) rfl q (by simp)
abbrev sLET : Str := "abcdefghijklmnopqrstuvwxyz"
abbrev sSIG : Str := "abcdefghijklmnopqrstuvwxyz0123456789"
structure isNm (z : Str) : Prop where
  len : 1 ≤ z.length ∧ z.length ≤ 6
  one : ∀ c, z.cps.toList[0]? = some c → c ∈ sLET.cps.toList
  all : ∀ c ∈ z.cps.toList, c ∈ sSIG.cps.toList
abbrev spName (C : Addr) : Sp := spF C (fun z : Str => [.str z]) isNm fun _ => .bl true
theorem c_is_name (T : TF w K mg) : Callee P w K mg base "is_name" 1 ["thing"] (spName (CB K)) := by
  obtain ⟨fd, F⟩ := T.d_is_name
  refine callee_of F (F.ok sc_is_name (spA_len fun _ => rfl) fun cdv A outer s H vs Q E hr h => ?_) T.g_is_name fun _ _ _ _ _ _ us hl => match us, hl with | [_], _ => rfl
  obtain ⟨a, r, hp, q⟩ := h
  have g : Good P w K (L2.Cx.nox (cxOf CX0 P w K mg base ["thing", "sign"] "is_name" (defScope s_is_name) (He.ga K "is_name") cdv A outer s H E)) := ⟨rfl, rfl, rfl, rfl, hu_un hr⟩
  have hu := hu_of hr
  refine ⟨_, PSs.nox (pss_cons (ps_if (PW.pt (pw_or (pt_not (pt_val (pe_callB (c_b g) (by rfl) T.f_isinstance bt_isinstance (pa_cons (pv 0) (pa_cons (pe_ty T.f_str bt_str) pa_nil))))) (pw_or (pt_not (pt_chain (op_b g) (op_b g) pe_int (pe_callB (c_b g) (by rfl) T.f_len bt_len (pa_cons (pv 0) pa_nil)) (pe_gi T.MOST_SIGNS))) (pw_or1 (pt_cmpR (op_b g) (pe_ix (ix_b g) (pv 0) pe_int (fun _ _ => rfl)) (pe_gs T.LETTERS) rfl))))) (pss_one (ps_ret pe_bl)) pss_nil)
      (pss_one (ps_ret (pe_callB (c_b g) (by rfl) T.f_all bt_all (pa_cons (pe_lc (own := [("sign", 1)]) g.calm sc_is_name.nd (pi_b g (pv 0)) (blkOk_by (by kernel_rfl)) (fun _ _ _ _ _ => (pg_name (i := 1) sc_is_name.nd rfl (Or.inl rfl))) (fun _ _ _ _ _ => pts_nil) (fun _ _ _ _ _ => (pe_cmpR (op_b g.b) (pv 1) (pe_gs T.SIGNS) rfl))) pa_nil))))), ?_⟩
  obtain ⟨v, rfl, r1⟩ := r.one
  obtain ⟨⟨l1, l2⟩, h1, h2⟩ := hp
  obtain ⟨c, hc⟩ : ∃ c, a.cps.toList[0]? = some c := by
    have : 0 < a.cps.toList.length := by rw [Array.length_toList]; exact l1
    exact ⟨_, List.getElem?_eq_getElem this⟩
  refine qd_no (et_is (et_or (et_not (et_val (ed_cb (ea1 (ed_var rfl r1) (ea1 ed_ty ea0)) (k_isi rfl kit_ss)))) fun _ => et_or (et_not (et_cmp (ed_chain ed_int (ed_cb (ea1 (ed_var rfl r1) ea0) (k_lens (by omega))) ed_int o_le o_le))) fun _ =>
    et_cmp (ed_op (ed_op (ed_var rfl r1) ed_int (o_ixs (c := c) (by omega) (atI_nat (j := 0) hc))) ed_str o_ninsign)) (by
      have e1 : decide ((1 : Int) ≤ (a.length : Int)) = true := decide_eq_true (by omega)
      have e2 : decide ((a.length : Int) ≤ 6) = true := decide_eq_true (by omega)
      rw [e1, e2, decide_eq_true (h1 c hc)]
      rfl)) fun H1 e1 => ?_
  refine ret_of (ed_cb (ea1 (ed_map (fun c => .bl (decide (c ∈ sSIG.cps.toList))) (ei_str (ed_var rfl (r1.ex e1))) (by rw [Array.length_toList]; exact Nat.le_trans l2 (by decide)) (fun _ _ => rfl)
    fun i c x H2 hi e2 r2 k q => q _ rfl (ed_op (ed_var rfl r2) ed_str o_insign)) ea0) k_allM) rfl (q_ex e1 q) ?_
  show D.bl _ = D.bl true
  rw [List.all_eq_true.mpr fun c hc => decide_eq_true (h2 c hc)]
abbrev spNames (C : Addr) : Sp := spF C (fun zs : List Str => [.tup (zs.map D.str)]) (fun zs => 1 ≤ zs.length ∧ zs.length ≤ 3 ∧ ∀ z ∈ zs, isNm z) fun _ => .bl true
theorem c_are_names (T : TF w K mg) (c_is_name : Callee P w K mg base "is_name" 1 ["thing"] (spName (CB K))) : Callee P w K mg base "are_names" 2 ["thing"] (spNames (CB K)) := by
  obtain ⟨fd, F⟩ := T.d_are_names
  refine callee_of F (F.ok sc_are_names (spA_len fun _ => rfl) fun cdv A outer s H vs Q E hr h => ?_) T.g_are_names fun _ _ _ _ _ _ us hl => match us, hl with | [_], _ => rfl
  obtain ⟨a, r, hp, q⟩ := h
  have g : Good P w K (L2.Cx.nox (cxOf CX0 P w K mg base ["thing", "part"] "are_names" (defScope s_are_names) (He.ga K "are_names") cdv A outer s H E)) := ⟨rfl, rfl, rfl, rfl, hu_un hr⟩
  have hu := hu_of hr
  refine ⟨_, PSs.nox (pss_cons (ps_if (PW.pt (pw_or (pt_not (pt_val (pe_callB (c_b g) (by rfl) T.f_isinstance bt_isinstance (pa_cons (pv 0) (pa_cons (pe_ty T.f_tuple bt_tuple) pa_nil))))) (pw_or1 (pt_not (pt_chain (op_b g) (op_b g) pe_int (pe_callB (c_b g) (by rfl) T.f_len bt_len (pa_cons (pv 0) pa_nil)) (pe_gi T.MOST_FROMS)))))) (pss_one (ps_ret pe_bl)) pss_nil)
      (pss_one (ps_ret (pe_callB (c_b g) (by rfl) T.f_all bt_all (pa_cons (pe_lc (own := [("part", 1)]) g.calm sc_are_names.nd (pi_b g (pv 0)) (blkOk_by (by kernel_rfl)) (fun _ _ _ _ _ => (pg_name (i := 1) sc_are_names.nd rfl (Or.inl rfl))) (fun _ _ _ _ _ => pts_nil) (fun _ _ _ _ _ => (pe_c c_is_name (hr.mono (by decide)) (by rfl) pass0 (pa_cons (pv 1) pa_nil)))) pa_nil))))), ?_⟩
  obtain ⟨v, rfl, r1⟩ := r.one
  obtain ⟨l1, l2, h1⟩ := hp
  refine qd_no (et_is (et_or (et_not (et_val (ed_cb (ea1 (ed_var rfl r1) (ea1 ed_ty ea0)) (k_isi rfl kit_tt)))) fun _ => et_not (et_cmp (ed_chain ed_int (ed_cb (ea1 (ed_var rfl r1) ea0) k_lent) ed_int o_le o_le))) (by
      rw [List.length_map, decide_eq_true (show (1 : Int) ≤ (a.length : Int) by omega), decide_eq_true (show (a.length : Int) ≤ 3 by omega)]
      rfl)) fun H1 e1 => ?_
  refine ret_of (ed_cb (ea1 (ed_map (fun _ => .bl true) (ei_tup (ed_var rfl (r1.ex e1))) (by omega) (fun _ _ => rfl)
    fun i c x H2 hi e2 r2 k q => q _ rfl (ed_call c (ea1 (ed_var rfl r2) ea0) (h1 c (List.mem_of_getElem? hi)))) ea0) (k_allM (g := fun _ => true))) rfl (q_ex e1 q) ?_
  show D.bl _ = D.bl true
  rw [List.all_eq_true.mpr fun c hc => rfl]
abbrev spIn (C : Addr) (lo hi : Int) : Sp := spF C (fun i : Int => [.int i]) (fun _ => True) fun i => .bl (decide (lo ≤ i) && decide (i ≤ hi))
theorem c_is_number (T : TF w K mg) (c_is_within : Callee P w K mg base "is_within" 2 ["thing", "low", "high"] (spWithin (CB K))) : Callee P w K mg base "is_number" 3 ["thing"] (spIn (CB K) (-999999) 999999) := by
  obtain ⟨fd, F⟩ := T.d_is_number
  refine callee_of F (F.ok sc_is_number (spA_len fun _ => rfl) fun cdv A outer s H vs Q E hr h => ?_) T.g_is_number fun _ _ _ _ _ _ us hl => match us, hl with | [_], _ => rfl
  obtain ⟨a, r, hp, q⟩ := h
  have g : Good P w K (L2.Cx.nox (cxOf CX0 P w K mg base ["thing"] "is_number" (defScope s_is_number) (He.ga K "is_number") cdv A outer s H E)) := ⟨rfl, rfl, rfl, rfl, hu_un hr⟩
  have hu := hu_of hr
  refine ⟨_, PSs.nox (pss_one (ps_ret (pe_c c_is_within (hr.mono (by decide)) (by rfl) pass0 (pa_cons (pv 0) (pa_cons (pe_un un_neg (pe_gi T.MOST_NUMBER)) (pa_cons (pe_gi T.MOST_NUMBER) pa_nil)))))), ?_⟩
  obtain ⟨v, rfl, r1⟩ := r.one
  exact ret_of (ed_call (a, -999999, 999999) (ea1 (ed_var rfl r1) (ea1 (ed_un ed_int) (ea1 ed_int ea0))) trivial) rfl q rfl
theorem c_is_value (T : TF w K mg) (c_is_within : Callee P w K mg base "is_within" 2 ["thing", "low", "high"] (spWithin (CB K))) : Callee P w K mg base "is_value" 3 ["thing"] (spIn (CB K) 1 9999) := by
  obtain ⟨fd, F⟩ := T.d_is_value
  refine callee_of F (F.ok sc_is_value (spA_len fun _ => rfl) fun cdv A outer s H vs Q E hr h => ?_) T.g_is_value fun _ _ _ _ _ _ us hl => match us, hl with | [_], _ => rfl
  obtain ⟨a, r, hp, q⟩ := h
  have g : Good P w K (L2.Cx.nox (cxOf CX0 P w K mg base ["thing"] "is_value" (defScope s_is_value) (He.ga K "is_value") cdv A outer s H E)) := ⟨rfl, rfl, rfl, rfl, hu_un hr⟩
  have hu := hu_of hr
  refine ⟨_, PSs.nox (pss_one (ps_ret (pe_c c_is_within (hr.mono (by decide)) (by rfl) pass0 (pa_cons (pv 0) (pa_cons pe_int (pa_cons (pe_gi T.MOST_VALUE) pa_nil)))))), ?_⟩
  obtain ⟨v, rfl, r1⟩ := r.one
  exact ret_of (ed_call (a, 1, 9999) (ea1 (ed_var rfl r1) (ea1 ed_int (ea1 ed_int ea0))) trivial) rfl q rfl
theorem c_is_by (T : TF w K mg) (c_is_within : Callee P w K mg base "is_within" 2 ["thing", "low", "high"] (spWithin (CB K))) : Callee P w K mg base "is_by" 3 ["thing"] (spIn (CB K) 1 99) := by
  obtain ⟨fd, F⟩ := T.d_is_by
  refine callee_of F (F.ok sc_is_by (spA_len fun _ => rfl) fun cdv A outer s H vs Q E hr h => ?_) T.g_is_by fun _ _ _ _ _ _ us hl => match us, hl with | [_], _ => rfl
  obtain ⟨a, r, hp, q⟩ := h
  have g : Good P w K (L2.Cx.nox (cxOf CX0 P w K mg base ["thing"] "is_by" (defScope s_is_by) (He.ga K "is_by") cdv A outer s H E)) := ⟨rfl, rfl, rfl, rfl, hu_un hr⟩
  have hu := hu_of hr
  refine ⟨_, PSs.nox (pss_one (ps_ret (pe_c c_is_within (hr.mono (by decide)) (by rfl) pass0 (pa_cons (pv 0) (pa_cons pe_int (pa_cons (pe_gi T.MOST_BY) pa_nil)))))), ?_⟩
  obtain ⟨v, rfl, r1⟩ := r.one
  exact ret_of (ed_call (a, 1, 99) (ea1 (ed_var rfl r1) (ea1 ed_int (ea1 ed_int ea0))) trivial) rfl q rfl
theorem c_is_lane (T : TF w K mg) (c_is_within : Callee P w K mg base "is_within" 2 ["thing", "low", "high"] (spWithin (CB K))) : Callee P w K mg base "is_lane" 3 ["thing"] (spIn (CB K) 0 5) := by
  obtain ⟨fd, F⟩ := T.d_is_lane
  refine callee_of F (F.ok sc_is_lane (spA_len fun _ => rfl) fun cdv A outer s H vs Q E hr h => ?_) T.g_is_lane fun _ _ _ _ _ _ us hl => match us, hl with | [_], _ => rfl
  obtain ⟨a, r, hp, q⟩ := h
  have g : Good P w K (L2.Cx.nox (cxOf CX0 P w K mg base ["thing"] "is_lane" (defScope s_is_lane) (He.ga K "is_lane") cdv A outer s H E)) := ⟨rfl, rfl, rfl, rfl, hu_un hr⟩
  have hu := hu_of hr
  refine ⟨_, PSs.nox (pss_one (ps_ret (pe_c c_is_within (hr.mono (by decide)) (by rfl) pass0 (pa_cons (pv 0) (pa_cons pe_int (pa_cons (pe_op (op_b g) (pe_gi T.MOST_LANES_commands) pe_int) pa_nil)))))), ?_⟩
  obtain ⟨v, rfl, r1⟩ := r.one
  exact ret_of (ed_call (a, 0, 5) (ea1 (ed_var rfl r1) (ea1 ed_int (ea1 (ed_op ed_int ed_int o_sub) ea0))) trivial) rfl q rfl
inductive Cmd where
  | put (r : Str) (n : Int)
  | copy (a b : Str)
  | reckon (f : Str) (xs : List Str) (t : Str)
  | look (r : Str)
  | shw (r : Str)
  | wait (f : Str) (v : Int)
  | set (f : Str) (b : Int)
def Cmd.D : Cmd → D
  | .put r n => .tup [.str "put", .str r, .int n]
  | .copy a b => .tup [.str "copy", .str a, .str b]
  | .reckon f xs t => .tup [.str "reckon", .str f, .tup (xs.map D.str), .str t]
  | .look r => .tup [.str "look", .str r]
  | .shw r => .tup [.str "show", .str r]
  | .wait f v => .tup [.str "wait", .str f, .int v]
  | .set f b => .tup [.str "set", .str f, .int b]
def Cmd.word : Cmd → Str
  | .put _ _ => "put"
  | .copy _ _ => "copy"
  | .reckon _ _ _ => "reckon"
  | .look _ => "look"
  | .shw _ => "show"
  | .wait _ _ => "wait"
  | .set _ _ => "set"
def Cmd.ok : Cmd → Prop
  | .put r n => isNm r ∧ -999999 ≤ n ∧ n ≤ 999999
  | .copy a b => isNm a ∧ isNm b
  | .reckon f xs t => isNm f ∧ (1 ≤ xs.length ∧ xs.length ≤ 3 ∧ ∀ z ∈ xs, isNm z) ∧ isNm t
  | .look r => isNm r
  | .shw r => isNm r
  | .wait f v => isNm f ∧ 1 ≤ v ∧ v ≤ 9999
  | .set f b => isNm f ∧ 1 ≤ b ∧ b ≤ 99
def Cmd.src : Cmd → List Str
  | .copy a _ => [a]
  | .reckon _ xs _ => xs
  | .look r => [r]
  | .shw r => [r]
  | _ => []
def Cmd.dst : Cmd → List Str
  | .put r _ => [r]
  | .copy _ b => [b]
  | .reckon _ _ t => [t]
  | _ => []
theorem Cmd.fz (c : Cmd) : c.D.fz = true := by
  cases c <;> simp [Cmd.D, D.fz, fzL, fzL_iff]
theorem Cmd.tup (c : Cmd) : ∃ ds, c.D = .tup (.str c.word :: ds) := by
  cases c <;> exact ⟨_, rfl⟩
theorem at0 {d : D} {ds : List D} : atI (d :: ds) 0 = some d := atI_nat (j := 0) rfl
abbrev spSrc (C : Addr) : Sp := spF C (fun c : Cmd => [c.D]) (fun _ => True) fun c => .tup (c.src.map D.str)
abbrev spDst (C : Addr) : Sp := spF C (fun c : Cmd => [c.D]) (fun _ => True) fun c => .tup (c.dst.map D.str)
theorem fz_strs {zs : List Str} : (D.tup (zs.map D.str)).fz = true := by
  simp [D.fz, fzL_iff]
theorem c_sources_of (T : TF w K mg) : Callee P w K mg base "sources_of" 1 ["command"] (spSrc (CB K)) := by
  obtain ⟨fd, F⟩ := T.d_sources_of
  refine callee_of F (F.ok sc_sources_of (spA_len fun _ => rfl) fun cdv A outer s H vs Q E hr h => ?_) T.g_sources_of fun _ _ _ _ _ _ us hl => match us, hl with | [_], _ => rfl
  obtain ⟨a, r, hp, q⟩ := h
  have g : Good P w K (L2.Cx.nox (cxOf CX0 P w K mg base ["command"] "sources_of" (defScope s_sources_of) (He.ga K "sources_of") cdv A outer s H E)) := ⟨rfl, rfl, rfl, rfl, hu_un hr⟩
  have hu := hu_of hr
  refine ⟨_, PSs.nox (pss_cons (ps_if (pt_cmpR (op_b g) (pe_ix (ix_b g) (pv 0) pe_int (fun _ _ => rfl)) pe_str (nomark _)) (pss_one (ps_ret (pe_ix (ix_b g) (pv 0) pe_int (fun _ _ => rfl)))) pss_nil)
      (pss_one (ps_ret (pe_ifExp (pt_cmpR (op_b g) (pe_ix (ix_b g) (pv 0) pe_int (fun _ _ => rfl)) (pe_tup (pa_cons pe_str (pa_cons pe_str (pa_cons pe_str pa_nil)))) rfl) (pe_tup (pa_cons (pe_ix (ix_b g) (pv 0) pe_int (fun _ _ => rfl)) pa_nil)) (pe_tup pa_nil))))), ?_⟩
  obtain ⟨v, rfl, r1⟩ := r.one
  obtain ⟨ds, hds⟩ := a.tup
  have r2 : Rp (CB K) H v (.tup (.str a.word :: ds)) := hds ▸ r1
  refine qd_if (et_cmp (ed_op (ed_op (ed_var rfl r2) ed_int (o_ixt at0)) ed_str o_eqs)) (fun ht H1 e1 => ?_) (fun ht H1 e1 => ?_)
  · cases a with
    | reckon f xs t => exact ret_of (ed_op (ed_var rfl (r1.ex e1)) ed_int (o_ixt (d := .tup (xs.map D.str)) (atI_nat (j := 2) rfl))) fz_strs (q_ex e1 q) rfl
    | _ => exact absB ht (by kernel_rfl)
  · refine ret_of (ed_if (et_cmp (ed_op (ed_op (ed_var rfl (r2.ex e1)) ed_int (o_ixt at0)) (ed_tup (ea1 ed_str (ea1 ed_str (ea1 ed_str ea0)))) (o_intup (zs := ["copy", "look", "show"])))) (d := .tup (a.src.map D.str)) (fun hm => ?_) (fun hm => ?_)) fz_strs (q_ex e1 q) rfl
    · cases a with
      | copy x y => exact ed_tup (ea1 (ed_op (ed_var rfl (r1.ex e1)) ed_int (o_ixt (d := .str x) (atI_nat (j := 1) rfl))) ea0)
      | look x => exact ed_tup (ea1 (ed_op (ed_var rfl (r1.ex e1)) ed_int (o_ixt (d := .str x) (atI_nat (j := 1) rfl))) ea0)
      | shw x => exact ed_tup (ea1 (ed_op (ed_var rfl (r1.ex e1)) ed_int (o_ixt (d := .str x) (atI_nat (j := 1) rfl))) ea0)
      | _ => exact absB hm (by kernel_rfl)
    · cases a with
      | copy x y => exact absB hm (by kernel_rfl)
      | look x => exact absB hm (by kernel_rfl)
      | shw x => exact absB hm (by kernel_rfl)
      | reckon x y z => exact absB ht (by kernel_rfl)
      | _ => exact ed_tup ea0
theorem c_written_by (T : TF w K mg) : Callee P w K mg base "written_by" 1 ["command"] (spDst (CB K)) := by
  obtain ⟨fd, F⟩ := T.d_written_by
  refine callee_of F (F.ok sc_written_by (spA_len fun _ => rfl) fun cdv A outer s H vs Q E hr h => ?_) T.g_written_by fun _ _ _ _ _ _ us hl => match us, hl with | [_], _ => rfl
  obtain ⟨a, r, hp, q⟩ := h
  have g : Good P w K (L2.Cx.nox (cxOf CX0 P w K mg base ["command"] "written_by" (defScope s_written_by) (He.ga K "written_by") cdv A outer s H E)) := ⟨rfl, rfl, rfl, rfl, hu_un hr⟩
  have hu := hu_of hr
  refine ⟨_, PSs.nox (pss_cons (ps_if (pt_cmpR (op_b g) (pe_ix (ix_b g) (pv 0) pe_int (fun _ _ => rfl)) (pe_tup (pa_cons pe_str (pa_cons pe_str (pa_cons pe_str pa_nil)))) rfl) (pss_one (ps_ret (pe_tup (pa_cons (pe_ix (ix_b g) (pv 0) pe_int (fun _ _ => rfl)) pa_nil)))) pss_nil)
      (pss_one (ps_ret (pe_ifExp (pt_cmpR (op_b g) (pe_ix (ix_b g) (pv 0) pe_int (fun _ _ => rfl)) (pe_tup (pa_cons pe_str (pa_cons pe_str pa_nil))) rfl) (pe_tup (pa_cons (pe_ix (ix_b g) (pv 0) (pe_un un_neg pe_int) (fun _ _ => rfl)) pa_nil)) (pe_tup pa_nil))))), ?_⟩
  obtain ⟨v, rfl, r1⟩ := r.one
  obtain ⟨ds, hds⟩ := a.tup
  have r2 : Rp (CB K) H v (.tup (.str a.word :: ds)) := hds ▸ r1
  refine qd_if (et_cmp (ed_op (ed_op (ed_var rfl r2) ed_int (o_ixt at0)) (ed_tup (ea1 ed_str (ea1 ed_str (ea1 ed_str ea0)))) (o_intup (zs := ["put", "give", "take"])))) (fun ht H1 e1 => ?_) (fun ht H1 e1 => ?_)
  · cases a with
    | put x n => exact ret_of (ed_tup (ea1 (ed_op (ed_var rfl (r1.ex e1)) ed_int (o_ixt (d := .str x) (atI_nat (j := 1) rfl))) ea0)) rfl (q_ex e1 q) rfl
    | _ => exact absB ht (by kernel_rfl)
  · refine ret_of (ed_if (et_cmp (ed_op (ed_op (ed_var rfl (r2.ex e1)) ed_int (o_ixt at0)) (ed_tup (ea1 ed_str (ea1 ed_str ea0))) (o_intup (zs := ["copy", "reckon"])))) (d := .tup (a.dst.map D.str)) (fun hm => ?_) (fun hm => ?_)) fz_strs (q_ex e1 q) rfl
    · cases a with
      | copy x y => exact ed_tup (ea1 (ed_op (ed_var rfl (r1.ex e1)) (ed_un ed_int) (o_ixt (d := .str y) rfl)) ea0)
      | reckon x y z => exact ed_tup (ea1 (ed_op (ed_var rfl (r1.ex e1)) (ed_un ed_int) (o_ixt (d := .str z) rfl)) ea0)
      | _ => exact absB hm (by kernel_rfl)
    · cases a with
      | copy x y => exact absB hm (by kernel_rfl)
      | reckon x y z => exact absB hm (by kernel_rfl)
      | put x n => exact absB ht (by kernel_rfl)
      | _ => exact ed_tup ea0
abbrev spShows (C : Addr) : Sp := spF C (fun c : Cmd => [c.D]) (fun _ => True) fun c => .bl (decide (c.word = "show"))
theorem c_shows (T : TF w K mg) : Callee P w K mg base "shows" 1 ["command"] (spShows (CB K)) := by
  obtain ⟨fd, F⟩ := T.d_shows
  refine callee_of F (F.ok sc_shows (spA_len fun _ => rfl) fun cdv A outer s H vs Q E hr h => ?_) T.g_shows fun _ _ _ _ _ _ us hl => match us, hl with | [_], _ => rfl
  obtain ⟨a, r, hp, q⟩ := h
  have g : Good P w K (L2.Cx.nox (cxOf CX0 P w K mg base ["command"] "shows" (defScope s_shows) (He.ga K "shows") cdv A outer s H E)) := ⟨rfl, rfl, rfl, rfl, hu_un hr⟩
  have hu := hu_of hr
  refine ⟨_, PSs.nox (pss_one (ps_ret (pe_cmpR (op_b g) (pe_ix (ix_b g) (pv 0) pe_int (fun _ _ => rfl)) pe_str (nomark _)))), ?_⟩
  obtain ⟨v, rfl, r1⟩ := r.one
  obtain ⟨ds, hds⟩ := a.tup
  have r2 : Rp (CB K) H v (.tup (.str a.word :: ds)) := hds ▸ r1
  exact ret_of (ed_op (ed_op (ed_var rfl r2) ed_int (o_ixt at0)) ed_str o_eqs) rfl q rfl
end
end Fl
set_option maxHeartbeats 2000000
namespace Fl
open PySem PySem.Spec PyProof.Rows L2 Evl
mutual
def D.py : D → PyData
  | .non => .none
  | .bl b => .bool b
  | .int i => .int i
  | .str s => .str s
  | .tup ds => .tuple (pyL ds)
  | .lst ds => .list (pyL ds)
  | .dk _ => .none
  | .dt _ => .none
  | .book _ _ => .none
  | .ty _ => .none
  | .cr => .none
def pyL : List D → List PyData
  | [] => []
  | d :: ds => d.py :: pyL ds
end
mutual
def D.okd : D → Nat → Bool
  | .non, _ => true
  | .int _, _ => true
  | .str s, _ => PyData.strOk s
  | .tup ds, n + 1 => okdL ds n
  | .lst ds, n + 1 => okdL ds n
  | _, _ => false
def okdL : List D → Nat → Bool
  | [], _ => true
  | d :: ds, n => d.okd n && okdL ds n
end
theorem okdL_iff {n : Nat} : ∀ {ds : List D}, okdL ds n = true ↔ ∀ d ∈ ds, d.okd n = true
  | [] => by simp [okdL]
  | d :: ds => by simp [okdL, okdL_iff (ds := ds)]
theorem okd_tup {ds : List D} {n : Nat} (h : ∀ d ∈ ds, d.okd n = true) : (D.tup ds).okd (n + 1) = true := okdL_iff.mpr h
theorem okd_lst {ds : List D} {n : Nat} (h : ∀ d ∈ ds, d.okd n = true) : (D.lst ds).okd (n + 1) = true := okdL_iff.mpr h
section
variable {K : PySem.W.Frag} {C : Addr} {H : Hp}
mutual
theorem Rp.dp : ∀ {d : D} {v : V} {n : Nat}, d.okd n = true → Rp C H v d → Dp K H v d.py
  | .non, _, _, _, r => by cases (show _ = V.non from r); exact .non
  | .bl _, _, _, z, _ => by simp [D.okd] at z
  | .int _, _, _, _, r => by cases (show _ = V.int _ from r); exact .int _
  | .str _, _, _, _, r => by cases (show _ = V.str _ from r); exact .str _
  | .tup ds, _, 0, z, _ => by simp [D.okd] at z
  | .tup ds, _, n + 1, z, r => by
    obtain ⟨a, xs, e, h1, h2⟩ := r
    rw [e]
    exact .tup (st_of h1) (RpL.dp (by simpa [D.okd] using z) h2)
  | .lst ds, _, 0, z, _ => by simp [D.okd] at z
  | .lst ds, _, n + 1, z, r => by
    obtain ⟨a, xs, e, h1, h2⟩ := r
    rw [e]
    exact .lst (sq_of h1) (RpL.dp (by simpa [D.okd] using z) h2)
  | .dk _, _, _, z, _ => by simp [D.okd] at z
  | .dt _, _, _, z, _ => by simp [D.okd] at z
  | .book _ _, _, _, z, _ => by simp [D.okd] at z
  | .ty _, _, _, z, _ => by simp [D.okd] at z
  | .cr, _, _, z, _ => by simp [D.okd] at z
theorem RpL.dp : ∀ {ds : List D} {vs : List V} {n : Nat}, okdL ds n = true → RpL C H vs ds → DpAll K H vs (pyL ds)
  | [], [], _, _, _ => .nil
  | d :: ds, v :: vs, n, z, r => by
    have z' : (d.okd n && okdL ds n) = true := z
    obtain ⟨z1, z2⟩ := Bool.and_eq_true_iff.mp z'
    exact .cons (Rp.dp z1 r.1) (RpL.dp z2 r.2)
  | [], _ :: _, _, _, r => r.elim
  | _ :: _, [], _, _, r => r.elim
end
mutual
theorem lay_of : ∀ {d : D} {n : Nat}, d.okd n = true → d.py.canLay0 = true
  | .non, _, _ => rfl
  | .bl _, _, z => by simp [D.okd] at z
  | .int _, _, _ => rfl
  | .str _, _, z => by simpa [D.okd, D.py, PyData.canLay0] using z
  | .tup ds, 0, z => by simp [D.okd] at z
  | .tup ds, n + 1, z => by
    simp only [D.py, PyData.canLay0]
    exact layL_of (by simpa [D.okd] using z)
  | .lst ds, 0, z => by simp [D.okd] at z
  | .lst ds, n + 1, z => by
    simp only [D.py, PyData.canLay0]
    exact layL_of (by simpa [D.okd] using z)
  | .dk _, _, z => by simp [D.okd] at z
  | .dt _, _, z => by simp [D.okd] at z
  | .book _ _, _, z => by simp [D.okd] at z
  | .ty _, _, z => by simp [D.okd] at z
  | .cr, _, z => by simp [D.okd] at z
theorem layL_of : ∀ {ds : List D} {n : Nat}, okdL ds n = true → PyData.canLayAll0 (pyL ds) = true
  | [], _, _ => rfl
  | d :: ds, n, z => by
    have z' : (d.okd n && okdL ds n) = true := z
    obtain ⟨z1, z2⟩ := Bool.and_eq_true_iff.mp z'
    simp only [pyL, PyData.canLayAll0, lay_of z1, layL_of z2, Bool.and_self]
end
mutual
theorem dep_of : ∀ {d : D} {n : Nat}, d.okd n = true → d.py.depth ≤ n
  | .non, _, _ => by simp [D.py, PyData.depth]
  | .bl _, _, z => by simp [D.okd] at z
  | .int _, _, _ => by simp [D.py, PyData.depth]
  | .str _, _, z => by simp [D.py, PyData.depth]
  | .tup ds, 0, z => by simp [D.okd] at z
  | .tup ds, n + 1, z => by
    simp only [D.py, PyData.depth]
    have := depL_of (ds := ds) (n := n) (by simpa [D.okd] using z)
    omega
  | .lst ds, 0, z => by simp [D.okd] at z
  | .lst ds, n + 1, z => by
    simp only [D.py, PyData.depth]
    have := depL_of (ds := ds) (n := n) (by simpa [D.okd] using z)
    omega
  | .dk _, _, z => by simp [D.okd] at z
  | .dt _, _, z => by simp [D.okd] at z
  | .book _ _, _, z => by simp [D.okd] at z
  | .ty _, _, z => by simp [D.okd] at z
  | .cr, _, z => by simp [D.okd] at z
theorem depL_of : ∀ {ds : List D} {n : Nat}, okdL ds n = true → PyData.depthAll (pyL ds) ≤ n
  | [], _, _ => by simp [pyL, PyData.depthAll]
  | d :: ds, n, z => by
    have z' : (d.okd n && okdL ds n) = true := z
    obtain ⟨z1, z2⟩ := Bool.and_eq_true_iff.mp z'
    have h1 := dep_of z1
    have h2 := depL_of z2
    simp only [pyL, PyData.depthAll]
    omega
end
theorem shaped_of {d : D} (h : d.okd 60 = true) : SeqAt.shaped d.py = true := by
  unfold SeqAt.shaped
  rw [lay_of h]
  have := dep_of h
  simp
  omega
mutual
theorem eqv_py : ∀ {d e : D} {n m : Nat}, d.okd n = true → e.okd m = true → (PyData.eqv d.py e.py = true ↔ d = e)
  | .bl _, _, _, _, z, _ => by simp [D.okd] at z
  | .dk _, _, _, _, z, _ => by simp [D.okd] at z
  | .dt _, _, _, _, z, _ => by simp [D.okd] at z
  | .book _ _, _, _, _, z, _ => by simp [D.okd] at z
  | .ty _, _, _, _, z, _ => by simp [D.okd] at z
  | .cr, _, _, _, z, _ => by simp [D.okd] at z
  | .non, e, n, m, _, y => by
    cases e <;> first | (simp [D.okd] at y; done) | simp [D.py, PyData.eqv]
  | .int i, e, n, m, _, y => by
    cases e <;> first | (simp [D.okd] at y; done) | simp [D.py, PyData.eqv]
  | .str i, e, n, m, _, y => by
    cases e <;> first | (simp [D.okd] at y; done) | simp [D.py, PyData.eqv]
  | .tup ds, _, 0, _, z, _ => by simp [D.okd] at z
  | .tup ds, e, n + 1, m, z, y => by
    cases e with
    | tup es =>
      cases m with
      | zero => simp [D.okd] at y
      | succ m =>
        simp only [D.py, PyData.eqv, D.tup.injEq]
        exact eqvL_py (by simpa [D.okd] using z) (by simpa [D.okd] using y)
    | _ => first | (simp [D.okd] at y; done) | simp [D.py, PyData.eqv]
  | .lst ds, _, 0, _, z, _ => by simp [D.okd] at z
  | .lst ds, e, n + 1, m, z, y => by
    cases e with
    | lst es =>
      cases m with
      | zero => simp [D.okd] at y
      | succ m =>
        simp only [D.py, PyData.eqv, D.lst.injEq]
        exact eqvL_py (by simpa [D.okd] using z) (by simpa [D.okd] using y)
    | _ => first | (simp [D.okd] at y; done) | simp [D.py, PyData.eqv]
theorem eqvL_py : ∀ {ds es : List D} {n m : Nat}, okdL ds n = true → okdL es m = true → (PyData.eqvAll (pyL ds) (pyL es) = true ↔ ds = es)
  | [], [], _, _, _, _ => by simp [pyL, PyData.eqvAll]
  | [], _ :: _, _, _, _, _ => by simp [pyL, PyData.eqvAll]
  | _ :: _, [], _, _, _, _ => by simp [pyL, PyData.eqvAll]
  | d :: ds, e :: es, n, m, z, y => by
    have z' : (d.okd n && okdL ds n) = true := z
    have y' : (e.okd m && okdL es m) = true := y
    obtain ⟨z1, z2⟩ := Bool.and_eq_true_iff.mp z'
    obtain ⟨y1, y2⟩ := Bool.and_eq_true_iff.mp y'
    simp only [pyL, PyData.eqvAll, Bool.and_eq_true, List.cons.injEq, eqv_py z1 y1, eqvL_py z2 y2]
end
end
section
variable {P : Program} {w : World} {K : PySem.W.Frag} {C : Addr}
theorem o_eqd {x y : D} {b : Bool} (hb : b = true ↔ x = y) (hx : x.okd 60 = true := by rfl) (hy : y.okd 60 = true := by rfl) : DOp C (rB P w K (compareOp .Eq)) x y (.bl b) := dop_of (r := rEqD K) (fun X g => g.K ▸ op_eqD (Nat.lt_of_succ_lt g.units)) fun H v u rx ry Q q =>
  ⟨_, _, rx.dp hx, ry.dp hy, shaped_of hx, shaped_of hy, by
    have e : PyData.eqv x.py y.py = b := by
      rw [Bool.eq_iff_iff, hb]
      exact eqv_py hx hy
    rw [e]
    exact q _ H (Ex.refl H) rfl⟩
theorem o_ned {x y : D} {b : Bool} (hb : b = true ↔ x = y) (hx : x.okd 60 = true := by rfl) (hy : y.okd 60 = true := by rfl) : DOp C (rB P w K (compareOp .NotEq)) x y (.bl (!b)) := dop_of (r := rNeD K) (fun X g => g.K ▸ op_neD (Nat.lt_of_succ_lt g.units)) fun H v u rx ry Q q =>
  ⟨_, _, rx.dp hx, ry.dp hy, shaped_of hx, shaped_of hy, by
    have e : PyData.eqv x.py y.py = b := by
      rw [Bool.eq_iff_iff, hb]
      exact eqv_py hx hy
    rw [e]
    exact q _ H (Ex.refl H) rfl⟩
end
end Fl
set_option maxHeartbeats 2000000
namespace Fl
open PySem PySem.Spec PyProof.Rows L2 Evl
section
variable {prog : Program} {w : World} {A : Around} {E : Value → Shared → Prop} {s : Shared}
theorem star_items {l : Addr} {items : Array Value} {Q : List Value → Shared → Prop} (hl : IsTup s.heap l items) (hh : A.handled = none) (h1 : 1 ≤ items.size) (hz : items.size ≤ 16384)
    (h : ∀ h2 tk, Heap.ExtBut s.heap.objs.size s.heap h2 → Q (items.toList.take 1 ++ [.ref h2.objs.size] ++ []) { s with heap := h2.push { cls := .type "list", data := .seq (items.toList.drop 1).toArray }, toks := tk }) : wpAny (model prog w) A (unpackItems (.ref l) 2 (some 1)) Q E s := by
  have hlt : l ≠ s.heap.objs.size := by obtain ⟨o, ho, _⟩ := hl; exact Nat.ne_of_lt (Heap.lt_size ho)
  have hll : l < s.heap.objs.size := by obtain ⟨o, ho, _⟩ := hl; exact Heap.lt_size ho
  unfold unpackItems
  refine wpAny_bind ?_
  unfold notIterableAtAll
  refine wpAny_bind (wpAny_specialOf hl.typeIs slot_tuple_iter.lookup ?_)
  refine wpAny_pure ?_
  simp only [Bool.false_eq_true, if_false]
  refine wpAny_bind (wpAny_holding (iter_tuple hl ?_))
  refine wpAny_bind (wpAny_holding (draw_tuple hlt 1 0 _ _ ⟨_, Heap.get?_push_size _ rfl, rfl, rfl⟩ (hl.push _) (by omega) fun h₁ hit₁ hs₁ => ?_))
  have hl₁ : IsTup h₁ l items := (hl.push _).extBut hs₁.extBut hlt
  rw [Nat.zero_add] at hit₁
  have hit₁' := hit₁
  obtain ⟨oi, hoi, _⟩ := hit₁'
  have hl₁' := hl₁
  obtain ⟨ol, hol, _⟩ := hl₁'
  rw [List.drop_zero]
  have hfl : (items.toList.take 1).length = 1 := by rw [List.length_take, Array.length_toList]; omega
  rw [if_neg (show ¬ ((items.toList.take 1).length < 1) by rw [hfl]; omega)]
  refine wpAny_bind (wpAny_holding (PySem.W.kun_collect (s := { s with heap := h₁ }) (T := "tuple_iterator") (.inr (.inr (.inr rfl))) (Walks.tuple (A := A.in1) hh s.heap.objs.size l hlt items) (fun j u st => st.1.typeIs) (k := 1) (by omega) ⟨hit₁, hl₁⟩ (Heap.lt_size hoi) (Heap.lt_size hol) (fun h₂ tk hk => ?_) (by rw [sizeLine_eq]; omega)))
  have hrl : (items.toList.drop 1).length = items.size - 1 := by rw [List.length_drop, Array.length_toList]
  show wpAny _ _ (if (items.toList.drop 1).length < 2 - 1 - 1 then _ else _) _ _ _
  rw [if_neg (by omega)]
  show wpAny _ _ (newList ((items.toList.drop 1).take ((items.toList.drop 1).length - (2 - 1 - 1))) >>= fun d => pure (items.toList.take 1 ++ [d] ++ (items.toList.drop 1).drop ((items.toList.drop 1).length - (2 - 1 - 1)))) _ _ _
  have e1 : (items.toList.drop 1).length - (2 - 1 - 1) = (items.toList.drop 1).length := by omega
  rw [e1, List.take_length, List.drop_length]
  have he : Heap.ExtBut s.heap.objs.size s.heap h₂ := fun b o hb e => hk b o hb (hs₁.extBut b o hb (Heap.get?_push_of_some _ e))
  exact wpAny_bind (wpAny_newObj_type (wpAny_pure (h h₂ tk he)) (by show (items.toList.drop 1).toArray.size ≤ sizeLine; rw [List.size_toArray, hrl, sizeLine_eq]; omega))
end
def gStar (K : PySem.W.Frag) (g1 g2 : TG) : TG := fun v σ H Q => ∃ a x xs, v = .ref a ∧ SqT K H a (x :: xs) ∧ xs.length ≤ 10000 ∧ ∀ p, H p = none → g1 x σ (upd H p (.lst xs)) fun σ1 H1 => g2 (.ref p) σ1 H1 Q
theorem pg_star {X : Cx} {e1 e2 : Expr} {k : Nat} {pos ps : Pos} {g1 g2 : TG} (p1 : PG X e1 g1) (p2 : PG X e2 g2) (hc : X.calm = true := by rfl) (hs : assignEach [e1, .Starred e2 ps] X.env = [(false, assign e1 X.env), (true, assign e2 X.env)] := by rfl) :
    PG X (.Tuple [e1, .Starred e2 ps] k pos) (gStar X.K g1 g2) := by
  refine ⟨fun pins s σ H v u Q I r h => ?_⟩
  obtain ⟨a, x, xs, ev, hq, hl, q⟩ := h
  subst ev
  cases r
  obtain ⟨its, rv, ht, hz⟩ := I.tuple hq
  cases rv with
  | @cons _ ux _ uxs rx rxs =>
    rw [assign_Tuple]
    refine wpAny_bind (wpAny_standAt ?_)
    unfold unpack
    rw [hs]
    have hlen := Vals.length rxs
    refine wpAny_bind (wpAny_holding (star_items (items := (ux :: uxs).toArray) ht (I.ok.hd hc) (by simp) (by simp; omega) fun h2 tk he => ?_))
    have kept : ∀ b o, s.heap.get? b = some o → h2.get? b = some o := fun b o e => he b o (Nat.ne_of_lt (Heap.lt_size e)) e
    have I1 : Inv X pins σ H { s with heap := h2, toks := tk } := I.kept (t' := tk) kept
    have hn : H h2.objs.size = none := I1.hok.fresh (Nat.le_refl _)
    have I2 : Inv X pins σ (upd H h2.objs.size (.lst xs)) { s with heap := h2.push { cls := .type "list", data := .seq (((ux :: uxs).toArray.toList.drop 1).toArray) }, toks := tk } :=
      I1.laid (t' := tk) (fun b u e => Heap.get?_push_of_some _ e) (Nat.le_refl _) ⟨Nat.le_trans hl (by decide), uxs, 0, rxs, Heap.get?_push_size _ rfl⟩
    show wpAny _ _ (assignInOrder [assign e1 X.env, assign e2 X.env] [ux, .ref h2.objs.size]) _ _ _
    refine assignInOrder_cons (thn (p1.run pins _ σ _ _ _ _ I2 rx (q _ hn)) fun _ s1 ⟨σ1, H1, J1, q1⟩ => ?_)
    exact assignInOrder_cons (thn (p2.run pins s1 σ1 H1 (.ref h2.objs.size) _ _ J1 rfl q1) fun _ s2 ⟨σ2, H2, J2, q2⟩ => assignInOrder_nil ⟨σ2, H2, J2, q2⟩)
def tCallH (P : Program) (w : World) (K : PySem.W.Frag) (mg : Str → Option Value) (base : Heap) (k i : Nat) (t : TA) : TE := fun σ H Q => ∃ (f : Addr) (j : Nat) (sp : Sp), j ≤ k ∧ σ[i]? = some (some (.ref f)) ∧ Held P w K mg base j f sp ∧ t σ H fun vs H1 => sp vs H1 Q (fun _ _ _ => False)
theorem pe_callH {X : Cx} {k i : Nat} {x : Str} {p pos : Pos} {e : Expr} {es : List Expr} {t : TA} (hr : Room k X.A) (ha : PA X (e :: es) t) (hN : X.N[i]? = some x := by rfl) (hv : Vis X.env.scope x := by first | exact Or.inl rfl | exact Or.inr (Or.inl rfl) | exact Or.inr (Or.inr rfl))
    (hdb : (x == ("__debug__" : Str)) = false := by decide) (hcd : (x == ("__classdict__" : Str)) = false := by decide)
    (he : starEach (e :: es) X.env = (false, eval e X.env) :: starEach es X.env := by rfl) (hpl : (backTo pos (starEach es X.env)).any (·.1) = false := by rfl) : PE X (.Call (.Name x p) (e :: es) [] pos) (tCallH X.prog X.w X.K X.mg X.base k i t) := by
  refine ⟨fun pins s σ H Q I h => ?_⟩
  obtain ⟨f, j, sp, hj, hs, ⟨fd, ps, F, hk, hb⟩, ht⟩ := h
  refine (pe_callL (i := i) (f := f) (sp := sp) (dvs := []) (E := fun _ _ _ => False) F (hr.mono hj) hN hv hk hb .nil (fun _ _ _ _ _ _ _ z => z.elim) ha hdb hcd he hpl).run pins s σ H Q I ⟨hs, ?_⟩
  have e0 : (fun (vs : List V) (H1 : Hp) => sp (vs ++ []) H1 Q (fun _ _ _ => False)) = fun vs H1 => sp vs H1 Q (fun _ _ _ => False) := by
    funext vs H1
    rw [List.append_nil]
  show t σ H (fun vs H1 => sp (vs ++ []) H1 Q (fun _ _ _ => False))
  rw [e0]
  exact ht
theorem Callee.held {P : Program} {w : World} {K : PySem.W.Frag} {mg : Str → Option Value} {base : Heap} {x : Str} {k : Nat} {ps : List Str} {sp : Sp} {f : Addr} (c : Callee P w K mg base x k ps sp) (hf : mg x = some (.ref f)) : Held P w K mg base k f sp := by
  obtain ⟨g, fd, F, hm, hk, b⟩ := c.ex
  rw [hm] at hf
  have e : g = f := by
    have h := Option.some.inj hf
    injection h
  subst e
  exact ⟨fd, ps, F, hk, b⟩
def tGetF (K : PySem.W.Frag) (w : World) (td ty : TE) : TE := fun σ H Q => td σ H fun x H1 => ∃ a es n, x = .ref a ∧ KDict K w a es n ∧ ty σ H1 fun y H2 => ∃ z o, y = .str z ∧ (∃ r, PySem.W.nsIn K a z = some r ∧ RelO o r) ∧ Q (o.getD .non) H2
theorem pe_getF {X : Cx} {o e : Expr} {apos cpos : Pos} {td ty : TE} (ho : PE X o td) (he : PE X e ty) (m : M1 X o "get" apos e cpos) : PE X (.Call (.Attribute o "get" apos) [e] [] cpos) (tGetF X.K X.w td ty) := by
  refine ⟨fun pins s σ H Q I h => ?_⟩
  refine wpAny_Call_method m.base m.few m.line PySem.F.plainAttrs_dict PySem.F.slot_dict_get PySem.F.type_dict_get (thn (ho.run pins s σ H _ I h) fun u s1 ⟨x, H1, I1, rx, a, es, n, ex, kd, q1⟩ => ?_)
  subst ex
  obtain rfl : u = Value.ref a := rx
  refine ⟨kd_type kd I1, fun b e => by cases e; exact ⟨_, I1.kIn a _ kd.at_, rfl⟩, ?_⟩
  rw [m.trees]
  refine Calls.callWith_builtin rfl (Calls.evalArgs_plain (Calls.spliced_cons (thn (he.run pins s1 σ H1 _ I1 q1) fun iv s2 ⟨y, H2, I2, ry, z, ov, ey, ⟨r, er, rr⟩, q2⟩ => Calls.spliced_nil ?_)))
  subst ey
  obtain ⟨t, rfl⟩ := ry
  have hm := PySem.W.mapOf_K (prog := X.prog) (w := X.w) I2.kIn kd.at_ kd.lit
  refine call_meetsIn PySem.F.slot_dict_get hm.typeIs PySem.F.entry_dict_get (PySem.F.args_dict_get_2 _ _) (meets_dict_get (strKind X.prog X.w) a (strKind_is X.prog X.w z t) kd.low) ⟨_, hm, ⟨ov.getD .non, H2, I2.tok _, ?_, q2⟩⟩
  rw [PySem.W.find_K kd.at_ er]
  cases ov with
  | none => cases r with
    | none => rfl
    | some v => exact rr.elim
  | some v0 => cases r with
    | none => exact rr.elim
    | some v => exact rr
end Fl
set_option maxHeartbeats 4000000
namespace Fl
open PySem PySem.Spec PyProof.Rows L2 Evl
section
variable {prog : Program} {w : World} {A : Around} {E : Value → Shared → Prop} {s : Shared}
set_option maxHeartbeats 1000000 in
theorem meets_enumTuple (l : Addr) (items : Array Value) (n : Nat) (dct : Option Addr) (sl : Array (Option Value)) :
    Meets (Builtin.«enumerate.__new__» ⟨[.type "enumerate", .ref l], []⟩) (fun _ R s => s.heap.IsTuple l items ∧
      R (.ok (.ret (.ref (s.heap.push { cls := .type "tuple_iterator", data := .fields #[.ref l, .int 0 0] }).objs.size)))
        { s with heap := (s.heap.push { cls := .type "tuple_iterator", data := .fields #[.ref l, .int 0 0] }).push { cls := .type "enumerate", data := .fields #[.none, .bool false, .ref s.heap.objs.size, rawInt 0, .none, .none] } }) :=
  .of_wp fun prog w A R s h => by
    obtain ⟨hp, g, d, tk, os⟩ := s; obtain ⟨h1, h⟩ := h
    have hsub := sub_enumerate
    have q1 : ∀ {A' : Around} {E : Value → Shared → Prop} {Q : Value → Shared → Prop}, Q (.ref hp.objs.size) ⟨hp.push { cls := .type "tuple_iterator", data := .fields #[.ref l, .int 0 0] }, g, d, tk, os⟩ → wpAny (model prog w) A' (pyIter (.ref l)) Q E ⟨hp, g, d, tk, os⟩ :=
      fun q => wpAny_pyIter_tuple (show Heap.IsTuple (Shared.heap ⟨hp, g, d, tk, os⟩) l items from h1) q
    wp_walk using q1
    refine wpAny_stack_any fun st => wpAny_pure ?_
    split
    · rename_i c _ _ _ _ _
      cases (c == Value.type "enumerate")
      · wp_walk using q1
        exact ⟨_, rfl, h⟩
      · wp_walk using q1
        exact ⟨_, rfl, h⟩
    · wp_walk using q1
      exact ⟨_, rfl, h⟩
theorem call_enumTuple {l : Addr} {items : Array Value} {Q : Value → Shared → Prop} (hL : s.heap.IsTuple l items)
    (h : ∀ h', IsEnum h' (s.heap.objs.size + 1) s.heap.objs.size 0 .none → h'.IsTupleIter s.heap.objs.size l 0 → h'.objs.size = s.heap.objs.size + 2 →
      (∀ b o, s.heap.get? b = some o → h'.get? b = some o) → Q (.ref (s.heap.objs.size + 1)) { s with heap := h' }) :
    wpAny (model prog w) A (call (.type "enumerate") [.ref l]) Q E s := by
  refine callType_new F.called_enumerate (by decide) (F.typeCall_enumerate_1 _) (F.newCall_enumerate_1 _) (fun obj => F.args_object_init_2 obj _) F.entry_enumerate_new
    (meets_enumTuple l items 0 none #[]) ⟨hL, ?_⟩
  have hz : (s.heap.push { cls := .type "tuple_iterator", data := .fields #[.ref l, .int 0 0] }).objs.size = s.heap.objs.size + 1 := Heap.size_push ..
  show _ ∧ _
  rw [hz]
  have he : IsEnum ((s.heap.push { cls := .type "tuple_iterator", data := .fields #[.ref l, .int 0 0] }).push
      { cls := .type "enumerate", data := .fields #[.none, .bool false, .ref s.heap.objs.size, rawInt 0, .none, .none] }) (s.heap.objs.size + 1) s.heap.objs.size 0 .none := by
    have := Heap.get?_push_size (s.heap.push { cls := .type "tuple_iterator", data := .fields #[.ref l, .int 0 0] })
      (o := { cls := .type "enumerate", data := .fields #[.none, .bool false, .ref s.heap.objs.size, rawInt 0, .none, .none] }) rfl
    rw [hz] at this; exact this
  refine ⟨⟨_, he, rfl⟩, h _ he ⟨_, Heap.get?_push_of_some _ (Heap.get?_push_size _ rfl), rfl, rfl⟩ (by rw [Heap.size_push, hz]) fun b o x => Heap.get?_push_of_some _ (Heap.get?_push_of_some _ x)⟩
end
def IteT (K : PySem.W.Frag) (a : Addr) : It :=
  ⟨fun i H => ∃ (xs : List V) (x : V), SqT K H a xs ∧ xs[i]? = some x, fun i H v H' => ∃ T x, v = .ref T ∧ H T = none ∧ H' = upd H T (.tup [.int (i : Nat), x]) ∧ ∀ xs, SqT K H a xs → xs[i]? = some x, fun i H => ∃ xs : List V, SqT K H a xs ∧ xs.length = i⟩
theorem turn_enumT {P : Program} {w : World} {K : PySem.W.Frag} {elts : List Expr} {kk : Nat} {tpos : Pos} (a e it : Addr) (hea : a ≠ e) (hia : a ≠ it) :
    Turn P w K (.Tuple elts kk tpos) (IteT K a) [e, it] e (fun i h => (∃ old, IsEnum h e it ((i : Nat) : Int) old) ∧ h.IsTupleIter it a i ∧ e ≠ it) where
  mem := by simp
  obj := fun i h st b hb => by
    obtain ⟨⟨old, he⟩, ⟨o, ho, hc, hd⟩, _⟩ := st
    have e' : b = e ∨ b = it := by simpa using hb
    rcases e' with z | z
    · rw [z]; exact ⟨_, he, fun v q => nomatch q⟩
    · rw [z]; exact ⟨o, ho, fun v q => by rw [hd] at q; cases q⟩
  keep := fun i h h' st k => let ⟨⟨old, he⟩, hi, hne⟩ := st; ⟨⟨old, k e (by simp) _ he⟩, hi.at fun o q => k it (by simp) o q, hne⟩
  item := by
    intro X hP hw hK hc i pins s σ H E I hf st hg
    subst hP hw hK
    obtain ⟨⟨old, he⟩, hit, hne⟩ := st
    obtain ⟨xs, x, hq, hx⟩ := hg
    obtain ⟨its, rv, p, hz⟩ := I.tuple hq
    obtain ⟨u, hu, ru⟩ := rv.get hx
    have hel : e < s.heap.objs.size := Heap.lt_size he
    have hil : it < s.heap.objs.size := by obtain ⟨_, q, _⟩ := hit; exact Heap.lt_size q
    have hsz' : i < its.toArray.size := by
      have := (List.getElem?_eq_some_iff.mp hu).1
      simpa using this
    refine wpAny_pyNext_enum_itemD (Draws.tuple (A := X.A.in1) (I.ok.hd hc) it a hia its.toArray) he ⟨hit, p⟩ hsz' hne (by simp [hne, hea.symm]) fun y h' tk hy ho hs' hT hsz hk => ?_
    have ey : y = u := by
      have h1 : its.toArray[i]? = some u := by simpa using hu
      rw [h1] at hy
      exact (Option.some.inj hy).symm
    subst ey
    refine ⟨_, rfl, wpAny_letOwnedTupleGo_enum (s := { s with heap := h', toks := tk + 1 }) ho fun h'' he' sb => ?_⟩
    have hT2 : h''.get? s.heap.objs.size = some { cls := .type "tuple", data := .seq #[.int i tk, y] } := (sb.2 _ (Nat.ne_of_gt hel)).trans hT
    have new : ObjOk X.prog X.w (upd H s.heap.objs.size (.tup [.int (i : Nat), x])) h'' s.heap.objs.size (.tup [.int (i : Nat), x]) :=
      ⟨by show 2 ≤ sizeLine; decide, [.int i tk, y], .cons ⟨_, rfl⟩ (.cons ru .nil), ⟨_, hT2, rfl, _, rfl⟩⟩
    have I1 : Inv X pins σ (upd H s.heap.objs.size (.tup [.int (i : Nat), x])) { s with heap := h'', toks := tk + 1 } :=
      I.turnedNew (t' := tk + 1) (ch := [e, it]) (fun b ob hb q => (sb.2 b (fun z => hb (by simp [z]))).trans (hk b ob (fun z => hb (by simp [z])) (fun z => hb (by simp [z])) q)) hf (Nat.le_refl _) new
    refine ⟨.ref s.heap.objs.size, _, I1, rfl, ⟨_, x, rfl, I.hok.fresh (Nat.le_refl _), rfl, fun ys hy => by rw [I.tuple_inj hy hq]; exact hx⟩, ⟨⟨y, ?_⟩, hs'.1.at fun o q => (sb.2 it (Ne.symm hne)).trans q, hne⟩, fun b hb => ?_⟩
    · have e1 : ((i + 1 : Nat) : Int) = (i : Int) + 1 := by omega
      rw [e1]; exact he'
    · have hb' : b < s.heap.objs.size := by
        have e' : b = e ∨ b = it := by simpa using hb
        rcases e' with z | z
        · rw [z]; exact hel
        · rw [z]; exact hil
      rw [upd_ne (Nat.ne_of_lt hb')]
      exact (hf b hb).1
  done := by
    intro X hP hw hK hc i pins s σ H E I hf st hg
    subst hP hw hK
    obtain ⟨⟨old, he⟩, hit, hne⟩ := st
    obtain ⟨xs, hq, hx⟩ := hg
    obtain ⟨its, rv, p, hz⟩ := I.tuple hq
    obtain ⟨f0, f1, f2, f3, f4, f5⟩ := hf it (by simp)
    have hl := rv.length
    have e' : i = its.toArray.size := by simp; omega
    subst e'
    exact wpAny_pyNext_enum_endD (Draws.tuple (A := X.A.in1) (I.ok.hd hc) it a hia its.toArray) he ⟨hit, p⟩ fun h' eb => ⟨rfl, I.turned (t' := s.toks) (fun b o hb q => eb b o hb q) f0 f1 f3 f4 f5⟩
  self := fun A i s Q E st h => let ⟨⟨_, he⟩, _⟩ := st; wpAny_pyIter_enum he h
theorem walk_enumT {K : PySem.W.Frag} {a : Addr} {xs : List V} : Walk (IteT K a) xs.length (fun H => SqT K H a xs) (YPair (fun i => some (.int (i : Nat))) (fun i => xs[i]?)) := by
  refine ⟨fun i _ hi q => ⟨xs, xs[i], q, by simp [hi]⟩, fun _ q => ⟨xs, q, rfl⟩, fun i H v H' _ q y => ?_⟩
  obtain ⟨T, x, h1, h2, h3, h4⟩ := y
  exact ⟨T, .int (i : Nat), x, h1, h2, h3, rfl, h4 xs q⟩
def iEnumT (K : PySem.W.Frag) (ta : TA) : TI := fun σ H R => ta σ H fun vs H1 => ∃ a xs, vs = [.ref a] ∧ ((SqT K H1 a xs ∧ R (IteT K a) H1) ∨ (SqL K H1 a xs ∧ R (Ite K a) H1))
theorem pi_enumT {X : Cx} {e : Expr} {ta : TA} {p pos tpos : Pos} {elts : List Expr} {kk : Nat} (hg : Gl X "enumerate") (hm : X.mg "enumerate" = none) (ha : PA X [e] ta) (hs : starEach [e] X.env = [(false, eval e X.env)] := by rfl) :
    PI X (.Tuple elts kk tpos) (.Call (.Name "enumerate" p) [e] [] pos) (iEnumT X.K ta) := by
  refine ⟨fun pins s σ H R I h => ?_⟩
  refine Call_ (ld_blt I hg hm boot_enumerate (PyProof.Rows.callWith_type1 (thn (ha.run pos pins s σ H _ I h) fun us s1 ⟨vs, H1, I1, r1, q1⟩ => ?_) hs rfl))
  obtain ⟨a, xs, ex, q1⟩ := q1
  subst ex
  cases r1 with
  | cons r rr =>
    cases rr
    cases r
    have fp : ∀ b ∈ [s1.heap.objs.size + 1, s1.heap.objs.size], FpOk X pins H1 b := fun b hb => by
      have e' : b = s1.heap.objs.size + 1 ∨ b = s1.heap.objs.size := by simpa using hb
      have hle : s1.heap.objs.size ≤ b := by
        rcases e' with z | z
        · rw [z]; exact Nat.le_add_right _ _
        · rw [z]; exact Nat.le_refl _
      exact I1.fpOk hle (I1.hok.fresh hle)
    rcases q1 with ⟨hq, q⟩ | ⟨hq, q⟩
    · obtain ⟨its, rv, p', hz⟩ := I1.tuple hq
      have hlt : a < s1.heap.objs.size := by obtain ⟨o, ho, _⟩ := (show s1.heap.IsTuple a its.toArray from p'); exact Heap.lt_size ho
      refine call_enumTuple (show s1.heap.IsTuple a its.toArray from p') fun h' he hit hsz hk => wpAny_pyIter_enum he ?_
      have I2 : Inv X pins σ H1 { s1 with heap := h' } := I1.kept (t' := s1.toks) hk
      exact ⟨s1.heap.objs.size + 1, [s1.heap.objs.size + 1, s1.heap.objs.size], _, _, H1, rfl, I2, turn_enumT a (s1.heap.objs.size + 1) s1.heap.objs.size (Nat.ne_of_lt (Nat.lt_succ_of_lt hlt)) (Nat.ne_of_lt hlt), ⟨⟨.none, he⟩, hit, Nat.succ_ne_self _⟩, fp, q⟩
    · obtain ⟨its, rv, p', hz⟩ := I1.list hq
      refine call_enumerate_list p'.isList fun h' he hit hsz hk => wpAny_pyIter_enum he ?_
      have I2 : Inv X pins σ H1 { s1 with heap := h' } := I1.kept (t' := s1.toks) hk
      exact ⟨s1.heap.objs.size + 1, [s1.heap.objs.size + 1, s1.heap.objs.size], _, _, H1, rfl, I2, turn_enum a (s1.heap.objs.size + 1) s1.heap.objs.size, ⟨⟨.none, he⟩, hit, Nat.succ_ne_self _⟩, fp, q⟩
def SeqI : Bool → Heap → Addr → Array Value → Prop
  | true, h, a, xs => h.IsTuple a xs
  | false, h, a, xs => h.IsList a xs
def ItI : Bool → Heap → Addr → Addr → Nat → Prop
  | true, h, it, l, k => h.IsTupleIter it l k
  | false, h, it, l, k => h.IsListIter it l k
theorem SeqI.extBut {t : Bool} {h h' : Heap} {a b : Addr} {xs : Array Value} (x : SeqI t h a xs) (hs : Heap.ExtBut b h h') (n : a ≠ b) : SeqI t h' a xs := by
  cases t
  · exact Heap.IsList.extBut x hs n
  · exact Heap.IsTuple.extBut x hs n
theorem ItI.extBut {t : Bool} {h h' : Heap} {a b l : Addr} {k : Nat} (x : ItI t h a l k) (hs : Heap.ExtBut b h h') (n : a ≠ b) : ItI t h' a l k := by
  cases t
  · exact Heap.IsListIter.extBut x hs n
  · exact Heap.IsTupleIter.extBut x hs n
theorem ItI.at {t : Bool} {h h' : Heap} {a l : Addr} {k : Nat} (x : ItI t h a l k) (e : ∀ o, h.get? a = some o → h'.get? a = some o) : ItI t h' a l k := by
  cases t
  · exact Heap.IsListIter.at x e
  · exact Heap.IsTupleIter.at x e
theorem ItI.lt {t : Bool} {h : Heap} {a l : Addr} {k : Nat} (x : ItI t h a l k) : a < h.objs.size := by
  cases t
  · obtain ⟨_, e, _⟩ := (show h.IsListIter a l k from x); exact Heap.lt_size e
  · obtain ⟨_, e, _⟩ := (show h.IsTupleIter a l k from x); exact Heap.lt_size e
theorem SeqI.lt {t : Bool} {h : Heap} {a : Addr} {xs : Array Value} (x : SeqI t h a xs) : a < h.objs.size := by
  cases t
  · obtain ⟨_, e, _⟩ := (show h.IsList a xs from x); exact Heap.lt_size e
  · obtain ⟨_, e, _⟩ := (show h.IsTuple a xs from x); exact Heap.lt_size e
theorem ItI.obj {t : Bool} {h : Heap} {a l : Addr} {k : Nat} (x : ItI t h a l k) : ∃ o vs, h.get? a = some o ∧ o.data = .fields vs := by
  cases t
  · obtain ⟨o, e, _, d⟩ := (show h.IsListIter a l k from x); exact ⟨o, _, e, d⟩
  · obtain ⟨o, e, _, d⟩ := (show h.IsTupleIter a l k from x); exact ⟨o, _, e, d⟩
section
variable {prog : Program} {w : World} {A : Around} {E : Value → Shared → Prop} {s : Shared}
theorem nOE_item {t : Bool} {it l : Addr} {k : Nat} {xs : Array Value} {x : Value} {Q : Option Value → Shared → Prop} (hi : ItI t s.heap it l k) (hl : SeqI t s.heap l xs) (hx : xs[k]? = some x)
    (hQ : ∀ h', ItI t h' it l (k + 1) → Heap.SameBut it s.heap h' → Q (some x) { s with heap := h' }) : wpAny (model prog w) A (Builtin.SmallTypes.nextOrEnd (.ref it)) Q E s := by
  unfold Builtin.SmallTypes.nextOrEnd
  cases t
  · exact wpAny_bind (wpAny_attempt (wpAny_nextOf_list_item hi hl hx fun h' a b => wpAny_pure (hQ h' a b)))
  · exact wpAny_bind (wpAny_attempt (wpAny_nextOf_tuple_item hi hl hx fun h' a b => wpAny_pure (hQ h' a b)))
theorem nOE_end {t : Bool} {it l : Addr} {k : Nat} {xs : Array Value} {Q : Option Value → Shared → Prop} (hh : A.handled = none) (hi : ItI t s.heap it l k) (hl : SeqI t s.heap l xs) (hx : xs[k]? = none)
    (hQ : ∀ h', Heap.ExtBut it s.heap h' → Q none { s with heap := h' }) : wpAny (model prog w) A (Builtin.SmallTypes.nextOrEnd (.ref it)) Q E s := by
  unfold Builtin.SmallTypes.nextOrEnd
  cases t
  · refine wpAny_bind (wpAny_attempt (wpAny_nextOf_list_end hh hi hl hx fun h' e hs he => ?_))
    obtain ⟨o, ho, hc⟩ := he
    refine wpAny_bind (wpAny_isInstance (T := "StopIteration") (b := true) ⟨o, ho, hc⟩ isSubtype_stop ?_)
    exact wpAny_pure (hQ _ hs)
  · refine wpAny_bind (wpAny_attempt (RZ.nextOf_tuple_end hh hi hl hx fun h' e hs he => ?_))
    obtain ⟨o, ho, hc⟩ := he
    refine wpAny_bind (wpAny_isInstance (T := "StopIteration") (b := true) ⟨o, ho, hc⟩ isSubtype_stop ?_)
    exact wpAny_pure (hQ _ hs)
end
abbrev IsZipS (h : Heap) (z TI TO : Addr) (f0 : Value) : Prop :=
  h.get? z = some { cls := .type "zip", dict := none, data := .fields #[f0, .bool false, .bool true, .ref TI, .ref TO], slots := #[] }
section
variable {prog : Program} {w : World} {A : Around} {E : Value → Shared → Prop} {s : Shared}
theorem zipS_item {t1 t2 : Bool} {z TI TO i1 i2 l1 l2 : Addr} {k1 k2 : Nat} {xs ys : Array Value} {x y a b : Value} {Q : Value → Shared → Prop} (D : ZipApart z TI TO i1 i2 l1 l2)
    (hz : IsZipS s.heap z TI TO .none) (hTI : IsPair s.heap TI (.ref i1) (.ref i2)) (hTO : IsPair s.heap TO a b)
    (h1 : ItI t1 s.heap i1 l1 k1) (h2 : ItI t2 s.heap i2 l2 k2) (hl1 : SeqI t1 s.heap l1 xs) (hl2 : SeqI t2 s.heap l2 ys) (hx : xs[k1]? = some x) (hy : ys[k2]? = some y)
    (hQ : ∀ h', IsZipS h' z TI TO (rawInt s.heap.objs.size) → IsPair h' TO x y → ItI t1 h' i1 l1 (k1 + 1) → ItI t2 h' i2 l2 (k2 + 1) → IsPair h' s.heap.objs.size x y → h'.objs.size = s.heap.objs.size + 1 →
      (∀ c o, c ≠ z → c ≠ TO → c ≠ i1 → c ≠ i2 → s.heap.get? c = some o → h'.get? c = some o) → Q (.ref s.heap.objs.size) { s with heap := h' }) :
    wpAny (model prog w) A (Builtin.«zip.__next__» ⟨[.ref z], []⟩) (fun fin s' => ∃ v, fin = .done (.ret v) ∧ Q v s') E s := by
  show wpAny _ _ (field (.ref z) 2 >>= _) _ _ _
  refine wpAny_bind (wpAny_field hz rfl (x := .bool true) rfl ?_)
  show wpAny _ _ (field (.ref z) 3 >>= _) _ _ _
  refine wpAny_bind (wpAny_field hz rfl (x := .ref TI) rfl ?_)
  refine wpAny_bind (wpAny_seqItems hTI rfl ?_)
  show wpAny _ _ (Builtin.SmallTypes.ownedTupleIsFree (.ref z) >>= _) _ _ _
  refine wpAny_bind ?_
  unfold Builtin.SmallTypes.ownedTupleIsFree
  refine wpAny_bind (wpAny_field hz rfl (x := .none) rfl (wpAny_pure ?_))
  simp only [if_true]
  refine wpAny_bind (wpAny_rule ?_)
  refine wpAny_bind (wpAny_field hz rfl (x := .ref TO) rfl ?_)
  refine wpAny_bind (wpAny_setField_rec hz (by simp) fun h₁ hz₁ hs₁ => ?_)
  replace hz₁ : IsZipS h₁ z TI TO .ellipsis := hz₁
  refine wpAny_bind ?_
  simp only [List.zipIdx_cons, List.zipIdx_nil, List.forIn_cons, List.forIn_nil]
  refine wpAny_bind (wpAny_bind (wpAny_onRaise ?_))
  show wpAny _ _ (Builtin.SmallTypes.nextOrEnd (.ref i1)) _ _ _
  refine nOE_item (h1.extBut hs₁.extBut D.i1z) (hl1.extBut hs₁.extBut D.l1z) hx fun h₂ h1₂ hs₂ => ?_
  have hTO₂ : IsPair h₂ TO a b := hs₂.extBut _ _ D.TOi1 (hs₁.extBut _ _ D.TOz hTO)
  refine wpAny_bind (wpAny_seqItems hTO₂ rfl ?_)
  refine wpAny_bind (wpAny_updateSeq_pair hTO₂ fun h₃ hTO₃ hs₃ => ?_)
  replace hTO₃ : IsPair h₃ TO x b := hTO₃
  refine wpAny_bind (wpAny_letGo (wpAny_pure ?_))
  refine wpAny_bind (wpAny_bind (wpAny_onRaise ?_))
  show wpAny _ _ (Builtin.SmallTypes.nextOrEnd (.ref i2)) _ _ _
  refine nOE_item (((h2.extBut hs₁.extBut D.i2z).extBut hs₂.extBut D.i12.symm).extBut hs₃.extBut D.TOi2.symm)
    (((hl2.extBut hs₁.extBut D.l2z).extBut hs₂.extBut D.l2i1).extBut hs₃.extBut D.l2TO) hy fun h₄ h2₄ hs₄ => ?_
  have hTO₄ : IsPair h₄ TO x b := hs₄.extBut _ _ D.TOi2 hTO₃
  refine wpAny_bind (wpAny_seqItems hTO₄ rfl ?_)
  refine wpAny_bind (wpAny_updateSeq_pair hTO₄ fun h₅ hTO₅ hs₅ => ?_)
  replace hTO₅ : IsPair h₅ TO x y := hTO₅
  refine wpAny_bind (wpAny_letGo (wpAny_pure (wpAny_pure ?_)))
  refine wpAny_bind (wpAny_seqItems hTO₅ rfl ?_)
  refine wpAny_bind (wpAny_newTuple ?_)
  have hsz : h₅.objs.size = s.heap.objs.size := by rw [hs₅.1, hs₄.1, hs₃.1, hs₂.1, hs₁.1]
  have hz₅ : IsZipS h₅ z TI TO .ellipsis := hs₅.extBut _ _ D.TOz.symm (hs₄.extBut _ _ D.i2z.symm (hs₃.extBut _ _ D.TOz.symm (hs₂.extBut _ _ D.i1z.symm hz₁)))
  have hk₅ : ∀ c o, c ≠ z → c ≠ TO → c ≠ i1 → c ≠ i2 → s.heap.get? c = some o → h₅.get? c = some o := fun c o c1 c2 c3 c4 e =>
    hs₅.extBut _ _ c2 (hs₄.extBut _ _ c4 (hs₃.extBut _ _ c2 (hs₂.extBut _ _ c3 (hs₁.extBut _ _ c1 e))))
  have h1₅ : ItI t1 h₅ i1 l1 (k1 + 1) := ((h1₂.extBut hs₃.extBut D.TOi1.symm).extBut hs₄.extBut D.i12).extBut hs₅.extBut D.TOi1.symm
  have h2₅ : ItI t2 h₅ i2 l2 (k2 + 1) := h2₄.extBut hs₅.extBut D.TOi2.symm
  have hzlt : z < h₅.objs.size := Heap.lt_size hz₅
  have hTOlt : TO < h₅.objs.size := Heap.lt_size hTO₅
  have hi1lt : i1 < h₅.objs.size := h1₅.lt
  have hi2lt : i2 < h₅.objs.size := h2₅.lt
  show wpAny _ _ (Builtin.SmallTypes.ownedTupleHandOut (.ref z) (.ref h₅.objs.size) >>= _) _ _ _
  refine wpAny_bind ?_
  unfold Builtin.SmallTypes.ownedTupleHandOut
  have hz₆ : IsZipS (h₅.push { cls := .type "tuple", data := .seq #[x, y] }) z TI TO .ellipsis := Heap.get?_push_of_some _ hz₅
  refine wpAny_bind (wpAny_setField_rec hz₆ (by simp) fun h₇ hz₇ hs₇ => ?_)
  replace hz₇ : IsZipS h₇ z TI TO (rawInt h₅.objs.size) := hz₇
  refine wpAny_setField_rec hz₇ (by simp) fun h₈ hz₈ hs₈ => ?_
  replace hz₈ : IsZipS h₈ z TI TO (rawInt h₅.objs.size) := hz₈
  have up : ∀ c o, c ≠ z → h₅.get? c = some o → h₈.get? c = some o := fun c o c1 e => hs₈.extBut _ _ c1 (hs₇.extBut _ _ c1 (Heap.get?_push_of_some _ e))
  have hT₈ : IsPair h₈ h₅.objs.size x y := hs₈.extBut _ _ (Nat.ne_of_gt hzlt) (hs₇.extBut _ _ (Nat.ne_of_gt hzlt) (Heap.get?_push_size _ rfl))
  have hz8 : h₈.objs.size = h₅.objs.size + 1 := by rw [hs₈.1, hs₇.1, Heap.size_push]
  rw [hsz] at hz₈ hT₈ hz8
  refine wpAny_pure ⟨_, rfl, ?_⟩
  show Q (.ref h₅.objs.size) _
  rw [hsz]
  exact hQ h₈ hz₈ (up _ _ D.TOz hTO₅) (h1₅.at fun o e => up _ o D.i1z e) (h2₅.at fun o e => up _ o D.i2z e) hT₈ hz8 fun c o c1 c2 c3 c4 e => up c o c1 (hk₅ c o c1 c2 c3 c4 e)
theorem zipS_end {t1 t2 : Bool} {z TI TO i1 i2 l1 l2 : Addr} {k1 k2 : Nat} {xs ys : Array Value} {a b : Value} {Q : Fin → Shared → Prop} (hh : A.handled = none) (D : ZipApart z TI TO i1 i2 l1 l2)
    (hz : IsZipS s.heap z TI TO .none) (hTI : IsPair s.heap TI (.ref i1) (.ref i2)) (hTO : IsPair s.heap TO a b)
    (h1 : ItI t1 s.heap i1 l1 k1) (h2 : ItI t2 s.heap i2 l2 k2) (hl1 : SeqI t1 s.heap l1 xs) (hl2 : SeqI t2 s.heap l2 ys) (hx : xs[k1]? = none) (hy : ys[k2]? = none)
    (hE : ∀ h' e, (∀ c o, c ≠ z → c ≠ TO → c ≠ i1 → c ≠ i2 → s.heap.get? c = some o → h'.get? c = some o) → (∃ o, h'.get? e = some o ∧ o.cls = .type "StopIteration") → E (.ref e) { s with heap := h' }) :
    wpAny (model prog w) A (Builtin.«zip.__next__» ⟨[.ref z], []⟩) Q E s := by
  show wpAny _ _ (field (.ref z) 2 >>= _) _ _ _
  refine wpAny_bind (wpAny_field hz rfl (x := .bool true) rfl ?_)
  show wpAny _ _ (field (.ref z) 3 >>= _) _ _ _
  refine wpAny_bind (wpAny_field hz rfl (x := .ref TI) rfl ?_)
  refine wpAny_bind (wpAny_seqItems hTI rfl ?_)
  show wpAny _ _ (Builtin.SmallTypes.ownedTupleIsFree (.ref z) >>= _) _ _ _
  refine wpAny_bind ?_
  unfold Builtin.SmallTypes.ownedTupleIsFree
  refine wpAny_bind (wpAny_field hz rfl (x := .none) rfl (wpAny_pure ?_))
  simp only [if_true]
  refine wpAny_bind (wpAny_rule ?_)
  refine wpAny_bind (wpAny_field hz rfl (x := .ref TO) rfl ?_)
  refine wpAny_bind (wpAny_setField_rec hz (by simp) fun h₁ hz₁ hs₁ => ?_)
  replace hz₁ : IsZipS h₁ z TI TO .ellipsis := hz₁
  refine wpAny_bind ?_
  simp only [List.zipIdx_cons, List.zipIdx_nil, List.forIn_cons, List.forIn_nil]
  refine wpAny_bind (wpAny_bind (wpAny_onRaise ?_))
  show wpAny _ _ (Builtin.SmallTypes.nextOrEnd (.ref i1)) _ _ _
  refine nOE_end hh (h1.extBut hs₁.extBut D.i1z) (hl1.extBut hs₁.extBut D.l1z) hx fun h₂ hs₂ => ?_
  have hz₂ : IsZipS h₂ z TI TO .ellipsis := hs₂ _ _ D.i1z.symm hz₁
  refine wpAny_bind (wpAny_setField_rec hz₂ (by simp) fun h₃ hz₃ hs₃ => ?_)
  refine wpAny_bind ?_
  show wpAny _ _ (forIn ((List.drop 1 [Value.ref i1, Value.ref i2]).zipIdx 1) PUnit.unit _ >>= _) _ _ _
  refine wpAny_bind ?_
  simp only [List.drop_succ_cons, List.drop_zero, List.zipIdx_cons, List.zipIdx_nil, List.forIn_cons, List.forIn_nil]
  have h2₃ : ItI t2 h₃ i2 l2 k2 := (h2.extBut hs₁.extBut D.i2z).at fun o e => hs₃.extBut _ _ D.i2z (hs₂ _ _ D.i12.symm e)
  have hl2₂ : SeqI t2 h₂ l2 ys := (hl2.extBut hs₁.extBut D.l2z).extBut hs₂ D.l2i1
  refine wpAny_bind (wpAny_bind (nOE_end hh h2₃ (hl2₂.extBut hs₃.extBut D.l2z) hy fun h₄ hs₄ => ?_))
  rw [if_neg (by simp)]
  refine wpAny_pure (wpAny_pure ?_)
  refine wpAny_bind (wpAny_rule ?_)
  unfold Builtin.SmallTypes.stopIteration
  simp only [newExc, newTuple]
  refine wpAny_bind (wpAny_bind (wpAny_newObj_type ?_ (by size_fits)))
  refine wpAny_bind (m := firstArgMember _ _) (wpAny_of_eq (a := Value.none) (by first | rfl | (simp only [firstArgMember]; rfl)) ?_)
  refine wpAny_newObj_type ?_ (by size_fits)
  simp only [raiseNew]
  refine wpAny_bind (wpAny_handled ?_)
  first | rw [show A.in1.handled = none from hh] | rw [hh]
  refine wpAny_bind (wpAny_pure (wpAny_throw ?_))
  exact hE _ _ (fun c o c1 _ c3 c4 x => Heap.get?_push_of_some _ (Heap.get?_push_of_some _ (hs₄ _ _ c4 (hs₃.extBut _ _ c1 (hs₂ _ _ c3 (hs₁.extBut _ _ c1 x)))))) ⟨_, Heap.get?_push_size _ rfl, rfl⟩
theorem pyNext_zipS_item {t1 t2 : Bool} {z TI TO i1 i2 l1 l2 : Addr} {k1 k2 : Nat} {xs ys : Array Value} {x y a b : Value} {Q : Option Value → Shared → Prop} (D : ZipApart z TI TO i1 i2 l1 l2)
    (hz : IsZipS s.heap z TI TO .none) (hTI : IsPair s.heap TI (.ref i1) (.ref i2)) (hTO : IsPair s.heap TO a b)
    (h1 : ItI t1 s.heap i1 l1 k1) (h2 : ItI t2 s.heap i2 l2 k2) (hl1 : SeqI t1 s.heap l1 xs) (hl2 : SeqI t2 s.heap l2 ys) (hx : xs[k1]? = some x) (hy : ys[k2]? = some y)
    (hQ : ∀ h', IsZipS h' z TI TO (rawInt s.heap.objs.size) → IsPair h' TO x y → ItI t1 h' i1 l1 (k1 + 1) → ItI t2 h' i2 l2 (k2 + 1) → IsPair h' s.heap.objs.size x y → h'.objs.size = s.heap.objs.size + 1 →
      (∀ c o, c ≠ z → c ≠ TO → c ≠ i1 → c ≠ i2 → s.heap.get? c = some o → h'.get? c = some o) → Q (some (.ref s.heap.objs.size)) { s with heap := h' }) :
    wpAny (model prog w) A (pyNext (.ref z)) Q E s := by
  have hT : s.TypeIs (.ref z) "zip" := ⟨_, hz, rfl⟩
  unfold pyNext
  exact wpAny_bind (wpAny_attempt (wpAny_callSpecial?_slot (name := Str.ofString "__next__") hT F.slot_zip_next
    (wpAny_call_entry F.slot_zip_next hT F.entry_zip_next
      (zipS_item D hz hTI hTO h1 h2 hl1 hl2 hx hy fun h' a1 a2 a3 a4 a5 a6 a7 => wpAny_pure (hQ h' a1 a2 a3 a4 a5 a6 a7)) (F.args_zip_next_1 _))))
theorem pyNext_zipS_end {t1 t2 : Bool} {z TI TO i1 i2 l1 l2 : Addr} {k1 k2 : Nat} {xs ys : Array Value} {a b : Value} {Q : Option Value → Shared → Prop} (hh : A.handled = none) (D : ZipApart z TI TO i1 i2 l1 l2)
    (hz : IsZipS s.heap z TI TO .none) (hTI : IsPair s.heap TI (.ref i1) (.ref i2)) (hTO : IsPair s.heap TO a b)
    (h1 : ItI t1 s.heap i1 l1 k1) (h2 : ItI t2 s.heap i2 l2 k2) (hl1 : SeqI t1 s.heap l1 xs) (hl2 : SeqI t2 s.heap l2 ys) (hx : xs[k1]? = none) (hy : ys[k2]? = none)
    (hQ : ∀ h', (∀ c o, c ≠ z → c ≠ TO → c ≠ i1 → c ≠ i2 → s.heap.get? c = some o → h'.get? c = some o) → Q none { s with heap := h' }) : wpAny (model prog w) A (pyNext (.ref z)) Q E s := by
  have hT : s.TypeIs (.ref z) "zip" := ⟨_, hz, rfl⟩
  unfold pyNext
  refine wpAny_bind (wpAny_attempt (wpAny_callSpecial?_slot (name := Str.ofString "__next__") hT F.slot_zip_next
    (wpAny_call_entry F.slot_zip_next hT F.entry_zip_next (zipS_end hh D hz hTI hTO h1 h2 hl1 hl2 hx hy fun h' e hk he => ?_) (F.args_zip_next_1 _))))
  obtain ⟨o, ho, hc⟩ := he
  refine wpAny_bind (wpAny_isInstance (T := "StopIteration") (b := true) ⟨o, ho, hc⟩ isSubtype_stop ?_)
  exact wpAny_pure (hQ _ hk)
theorem letGo_zipS {elts : List Expr} {x1} {pos : Pos} {z TI TO T : Addr} {Q : Unit → Shared → Prop} (hz : IsZipS s.heap z TI TO (rawInt T))
    (hQ : ∀ h', IsZipS h' z TI TO .none → Heap.SameBut z s.heap h' → Q () { s with heap := h' }) :
    wpAny (model prog w) A (letOwnedTupleGo (.Tuple elts x1 pos) (.ref z) (.ref T)) Q E s := by
  unfold letOwnedTupleGo
  refine wpAny_bind (wpAny_load hz ?_)
  show wpAny _ _ (if (["enumerate", "zip", "dict_itemiterator", "dict_reverseitemiterator", "odict_iterator", "itertools.zip_longest", "itertools.pairwise"].contains "zip" &&
      (#[rawInt T, .bool false, .bool true, .ref TI, .ref TO] : Array Value)[0]? == some (rawInt T)) = true then _ else _) Q E s
  rw [if_pos (by simp)]
  refine wpAny_bind (wpAny_rule ?_)
  show wpAny _ _ (setField (.ref z) 0 .none) Q E s
  exact wpAny_setField_rec hz (by simp) fun h' hz' hs' => hQ h' hz' hs'
theorem pyIter_zipS {z TI TO : Addr} {f0 : Value} {Q : Value → Shared → Prop} (hz : IsZipS s.heap z TI TO f0) (h : Q (.ref z) s) : wpAny (model prog w) A (pyIter (.ref z)) Q E s := by
  have hT : s.TypeIs (.ref z) "zip" := ⟨_, hz, rfl⟩
  refine wpAny_pyIter_slot hT F.slot_zip_iter (wpAny_call_entry F.slot_zip_iter hT F.entry_zip_iter ?_ (F.args_zip_iter_1 _))
  show wpAny _ _ (ret (.ref z)) _ _ s
  exact wpAny_pure ⟨_, rfl, "zip", _, hT, F.slot_zip_next.lookup, h⟩
end
abbrev gsZ2 (h : Heap) (o1 o2 : Obj) : Heap := (gzO2 h o1 o2).push { cls := .type "zip", data := .fields #[.none, .bool false, .bool true, .ref ((h.push o1).push o2).objs.size, .ref (gzT2 h o1 o2).objs.size] }
theorem typeCall_zipS (a b : Value) : checkTypeCall "zip" ⟨[a, b], [(Str.ofString "strict", .bool true)]⟩ = pure () := by kernel_rfl
theorem newCall_zipS (a b : Value) : checkBuiltinCall "zip.__new__" ⟨[.type "zip", a, b], [(Str.ofString "strict", .bool true)]⟩ = pure () := by kernel_rfl
theorem args_object_init_zipS (obj a b : Value) : argsOk "object.__init__" ⟨[obj, a, b], [(Str.ofString "strict", .bool true)]⟩ := by unfold argsOk; kernel_rfl
set_option maxHeartbeats 4000000 in
theorem meets_zipS_new {v1 v2 : Value} {o1 o2 : Obj} {H1 H2 : Heap → Prop} (B1 : Begins v1 o1 H1) (B2 : Begins v2 o2 H2) :
    Meets (Builtin.«zip.__new__» ⟨[.type "zip", v1, v2], [(Str.ofString "strict", .bool true)]⟩) (fun _ R s => (H1 s.heap ∧ H2 s.heap) ∧
      R (.ok (.ret (.ref (gzO2 s.heap o1 o2).objs.size))) { s with heap := gsZ2 s.heap o1 o2 }) :=
  .of_wp fun prog w A R s h => by
    obtain ⟨hp, g, d, tk, os⟩ := s; obtain ⟨⟨h1, h2⟩, h⟩ := h
    have hsub := sub_zip
    have e1 : (Str.ofString "strict" == ("strict" : Str)) = true := by decide +kernel
    have e2 : (Str.ofString "strict" != ("strict" : Str)) = false := by decide +kernel
    have q1 : ∀ {A' : Around} {E : Value → Shared → Prop} {Q : Value → Shared → Prop}, Q (.ref hp.objs.size) ⟨(hp.push o1), g, d, tk, os⟩ → wpAny (model prog w) A' (pyIter v1) Q E ⟨hp, g, d, tk, os⟩ :=
      fun q => B1.iter prog w _ _ ⟨hp, g, d, tk, os⟩ _ (B1.keeps _ _ h1 fun b o' e => e) q
    have q2 : ∀ {A' : Around} {E : Value → Shared → Prop} {Q : Value → Shared → Prop}, Q (.ref (hp.push o1).objs.size) ⟨((hp.push o1).push o2), g, d, tk, os⟩ → wpAny (model prog w) A' (pyIter v2) Q E ⟨(hp.push o1), g, d, tk, os⟩ :=
      fun q => B2.iter prog w _ _ ⟨(hp.push o1), g, d, tk, os⟩ _ (B2.keeps _ _ h2 fun b o' e => (Heap.get?_push_of_some _ e)) q
    wp_walk using q1, q2
    exact ⟨_, rfl, h⟩
section
variable {prog : Program} {w : World} {A : Around} {E : Value → Shared → Prop} {s : Shared}
theorem zipS_begins {v1 v2 : Value} {o1 o2 : Obj} {H1 H2 : Heap → Prop} {Q : Value → Shared → Prop} (B1 : Begins v1 o1 H1) (B2 : Begins v2 o2 H2) (h1 : H1 s.heap) (h2 : H2 s.heap)
    (h : ∀ h', IsZipS h' (s.heap.objs.size + 4) (s.heap.objs.size + 2) (s.heap.objs.size + 3) .none → IsPair h' (s.heap.objs.size + 2) (.ref s.heap.objs.size) (.ref (s.heap.objs.size + 1)) →
      IsPair h' (s.heap.objs.size + 3) .none .none → h'.get? s.heap.objs.size = some o1 → h'.get? (s.heap.objs.size + 1) = some o2 → h'.objs.size = s.heap.objs.size + 5 →
      (∀ c o, s.heap.get? c = some o → h'.get? c = some o) → Q (.ref (s.heap.objs.size + 4)) { s with heap := h' }) :
    wpAny (model prog w) A (call (.type "zip") [v1, v2] [(Str.ofString "strict", .bool true)]) Q E s := by
  refine callType_newKw F.called_zip (by decide) (typeCall_zipS _ _) (newCall_zipS _ _) (fun obj => args_object_init_zipS obj _ _) F.entry_zip_new
    (meets_zipS_new B1 B2) ⟨⟨h1, h2⟩, ?_⟩
  have z1 : (s.heap.push o1).objs.size = s.heap.objs.size + 1 := by rw [Heap.size_push]
  have z2 : ((s.heap.push o1).push o2).objs.size = s.heap.objs.size + 2 := by rw [Heap.size_push, z1]
  have zT : (gzT2 s.heap o1 o2).objs.size = s.heap.objs.size + 3 := by rw [Heap.size_push, z2]
  have zO : (gzO2 s.heap o1 o2).objs.size = s.heap.objs.size + 4 := by rw [Heap.size_push, zT]
  have zZ : (gsZ2 s.heap o1 o2).objs.size = s.heap.objs.size + 5 := by rw [Heap.size_push, zO]
  have gZ : (gsZ2 s.heap o1 o2).get? (gzO2 s.heap o1 o2).objs.size = some { cls := .type "zip", data := .fields #[.none, .bool false, .bool true, .ref ((s.heap.push o1).push o2).objs.size, .ref (gzT2 s.heap o1 o2).objs.size] } := Heap.get?_push_size _ rfl
  have gO : (gsZ2 s.heap o1 o2).get? (gzT2 s.heap o1 o2).objs.size = some { cls := .type "tuple", data := .seq #[.none, .none] } := Heap.get?_push_of_some _ (Heap.get?_push_size _ rfl)
  have gT : (gsZ2 s.heap o1 o2).get? ((s.heap.push o1).push o2).objs.size = some { cls := .type "tuple", data := .seq #[.ref s.heap.objs.size, .ref (s.heap.push o1).objs.size] } := Heap.get?_push_of_some _ (Heap.get?_push_of_some _ (Heap.get?_push_size _ rfl))
  have g1 : (gsZ2 s.heap o1 o2).get? s.heap.objs.size = some o1 := Heap.get?_push_of_some _ (Heap.get?_push_of_some _ (Heap.get?_push_of_some _ (Heap.get?_push_of_some _ (Heap.get?_push_size _ B1.free))))
  have g2 : (gsZ2 s.heap o1 o2).get? (s.heap.push o1).objs.size = some o2 := Heap.get?_push_of_some _ (Heap.get?_push_of_some _ (Heap.get?_push_of_some _ (Heap.get?_push_size _ B2.free)))
  rw [zO, zT, z2] at gZ
  rw [zT] at gO
  rw [z2, z1] at gT
  rw [z1] at g2
  show _ ∧ _
  rw [zO]
  exact ⟨⟨_, gZ, rfl⟩, h _ gZ gT gO g1 g2 zZ fun c o x => Heap.get?_push_of_some _ (Heap.get?_push_of_some _ (Heap.get?_push_of_some _ (Heap.get?_push_of_some _ (Heap.get?_push_of_some _ x))))⟩
end
def SqI (t : Bool) (K : PySem.W.Frag) (H : Hp) (a : Addr) (xs : List V) : Prop := match t with
  | true => SqT K H a xs
  | false => SqL K H a xs
def ItzS (K : PySem.W.Frag) (t1 t2 : Bool) (a b : Addr) : It :=
  ⟨fun i H => ∃ (xs ys : List V) (x y : V), SqI t1 K H a xs ∧ SqI t2 K H b ys ∧ xs[i]? = some x ∧ ys[i]? = some y,
    fun i H v H' => ∃ T x y, v = .ref T ∧ H T = none ∧ H' = upd H T (.tup [x, y]) ∧ (∀ xs, SqI t1 K H a xs → xs[i]? = some x) ∧ ∀ ys, SqI t2 K H b ys → ys[i]? = some y,
    fun i H => ∃ xs ys : List V, SqI t1 K H a xs ∧ SqI t2 K H b ys ∧ xs.length = i ∧ ys.length = i⟩
section
variable {X : Cx} {pins : List (Addr × Obj)} {σ : L2.St} {H : Hp} {s : Shared}
theorem inv_sqI {t : Bool} {a : Addr} {xs : List V} (I : Inv X pins σ H s) (h : SqI t X.K H a xs) : ∃ its : List Value, Vals xs its ∧ SeqI t s.heap a its.toArray ∧ xs.length ≤ sizeLine := by
  cases t
  · obtain ⟨its, rv, p, hz⟩ := I.list h
    exact ⟨its, rv, p.isList, hz⟩
  · obtain ⟨its, rv, p, hz⟩ := I.tuple h
    exact ⟨its, rv, p, hz⟩
theorem sqI_inj {t : Bool} {a : Addr} {xs ys : List V} (I : Inv X pins σ H s) (h : SqI t X.K H a xs) (h' : SqI t X.K H a ys) : xs = ys := by
  cases t
  · exact I.list_inj h h'
  · exact I.tuple_inj h h'
end
theorem turn_zipS {P : Program} {w : World} {K : PySem.W.Frag} {t1 t2 : Bool} {elts : List Expr} {kk : Nat} {tpos : Pos} {a b z TI TO i1 i2 : Addr} (D : ZipApart z TI TO i1 i2 a b) :
    Turn P w K (.Tuple elts kk tpos) (ItzS K t1 t2 a b) [z, TI, TO, i1, i2] z (fun i h => IsZipS h z TI TO .none ∧ IsPair h TI (.ref i1) (.ref i2) ∧ (∃ x y, IsPair h TO x y) ∧ ItI t1 h i1 a i ∧ ItI t2 h i2 b i) where
  mem := by simp
  obj := fun i h st c hc => by
    obtain ⟨hz, hTI, ⟨x, y, hTO⟩, h1, h2⟩ := st
    obtain ⟨o1, v1, e1, d1⟩ := h1.obj
    obtain ⟨o2, v2, e2, d2⟩ := h2.obj
    have e' : c = z ∨ c = TI ∨ c = TO ∨ c = i1 ∨ c = i2 := by simpa using hc
    rcases e' with q | q | q | q | q
    · rw [q]; exact ⟨_, hz, fun v q => nomatch q⟩
    · rw [q]; exact ⟨_, hTI, fun v q => nomatch q⟩
    · rw [q]; exact ⟨_, hTO, fun v q => nomatch q⟩
    · rw [q]; exact ⟨o1, e1, fun v q => by rw [d1] at q; cases q⟩
    · rw [q]; exact ⟨o2, e2, fun v q => by rw [d2] at q; cases q⟩
  keep := fun i h h' st k => by
    obtain ⟨hz, hTI, ⟨x, y, hTO⟩, h1, h2⟩ := st
    exact ⟨k z (by simp) _ hz, k TI (by simp) _ hTI, ⟨x, y, k TO (by simp) _ hTO⟩, h1.at fun o q => k i1 (by simp) o q, h2.at fun o q => k i2 (by simp) o q⟩
  item := by
    intro X hP hw hK hc i pins s σ H E I hf st hg
    subst hP hw hK
    obtain ⟨hz, hTI, ⟨x0, y0, hTO⟩, h1, h2⟩ := st
    obtain ⟨xs, ys, x, y, hqx, hqy, hx, hy⟩ := hg
    obtain ⟨its, rv, p, _⟩ := inv_sqI I hqx
    obtain ⟨its2, rv2, p2, _⟩ := inv_sqI I hqy
    obtain ⟨u, hu, ru⟩ := rv.get hx
    obtain ⟨u2, hu2, ru2⟩ := rv2.get hy
    have hzl : z < s.heap.objs.size := Heap.lt_size hz
    refine pyNext_zipS_item D hz hTI hTO h1 h2 p p2 (x := u) (y := u2) (by simpa using hu) (by simpa using hu2) fun h' z' TO' h1' h2' hT hsz hk => ?_
    refine ⟨_, rfl, letGo_zipS (s := { s with heap := h' }) z' fun h'' z'' sb => ?_⟩
    have hT2 : h''.get? s.heap.objs.size = some { cls := .type "tuple", data := .seq #[u, u2] } := (sb.2 _ (Nat.ne_of_gt hzl)).trans hT
    have new : ObjOk X.prog X.w (upd H s.heap.objs.size (.tup [x, y])) h'' s.heap.objs.size (.tup [x, y]) :=
      ⟨by show 2 ≤ sizeLine; decide, [u, u2], .cons ru (.cons ru2 .nil), ⟨_, hT2, rfl, _, rfl⟩⟩
    have I1 : Inv X pins σ (upd H s.heap.objs.size (.tup [x, y])) { s with heap := h'' } :=
      I.turnedNew (t' := s.toks) (ch := [z, TI, TO, i1, i2]) (fun c o hb q => (sb.2 c (fun q' => hb (by simp [q']))).trans (hk c o (fun q' => hb (by simp [q'])) (fun q' => hb (by simp [q'])) (fun q' => hb (by simp [q'])) (fun q' => hb (by simp [q'])) q)) hf (Nat.le_refl _) new
    refine ⟨.ref s.heap.objs.size, _, I1, rfl, ⟨_, x, y, rfl, I.hok.fresh (Nat.le_refl _), rfl, fun l hl => by rw [sqI_inj I hl hqx]; exact hx, fun l hl => by rw [sqI_inj I hl hqy]; exact hy⟩, ⟨z'', ?_, ⟨u, u2, ?_⟩, ?_, ?_⟩, fun c hcm => ?_⟩
    · exact (sb.2 _ D.TIz).trans (hk _ _ D.TIz D.TITO D.TIi1 D.TIi2 hTI)
    · exact (sb.2 _ D.TOz).trans TO'
    · exact h1'.at fun o q => (sb.2 _ D.i1z).trans q
    · exact h2'.at fun o q => (sb.2 _ D.i2z).trans q
    · have hlt : c < s.heap.objs.size := by
        have e' : c = z ∨ c = TI ∨ c = TO ∨ c = i1 ∨ c = i2 := by simpa using hcm
        rcases e' with q | q | q | q | q
        · rw [q]; exact hzl
        · rw [q]; exact Heap.lt_size hTI
        · rw [q]; exact Heap.lt_size hTO
        · rw [q]; exact h1.lt
        · rw [q]; exact h2.lt
      rw [upd_ne (Nat.ne_of_lt hlt)]
      exact (hf c hcm).1
  done := by
    intro X hP hw hK hc i pins s σ H E I hf st hg
    subst hP hw hK
    obtain ⟨hz, hTI, ⟨x0, y0, hTO⟩, h1, h2⟩ := st
    obtain ⟨xs, ys, hqx, hqy, hl1, hl2⟩ := hg
    obtain ⟨its, rv, p, _⟩ := inv_sqI I hqx
    obtain ⟨its2, rv2, p2, _⟩ := inv_sqI I hqy
    have l1 := rv.length
    have l2 := rv2.length
    exact pyNext_zipS_end (I.ok.hd hc) D hz hTI hTO h1 h2 p p2 (by simp; omega) (by simp; omega) fun h' hk => ⟨rfl, I.turnedL (t' := s.toks) (ch := [z, TI, TO, i1, i2]) (fun c o hb q =>
      hk c o (fun q' => hb (by simp [q'])) (fun q' => hb (by simp [q'])) (fun q' => hb (by simp [q'])) (fun q' => hb (by simp [q'])) q) hf⟩
  self := fun A i s Q E st h => pyIter_zipS st.1 h
theorem walk_zipS {K : PySem.W.Frag} {t1 t2 : Bool} {a b : Addr} {xs ys : List V} (hn : xs.length = ys.length) : Walk (ItzS K t1 t2 a b) xs.length (fun H => SqI t1 K H a xs ∧ SqI t2 K H b ys) (YPair (fun i => xs[i]?) (fun i => ys[i]?)) := by
  refine ⟨fun i _ hi q => ?_, fun _ q => ⟨xs, ys, q.1, q.2, rfl, hn.symm⟩, fun i H v H' _ q y => ?_⟩
  · have h2 : i < ys.length := by omega
    exact ⟨xs, ys, xs[i], ys[i], q.1, q.2, by simp [hi], by simp [h2]⟩
  · obtain ⟨T, x, z, h1, h2, h3, h4, h5⟩ := y
    exact ⟨T, x, z, h1, h2, h3, h4 xs q.1, h5 ys q.2⟩
section
variable {M : Model} {A : Around} {E : Value → Shared → Prop} {s : Shared} {env : Env}
theorem callWith_typeKw {pos : Pos} {T : String} {e : Expr} {rest : List Expr} {kws : List Keyword} {Q : Value → Shared → Prop}
    (h : wpAny M A (spliced (backTo pos (starEach (e :: rest) env))) (fun vs s₁ => wpAny M A (evalAll ((backToKw pos (keywordEach kws env)).map (·.2)))
      (fun kvs s₂ => wpAny M A (call (.type T) vs (((backToKw pos (keywordEach kws env)).filterMap (·.1)).zip kvs)) Q E s₂) E s₁) E s)
    (he : backTo pos (starEach (e :: rest) env) = (false, eval e env) :: backTo pos (starEach rest env) := by rfl)
    (hplain : (backTo pos (starEach (e :: rest) env)).any (·.1) = false := by rfl)
    (hall : (backToKw pos (keywordEach kws env)).all (·.1.isSome) = true := by rfl)
    (hkw : (backToKw pos (keywordEach kws env)).any (·.1.isNone) = false := by rfl) :
    wpAny M A (callWith pos (.type T) [] (backTo pos (starEach (e :: rest) env)) (backToKw pos (keywordEach kws env))) Q E s := by
  unfold callWith
  have h2 : wpAny M A (evalArgs (.type T) true (backTo pos (starEach (e :: rest) env)) (backToKw pos (keywordEach kws env))) (fun a s₁ => wpAny M A (call (.type T) ([] ++ a.pos) a.kw) Q E s₁) E s := by
    rw [he] at h ⊢
    exact evalArgs_kwB hall h
  refine wpAny_bind (wpAny_holding (wpAny_mono h2 (fun a s₁ h₁ => wpAny_bind (wpAny_standAt ?_)) fun _ _ x => x))
  simp only [hplain, hkw, Bool.or_false]
  refine wpAny_bind (wpAny_pure ?_)
  exact wpAny_bind (wpAny_mono h₁ (fun r s₂ hr => wpAny_bind (wpAny_holding (wpAny_point (wpAny_pure hr)))) fun _ _ x => x)
end
def iZipS (K : PySem.W.Frag) (ta tk : TA) : TI := fun σ H R => ta σ H fun vs H1 => tk σ H1 fun zs H2 => ∃ t1 t2 a b xs ys, vs = [.ref a, .ref b] ∧ zs = [.bl true] ∧ SqI t1 K H2 a xs ∧ SqI t2 K H2 b ys ∧ R (ItzS K t1 t2 a b) H2
theorem beginsI {t : Bool} (a : Addr) (items : Array Value) : ∃ o, Begins (.ref a) o (fun h => SeqI t h a items) ∧ ∀ (h : Heap) (it : Addr), h.get? it = some o → ItI t h it a 0 := by
  cases t
  · exact ⟨_, begins_list a items, fun h it e => ⟨_, e, rfl, rfl⟩⟩
  · exact ⟨_, begins_tuple a items, fun h it e => ⟨_, e, rfl, rfl⟩⟩
theorem pi_zipS {X : Cx} {e e2 : Expr} {ta tk : TA} {p pos tpos : Pos} {elts : List Expr} {kk : Nat} {kws : List Keyword} (hg : Gl X "zip") (hm : X.mg "zip" = none) (ha : PA X [e, e2] ta) (hk : PK X kws tk)
    (he : backTo pos (starEach [e, e2] X.env) = (false, eval e X.env) :: backTo pos (starEach [e2] X.env) := by rfl) (hpl : (backTo pos (starEach [e, e2] X.env)).any (·.1) = false := by rfl)
    (hall : (backToKw pos (keywordEach kws X.env)).all (·.1.isSome) = true := by rfl) (hnone : (backToKw pos (keywordEach kws X.env)).any (·.1.isNone) = false := by rfl) (hks : (backToKw pos (keywordEach kws X.env)).filterMap (·.1) = [Str.ofString "strict"] := by rfl) :
    PI X (.Tuple elts kk tpos) (.Call (.Name "zip" p) [e, e2] kws pos) (iZipS X.K ta tk) := by
  refine ⟨fun pins s σ H R I h => ?_⟩
  refine wpAny_Call_Name_kw (ld_blt I hg hm PyProof.Rows.boot_zip ?_)
  refine callWith_typeKw (thn (ha.run pos pins s σ H _ I h) fun us s1 ⟨vs, H1, I1, r1, q1⟩ => thn (hk.run pos pins s1 σ H1 _ I1 q1) fun ws s2 ⟨zs, H2, I2, r2, q2⟩ => ?_) he hpl hall hnone
  rw [hks]
  obtain ⟨t1, t2, a, b, xs, ys, ex, ez, hqx, hqy, q⟩ := q2
  subst ex ez
  cases r1 with
  | cons r rr =>
    cases rr with
    | cons r' rr =>
      cases rr
      cases r
      cases r'
      cases r2 with
      | cons k kk =>
        cases kk
        cases k
        obtain ⟨its, rv, p1, _⟩ := inv_sqI I2 hqx
        obtain ⟨its2, rv2, p2, _⟩ := inv_sqI I2 hqy
        obtain ⟨o1, B1, n1⟩ := beginsI (t := t1) a its.toArray
        obtain ⟨o2, B2, n2⟩ := beginsI (t := t2) b its2.toArray
        have fresh5 : ∀ c, c ∈ [s2.heap.objs.size + 4, s2.heap.objs.size + 2, s2.heap.objs.size + 3, s2.heap.objs.size, s2.heap.objs.size + 1] → FpOk X pins H2 c := fun c hcm => by
          have e' : c = s2.heap.objs.size + 4 ∨ c = s2.heap.objs.size + 2 ∨ c = s2.heap.objs.size + 3 ∨ c = s2.heap.objs.size ∨ c = s2.heap.objs.size + 1 := by simpa using hcm
          have hle : s2.heap.objs.size ≤ c := by
            rcases e' with z | z | z | z | z
            · rw [z]; exact Nat.le_add_right _ _
            · rw [z]; exact Nat.le_add_right _ _
            · rw [z]; exact Nat.le_add_right _ _
            · rw [z]; exact Nat.le_refl _
            · rw [z]; exact Nat.le_add_right _ _
          exact I2.fpOk hle (I2.hok.fresh hle)
        refine zipS_begins B1 B2 p1 p2 fun h' hz hTI hTO h1 h2 hsz hkp => pyIter_zipS hz ?_
        have I3 : Inv X pins σ H2 { s2 with heap := h' } := I2.kept (t' := s2.toks) hkp
        exact ⟨s2.heap.objs.size + 4, [s2.heap.objs.size + 4, s2.heap.objs.size + 2, s2.heap.objs.size + 3, s2.heap.objs.size, s2.heap.objs.size + 1], _, _, H2, rfl, I3, turn_zipS (PySem.W.ktu_apart s2.heap.objs.size a b p1.lt p2.lt), ⟨hz, hTI, ⟨_, _, hTO⟩, n1 _ _ h1, n2 _ _ h2⟩, fresh5, q⟩
end Fl
set_option maxHeartbeats 2000000
namespace Fl
open PySem PySem.Spec PyProof.Rows L2 Evl
abbrev enumD (ds : List D) : List D := ds.zipIdx.map fun p => .tup [.int (p.2 : Nat), p.1]
abbrev zipD (ds es : List D) : List D := (ds.zip es).map fun p => .tup [p.1, p.2]
theorem enumD_map {α : Type} {F : α → D} {xs : List α} : enumD (xs.map F) = xs.zipIdx.map fun p => D.tup [.int (p.2 : Nat), F p.1] := by
  unfold enumD
  rw [List.zipIdx_map, List.map_map]
  rfl
theorem zipD_map {α β : Type} {F : α → D} {G : β → D} {xs : List α} {ys : List β} : zipD (xs.map F) (ys.map G) = (xs.zip ys).map fun p => D.tup [F p.1, G p.2] := by
  unfold zipD
  rw [List.zip_map, List.map_map]
  rfl
section
variable {P : Program} {w : World} {K : PySem.W.Frag} {C : Addr} {te : TE} {ta : TA} {σ : L2.St} {H H' : Hp} {ds : List D}
theorem dw_pair {J : It} {n : Nat} {G : Hp → Prop} {f g : Nat → Option V} {A : List Addr} (w : Walk J n G (YPair f g)) (hn : ds.length = n) (hG : ∀ H', (∀ a ∈ A, H' a = H a) → Tx H H' → G H')
    (hd : ∀ i x y, i < n → f i = some x → g i = some y → ∃ dx dy, Rp C H x dx ∧ Rp C H y dy ∧ ds[i]? = some (.tup [dx, dy])) : DWalk C J H ds A := by
  refine ⟨G, YPair f g, hn ▸ w, hG, fun i H1 x H2 hi hA t y => ?_⟩
  obtain ⟨T, u, v, h1, h2, h3, h4, h5⟩ := y
  obtain ⟨dx, dy, r1, r2, e⟩ := hd i u v (hn ▸ hi) h4 h5
  subst h1 h3
  refine ⟨Ex.new h2, _, e, fun z => ?_⟩
  have q : Rp C H1 u dx ∧ Rp C H1 v dy := by
    rcases z with z | z
    · exact ⟨r1.ex z, r2.ex z⟩
    · have z' : (dx.fz && (dy.fz && true)) = true := by simpa [D.fz, fzL] using z
      obtain ⟨z1, z2⟩ := Bool.and_eq_true_iff.mp z'
      exact ⟨r1.fz t z1, r2.fz t (Bool.and_eq_true_iff.mp z2).1⟩
  exact ⟨T, [u, v], rfl, upd_same, q.1.ex (Ex.new h2), q.2.ex (Ex.new h2), True.intro⟩
theorem enumD_get {i : Nat} {d : D} (h : ds[i]? = some d) : (enumD ds)[i]? = some (.tup [.int (i : Nat), d]) := by
  simp [enumD, h]
theorem dw_enumT {a : Addr} {xs : List V} (h : H a = some (.tup xs)) (r : RpL C H xs ds) : DWalk C (IteT K a) H (enumD ds) [] := by
  refine dw_pair (walk_enumT (K := K) (a := a) (xs := xs)) (by simp [enumD, r.length]) (fun H' _ t => st_of (t a _ h)) fun i x y hi h1 h2 => ?_
  obtain ⟨d, e1, e2⟩ := r.getV h2
  cases h1
  exact ⟨.int (i : Nat), d, rfl, e2, enumD_get e1⟩
theorem dw_enumL {a : Addr} {xs : List V} (h : H a = some (.lst xs)) (r : RpL C H xs ds) : DWalk C (Ite K a) H (enumD ds) [a] := by
  refine dw_pair (walk_enum (K := K) (a := a) (xs := xs)) (by simp [enumD, r.length]) (fun H' e _ => sq_of ((e a List.mem_cons_self).trans h)) fun i x y hi h1 h2 => ?_
  obtain ⟨d, e1, e2⟩ := r.getV h2
  cases h1
  exact ⟨.int (i : Nat), d, rfl, e2, enumD_get e1⟩
theorem ei_enumT (h : Ed C te σ H (.tup ds)) : EvI C (iEnumT K (tCons te tNil)) σ H (enumD ds) B0 := fun H1 e R q => h H1 e _ fun v H2 e2 ⟨a, xs, e3, e4, e5⟩ => by
  subst e3
  exact ⟨a, xs, rfl, .inl ⟨st_of e4, q _ [] H2 e2 (dw_enumT e4 e5) fun a ha => nomatch ha⟩⟩
theorem ei_enumL (h : Ed C te σ H (.lst ds)) : EvI C (iEnumT K (tCons te tNil)) σ H (enumD ds) fun _ _ => True := fun H1 e R q => h H1 e _ fun v H2 e2 ⟨a, xs, e3, e4, e5⟩ => by
  subst e3
  exact ⟨a, xs, rfl, .inr ⟨sq_of e4, q _ [a] H2 e2 (dw_enumL e4 e5) fun b hb => ⟨True.intro, by
    have e : b = a := by simpa using hb
    rw [e]
    exact ⟨_, e4⟩⟩⟩⟩
theorem zipD_get {ds es : List D} {i : Nat} {d e : D} (h : ds[i]? = some d) (g : es[i]? = some e) : (zipD ds es)[i]? = some (.tup [d, e]) := by
  have e : (ds.zip es)[i]? = some (d, e) := List.getElem?_zip_eq_some.mpr (show ds[i]? = some (d, e).1 ∧ es[i]? = some (d, e).2 from ⟨h, g⟩)
  simp [zipD, e]
theorem dw_zipLL {a b : Addr} {xs ys : List V} {es : List D} (h : H a = some (.lst xs)) (h' : H b = some (.lst ys)) (r : RpL C H xs ds) (r' : RpL C H ys es) (hl : ds.length = es.length) : DWalk C (ItzS K false false a b) H (zipD ds es) [a, b] := by
  refine dw_pair (walk_zipS (K := K) (t1 := false) (t2 := false) (a := a) (b := b) (xs := xs) (ys := ys) (by rw [r.length, r'.length, hl])) (by simp [zipD, r.length, hl]) (fun H' e _ => ⟨sq_of ((e a (by simp)).trans h), sq_of ((e b (by simp)).trans h')⟩) fun i x y hi h1 h2 => ?_
  obtain ⟨d, e1, e2⟩ := r.getV h1
  obtain ⟨d', e1', e2'⟩ := r'.getV h2
  exact ⟨d, d', e2, e2', zipD_get e1 e1'⟩
theorem dw_zipKL {a b : Addr} {xs ys : List V} {es : List D} (h : ∀ H', SqT K H' a xs) (h' : H b = some (.lst ys)) (r : RpL C H xs ds) (r' : RpL C H ys es) (hl : ds.length = es.length) : DWalk C (ItzS K true false a b) H (zipD ds es) [b] := by
  refine dw_pair (walk_zipS (K := K) (t1 := true) (t2 := false) (a := a) (b := b) (xs := xs) (ys := ys) (by rw [r.length, r'.length, hl])) (by simp [zipD, r.length, hl]) (fun H' e _ => ⟨h H', sq_of ((e b (by simp)).trans h')⟩) fun i x y hi h1 h2 => ?_
  obtain ⟨d, e1, e2⟩ := r.getV h1
  obtain ⟨d', e1', e2'⟩ := r'.getV h2
  exact ⟨d, d', e2, e2', zipD_get e1 e1'⟩
theorem ei_zipLL {es : List D} (h : EdA C ta σ H [.lst ds, .lst es]) (hl : ds.length = es.length) : EvI C (iZipS K ta (tCons (tC (.bl true)) tNil)) σ H (zipD ds es) fun _ _ => True := fun H1 e R q => h H1 e _ fun vs H2 e2 r => by
  obtain ⟨v, u, rfl, ⟨a, xs, e3, e4, e5⟩, ⟨b, ys, f3, f4, f5⟩⟩ := r.two
  subst e3 f3
  exact ⟨false, false, a, b, xs, ys, rfl, rfl, sq_of e4, sq_of f4, q _ [a, b] H2 e2 (dw_zipLL e4 f4 e5 f5 hl) fun c hc => ⟨True.intro, by
    have e : c = a ∨ c = b := by simpa using hc
    rcases e with e | e
    · rw [e]; exact ⟨_, e4⟩
    · rw [e]; exact ⟨_, f4⟩⟩⟩
theorem ei_enumTM {α : Type} {xs : List α} {F : α → D} (h : Ed C te σ H (.tup (xs.map F))) : EvI C (iEnumT K (tCons te tNil)) σ H (xs.zipIdx.map fun p => D.tup [.int (p.2 : Nat), F p.1]) B0 := by
  rw [← enumD_map]
  exact ei_enumT h
theorem ei_enumLM {α : Type} {xs : List α} {F : α → D} (h : Ed C te σ H (.lst (xs.map F))) : EvI C (iEnumT K (tCons te tNil)) σ H (xs.zipIdx.map fun p => D.tup [.int (p.2 : Nat), F p.1]) fun _ _ => True := by
  rw [← enumD_map]
  exact ei_enumL h
theorem ei_zipLLM {α β : Type} {xs : List α} {F : α → D} {ys : List β} {G : β → D} (h : EdA C ta σ H [.lst (xs.map F), .lst (ys.map G)]) (hl : xs.length = ys.length) : EvI C (iZipS K ta (tCons (tC (.bl true)) tNil)) σ H ((xs.zip ys).map fun p => D.tup [F p.1, G p.2]) fun _ _ => True := by
  rw [← zipD_map]
  exact ei_zipLL h (by rw [List.length_map, List.length_map, hl])
end
end Fl
set_option maxHeartbeats 4000000
namespace Fl
open PySem PySem.Spec PyProof.Rows L2 Evl
section
variable {w : World} {K : PySem.W.Frag} {mg : Str → Option Value}
theorem TF.parts (T : TF w K mg) {q : Str × He.Dv} (hq : q ∈ partsV) : KDct K w (He.ga K "PARTS") q.1 (q.2.v K) := by
  obtain ⟨es, n, kd⟩ := T.c.tab 0
  have m := T.mo
  simp only [more, Bool.and_eq_true] at m
  obtain ⟨u, e, r⟩ := He.valsB_ok m.2.1 hq
  exact ⟨es, n, u, kd.at_, kd.lit, e, r⟩
theorem tupS_ok {a : Addr} {zs : List Str} (h : tupS K a zs = true) (H : Hp) : SqT K H a (zs.map V.str) := by
  unfold tupS at h
  cases q : K.lookup a with
  | none =>
    rw [q] at h
    cases h
  | some o =>
    obtain ⟨oc, od, dt, osl⟩ := o
    rw [q] at h
    cases oc with
    | type c =>
      cases dt with
      | seq its n =>
        obtain ⟨h1, h2⟩ := He.ba (show (decide (c = "tuple") && (decide (its.size ≤ sizeLine) && He.relAll (zs.map V.str) its.toList)) = true from h)
        obtain ⟨h3, h4⟩ := He.ba h2
        exact .inr ⟨_, its, n, q, congrArg Value.type (of_decide_eq_true h1), rfl, of_decide_eq_true h3, He.relAll_ok h4⟩
      | _ => cases h
    | _ => cases h
theorem TF.forms (T : TF w K mg) {q : Str × List Str} (hq : q ∈ formsV) : (∃ es n, KDict K w (He.ga K "FORMS") es n) ∧ PySem.W.nsIn K (He.ga K "FORMS") q.1 = some (some (.ref (formAt K q.1))) ∧ ∀ H, SqT K H (formAt K q.1) (q.2.map V.str) := by
  have m := T.mo
  simp only [more, Bool.and_eq_true] at m
  have h := List.all_eq_true.mp (show (formsV.all _) = true from m.2.2.1) q hq
  obtain ⟨h1, h2⟩ := He.ba h
  exact ⟨T.c.tab 1, He.eqO_ok h1, tupS_ok h2⟩
theorem TF.fenced (T : TF w K mg) (H : Hp) : SqT K H (He.ga K "FENCED") ((["wait", "set"] : List Str).map V.str) := by
  have m := T.mo
  simp only [more, Bool.and_eq_true] at m
  exact He.tupB_ok m.1 H
theorem TF.ins (T : TF w K mg) : C8.InsC K (CB K) := by
  have m := T.mo
  simp only [more, insB, Bool.and_eq_true, decide_eq_true_eq] at m
  obtain ⟨_, _, _, h1, h2, h3, h4, h5⟩ := m
  exact ⟨T.cls, He.eqO_ok h1, He.eqO_ok h2, h3, h4, h5⟩
end
theorem sig_small : ∀ c ∈ sSIG.cps.toList, c < 128 := by decide +kernel
theorem isNm.strOk {z : Str} (h : isNm z) : PyData.strOk z = true := by
  unfold PyData.strOk
  rw [← Array.all_toList]
  exact List.all_eq_true.mpr fun c hc => decide_eq_true (Nat.lt_of_lt_of_le (sig_small c (h.all c hc)) (by decide))
theorem Cmd.okd {c : Cmd} (h : c.ok) : c.D.okd 60 = true := by
  cases c with
  | put r n => simp only [Cmd.D, D.okd, okdL, h.1.strOk]; decide +kernel
  | copy a b => simp only [Cmd.D, D.okd, okdL, h.1.strOk, h.2.strOk]; decide +kernel
  | reckon f xs t =>
    have e : okdL (xs.map D.str) 58 = true := okdL_iff.mpr fun d hd => by
      obtain ⟨z, hz, rfl⟩ := List.mem_map.mp hd
      exact (h.2.1.2.2 z hz).strOk
    simp only [Cmd.D, D.okd, okdL, h.1.strOk, h.2.2.strOk, e]; decide +kernel
  | look r => simp only [Cmd.D, D.okd, okdL, (show isNm r from h).strOk]; decide +kernel
  | shw r => simp only [Cmd.D, D.okd, okdL, (show isNm r from h).strOk]; decide +kernel
  | wait f v => simp only [Cmd.D, D.okd, okdL, h.1.strOk]; decide +kernel
  | set f b => simp only [Cmd.D, D.okd, okdL, h.1.strOk]; decide +kernel
inductive OkPart : Str → D → Prop where
  | name {z : Str} (h : isNm z) : OkPart "name" (.str z)
  | names {zs : List Str} (h : 1 ≤ zs.length ∧ zs.length ≤ 3 ∧ ∀ z ∈ zs, isNm z) : OkPart "names" (.tup (zs.map D.str))
  | number {i : Int} (h : -999999 ≤ i ∧ i ≤ 999999) : OkPart "number" (.int i)
  | value {i : Int} (h : 1 ≤ i ∧ i ≤ 9999) : OkPart "value" (.int i)
  | by_ {i : Int} (h : 1 ≤ i ∧ i ≤ 99) : OkPart "by" (.int i)
def Cmd.form : Cmd → List Str
  | .put _ _ => ["name", "number"]
  | .copy _ _ => ["name", "name"]
  | .reckon _ _ _ => ["name", "names", "name"]
  | .look _ => ["name"]
  | .shw _ => ["name"]
  | .wait _ _ => ["name", "value"]
  | .set _ _ => ["name", "by"]
def Cmd.parts : Cmd → List Fl.D
  | .put r n => [.str r, .int n]
  | .copy a b => [.str a, .str b]
  | .reckon f xs t => [.str f, .tup (xs.map D.str), .str t]
  | .look r => [.str r]
  | .shw r => [.str r]
  | .wait f v => [.str f, .int v]
  | .set f b => [.str f, .int b]
theorem Cmd.hD (c : Cmd) : c.D = .tup (.str c.word :: c.parts) := by cases c <;> rfl
theorem Cmd.hF (c : Cmd) : (c.word, c.form) ∈ formsV := by
  cases c <;> first
    | exact .head _
    | exact .tail _ (.head _)
    | exact .tail _ (.tail _ (.head _))
    | exact .tail _ (.tail _ (.tail _ (.head _)))
    | exact .tail _ (.tail _ (.tail _ (.tail _ (.head _))))
    | exact .tail _ (.tail _ (.tail _ (.tail _ (.tail _ (.head _)))))
    | exact .tail _ (.tail _ (.tail _ (.tail _ (.tail _ (.tail _ (.head _))))))
theorem Cmd.hl (c : Cmd) : c.form.length = c.parts.length := by cases c <;> rfl
theorem Cmd.few (c : Cmd) : c.parts.length ≤ 3 := by cases c <;> exact Nat.le_of_ble_eq_true rfl
theorem Cmd.pfz (c : Cmd) : fzL c.parts = true := by cases c <;> simp [Cmd.parts, D.fz, fzL, fzL_iff]
theorem Cmd.hP {c : Cmd} (h : c.ok) : ∀ p ∈ c.form.zip c.parts, OkPart p.1 p.2 := by
  cases c with
  | put r n => simp only [Cmd.form, Cmd.parts, List.zip_cons_cons, List.zip_nil_right, List.forall_mem_cons, List.not_mem_nil, false_imp_iff, implies_true, and_true]; exact ⟨.name h.1, .number h.2⟩
  | copy a b => simp only [Cmd.form, Cmd.parts, List.zip_cons_cons, List.zip_nil_right, List.forall_mem_cons, List.not_mem_nil, false_imp_iff, implies_true, and_true]; exact ⟨.name h.1, .name h.2⟩
  | reckon f xs t => simp only [Cmd.form, Cmd.parts, List.zip_cons_cons, List.zip_nil_right, List.forall_mem_cons, List.not_mem_nil, false_imp_iff, implies_true, and_true]; exact ⟨.name h.1, .names h.2.1, .name h.2.2⟩
  | look r => simp only [Cmd.form, Cmd.parts, List.zip_cons_cons, List.zip_nil_right, List.forall_mem_cons, List.not_mem_nil, false_imp_iff, implies_true, and_true]; exact .name h
  | shw r => simp only [Cmd.form, Cmd.parts, List.zip_cons_cons, List.zip_nil_right, List.forall_mem_cons, List.not_mem_nil, false_imp_iff, implies_true, and_true]; exact .name h
  | wait f v => simp only [Cmd.form, Cmd.parts, List.zip_cons_cons, List.zip_nil_right, List.forall_mem_cons, List.not_mem_nil, false_imp_iff, implies_true, and_true]; exact ⟨.name h.1, .value h.2⟩
  | set f b => simp only [Cmd.form, Cmd.parts, List.zip_cons_cons, List.zip_nil_right, List.forall_mem_cons, List.not_mem_nil, false_imp_iff, implies_true, and_true]; exact ⟨.name h.1, .by_ h.2⟩
theorem sc_is_part : FnScope ["kind", "part", "ask"] ["kind", "part"] (defScope s_is_part) := ⟨rfl, rfl, rfl, by decide +kernel, rfl, by decide +kernel, by decide +kernel⟩
theorem sc_is_command : FnScope ["thing", "word", "parts", "form", "kind", "part"] ["thing"] (defScope s_is_command) := ⟨rfl, rfl, rfl, by decide +kernel, rfl, by decide +kernel, by decide +kernel⟩
section
variable {C : Addr} {σ : L2.St} {H : Hp} {K : PySem.W.Frag} {te : TE} {tz : TS} {E : Ends}
theorem qd_star {i j : Nat} {d : D} {ds : List D} (h : Ed C te σ H (.tup (d :: ds))) (hl : ds.length ≤ 10000) (k : ∀ x p H1, Ex H H1 → Rp C H1 x d → Rp C H1 (.ref p) (.lst ds) → H p = none → tz E ((σ.set i (some x)).set j (some (.ref p))) H1) :
    tSeq (tAsg te (gStar K (gName i) (gName j))) tz E σ H := h H (Ex.refl H) _ fun v H1 e ⟨a, xs, e1, e2, e3⟩ => by
  match xs, e3 with
  | x :: xs, e3 =>
    refine ⟨a, x, xs, e1, st_of e2, ?_, fun p hp => ?_⟩
    · rw [e3.2.length]; exact hl
    · exact k x p _ (e.trans (Ex.new hp)) (e3.1.ex (Ex.new hp)) ⟨p, xs, rfl, upd_same, e3.2.ex (Ex.new hp)⟩ (fresh_back e hp)
theorem ev_var {i : Nat} {v : V} (h : σ[i]? = some (some v)) : EvP (tVar i) σ H fun u _ => u = v := fun H1 e Q q => ⟨v, h, q v H1 (Ex.refl H1) rfl⟩
end
section
variable {P : Program} {w : World} {K : PySem.W.Frag} {mg : Str → Option Value} {base : Heap} {C : Addr}
theorem ix_kd {X : Cx} (g : Good P w K X) : IxR X (rIxD K w) := by
  obtain ⟨h1, h2, h3, h4, h5⟩ := g
  subst h2 h3
  exact ix_kdict
abbrev spPart (C : Addr) : Sp := spF C (fun p : Str × D => [.str p.1, p.2]) (fun p => OkPart p.1 p.2) fun _ => .bl true
theorem c_is_part (T : TF w K mg) (c_is_name : Callee P w K mg base "is_name" 1 ["thing"] (spName (CB K))) (c_are_names : Callee P w K mg base "are_names" 2 ["thing"] (spNames (CB K)))
    (c_is_number : Callee P w K mg base "is_number" 3 ["thing"] (spIn (CB K) (-999999) 999999)) (c_is_value : Callee P w K mg base "is_value" 3 ["thing"] (spIn (CB K) 1 9999)) (c_is_by : Callee P w K mg base "is_by" 3 ["thing"] (spIn (CB K) 1 99)) :
    Callee P w K mg base "is_part" 4 ["kind", "part"] (spPart (CB K)) := by
  obtain ⟨fd, F⟩ := T.d_is_part
  refine callee_of F (F.ok sc_is_part (spA_len fun _ => rfl) fun cdv A outer s H vs Q E hr h => ?_) T.g_is_part fun _ _ _ _ _ _ us hl => match us, hl with | [_, _], _ => rfl
  obtain ⟨a, r, hp, q⟩ := h
  have g : Good P w K (L2.Cx.nox (cxOf CX0 P w K mg base ["kind", "part", "ask"] "is_part" (defScope s_is_part) (He.ga K "is_part") cdv A outer s H E)) := ⟨rfl, rfl, rfl, rfl, hu_un hr⟩
  have hu := hu_of hr
  refine ⟨_, PSs.nox (pss_cons (ps_set (i := 2) sc_is_part.nd rfl (Or.inl rfl) (pe_ix (ix_b g) (pe_gr T.PARTS) (pv 0) (fun _ _ => rfl)))
      (pss_one (ps_ret (pe_callH (k := 3) (i := 2) (hr.mono (by decide)) (pa_cons (pv 1) pa_nil))))), ?_⟩
  obtain ⟨v, u, rfl, r1, r2⟩ := r.two
  obtain ⟨kind, part⟩ := a
  have rr : v = V.str kind := r1
  subst rr
  cases hp with
  | @name z h =>
    refine ⟨_, rfl, rIxD K w, fun X g => ix_kd g, He.ga K "PARTS", _, _, rfl, rfl, T.parts (q := ("name", .glo "is_name")) (.head _), ?_⟩
    exact ⟨_, 1, _, by decide, rfl, c_is_name.held T.g_is_name, _, rfl, z, ⟨r2, True.intro⟩, h, fun d v H1 e1 e2 e3 e4 => q d v H1 e1 e2 e3 e4⟩
  | @names z h =>
    refine ⟨_, rfl, rIxD K w, fun X g => ix_kd g, He.ga K "PARTS", _, _, rfl, rfl, T.parts (q := ("names", .glo "are_names")) (.tail _ (.head _)), ?_⟩
    exact ⟨_, 2, _, by decide, rfl, c_are_names.held T.g_are_names, _, rfl, z, ⟨r2, True.intro⟩, h, fun d v H1 e1 e2 e3 e4 => q d v H1 e1 e2 e3 e4⟩
  | @number z h =>
    refine ⟨_, rfl, rIxD K w, fun X g => ix_kd g, He.ga K "PARTS", _, _, rfl, rfl, T.parts (q := ("number", .glo "is_number")) (.tail _ (.tail _ (.head _))), ?_⟩
    exact ⟨_, 3, _, by decide, rfl, c_is_number.held T.g_is_number, _, rfl, z, ⟨r2, True.intro⟩, trivial, fun d v H1 e1 e2 e3 e4 => q d v H1 (by rw [e1]; show D.bl _ = D.bl _; rw [decide_eq_true h.1, decide_eq_true h.2]; rfl) e2 e3 e4⟩
  | @value z h =>
    refine ⟨_, rfl, rIxD K w, fun X g => ix_kd g, He.ga K "PARTS", _, _, rfl, rfl, T.parts (q := ("value", .glo "is_value")) (.tail _ (.tail _ (.tail _ (.head _)))), ?_⟩
    exact ⟨_, 3, _, by decide, rfl, c_is_value.held T.g_is_value, _, rfl, z, ⟨r2, True.intro⟩, trivial, fun d v H1 e1 e2 e3 e4 => q d v H1 (by rw [e1]; show D.bl _ = D.bl _; rw [decide_eq_true h.1, decide_eq_true h.2]; rfl) e2 e3 e4⟩
  | @by_ z h =>
    refine ⟨_, rfl, rIxD K w, fun X g => ix_kd g, He.ga K "PARTS", _, _, rfl, rfl, T.parts (q := ("by", .glo "is_by")) (.tail _ (.tail _ (.tail _ (.tail _ (.head _))))), ?_⟩
    exact ⟨_, 3, _, by decide, rfl, c_is_by.held T.g_is_by, _, rfl, z, ⟨r2, True.intro⟩, trivial, fun d v H1 e1 e2 e3 e4 => q d v H1 (by rw [e1]; show D.bl _ = D.bl _; rw [decide_eq_true h.1, decide_eq_true h.2]; rfl) e2 e3 e4⟩
theorem ed_isN_raw {te : TE} {σ : L2.St} {H : Hp} {a : Addr} (h : EvP te σ H fun v _ => v = V.ref a) : Ed C (tOp (rB P w K (compareOp .Is)) te (tC .non)) σ H (.bl false) := fun H1 e Q q => h H1 e _ fun v H2 e2 r => ⟨_, fun _ _ => op_isN, rfl, by
  subst r
  exact q _ H2 e2 rfl⟩
theorem ed_len_raw {te : TE} {σ : L2.St} {H : Hp} {a : Addr} {xs : List V} (h : EvP te σ H fun v _ => v = V.ref a) (hs : ∀ H, SqT K H a xs) : Ed C (tCB (rC P w K (.builtin "len")) (tCons te tNil)) σ H (.int xs.length) := fun H1 e Q q => h H1 e _ fun v H2 e2 r =>
  ⟨fun xs H Q => ∃ p ys, xs = [.ref p] ∧ (SqL K H p ys ∨ SqT K H p ys) ∧ Q (.int ys.length) H, fun X g => g.K ▸ call_len_seq, a, xs, by rw [r], .inr (hs H2), q _ H2 e2 rfl⟩
theorem ei_zipRaw {te tf : TE} {σ : L2.St} {H : Hp} {a : Addr} {zs : List Str} {ds : List D} (h : EvP te σ H fun v _ => v = V.ref a) (hs : ∀ H, SqT K H a (zs.map V.str)) (h2 : Ed C tf σ H (.lst ds)) (hl : zs.length = ds.length) :
    EvI C (iZipS K (tCons te (tCons tf tNil)) (tCons (tC (.bl true)) tNil)) σ H (zipD (zs.map D.str) ds) (fun _ _ => True) := fun H1 e R k => h H1 e _ fun v H2 e2 r => h2 H2 (e.trans e2) _ fun u H3 e3 ⟨p, xs, ep, h5, h6⟩ => by
  subst r ep
  exact ⟨true, false, a, p, _, xs, rfl, rfl, hs H3, sq_of h5, k _ [p] H3 (e2.trans e3) (dw_zipKL hs h5 RpL.of_strs h6 (by rw [List.length_map]; exact hl)) fun c hc => ⟨True.intro, by
    have e : c = p := by simpa using hc
    rw [e]
    exact ⟨_, h5⟩⟩⟩
abbrev spCom (C : Addr) : Sp := spF C (fun c : Cmd => [c.D]) Cmd.ok fun _ => .bl true
theorem c_is_command (T : TF w K mg) (c_is_part : Callee P w K mg base "is_part" 4 ["kind", "part"] (spPart (CB K))) : Callee P w K mg base "is_command" 5 ["thing"] (spCom (CB K)) := by
  obtain ⟨fd, F⟩ := T.d_is_command
  refine callee_of F (F.ok sc_is_command (spA_len fun _ => rfl) fun cdv A outer s H vs Q E hr h => ?_) T.g_is_command fun _ _ _ _ _ _ us hl => match us, hl with | [_], _ => rfl
  obtain ⟨a, r, hp, q⟩ := h
  have g : Good P w K (L2.Cx.nox (cxOf CX0 P w K mg base ["thing", "word", "parts", "form", "kind", "part"] "is_command" (defScope s_is_command) (He.ga K "is_command") cdv A outer s H E)) := ⟨rfl, rfl, rfl, rfl, hu_un hr⟩
  have hu := hu_of hr
  refine ⟨_, PSs.nox (pss_cons (ps_if (PW.pt (pw_or (pt_not (pt_val (pe_callB (c_b g) (by rfl) T.f_isinstance bt_isinstance (pa_cons (pv 0) (pa_cons (pe_ty T.f_tuple bt_tuple) pa_nil))))) (pw_or (pt_cmpR (op_b g) (pv 0) (pe_tup pa_nil) (nomark _)) (pw_or1 (pt_not (pt_val (pe_callB (c_b g) (by rfl) T.f_isinstance bt_isinstance (pa_cons (pe_ix (ix_b g) (pv 0) pe_int (fun _ _ => rfl)) (pa_cons (pe_ty T.f_str bt_str) pa_nil))))))))) (pss_one (ps_ret pe_bl)) pss_nil)
      (pss_cons (ps_asg (pv 0) (pg_star (pg_name (i := 1) sc_is_command.nd rfl (Or.inl rfl)) (pg_name (i := 2) sc_is_command.nd rfl (Or.inl rfl))))
      (pss_cons (ps_set (i := 3) sc_is_command.nd rfl (Or.inl rfl) (pe_getF (pe_gr T.FORMS) (pv 1) ⟨rfl, rfl, rfl, rfl⟩))
      (pss_cons (ps_if (PW.pt (pw_or (pt_cmpR (op_b g) (pv 3) pe_non (nomark _)) (pw_or1 (pt_cmpR (op_b g) (pe_callB (c_b g) (by rfl) T.f_len bt_len (pa_cons (pv 3) pa_nil)) (pe_callB (c_b g) (by rfl) T.f_len bt_len (pa_cons (pv 2) pa_nil)) (nomark _))))) (pss_one (ps_ret pe_bl)) pss_nil)
      (pss_one (ps_ret (pe_callB (c_b g) (by rfl) T.f_all bt_all (pa_cons (pe_lc (own := [("kind", 4), ("part", 5)]) (g := (gTup K 2 (gCons (gName 4) (gCons (gName 5) gNil)))) g.calm sc_is_command.nd (pi_zipS (by rfl) T.f_zip (pa_cons (pv 3) (pa_cons (pv 2) pa_nil)) (pk_cons pe_bl pk_nil)) (blkOk_by (by kernel_rfl)) (fun _ _ _ _ _ => (pg_tup rfl (pgs_cons (pg_name (i := 4) sc_is_command.nd rfl (Or.inl rfl)) (pgs_cons (pg_name (i := 5) sc_is_command.nd rfl (Or.inl rfl)) pgs_nil)))) (fun _ _ _ _ _ => pts_nil) (fun _ _ _ _ _ => (pe_c c_is_part (hr.mono (by decide)) (by rfl) pass0 (pa_cons (pv 4) (pa_cons (pv 5) pa_nil))))) pa_nil)))))))), ?_⟩
  obtain ⟨v, rfl, r1⟩ := r.one
  have r2 : Rp (CB K) H v (.tup (.str a.word :: a.parts)) := a.hD ▸ r1
  refine qd_no (et_is (et_or (et_not (et_val (ed_cb (ea1 (ed_var rfl r2) (ea1 ed_ty ea0)) (k_isi rfl kit_tt)))) fun _ => et_or (et_cmp (ed_op (ed_var rfl r2) (ed_tup ea0) (o_eqd (b := false) (by simp) (a.hD ▸ a.okd hp)))) fun _ =>
    et_not (et_val (ed_cb (ea1 (ed_op (ed_var rfl r2) ed_int (o_ixt at0)) (ea1 ed_ty ea0)) (k_isi rfl kit_ss)))) (by rfl)) fun H1 e1 => ?_
  refine qd_star (ed_var rfl (r2.ex e1)) (Nat.le_trans a.few (by decide)) fun x p H2 e2 rx rp hn => ?_
  have hx : x = V.str a.word := rx
  subst hx
  obtain ⟨kd, h1, h2⟩ := T.forms a.hF
  obtain ⟨es, n, kd⟩ := kd
  refine ⟨_, es, n, rfl, kd, _, rfl, a.word, some (.ref (formAt K a.word)), rfl, ⟨_, h1, rfl⟩, ?_⟩
  refine qd_no (et_is (et_or (et_cmp (C := CB K) (ed_isN_raw (ev_var rfl))) fun _ => et_cmp (ed_op (ed_len_raw (ev_var rfl) h2) (ed_cb (ea1 (ed_var rfl rp) ea0) k_lenl) o_nei)) (by
      rw [List.length_map, a.hl, decide_eq_true rfl]
      rfl)) fun H3 e3 => ?_
  have hzm : zipD (a.form.map D.str) a.parts = (a.form.zip a.parts).map fun p => D.tup [.str p.1, p.2] := by
    have h := zipD_map (F := D.str) (G := id) (xs := a.form) (ys := a.parts)
    rw [List.map_id] at h
    exact h
  refine ret_of (ed_cb (ea1 (ed_map (fun _ => .bl true) (hzm ▸ ei_zipRaw (ev_var rfl) h2 (ed_var rfl (rp.ex e3)) a.hl) (by rw [List.length_zip]; have := a.few; omega) (fun _ _ => rfl)
    fun i c x H2 hi e2 r2 k q => g_two r2 fun v1 v2 r3 r4 => q _ rfl (ed_call c (ea1 (ed_var rfl r3) (ea1 (ed_var rfl r4) ea0)) (a.hP hp c (List.mem_of_getElem? hi)))) ea0) (k_allM (g := fun _ => true))) rfl (q_ex (e1.trans (e2.trans e3)) q) ?_
  show D.bl _ = D.bl true
  rw [List.all_eq_true.mpr fun c hc => rfl]
end
end Fl
set_option maxHeartbeats 4000000
namespace Fl
open PySem PySem.Spec PyProof.Rows L2 Evl
theorem sc_rooms_of : FnScope ["command", "some", "room"] ["command"] (defScope s_rooms_of) := ⟨rfl, rfl, rfl, by decide +kernel, rfl, by decide +kernel, by decide +kernel⟩
def EdX (C : Addr) (te : TE) (σ : L2.St) (H : Hp) (φ : D → Prop) : Prop := EvP te σ H fun v H2 => ∃ d, φ d ∧ Rp C H2 v d
section
variable {P : Program} {w : World} {K : PySem.W.Frag} {C : Addr} {te : TE} {σ : L2.St} {H : Hp} {φ ψ : D → Prop}
theorem Ed.x {d : D} (h : Ed C te σ H d) : EdX C te σ H fun e => e = d := EvP.imp h fun v H2 _ r => ⟨d, rfl, r⟩
theorem EdX.imp (h : EdX C te σ H φ) (i : ∀ d, φ d → ψ d) : EdX C te σ H ψ := EvP.imp h fun v H2 _ ⟨d, p, r⟩ => ⟨d, i d p, r⟩
theorem edx_call {α : Type} {args : α → List D} {pre : α → Prop} {res : α → D → Prop} {ts : TA} {E : XK} (a : α) (h : EdA C ts σ H (args a)) (hp : pre a) : EdX C (tCall (spA C args pre res) [] E ts) σ H (res a) :=
  (ev_callD a h hp).imp fun v H2 _ ⟨d, p, r, _⟩ => ⟨d, p, r⟩
theorem edx_cb {r : List V → Hp → VK → Prop} (h : EdX C te σ H φ) (hr : ∀ d, φ d → ∃ z, DCall C r [d] z ∧ ψ z) : EdX C (tCB r (tCons te tNil)) σ H ψ := fun H1 e Q q => h H1 e _ fun v H2 e2 ⟨d, p, rp⟩ => by
  obtain ⟨z, dc, pz⟩ := hr d p
  exact dc H2 [v] ⟨rp, True.intro⟩ Q fun o H3 e3 r3 => q o H3 (e2.trans e3) ⟨z, pz, r3⟩
theorem ret_ofX {Q : VK} {nx : L2.St → Hp → Prop} {res : D → Prop} (h : EdX C te σ H φ) (hz : ∀ d, φ d → d.fz = true) (q : ∀ d v H', res d → Ex H H' → Rp C H' v d → Nw H v d → Q v H') (hr : ∀ d, φ d → res d) : tRet te ⟨nx, fun v H => Q v H, fun _ _ => False, fun _ _ => False⟩ σ H :=
  h H (Ex.refl H) _ fun v H1 e ⟨d, p, r⟩ => q d v H1 (hr d p) e r (.fz (hz d p))
theorem edx_sortedMS {ks : List Key} (h : EvP te σ H fun v H2 => IsSet w H2 v ks) (hS : ∀ k ∈ ks, ∃ x : Str, k = .inr x) (hl : ks.length < 64) :
    EdX C (tCB (rC P w K (.builtin "sorted")) (tCons te tNil)) σ H fun d => ∃ zs : List Str, d = .lst (zs.map D.str) ∧ (∀ z, z ∈ zs ↔ Sum.inr z ∈ ks) ∧ zs.length ≤ ks.length := fun H1 e Q q => h H1 e _ fun v H2 e2 ⟨a, S, n, ev, ha, hs, hn⟩ => by
  subst ev
  refine ⟨rSortedMS w, fun X g => by
    have h := g.w
    subst h
    exact cr_sortedMS g.calm, a, S, n, rfl, ha, fun k hk => hS k ((hs k).mp hk), by omega, fun ns p h1 h2 h3 hp => ?_⟩
  exact q _ _ (e2.trans (Ex.new hp)) ⟨_, ⟨ns, rfl, fun z => (h2 z).trans (hs _), by omega⟩, p, _, rfl, upd_same, RpL.of_strs⟩
theorem edx_sortedMI {ks : List Key} (h : EvP te σ H fun v H2 => IsSet w H2 v ks) (hS : ∀ k ∈ ks, ∃ x : Int, k = .inl x) (hl : ks.length < 64) :
    EdX C (tCB (rC P w K (.builtin "sorted")) (tCons te tNil)) σ H fun d => ∃ zs : List Int, d = .lst (zs.map D.int) ∧ zs.Pairwise (· < ·) ∧ (∀ z, z ∈ zs ↔ Sum.inl z ∈ ks) ∧ zs.length ≤ ks.length := fun H1 e Q q => h H1 e _ fun v H2 e2 ⟨a, S, n, ev, ha, hs, hn⟩ => by
  subst ev
  refine ⟨rSortedMI w, fun X g => by
    have h := g.w
    subst h
    exact cr_sortedMI g.calm, a, S, n, rfl, ha, fun k hk => hS k ((hs k).mp hk), by omega, fun ns p h1 h2 h3 hp => ?_⟩
  exact q _ _ (e2.trans (Ex.new hp)) ⟨_, ⟨ns, rfl, h1, fun z => (h2 z).trans (hs _), by omega⟩, p, _, rfl, upd_same, RpL.of_ints⟩
end
theorem Cmd.fewS {c : Cmd} (h : c.ok) : (c.src ++ c.dst).length ≤ 4 := by
  cases c <;> simp [Cmd.src, Cmd.dst]
  have := h.2.1.2.1
  omega
theorem Cmd.names {c : Cmd} (h : c.ok) : ∀ z ∈ c.src ++ c.dst, isNm z := by
  cases c with
  | put r n => simpa [Cmd.src, Cmd.dst] using h.1
  | copy a b => simpa [Cmd.src, Cmd.dst] using (show isNm a ∧ isNm b from h)
  | reckon f xs t =>
    intro z hz
    simp only [Cmd.src, Cmd.dst, List.mem_append, List.mem_singleton] at hz
    rcases hz with hz | hz
    · exact h.2.1.2.2 z hz
    · exact hz ▸ h.2.2
  | look r => simpa [Cmd.src, Cmd.dst] using (show isNm r from h)
  | shw r => simpa [Cmd.src, Cmd.dst] using (show isNm r from h)
  | wait f v => simp [Cmd.src, Cmd.dst]
  | set f v => simp [Cmd.src, Cmd.dst]
section
variable {P : Program} {w : World} {K : PySem.W.Frag} {mg : Str → Option Value} {base : Heap}
def roomsR (c : Cmd) (d : D) : Prop := ∃ zs : List Str, d = .tup (zs.map D.str) ∧ (∀ z, z ∈ zs ↔ z ∈ c.src ++ c.dst) ∧ zs.length ≤ 4
abbrev spRooms (C : Addr) : Sp := spA C (fun c : Cmd => [c.D]) Cmd.ok roomsR
theorem c_rooms_of (T : TF w K mg) (c_sources_of : Callee P w K mg base "sources_of" 1 ["command"] (spSrc (CB K))) (c_written_by : Callee P w K mg base "written_by" 1 ["command"] (spDst (CB K))) :
    Callee P w K mg base "rooms_of" 2 ["command"] (spRooms (CB K)) := by
  obtain ⟨fd, F⟩ := T.d_rooms_of
  refine callee_of F (F.ok sc_rooms_of (spA_len fun _ => rfl) fun cdv A outer s H vs Q E hr h => ?_) T.g_rooms_of fun _ _ _ _ _ _ us hl => match us, hl with | [_], _ => rfl
  obtain ⟨a, r, hp, q⟩ := h
  have g : Good P w K (L2.Cx.nox (cxOf CX0 P w K mg base ["command", "some", "room"] "rooms_of" (defScope s_rooms_of) (He.ga K "rooms_of") cdv A outer s H E)) := ⟨rfl, rfl, rfl, rfl, hu_un hr⟩
  have hu := hu_of hr
  refine ⟨_, PSs.nox (pss_one (ps_ret (pe_callTy (c_b g) (by rfl) T.f_tuple bt_tuple (pa_cons (pe_callB (c_b g) (by rfl) T.f_sorted bt_sorted (pa_cons (pe_scM2 (own := [("some", 1), ("room", 2)]) (vs1 := [2]) g.calm sc_rooms_of.nd (pi_b g (pe_tup (pa_cons (pe_c c_sources_of (hr.mono (by decide)) (by rfl) pass0 (pa_cons (pv 0) pa_nil)) (pa_cons (pe_c c_written_by (hr.mono (by decide)) (by rfl) pass0 (pa_cons (pv 0) pa_nil)) pa_nil)))) (blkOk_by (by kernel_rfl)) (by decide) (fun _ _ _ _ _ => (pg_name (i := 1) sc_rooms_of.nd rfl (Or.inl rfl))) (fun _ _ _ _ _ => pts_nil) (fun _ _ _ _ _ => (pi_b g.b (pv 1))) (fun _ _ _ _ _ => (pg_name (i := 2) sc_rooms_of.nd rfl (Or.inl rfl))) (fun _ _ _ _ _ => pts_nil) (fun _ _ _ _ _ => (pv 2))) pa_nil)) pa_nil)))), ?_⟩
  obtain ⟨v, rfl, r1⟩ := r.one
  have hfm : ([a.src, a.dst].flatMap fun zs => zs) = a.src ++ a.dst := by simp
  refine ret_ofX (edx_cb (edx_sortedMS (ev_sc2 (xs := [a.src, a.dst]) (F := fun zs => D.tup (zs.map D.str)) (fun zs => zs) D.str (fun z => (Sum.inr z : Key))
    (ei_tup (ed_tup (ea1 (ed_call a (ea1 (ed_var rfl r1) ea0) trivial) (ea1 (ed_call a (ea1 (ed_var rfl r1) ea0) trivial) ea0)))) (by rw [hfm]; exact Nat.le_trans (a.fewS hp) (by decide)) (fun _ _ _ _ => rfl)
    fun zs x H1 hm e1 r2 k q => q _ rfl (ei_tup (ed_var rfl r2)) fun b y H2 hb e2 r3 k' q' => q' _ rfl ((ev_var rfl).imp fun v H3 _ e => by rw [e]; exact r3)) ?_ ?_) fun d ⟨zs, e1, e2, e3⟩ => ⟨.tup (zs.map D.str), e1 ▸ k_tuple, ?_⟩) ?_ q (φ := roomsR a) fun d h => h
  · intro k hk
    obtain ⟨z, _, rfl⟩ := List.mem_map.mp hk
    exact ⟨z, rfl⟩
  · rw [hfm, List.length_map]
    have := a.fewS hp
    omega
  · rw [hfm] at e2 e3
    refine ⟨zs, rfl, fun z => (e2 z).trans ?_, ?_⟩
    · rw [List.mem_map]
      constructor
      · rintro ⟨y, hy, e⟩
        cases e
        exact hy
      · intro h
        exact ⟨z, h, rfl⟩
    · rw [List.length_map] at e3
      have := a.fewS hp
      omega
  · rintro d ⟨zs, rfl, _⟩
    exact fz_strs
end
end Fl
set_option maxHeartbeats 2000000
namespace Fl
open PySem PySem.Spec PyProof.Rows L2 Evl
def dcD {α κ : Type} [DecidableEq κ] (xs : List α) (kf : α → κ) (f : α → D) : List (κ × D) := xs.foldl (fun m a => putD m (kf a) (f a)) []
theorem dcD_snoc {α κ : Type} [DecidableEq κ] {xs : List α} {kf : α → κ} {f : α → D} {a : α} : dcD (xs ++ [a]) kf f = putD (dcD xs kf f) (kf a) (f a) := by
  unfold dcD
  rw [List.foldl_append]
  rfl
theorem putD_length {κ : Type} [DecidableEq κ] {m : List (κ × D)} {k : κ} {d : D} : (putD m k d).length ≤ m.length + 1 := by
  unfold putD
  split
  · rw [List.length_map]; omega
  · rw [List.length_append]; exact Nat.le_refl _
theorem fold_length {α κ : Type} [DecidableEq κ] {kf : α → κ} {f : α → D} : ∀ {xs : List α} {m : List (κ × D)}, (xs.foldl (fun m a => putD m (kf a) (f a)) m).length ≤ m.length + xs.length
  | [], m => Nat.le_refl _
  | a :: xs, m => by
    rw [List.foldl_cons]
    refine Nat.le_trans fold_length ?_
    have := putD_length (m := m) (k := kf a) (d := f a)
    rw [List.length_cons]
    omega
theorem dcD_length {α κ : Type} [DecidableEq κ] {kf : α → κ} {f : α → D} {xs : List α} : (dcD xs kf f).length ≤ xs.length := by
  have := fold_length (kf := kf) (f := f) (xs := xs) (m := [])
  rw [List.length_nil] at this
  unfold dcD
  omega
theorem fold_some {α κ : Type} [DecidableEq κ] {kf : α → κ} {f : α → D} {k : κ} : ∀ {xs : List α} {m : List (κ × D)}, (lookD (xs.foldl (fun m a => putD m (kf a) (f a)) m) k).isSome = (decide (k ∈ xs.map kf) || (lookD m k).isSome)
  | [], m => by simp
  | a :: xs, m => by
    rw [List.foldl_cons, fold_some, lookD_put]
    by_cases e : k = kf a
    · subst e
      simp
    · rw [if_neg e]
      simp [e]
theorem dcD_some {α κ : Type} [DecidableEq κ] {kf : α → κ} {f : α → D} {k : κ} {xs : List α} : (lookD (dcD xs kf f) k).isSome = decide (k ∈ xs.map kf) := by
  unfold dcD
  rw [fold_some]
  simp [lookD]
theorem fold_look {α κ : Type} [DecidableEq κ] {kf : α → κ} {f : α → D} (a : α) (hu : ∀ xs : List α, True) : ∀ {xs : List α} {m : List (κ × D)}, (∀ b ∈ xs, kf b = kf a → f b = f a) → (a ∈ xs ∨ lookD m (kf a) = some (f a)) → lookD (xs.foldl (fun m a => putD m (kf a) (f a)) m) (kf a) = some (f a)
  | [], m, _, h => h.elim (fun z => nomatch z) id
  | b :: xs, m, hi, h => by
    rw [List.foldl_cons]
    refine fold_look a hu (fun c hc => hi c (List.mem_cons_of_mem _ hc)) ?_
    by_cases e : kf b = kf a
    · right
      rw [lookD_put, if_pos e.symm, hi b List.mem_cons_self e]
    · rcases h with h | h
      · rcases List.mem_cons.mp h with h | h
        · subst h; exact absurd rfl e
        · exact .inl h
      · right
        rw [lookD_put, if_neg (fun z => e z.symm)]
        exact h
theorem dcD_look {α κ : Type} [DecidableEq κ] {kf : α → κ} {f : α → D} {xs : List α} {a : α} (ha : a ∈ xs) (hi : ∀ b ∈ xs, kf b = kf a → f b = f a) : lookD (dcD xs kf f) (kf a) = some (f a) := fold_look a (fun _ => True.intro) hi (.inl ha)
section
variable {P : Program} {w : World} {K : PySem.W.Frag} {C : Addr} {σ : L2.St} {H : Hp} {tz : TS} {E : Ends}
theorem putD_mem {κ : Type} [DecidableEq κ] {m : List (κ × D)} {k : κ} {d : D} {p : κ × D} (h : p ∈ putD m k d) : p ∈ m ∨ p.2 = d := by
  unfold putD at h
  split at h
  · obtain ⟨y, hy, e⟩ := List.mem_map.mp h
    split at e
    · right; rw [← e]
    · left; rw [← e]; exact hy
  · rcases List.mem_append.mp h with h | h
    · exact .inl h
    · right
      rw [List.mem_singleton.mp h]
theorem dcD_fz {α κ : Type} [DecidableEq κ] {kf : α → κ} {f : α → D} : ∀ {xs : List α} {m : List (κ × D)}, (∀ p ∈ m, p.2.fz = true) → (∀ a ∈ xs, (f a).fz = true) → ∀ p ∈ xs.foldl (fun m a => putD m (kf a) (f a)) m, p.2.fz = true
  | [], m, hm, _ => hm
  | a :: xs, m, hm, hf => by
    rw [List.foldl_cons]
    exact dcD_fz (fun p hp => (putD_mem hp).elim (hm p) fun e => e ▸ hf a List.mem_cons_self) fun b hb => hf b (List.mem_cons_of_mem _ hb)
theorem RK.fz {κ : Type} [DecidableEq κ] {H H' : Hp} (t : Tx H H') {ks : List (κ × V)} {kvs : List (κ × D)} (hz : ∀ p ∈ kvs, p.2.fz = true) (h : RK (Rp C H) ks kvs) : RK (Rp C H') ks kvs := h.impM fun v d ⟨k, hk⟩ r => r.fz t (hz _ hk)
theorem ev_dc {α : Type} {wi : TI} {g : TG} {tk tv : TE} {vs : List Nat} {B : Hp → Addr → Prop} {xs : List α} {F : α → D} (kf : α → Key) (f : α → D) (h : EvI C wi σ H (xs.map F) B) (hl : xs.length ≤ 10000) (hz : ∀ a ∈ xs, (f a).fz = true)
    (hs : ∀ (a : α) (x : V) (H1 : Hp), a ∈ xs → Ex H H1 → Rp C H1 x (F a) → ∀ k : L2.St → Hp → Prop, (∀ σ2, wipe σ2 vs = wipe σ vs → Ed C tk σ2 H1 (kD (kf a)) → Ed C tv σ2 H1 (f a) → k σ2 H1) → g x (wipe σ vs) H1 k) :
    EvP (tDc wi g tYes tk tv vs) σ H fun v H2 => Rp C H2 v (.dk (dcD xs kf f)) ∧ Nw H v (.dk (dcD xs kf f)) := fun H0 e Q q => h H0 e _ fun J A H1 e1 dw hA Dl hD => by
  obtain ⟨G, Y, wk, hG, hY⟩ := dw.ex
  refine w_it wk (fun i H' => Ex H1 H' ∧ ∃ ks, H' Dl = some (.dK ks) ∧ RK (Rp C H') ks (dcD (xs.take i) kf f)) ⟨Ex.new hD, [], upd_same, True.intro⟩ (fun i H' _ p => hG H' (fun a ha => by
      obtain ⟨_, o, ho⟩ := hA a ha
      rw [ho]
      exact p.1 a _ ho) (Tx.ex p.1)) (fun i x H2 H3 hi p y => ?_) fun H' p => ?_
  · obtain ⟨p1, ks, p2, p3⟩ := p
    obtain ⟨e3, d, hd, hr⟩ := hY i H2 x H3 hi (fun a ha => by
      obtain ⟨_, o, ho⟩ := hA a ha
      rw [ho]
      exact p1 a _ ho) (Tx.ex p1) y
    have eH : Ex H1 H3 := p1.trans e3
    have hr := hr (.inl p1)
    obtain ⟨a, ha, rfl⟩ := item_of hd
    have ham : a ∈ xs := List.mem_of_getElem? ha
    refine hs a x H3 ham ((e.trans e1).trans eH) hr _ fun σ2 hw hk hv => ⟨hw, ?_⟩
    show tk σ2 H3 _
    refine hk H3 (Ex.refl _) _ fun y H4 e4 r4 => hv H4 e4 _ fun z H5 e5 r5 => ?_
    have hD5 := e5 _ _ (e4 _ _ (e3 _ _ p2))
    have eR := (e3.trans e4).trans e5
    rw [take_item ha, dcD_snoc]
    refine ⟨ks, kf a, rp_key.mp r4, hD5, ?_, Ex.mut ((eH.trans e4).trans e5) hD, _, upd_same, ?_⟩
    · rw [p3.length]
      refine Nat.lt_of_le_of_lt (Nat.le_trans dcD_length (Nat.le_trans ?_ hl)) (by decide)
      rw [List.length_take]
      omega
    · have t5 : Tx H5 (upd H5 Dl (.dK (putK ks (kf a) z))) := Tx.dk hD5
      refine RK.put ?_ (r5.fz t5 (hz a ham))
      exact (p3.imp fun v d r => r.ex eR).fz t5 (dcD_fz (fun p hp => nomatch hp) fun b hb => hz b (List.mem_of_mem_take hb))
  · obtain ⟨p1, ks, p2, p3⟩ := p
    rw [show (xs.map F).length = xs.length from List.length_map _, List.take_length] at p3
    exact q (.ref Dl) H' (e1.trans p1) ⟨⟨Dl, ks, rfl, p2, rpK_iff.mpr p3⟩, fun _ a ea => by
      cases ea
      exact fresh_back (e.trans e1) hD⟩
def EvIX {α : Type} (C : Addr) (wi : TI) (σ : L2.St) (H : Hp) (F : α → D) (ψ : List α → Prop) (B : Hp → Addr → Prop) : Prop := ∀ H1, Ex H H1 → ∀ R : It → Hp → Prop, (∀ xs J A H2, ψ xs → Ex H1 H2 → DWalk C J H2 (xs.map F) A → (∀ a ∈ A, B H1 a ∧ ∃ o, H2 a = some o) → R J H2) → wi σ H1 R
theorem eix_tup {α : Type} {F : α → D} {ψ : List α → Prop} {tg : Expr} {te : TE} (h : EdX C te σ H fun d => ∃ xs, d = .tup (xs.map F) ∧ ψ xs) : EvIX C (iB P w K tg te) σ H F ψ B0 := fun H1 e R q => h H1 e _ fun v H2 e2 ⟨d, ⟨xs, ed, hp⟩, r⟩ => by
  subst ed
  obtain ⟨a, vs, e3, e4, e5⟩ := r
  exact ⟨_, fun X g => g.K ▸ it_tup, a, e3, ⟨vs, st_of e4⟩, q xs _ [] H2 hp e2 (dw_tup e4 e5) fun a ha => nomatch ha⟩
theorem eix_lst {α : Type} {F : α → D} {ψ : List α → Prop} {tg : Expr} {te : TE} (h : EdX C te σ H fun d => ∃ xs, d = .lst (xs.map F) ∧ ψ xs) : EvIX C (iB P w K tg te) σ H F ψ fun _ _ => True := fun H1 e R q => h H1 e _ fun v H2 e2 ⟨d, ⟨xs, ed, hp⟩, r⟩ => by
  subst ed
  obtain ⟨a, vs, e3, e4, e5⟩ := r
  exact ⟨_, fun X g => g.K ▸ it_list, a, e3, ⟨vs, sq_of e4⟩, q xs _ [a] H2 hp e2 (dw_lst e4 e5) fun b hb => ⟨True.intro, by
    have e : b = a := by simpa using hb
    rw [e]
    exact ⟨_, e4⟩⟩⟩
theorem ei_at {α : Type} {F : α → D} {xs : List α} {J : It} {A : List Addr} {H0 H1 : Hp} {B : Hp → Addr → Prop} (e : Ex H H0) (e1 : Ex H0 H1) (dw : DWalk C J H1 (xs.map F) A) (hA : ∀ a ∈ A, B H0 a ∧ ∃ o, H1 a = some o) :
    EvI C (fun _ H' R => H' = H0 → R J H1) σ H (xs.map F) B := fun H' e' R q eH => by
  subst eH
  exact q J A H1 e1 dw hA
theorem ev_lcX {α : Type} {wi : TI} {g : TG} {tt : TT} {te : TE} {vs : List Nat} {B : Hp → Addr → Prop} {F : α → D} {ψ : List α → Prop} (keep : α → Bool) (f : α → D) (h : EvIX C wi σ H F ψ B) (hl : ∀ xs, ψ xs → xs.length ≤ 40000) (hz : ∀ xs, ψ xs → ∀ a ∈ xs, keep a = true → (f a).fz = true)
    (hs : ∀ xs, ψ xs → ∀ (a : α) (x : V) (H1 : Hp), a ∈ xs → Ex H H1 → Rp C H1 x (F a) → ∀ k : L2.St → Hp → Prop, (∀ σ2, wipe σ2 vs = wipe σ vs → EvT tt σ2 H1 (keep a) → (keep a = true → Ed C te σ2 H1 (f a)) → k σ2 H1) → g x (wipe σ vs) H1 k) :
    EvP (tLc wi g tt te vs) σ H fun v H2 => ∃ xs, ψ xs ∧ Rp C H2 v (.lst ((xs.filter keep).map f)) ∧ Nw H v (.lst ((xs.filter keep).map f)) := fun H0 e Q q => h H0 e _ fun xs J A H1 hp e1 dw hA => by
  have z := ev_lc (g := g) (tt := tt) (te := te) (vs := vs) keep f (ei_at (σ := σ) e e1 dw hA) (hl xs hp) (hz xs hp) (fun i a x H1 hi e r k q => hs xs hp a x H1 (List.mem_of_getElem? hi) e r k q)
  exact z H0 e Q (fun v H2 e2 p => q v H2 e2 ⟨xs, hp, p⟩) rfl
theorem q_forX {α : Type} {wi : TI} {g : TG} {tb : TS} {B : Hp → Addr → Prop} {F : α → D} {ψ : List α → Prop} (h : EvIX C wi σ H F ψ B)
    (q : ∀ xs, ψ xs → ∀ (A : List Addr) (H1 : Hp), Ex H H1 → (∀ a ∈ A, B H a ∧ ∃ o, H1 a = some o) → ∃ Pv : Nat → L2.St → Hp → Prop, Pv 0 σ H1 ∧ (∀ i σ' H', i ≤ xs.length → Pv i σ' H' → Tx H1 H' ∧ ∀ a ∈ A, H' a = H1 a) ∧
      (∀ i a x σ' H' H'', xs[i]? = some a → Pv i σ' H' → Ex H' H'' → (Ex H1 H' ∨ (F a).fz = true → Rp C H'' x (F a)) → g x σ' H'' fun σ2 H2 => tb { E with nx := Pv (i + 1), ct := Pv (i + 1), bk := E.nx } σ2 H2) ∧
      ∀ σ' H', Pv xs.length σ' H' → E.nx σ' H') : tFor wi g tb E σ H := h H (Ex.refl H) _ fun xs J A H1 hp e1 dw hA => by
  have z := q_for (g := g) (tb := tb) (E := E) (ei_at (σ := σ) (Ex.refl H) e1 dw hA) (q xs hp)
  exact z rfl
theorem qs_forX {α : Type} {wi : TI} {g : TG} {tb : TS} {B : Hp → Addr → Prop} {F : α → D} {ψ : List α → Prop} (h : EvIX C wi σ H F ψ B)
    (q : ∀ xs, ψ xs → ∀ (A : List Addr) (H1 : Hp), Ex H H1 → (∀ a ∈ A, B H a ∧ ∃ o, H1 a = some o) → ∃ Pv : Nat → L2.St → Hp → Prop, Pv 0 σ H1 ∧ (∀ i σ' H', i ≤ xs.length → Pv i σ' H' → Tx H1 H' ∧ ∀ a ∈ A, H' a = H1 a) ∧
      (∀ i a x σ' H' H'', xs[i]? = some a → Pv i σ' H' → Ex H' H'' → (Ex H1 H' ∨ (F a).fz = true → Rp C H'' x (F a)) → g x σ' H'' fun σ2 H2 => tb { E with nx := Pv (i + 1), ct := Pv (i + 1), bk := tz E } σ2 H2) ∧
      ∀ σ' H', Pv xs.length σ' H' → tz E σ' H') : tSeq (tFor wi g tb) tz E σ H := q_forX (E := ⟨tz E, E.rt, E.bk, E.ct⟩) h q
theorem edx_map {α : Type} {wi : TI} {g : TG} {te : TE} {vs : List Nat} {B : Hp → Addr → Prop} {F : α → D} {ψ : List α → Prop} (f : α → D) (h : EvIX C wi σ H F ψ B) (hl : ∀ xs, ψ xs → xs.length ≤ 40000) (hz : ∀ xs, ψ xs → ∀ a ∈ xs, (f a).fz = true)
    (hs : ∀ xs, ψ xs → ∀ (a : α) (x : V) (H1 : Hp), a ∈ xs → Ex H H1 → Rp C H1 x (F a) → ∀ k : L2.St → Hp → Prop, (∀ σ2, wipe σ2 vs = wipe σ vs → Ed C te σ2 H1 (f a) → k σ2 H1) → g x (wipe σ vs) H1 k) :
    EdX C (tLc wi g tYes te vs) σ H fun d => ∃ xs, d = .lst (xs.map f) ∧ ψ xs :=
  (ev_lcX (fun _ => true) f h hl (fun xs p a ha _ => hz xs p a ha) fun xs p a x H1 ha e r k q => hs xs p a x H1 ha e r k fun σ2 hw he => q σ2 hw et_yes fun _ => he).imp fun v H2 _ ⟨xs, p, r, _⟩ => ⟨_, ⟨xs, rfl, p⟩, by
    have e : xs.filter (fun _ => true) = xs := List.filter_eq_self.mpr fun _ _ => rfl
    rw [e] at r
    exact r⟩
theorem EdX.ed {te : TE} {d : D} (h : EdX C te σ H fun e => e = d) : Ed C te σ H d := EvP.imp h fun v H2 _ ⟨e, p, r⟩ => p ▸ r
end
end Fl
set_option maxHeartbeats 2000000
namespace Fl
open PySem PySem.Spec PyProof.Rows L2 Evl
section
variable {P : Program} {w : World} {K : PySem.W.Frag} {C : Addr} {σ : L2.St} {H : Hp} {te to ti : TE} {tz : TS} {E : Ends} {d : D}
theorem q_append {l : Addr} {xs : List V} (ho : EvP to σ H fun v _ => v = V.ref l) (he : Ed C te σ H d) (hl : H l = some (.lst xs)) (hn : xs.length ≤ 40000) (q : ∀ v H1, Ex H H1 → Rp C H1 v d → E.nx σ (upd H1 l (.lst (xs ++ [v])))) :
    tDrop (tBM K "list" (rM P w K "list.append") to (tCons te tNil)) E σ H := ho H (Ex.refl H) _ fun u H1 e1 r1 => by
  subst r1
  refine ⟨.inl ⟨rfl, xs, sq_of (e1 _ _ hl)⟩, he H1 e1 _ fun v H2 e2 r2 => ?_⟩
  exact ⟨rAppend, fun _ _ => mt_append, l, xs, v, rfl, rfl, (e1.trans e2) _ _ hl, Nat.lt_of_le_of_lt hn (by decide), q v H2 (e1.trans e2) r2⟩
theorem qs_append {l : Addr} {xs : List V} (ho : EvP to σ H fun v _ => v = V.ref l) (he : Ed C te σ H d) (hl : H l = some (.lst xs)) (hn : xs.length ≤ 40000) (q : ∀ v H1, Ex H H1 → Rp C H1 v d → tz E σ (upd H1 l (.lst (xs ++ [v])))) :
    tSeq (tDrop (tBM K "list" (rM P w K "list.append") to (tCons te tNil))) tz E σ H := q_append (E := ⟨tz E, E.rt, E.bk, E.ct⟩) ho he hl hn q
theorem q_extend {l : Addr} {xs : List V} {φ : List D → Prop} (ho : EvP to σ H fun v _ => v = V.ref l) (he : EvP te σ H fun v H2 => ∃ ds, φ ds ∧ Rp C H2 v (.lst ds)) (hl : H l = some (.lst xs)) (hn : xs.length ≤ 40000) (hm : ∀ ds, φ ds → ds.length ≤ 40000)
    (q : ∀ vs ds H1, φ ds → Ex H H1 → RpL C H1 vs ds → E.nx σ (upd H1 l (.lst (xs ++ vs)))) :
    tDrop (tBM K "list" (rM P w K "list.extend") to (tCons te tNil)) E σ H := ho H (Ex.refl H) _ fun u H1 e1 r1 => by
  subst r1
  refine ⟨.inl ⟨rfl, xs, sq_of (e1 _ _ hl)⟩, he H1 e1 _ fun v H2 e2 ⟨ds, hp, b, vs, ev, hb, rv⟩ => ?_⟩
  subst ev
  refine ⟨rExtend, fun _ _ => mt_extend, l, b, xs, vs, rfl, rfl, (e1.trans e2) _ _ hl, hb, ?_, q vs ds H2 hp (e1.trans e2) rv⟩
  have h1 := hm ds hp
  rw [← rv.length] at h1
  exact Nat.le_trans (Nat.add_le_add hn h1) (by decide)
theorem qs_extend {l : Addr} {xs : List V} {φ : List D → Prop} (ho : EvP to σ H fun v _ => v = V.ref l) (he : EvP te σ H fun v H2 => ∃ ds, φ ds ∧ Rp C H2 v (.lst ds)) (hl : H l = some (.lst xs)) (hn : xs.length ≤ 40000) (hm : ∀ ds, φ ds → ds.length ≤ 40000)
    (q : ∀ vs ds H1, φ ds → Ex H H1 → RpL C H1 vs ds → tz E σ (upd H1 l (.lst (xs ++ vs)))) :
    tSeq (tDrop (tBM K "list" (rM P w K "list.extend") to (tCons te tNil))) tz E σ H := q_extend (E := ⟨tz E, E.rt, E.bk, E.ct⟩) ho he hl hn hm q
theorem q_lnew {i : Nat} {ts : TA} {ds : List D} (h : EdA C ts σ H ds) (k : ∀ a vs H1, Ex H H1 → RpL C H1 vs ds → H1 a = none → tz E (σ.set i (some (.ref a))) (upd H1 a (.lst vs))) (hl : ds.length ≤ 100000 := by exact Nat.le_of_ble_eq_true rfl) : tSeq (tAsg (tLst ts) (gName i)) tz E σ H :=
  h H (Ex.refl H) _ fun vs H1 e r => ⟨by rw [r.length]; exact sz_of hl, fun p hp => k p vs H1 e r hp⟩
theorem ql_if {t : TT} {tu tw : TS} {b : Bool} (h : EvT t σ H b) (h1 : b = true → ∀ H1, Ex H H1 → tu E σ H1) (h2 : b = false → ∀ H1, Ex H H1 → tw E σ H1) : tIfS t tu tw E σ H := h H (Ex.refl H) _ fun H1 e => by
  cases b with
  | true =>
    rw [if_pos rfl]
    exact h1 rfl H1 e
  | false =>
    rw [if_neg (by decide)]
    exact h2 rfl H1 e
theorem ql_asg {i : Nat} (h : Ed C te σ H d) (k : ∀ v H1, Ex H H1 → Rp C H1 v d → E.nx (σ.set i (some v)) H1) : tAsg te (gName i) E σ H := h H (Ex.refl H) _ fun v H1 e p => k v H1 e p
theorem cut_to {α : Type} (xs : List α) (n m : Nat) : (xs.drop 0).take (m - 0) = xs.take m := by simp
theorem ed_slT {te th : TE} {ds : List D} {k : Int} (h : Ed C te σ H (.tup ds)) (hh : Ed C th σ H (.int k)) : Ed C (tSl (rS P w K) te tNoPart (tPart th)) σ H (.tup (ds.take (HT.sIx ds.length ds.length (some k)))) := fun H1 e Q q =>
  h H1 e _ fun v H2 e2 ⟨a, xs, ev, ha, rx⟩ => hh H2 (e.trans e2) _ fun u H3 e3 ru => ⟨k, ru, by
    have hl := rx.length
    have ha3 := e3 _ _ ha
    refine ⟨rSlA K, fun X g => by
      have h := g.K
      subst h
      exact sl_tupA, a, xs, ev, st_of ha3, fun hw => ?_, fun hw p hp => ?_⟩
    · subst ev
      refine q _ H3 (e2.trans e3) ⟨a, xs, rfl, ha3, ?_⟩
      rw [hl] at hw
      rw [hw.2, List.take_length]
      exact rx.ex e3
    · refine q _ _ ((e2.trans e3).trans (Ex.new hp)) ⟨p, _, rfl, upd_same, ?_⟩
      have e0 : cutV xs none (some k) = xs.take (HT.sIx ds.length ds.length (some k)) := by
        unfold cutV
        rw [hl]
        show (xs.drop 0).take (HT.sIx ds.length ds.length (some k) - 0) = _
        exact cut_to xs 0 _
      rw [e0]
      exact (rx.ex (e3.trans (Ex.new hp))).take _⟩
theorem ed_slL {te th : TE} {ds : List D} {k : Int} (h : Ed C te σ H (.lst ds)) (hh : Ed C th σ H (.int k)) : Ed C (tSl (rS P w K) te tNoPart (tPart th)) σ H (.lst (ds.take (HT.sIx ds.length ds.length (some k)))) := fun H1 e Q q =>
  h H1 e _ fun v H2 e2 ⟨a, xs, ev, ha, rx⟩ => hh H2 (e.trans e2) _ fun u H3 e3 ru => ⟨k, ru, by
    have hl := rx.length
    have ha3 := e3 _ _ ha
    refine ⟨rSlL K, fun X g => by
      have h := g.K
      subst h
      exact sl_list, a, xs, ev, sq_of ha3, fun p hp => ?_⟩
    refine q _ _ ((e2.trans e3).trans (Ex.new hp)) ⟨p, _, rfl, upd_same, ?_⟩
    have e0 : cutV xs none (some k) = xs.take (HT.sIx ds.length ds.length (some k)) := by
      unfold cutV
      rw [hl]
      show (xs.drop 0).take (HT.sIx ds.length ds.length (some k) - 0) = _
      exact cut_to xs 0 _
    rw [e0]
    exact (rx.ex (e3.trans (Ex.new hp))).take _⟩
theorem sIx_nat {n k : Nat} (h : k ≤ n) : HT.sIx n n (some (k : Int)) = k := by
  rw [HT.sIx_nat]
  omega
theorem ed_slTN {te th : TE} {ds : List D} {k : Nat} (h : Ed C te σ H (.tup ds)) (hh : Ed C th σ H (.int (k : Nat))) (hk : k ≤ ds.length) : Ed C (tSl (rS P w K) te tNoPart (tPart th)) σ H (.tup (ds.take k)) := by
  have z := ed_slT (P := P) (w := w) (K := K) h hh
  rw [sIx_nat hk] at z
  exact z
theorem ed_slTm {te th : TE} {ds : List D} (h : Ed C te σ H (.tup ds)) (hh : Ed C th σ H (.int (-1))) : Ed C (tSl (rS P w K) te tNoPart (tPart th)) σ H (.tup (ds.dropLast)) := by
  have z := ed_slT (P := P) (w := w) (K := K) h hh
  have e : HT.sIx ds.length ds.length (some (-1)) = ds.length - 1 := by
    unfold HT.sIx
    simp
    omega
  rw [e, ← List.dropLast_eq_take] at z
  exact z
end
end Fl
set_option maxHeartbeats 4000000
namespace Fl
open PySem PySem.Spec PyProof.Rows L2 Evl
structure Hall where
  name : Str
  size : Int
  at_ : Option Int
def optD : Option Int → D
  | none => .non
  | some i => .int i
def Hall.D (h : Hall) : D := .tup [.str h.name, .int h.size, optD h.at_, .non]
def Hall.ok (h : Hall) : Prop := isNm h.name ∧ (1 ≤ h.size ∧ h.size ≤ 99) ∧ ∀ i, h.at_ = some i → 0 ≤ i ∧ i ≤ 1999
theorem optD_fz (o : Option Int) : (optD o).fz = true := by cases o <;> rfl
theorem Hall.fz (h : Hall) : h.D.fz = true := by
  show (true && (true && ((optD h.at_).fz && (true && true)))) = true
  rw [optD_fz]
  rfl
abbrev hallsD (hs : List Hall) : D := .tup (hs.map Hall.D)
structure HallsOk (hs : List Hall) : Prop where
  few : hs.length ≤ 12
  ok : ∀ h ∈ hs, h.ok
  nd : (hs.map Hall.name).Nodup
theorem hallsD_fz (hs : List Hall) : (hallsD hs).fz = true := fzL_map fun h _ => h.fz
abbrev laneD (row : List Cmd) : D := .tup (row.map Cmd.D)
abbrev lanesD (ls : List (List Cmd)) : D := .tup (ls.map laneD)
theorem laneD_fz (row : List Cmd) : (laneD row).fz = true := fzL_map fun c _ => c.fz
theorem lanesD_fz (ls : List (List Cmd)) : (lanesD ls).fz = true := fzL_map fun c _ => laneD_fz c
def Cmd.inn (hs : List Hall) (c : Cmd) : Prop := c.ok ∧ ∀ z ∈ c.src ++ c.dst, z ∈ hs.map Hall.name
theorem sc_is_room : FnScope ["thing", "name", "size", "place", "owner"] ["thing"] (defScope s_is_room) := ⟨rfl, rfl, rfl, by decide +kernel, rfl, by decide +kernel, by decide +kernel⟩
theorem sc_check_rooms : FnScope ["thing", "known", "number", "room"] ["thing"] (defScope s_check_rooms) := ⟨rfl, rfl, rfl, by decide +kernel, rfl, by decide +kernel, by decide +kernel⟩
theorem sc_stands_in : FnScope ["command", "rooms", "owners", "name", "size", "place", "owner"] ["command", "rooms"] (defScope s_stands_in) := ⟨rfl, rfl, rfl, by decide +kernel, rfl, by decide +kernel, by decide +kernel⟩
section
variable {C : Addr} {σ : L2.St} {H : Hp} {K : PySem.W.Frag} {te : TE} {tz : TS} {E : Ends}
theorem qd_four {i1 i2 i3 i4 : Nat} {d1 d2 d3 d4 : D} (h : Ed C te σ H (.tup [d1, d2, d3, d4])) (k : ∀ v1 v2 v3 v4 H1, Ex H H1 → Rp C H1 v1 d1 → Rp C H1 v2 d2 → Rp C H1 v3 d3 → Rp C H1 v4 d4 → tz E ((((σ.set i1 (some v1)).set i2 (some v2)).set i3 (some v3)).set i4 (some v4)) H1) :
    tSeq (tAsg te (gTup K 4 (gCons (gName i1) (gCons (gName i2) (gCons (gName i3) (gCons (gName i4) gNil)))))) tz E σ H := h H (Ex.refl H) _ fun v H1 e r => g_four r fun v1 v2 v3 v4 r1 r2 r3 r4 => k v1 v2 v3 v4 H1 e r1 r2 r3 r4
theorem q_dnew {i : Nat} (k : ∀ a, H a = none → tz E (σ.set i (some (.ref a))) (upd H a (.dK []))) : tSeq (tAsg tDNewK (gName i)) tz E σ H := fun a ha => k a ha
end
section
variable {P : Program} {w : World} {K : PySem.W.Frag} {mg : Str → Option Value} {base : Heap}
abbrev spRoom (C : Addr) : Sp := spF C (fun h : Hall => [h.D]) Hall.ok fun _ => .bl true
theorem c_is_room (T : TF w K mg) (c_is_name : Callee P w K mg base "is_name" 1 ["thing"] (spName (CB K))) (c_is_within : Callee P w K mg base "is_within" 2 ["thing", "low", "high"] (spWithin (CB K)))
    (c_is_lane : Callee P w K mg base "is_lane" 3 ["thing"] (spIn (CB K) 0 5)) : Callee P w K mg base "is_room" 4 ["thing"] (spRoom (CB K)) := by
  obtain ⟨fd, F⟩ := T.d_is_room
  refine callee_of F (F.ok sc_is_room (spA_len fun _ => rfl) fun cdv A outer s H vs Q E hr h => ?_) T.g_is_room fun _ _ _ _ _ _ us hl => match us, hl with | [_], _ => rfl
  obtain ⟨a, r, hp, q⟩ := h
  have g : Good P w K (L2.Cx.nox (cxOf CX0 P w K mg base ["thing", "name", "size", "place", "owner"] "is_room" (defScope s_is_room) (He.ga K "is_room") cdv A outer s H E)) := ⟨rfl, rfl, rfl, rfl, hu_un hr⟩
  have hu := hu_of hr
  refine ⟨_, PSs.nox (pss_cons (ps_if (PW.pt (pw_or (pt_not (pt_val (pe_callB (c_b g) (by rfl) T.f_isinstance bt_isinstance (pa_cons (pv 0) (pa_cons (pe_ty T.f_tuple bt_tuple) pa_nil))))) (pw_or1 (pt_cmpR (op_b g) (pe_callB (c_b g) (by rfl) T.f_len bt_len (pa_cons (pv 0) pa_nil)) pe_int (nomark _))))) (pss_one (ps_ret pe_bl)) pss_nil)
      (pss_cons (ps_asg (pv 0) (pg_tup rfl (pgs_cons (pg_name (i := 1) sc_is_room.nd rfl (Or.inl rfl)) (pgs_cons (pg_name (i := 2) sc_is_room.nd rfl (Or.inl rfl)) (pgs_cons (pg_name (i := 3) sc_is_room.nd rfl (Or.inl rfl)) (pgs_cons (pg_name (i := 4) sc_is_room.nd rfl (Or.inl rfl)) pgs_nil))))))
      (pss_cons (ps_if (PW.pt (pw_and (pt_cmpR (op_b g) (pv 3) pe_non (nomark _)) (pw_and1 (pt_not (pt_val (pe_c c_is_within (hr.mono (by decide)) (by rfl) pass0 (pa_cons (pv 3) (pa_cons pe_int (pa_cons (pe_gi T.MOST_PLACE) pa_nil))))))))) (pss_one (ps_ret pe_bl)) pss_nil)
      (pss_one (ps_ret (pe_and (pe_c c_is_name (hr.mono (by decide)) (by rfl) pass0 (pa_cons (pv 1) pa_nil)) (pe_and (pe_c c_is_within (hr.mono (by decide)) (by rfl) pass0 (pa_cons (pv 2) (pa_cons pe_int (pa_cons (pe_gi T.MOST_SIZE) pa_nil)))) (pe_one (pe_or (pe_cmpR (op_b g) (pv 4) pe_non (nomark _)) (pe_one (pe_c c_is_lane (hr.mono (by decide)) (by rfl) pass0 (pa_cons (pv 4) pa_nil)))))))))))), ?_⟩
  obtain ⟨v, rfl, r1⟩ := r.one
  obtain ⟨n, sz, pl⟩ := a
  obtain ⟨h1, h2, h3⟩ := hp
  have r2 : Rp (CB K) H v (.tup [.str n, .int sz, optD pl, .non]) := r1
  refine qd_no (et_is (et_or (et_not (et_val (ed_cb (ea1 (ed_var rfl r2) (ea1 ed_ty ea0)) (k_isi rfl kit_tt)))) fun _ => et_cmp (ed_op (ed_cb (ea1 (ed_var rfl r2) ea0) k_lent) ed_int o_nei)) (by kernel_rfl)) fun H1 e1 => ?_
  refine qd_four (ed_var rfl (r2.ex e1)) fun v1 v2 v3 v4 H2 e2 r1 r2 r3 r4 => ?_
  refine qd_no ?_ fun H3 e3 => ?_
  · cases pl with
    | none => exact et_is (et_and (b := false) (et_cmp (ed_op (ed_var rfl r3) ed_non o_notN)) fun z => absB z (by kernel_rfl)) (by kernel_rfl)
    | some i =>
      obtain ⟨b1, b2⟩ := h3 i rfl
      exact et_is (et_and (et_cmp (ed_op (ed_var rfl r3) ed_non o_notN)) fun _ => et_not (et_val (ed_call (i, 0, 1999) (ea1 (ed_var rfl r3) (ea1 ed_int (ea1 ed_int ea0))) trivial))) (by
        rw [decide_eq_true (show (0 : Int) ≤ i from b1), decide_eq_true (show i ≤ 1999 from b2)]
        kernel_rfl)
  · refine ret_of (ed_and (ed_call n (ea1 (ed_var rfl (r1.ex e3)) ea0) h1) fun _ => ed_and (ed_call (sz, 1, 99) (ea1 (ed_var rfl (r2.ex e3)) (ea1 ed_int (ea1 ed_int ea0))) trivial) fun _ => ed_or (b := false) (ed_op (ed_var rfl (r4.ex e3)) ed_non o_isN) fun z => absB z (by kernel_rfl)) rfl (q_ex (e1.trans (e2.trans e3)) q) ?_
    show D.bl _ = D.bl _
    rw [decide_eq_true (show (1 : Int) ≤ sz from h2.1), decide_eq_true (show sz ≤ 99 from h2.2)]
    rfl
abbrev spNone {α : Type} (C : Addr) (args : α → List D) (pre : α → Prop) : Sp := spF C args pre fun _ => .non
theorem not_mem_take {α : Type} {l : List α} (nd : l.Nodup) {k : Nat} {x : α} (h : l[k]? = some x) : x ∉ l.take k := by
  intro hm
  have h2 : x ∈ l.drop k := List.mem_of_getElem? (i := 0) (by rw [List.getElem?_drop]; exact h)
  rw [← List.take_append_drop k l] at nd
  exact (List.nodup_append.mp nd).2.2 x hm x h2 rfl
abbrev spCkRooms (C : Addr) : Sp := spNone C (fun hs : List Hall => [hallsD hs]) HallsOk
theorem nameAt (h : Hall) : atI [D.str h.name, .int h.size, optD h.at_, .non] 0 = some (.str h.name) := at0
theorem c_check_rooms (T : TF w K mg) (c_is_room : Callee P w K mg base "is_room" 4 ["thing"] (spRoom (CB K))) : Callee P w K mg base "check_rooms" 5 ["thing"] (spCkRooms (CB K)) := by
  obtain ⟨fd, F⟩ := T.d_check_rooms
  refine callee_of F (F.ok sc_check_rooms (spA_len fun _ => rfl) fun cdv A outer s H vs Q E hr h => ?_) T.g_check_rooms fun _ _ _ _ _ _ us hl => match us, hl with | [_], _ => rfl
  obtain ⟨a, r, hp, q⟩ := h
  have g : Good P w K (L2.Cx.nox (cxOf CX0 P w K mg base ["thing", "known", "number", "room"] "check_rooms" (defScope s_check_rooms) (He.ga K "check_rooms") cdv A outer s H E)) := ⟨rfl, rfl, rfl, rfl, hu_un hr⟩
  have hu := hu_of hr
  refine ⟨_, PSs.nox (pss_cons (ps_if (PW.pt (pw_or (pt_not (pt_val (pe_callB (c_b g) (by rfl) T.f_isinstance bt_isinstance (pa_cons (pv 0) (pa_cons (pe_ty T.f_tuple bt_tuple) pa_nil))))) (pw_or1 (pt_cmpR (op_b g) (pe_callB (c_b g) (by rfl) T.f_len bt_len (pa_cons (pv 0) pa_nil)) (pe_gi T.MOST_ROOMS) (nomark _))))) (pss_one ps_never) pss_nil)
      (pss_cons (ps_set (i := 1) sc_check_rooms.nd rfl (Or.inl rfl) pe_dnewK)
      (pss_one (ps_for PassesOwn.never g.calm (pi_enumT (by rfl) T.f_enumerate (pa_cons (pv 0) pa_nil)) (pg_tup rfl (pgs_cons (pg_name (i := 2) sc_check_rooms.nd rfl (Or.inl rfl)) (pgs_cons (pg_name (i := 3) sc_check_rooms.nd rfl (Or.inl rfl)) pgs_nil))) (pss_cons (ps_if (PW.pt (pw_or (pt_not (pt_val (pe_c c_is_room (hr.mono (by decide)) (by rfl) pass0 (pa_cons (pv 3) pa_nil)))) (pw_or1 (pt_cmpR (op_b g) (pe_ix (ix_b g) (pv 3) pe_int (fun _ _ => rfl)) (pv 1) rfl)))) (pss_one ps_never) pss_nil)
      (pss_one (ps_asg pe_bl (pg_sub (pv 1) (pe_ix (ix_b g) (pv 3) pe_int (fun _ _ => rfl)) (set_b g))))))))), ?_⟩
  obtain ⟨v, rfl, r1⟩ := r.one
  refine qd_no (et_is (et_or (et_not (et_val (ed_cb (ea1 (ed_var rfl r1) (ea1 ed_ty ea0)) (k_isi rfl kit_tt)))) fun _ => et_cmp (ed_op (ed_cb (ea1 (ed_var rfl r1) ea0) k_lent) ed_int o_gt)) (by
    rw [List.length_map, decide_eq_false (by have := hp.few; omega)]
    rfl)) fun H1 e1 => ?_
  refine q_dnew fun d hd => ?_
  refine q_for0 (xs := a.zipIdx) (F := fun p => D.tup [.int (p.2 : Nat), p.1.D]) (ei_enumTM (ed_var rfl (r1.ex (e1.trans (Ex.new hd))))) (fun p _ => by
    show (true && (p.1.D.fz && true)) = true
    rw [p.1.fz]
    rfl) fun H2 e2 => ?_
  refine ⟨fun i σ' H' => (∃ u1 u2, σ' = [some v, some (.ref d), u1, u2]) ∧ Tx H2 H' ∧ Ex H H' ∧ ∃ ks kvs, H' d = some (.dK ks) ∧ RK (Rp (CB K) H') ks kvs ∧ (∀ p ∈ kvs, p.2 = .bl true) ∧ kvs.length ≤ i ∧ ∀ z, (lookD kvs (.inr z)).isSome = true → z ∈ (a.take i).map Hall.name,
    ⟨⟨_, _, rfl⟩, Tx.refl _, (e1.trans (Ex.new hd)).trans e2, [], [], e2 _ _ upd_same, True.intro, fun _ h => (nomatch h), Nat.le_refl _, fun z h => (nomatch h)⟩, fun i σ' H' p => p.2.1, ?_, ?_⟩
  · rintro i ⟨h, k⟩ x σ' H' H'' hi ⟨⟨u1, u2, rfl⟩, p1, p2, ks, kvs, p3, p4, p5, p6, p7⟩ e3 r3
    obtain ⟨hi', rfl⟩ : a[i]? = some h ∧ i = k := by
      rw [List.getElem?_zipIdx] at hi
      cases q : a[i]? with
      | none => rw [q] at hi; cases hi
      | some y => rw [q] at hi; simpa using hi
    have hm : h ∈ a := List.mem_of_getElem? hi'
    refine g_two r3 fun v1 v2 r4 r5 => ?_
    have p3' := e3 _ _ p3
    have p4' : RK (Rp (CB K) H'') ks kvs := p4.imp fun v d r => r.ex e3
    have hno : lookD kvs (Sum.inr h.name) = none := by
      cases q : lookD kvs (Sum.inr h.name) with
      | none => rfl
      | some dd =>
        have hin := p7 h.name (by rw [q]; rfl)
        rw [List.map_take] at hin
        exact absurd hin (not_mem_take hp.nd (by rw [List.getElem?_map, hi']; rfl))
    refine qd_no (et_is (et_or (et_not (et_val (ed_call h (ea1 (ed_var rfl r5) ea0) (hp.ok h hm)))) fun _ => et_cmp (ed_op (ed_op (ed_var rfl r5) ed_int (o_ixt (nameAt h))) (ed_var rfl (show Rp (CB K) H'' (.ref d) (.dk kvs) from ⟨d, ks, rfl, p3', rpK_iff.mpr p4'⟩)) (o_inK (k := Sum.inr h.name)))) (by
      rw [hno]
      rfl)) fun H3 e4 => ?_
    refine q_putK (k := Sum.inr h.name) ed_bl (ev_var rfl) (ed_op (ed_var rfl (r5.ex e4)) ed_int (o_ixt (nameAt h))) (e4 _ _ p3') (by rw [p4.length]; have := hp.few; have := (List.getElem?_eq_some_iff.mp hi').1; omega) fun v' H4 e5 r6 => ?_
    have eA : Ex H'' H4 := e4.trans e5
    have hd4 : H4 d = some (.dK ks) := eA _ _ p3'
    have t4 : Tx H4 (upd H4 d (.dK (putK ks (Sum.inr h.name) v'))) := Tx.dk hd4
    refine ⟨⟨_, _, rfl⟩, p1.trans ((Tx.ex (e3.trans eA)).trans t4), Ex.mut ((p2.trans e3).trans eA) (fresh_back e1 hd), _, putD kvs (Sum.inr h.name) (.bl true), upd_same, RK.put (RK.fz t4 (fun p hp => by rw [p5 p hp]; rfl) (p4'.imp fun v d r => r.ex eA)) (r6.fz t4 rfl), fun p hp => (putD_mem hp).elim (p5 p) id, ?_, fun z hz => ?_⟩
    · have := putD_length (m := kvs) (k := (Sum.inr h.name : Key)) (d := D.bl true)
      omega
    · rw [lookD_put] at hz
      rw [take_item hi', List.map_append, List.mem_append]
      by_cases e : (Sum.inr z : Key) = Sum.inr h.name
      · cases e
        exact .inr (by simp)
      · rw [if_neg e] at hz
        exact .inl (p7 z hz)
  · rintro σ' H' ⟨_, _, p2, _⟩
    exact q _ _ H' rfl p2 rfl (.fz rfl)
abbrev spStands (C : Addr) : Sp := spF C (fun p : Cmd × List Hall => [p.1.D, hallsD p.2]) (fun p => p.1.inn p.2 ∧ HallsOk p.2) fun _ => .bl true
theorem fourD (h : Hall) : h.D = .tup [.str h.name, .int h.size, optD h.at_, .non] := rfl
theorem c_stands_in (T : TF w K mg) (c_is_command : Callee P w K mg base "is_command" 5 ["thing"] (spCom (CB K))) (c_rooms_of : Callee P w K mg base "rooms_of" 2 ["command"] (spRooms (CB K))) :
    Callee P w K mg base "stands_in" 6 ["command", "rooms"] (spStands (CB K)) := by
  obtain ⟨fd, F⟩ := T.d_stands_in
  refine callee_of F (F.ok sc_stands_in (spA_len fun _ => rfl) fun cdv A outer s H vs Q E hr h => ?_) T.g_stands_in fun _ _ _ _ _ _ us hl => match us, hl with | [_, _], _ => rfl
  obtain ⟨a, r, hp, q⟩ := h
  have g : Good P w K (L2.Cx.nox (cxOf CX0 P w K mg base ["command", "rooms", "owners", "name", "size", "place", "owner"] "stands_in" (defScope s_stands_in) (He.ga K "stands_in") cdv A outer s H E)) := ⟨rfl, rfl, rfl, rfl, hu_un hr⟩
  have hu := hu_of hr
  refine ⟨_, PSs.nox (pss_cons (ps_if (pt_not (pt_val (pe_c c_is_command (hr.mono (by decide)) (by rfl) pass0 (pa_cons (pv 0) pa_nil)))) (pss_one (ps_ret pe_bl)) pss_nil)
      (pss_cons (ps_set (i := 2) sc_stands_in.nd rfl (Or.inr rfl) (pe_dc (own := [("name", 3), ("size", 4), ("place", 5), ("owner", 6)]) (g := (gTup K 4 (gCons (gName 3) (gCons (gName 4) (gCons (gName 5) (gCons (gName 6) gNil)))))) g.calm sc_stands_in.nd (pi_b g (pv 1)) (blkOk_by (by kernel_rfl)) (fun _ _ _ _ _ => (pg_tup rfl (pgs_cons (pg_name (i := 3) sc_stands_in.nd rfl (Or.inl rfl)) (pgs_cons (pg_name (i := 4) sc_stands_in.nd rfl (Or.inl rfl)) (pgs_cons (pg_name (i := 5) sc_stands_in.nd rfl (Or.inl rfl)) (pgs_cons (pg_name (i := 6) sc_stands_in.nd rfl (Or.inl rfl)) pgs_nil)))))) (fun _ _ _ _ _ => pts_nil) (fun _ _ _ _ _ => (pv 3)) (fun _ _ _ _ _ => (pv 6))))
      (pss_cons (ps_if (pt_not (pt_val (pe_callB (c_b g) (by rfl) T.f_all bt_all (pa_cons (pe_lc (own := [("name", 3)]) g.calm sc_stands_in.nd (pi_b g (pe_c c_rooms_of (hr.mono (by decide)) (by rfl) pass0 (pa_cons (pv 0) pa_nil))) (blkOk_by (by kernel_rfl)) (fun _ _ _ _ _ => (pg_name (i := 3) sc_stands_in.nd rfl (Or.inl rfl))) (fun _ _ _ _ _ => pts_nil) (fun _ _ _ _ _ => (pe_cmpR (op_b g.b) (pv 3) (pv 2) rfl))) pa_nil)))) (pss_one (ps_ret pe_bl)) pss_nil)
      (pss_one (ps_ret (pe_or (pe_cmpR (op_b g) (pe_ix (ix_b g) (pv 0) pe_int (fun _ _ => rfl)) (pe_tup (pa_cons pe_str (pa_cons pe_str pa_nil))) rfl) (pe_one (pe_cmpR (op_b g) (pe_ix (ix_b g) (pv 2) (pe_ix (ix_b g) (pv 0) pe_int (fun _ _ => rfl)) (fun _ _ => rfl)) pe_non (nomark _))))))))), ?_⟩
  obtain ⟨v, u, rfl, r1, r2⟩ := r.two
  obtain ⟨c, hs⟩ := a
  obtain ⟨⟨h1, h2⟩, h3⟩ := hp
  refine qd_no (et_is (et_not (et_val (ed_call c (ea1 (ed_var rfl r1) ea0) h1))) rfl) fun H1 e1 => ?_
  refine qd_asgP (ev_dc (xs := hs) (fun h => (Sum.inr h.name : Key)) (fun _ => .non) (ei_tup (ed_var rfl (r2.ex e1))) (Nat.le_trans h3.few (by decide)) (fun _ _ => rfl)
    fun h x H2 hm e2 r3 k q' => g_four r3 fun v1 v2 v3 v4 q1 q2 q3 q4 => q' _ rfl (ed_var rfl q1) (ed_var rfl q4)) fun v' H2 e2 ⟨r3, _⟩ => ?_
  refine qd_no (et_is (et_not (et_val (b := true) (C := CB K) ?_)) rfl) fun H3 e3 => ?_
  · refine EdX.ed (edx_cb (edx_map (fun z : Str => .bl (decide (z ∈ hs.map Hall.name))) (eix_tup (EdX.imp (edx_call c (ea1 (ed_var rfl (r1.ex (e1.trans e2))) ea0) h1) fun d ⟨zs, p1, p2, p3⟩ => ⟨zs, p1, (⟨p2, p3⟩ : (∀ z, z ∈ zs ↔ z ∈ c.src ++ c.dst) ∧ zs.length ≤ 4)⟩))
      (fun xs p => Nat.le_trans p.2 (by decide)) (fun _ _ _ _ => rfl) fun xs p z x H3 hm e3 r4 k q' => q' _ rfl ?_) fun d ⟨xs, ed, p⟩ => ⟨.bl true, ?_, rfl⟩)
    · refine (ed_op (ed_var rfl r4) (ed_var rfl (r3.ex e3)) (o_inK (k := Sum.inr z))).is ?_
      rw [dcD_some]
      refine congrArg D.bl (decide_eq_decide.mpr ?_)
      rw [List.mem_map, List.mem_map]
      exact ⟨fun ⟨h, hh, e⟩ => ⟨h, hh, Sum.inr.inj e⟩, fun ⟨h, hh, e⟩ => ⟨h, hh, congrArg Sum.inr e⟩⟩
    · rw [ed]
      have h := k_allM (P := P) (w := w) (K := K) (C := CB K) (xs := xs) (g := fun z => decide (z ∈ hs.map Hall.name))
      rw [List.all_eq_true.mpr fun z hz => decide_eq_true (h2 z ((p.1 z).mp hz))] at h
      exact h
  · refine ret_of (ed_or (b := true) (ed_op (ed_op (ed_var rfl (c.hD ▸ r1.ex (e1.trans (e2.trans e3)))) ed_int (o_ixt at0)) (ed_tup (ea1 ed_str (ea1 ed_str ea0))) (o_nintup (zs := ["give", "take"]))) fun z => ?_) rfl (q_ex (e1.trans (e2.trans e3)) q) ?_
    · cases c <;> exact absB z (by kernel_rfl)
    · cases c <;> rfl
end
end Fl
set_option maxHeartbeats 2000000
namespace Fl
open PySem PySem.Spec PyProof.Rows L2 Evl
section
variable {P : Program} {w : World} {K : PySem.W.Frag} {C : Addr} {σ : L2.St} {H : Hp}
theorem ev_lc2 {α β : Type} {wi wi1 : TI} {g g1 : TG} {te : TE} {vs vs1 : List Nat} {B : Hp → Addr → Prop} {xs : List α} {F : α → D} (ys : α → List β) (Gf : β → D) (f : α → β → D) (h : EvI C wi σ H (xs.map F) B) (hl : (xs.flatMap ys).length ≤ 40000) (hz : ∀ a ∈ xs, ∀ b ∈ ys a, (Gf b).fz = true) (hf : ∀ a ∈ xs, ∀ b ∈ ys a, (f a b).fz = true)
    (hs : ∀ (a : α) (x : V) (H1 : Hp), a ∈ xs → Ex H H1 → Rp C H1 x (F a) → ∀ k : L2.St → Hp → Prop, (∀ σ2, wipe σ2 vs = wipe σ vs → EvI C wi1 σ2 H1 ((ys a).map Gf) B0 →
      (∀ (b : β) (y : V) (H2 : Hp), b ∈ ys a → Ex H H2 → Rp C H2 y (Gf b) → ∀ k' : L2.St → Hp → Prop, (∀ σ3, wipe σ3 vs1 = wipe σ2 vs1 → Ed C te σ3 H2 (f a b) → k' σ3 H2) → g1 y (wipe σ2 vs1) H2 k') → k σ2 H1) → g x (wipe σ vs) H1 k) :
    EvP (tLc2 wi g tYes wi1 g1 tYes te vs vs1) σ H fun v H2 => Rp C H2 v (.lst (xs.flatMap fun a => (ys a).map (f a))) ∧ Nw H v (.lst (xs.flatMap fun a => (ys a).map (f a))) := fun H0 e Q q => h H0 e _ fun J A H1 e1 dw hA Dl hD => by
  obtain ⟨G, Y, wk, hG, hY⟩ := dw.ex
  refine w_it wk (fun i H' => Ex H1 H' ∧ ∃ acc, H' Dl = some (.lst acc) ∧ RpL C H' acc ((xs.take i).flatMap fun a => (ys a).map (f a))) ⟨Ex.new hD, [], upd_same, True.intro⟩ (fun i H' _ p => hG H' (fun a ha => by
      obtain ⟨_, o, ho⟩ := hA a ha
      rw [ho]
      exact p.1 a _ ho) (Tx.ex p.1)) (fun i x H2 H3 hi p y => ?_) fun H' p => ?_
  · obtain ⟨p1, acc, p2, p3⟩ := p
    obtain ⟨e3, d, hd, hr⟩ := hY i H2 x H3 hi (fun a ha => by
      obtain ⟨_, o, ho⟩ := hA a ha
      rw [ho]
      exact p1 a _ ho) (Tx.ex p1) y
    have eH : Ex H1 H3 := p1.trans e3
    have hr := hr (.inl p1)
    obtain ⟨a, ha, rfl⟩ := item_of hd
    have hb : ((xs.take (i + 1)).flatMap ys).length ≤ 40000 := by
      refine Nat.le_trans ?_ hl
      have e : xs.flatMap ys = (xs.take (i + 1)).flatMap ys ++ (xs.drop (i + 1)).flatMap ys := by
        rw [← List.flatMap_append, List.take_append_drop]
      rw [e, List.length_append]
      omega
    rw [take_item ha, List.flatMap_append, List.flatMap_singleton] at hb
    rw [take_item ha, List.flatMap_append, List.flatMap_singleton]
    refine hs a x H3 (List.mem_of_getElem? ha) ((e.trans e1).trans eH) hr _ fun σ2 hw hI hin => ⟨hw, ?_⟩
    show wi1 σ2 H3 _
    refine hI H3 (Ex.refl _) _ fun J1 A1 H4 e4 dw1 hA1 => ?_
    obtain ⟨G1, Y1, wk1, hG1, hY1⟩ := dw1.ex
    have e4' : Ex H1 H4 := eH.trans e4
    have hA0 : A1 = [] := by
      cases A1 with
      | nil => rfl
      | cons b bs => exact (hA1 b List.mem_cons_self).1.elim
    subst hA0
    have ham : a ∈ xs := List.mem_of_getElem? ha
    have hD4 : H4 Dl = some (.lst acc) := e4 _ _ (e3 _ _ p2)
    refine w_it wk1 (fun j H' => Tx H4 H' ∧ Ex H1 H' ∧ ∃ acc, H' Dl = some (.lst acc) ∧ RpL C H' acc (((xs.take i).flatMap fun a => (ys a).map (f a)) ++ ((ys a).take j).map (f a))) ⟨Tx.refl _, e4', acc, hD4, by
        rw [List.take_zero, List.map_nil, List.append_nil]
        exact p3.ex (e3.trans e4)⟩
      (fun j H' _ p => hG1 H' (fun _ z => nomatch z) p.1) (fun j y2 H5 H6 hj p yy => ?_) fun H' p => ?_
    · obtain ⟨p0, p1', acc', p2', p3'⟩ := p
      obtain ⟨e6, d2, hd2, hr2⟩ := hY1 j H5 y2 H6 hj (fun _ z => nomatch z) p0 yy
      obtain ⟨b, hb2, rfl⟩ := item_of hd2
      have hbm : b ∈ ys a := List.mem_of_getElem? hb2
      have hr2 := hr2 (.inr (hz a ham b hbm))
      refine hin b y2 H6 hbm ((e.trans e1).trans (p1'.trans e6)) hr2 _ fun σ3 hw3 he => ⟨hw3, ?_⟩
      refine he H6 (Ex.refl _) _ fun v H7 e7 r7 => ?_
      have hD7 := e7 _ _ (e6 _ _ p2')
      have hlt : acc'.length < sizeLine := by
        have h1 : acc'.length ≤ 40000 := by
          rw [p3'.length, List.length_append, List.length_map, List.length_take]
          rw [List.length_append] at hb
          have h2 : ((xs.take i).flatMap fun a => (ys a).map (f a)).length = ((xs.take i).flatMap ys).length := by
            rw [List.length_flatMap, List.length_flatMap]
            congr 1
            exact List.map_congr_left fun c _ => List.length_map _
          omega
        exact Nat.lt_of_le_of_lt h1 (by decide)
      have hfz : fzL (((xs.take i).flatMap fun a => (ys a).map (f a)) ++ ((ys a).take j).map (f a)) = true := fzL_append (fzL_iff.mpr fun d hd => by
        obtain ⟨c, hc, hdc⟩ := List.mem_flatMap.mp hd
        obtain ⟨b', hb', rfl⟩ := List.mem_map.mp hdc
        exact hf c (List.mem_of_mem_take hc) b' hb') (fzL_map fun b' hb' => hf a ham b' (List.mem_of_mem_take hb'))
      rw [take_item hb2, List.map_append, ← List.append_assoc]
      exact ⟨acc', hD7, hlt, (p0.trans ((Tx.ex e6).trans (Tx.ex e7))).trans (Tx.lst hD7), Ex.mut ((p1'.trans e6).trans e7) hD, acc' ++ [v], upd_same,
        rpl_upd (p := Dl) hD7 (fzL_append hfz (fzL_iff.mpr fun z hz' => by
          have e : z = f a b := by simpa using hz'
          rw [e]
          exact hf a ham b hbm)) ((p3'.ex (e6.trans e7)).snoc r7)⟩
    · obtain ⟨p0, p1', acc', p2', p3'⟩ := p
      rw [show ((ys a).map Gf).length = (ys a).length from List.length_map _, List.take_length] at p3'
      exact ⟨p1', acc', p2', p3'⟩
  · obtain ⟨p1, acc, p2, p3⟩ := p
    rw [show (xs.map F).length = xs.length from List.length_map _, List.take_length] at p3
    exact q (.ref Dl) H' (e1.trans p1) ⟨⟨Dl, acc, rfl, p2, p3⟩, fun _ a ea => by
      cases ea
      exact fresh_back (e.trans e1) hD⟩
end
end Fl
set_option maxHeartbeats 4000000
namespace Fl
open PySem PySem.Spec PyProof.Rows L2 Evl
structure LanesOk (hs : List Hall) (ls : List (List Cmd)) : Prop where
  few : ls.length ≤ 6
  tot : (ls.map List.length).sum ≤ 60
  inn : ∀ row ∈ ls, ∀ c ∈ row, c.inn hs
  sets : ∀ (i j : Nat) r r' f b b', ls[i]? = some r → ls[j]? = some r' → Cmd.set f b ∈ r → Cmd.set f b' ∈ r' → i = j
theorem sum_cast {α : Type} (f : α → Nat) : ∀ xs : List α, (xs.map fun a => (f a : Int)).sum = ((xs.map f).sum : Nat)
  | [] => rfl
  | a :: xs => by
    rw [List.map_cons, List.sum_cons, sum_cast f xs, List.map_cons, List.sum_cons]
    push_cast
    rfl
theorem le_sum {α : Type} (f : α → Nat) : ∀ {xs : List α} {a : α}, a ∈ xs → f a ≤ (xs.map f).sum
  | b :: xs, a, h => by
    rw [List.map_cons, List.sum_cons]
    rcases List.mem_cons.mp h with h | h
    · subst h; omega
    · have := le_sum f h; omega
theorem zipIdx_get {α : Type} {l : List α} {i : Nat} {h : α} {k : Nat} (e : l.zipIdx[i]? = some (h, k)) : l[i]? = some h ∧ k = i := by
  rw [List.getElem?_zipIdx] at e
  cases q : l[i]? with
  | none => rw [q] at e; cases e
  | some y =>
    rw [q] at e
    have e' : (y, 0 + i) = (h, k) := Option.some.inj e
    injection e' with e1 e2
    exact ⟨by rw [e1], by omega⟩
theorem sc_check_lanes : FnScope ["rooms", "lanes", "setters", "lane", "row", "number", "command"] ["rooms", "lanes"] (defScope s_check_lanes) := ⟨rfl, rfl, rfl, by decide +kernel, rfl, by decide +kernel, by decide +kernel⟩
theorem sc_Book_init : FnScope ["self", "rooms", "lanes"] ["self", "rooms", "lanes"] (defScope s_Book_init) := ⟨rfl, rfl, rfl, by decide +kernel, rfl, by decide +kernel, by decide +kernel⟩
theorem sc_Book_spots : FnScope ["self", "lane", "row", "number"] ["self"] (defScope s_Book_spots) := ⟨rfl, rfl, rfl, by decide +kernel, rfl, by decide +kernel, by decide +kernel⟩
theorem sc_Book_command : FnScope ["self", "spot"] ["self", "spot"] (defScope s_Book_command) := ⟨rfl, rfl, rfl, by decide +kernel, rfl, by decide +kernel, by decide +kernel⟩
theorem sc_check_book : FnScope ["thing"] ["thing"] (defScope s_check_book) := ⟨rfl, rfl, rfl, by decide +kernel, rfl, by decide +kernel, by decide +kernel⟩
theorem sc_is_spot : FnScope ["book", "thing"] ["book", "thing"] (defScope s_is_spot) := ⟨rfl, rfl, rfl, by decide +kernel, rfl, by decide +kernel, by decide +kernel⟩
theorem sc_check_spot : FnScope ["book", "thing"] ["book", "thing"] (defScope s_check_spot) := ⟨rfl, rfl, rfl, by decide +kernel, rfl, by decide +kernel, by decide +kernel⟩
section
variable {C : Addr} {σ : L2.St} {H : Hp} {te td ty tx : TE} {t : TT} {tu tz : TS} {E : Ends}
theorem ql_no (h : EvT t σ H false) (k : ∀ H1, Ex H H1 → E.nx σ H1) : tIfS t tu tNext E σ H := h H (Ex.refl H) _ fun H1 e => by
  rw [if_neg (by decide)]
  exact k H1 e
theorem q_drop {Φ : V → Hp → Prop} (h : EvP te σ H Φ) (k : ∀ H1, Ex H H1 → tz E σ H1) : tSeq (tDrop te) tz E σ H := h H (Ex.refl H) _ fun v H1 e _ => k H1 e
theorem ev_dsetd {a : Addr} {k : Key} {ks : List (Key × V)} {dx : D} {Q : VK} (ho : EvP td σ H fun v _ => v = V.ref a) (hk : Ed C ty σ H (kD k)) (hx : Ed C tx σ H dx) (ha : H a = some (.dK ks)) (hl : ks.length ≤ 10000)
    (found : ∀ v H1, Ex H H1 → valV ks k = some v → Q v H1) (miss : ∀ v H1, Ex H H1 → Rp C H1 v dx → valV ks k = none → Q v (upd H1 a (.dK (putK ks k v)))) : tDSetd td ty tx σ H Q :=
  ho H (Ex.refl H) _ fun u H1 e1 r1 => ⟨a, r1, .inl ⟨ks, .inl (e1 _ _ ha)⟩, hk H1 e1 _ fun y H2 e2 r2 => hx H2 (e1.trans e2) _ fun z H3 e3 r3 => by
    have e := (e1.trans e2).trans e3
    exact ⟨ks, k, e _ _ ha, rp_key.mp r2, Nat.lt_of_le_of_lt hl (by decide), fun v hv => found v H3 e hv, fun hn => miss z H3 e r3 hn⟩⟩
end
section
variable {P : Program} {w : World} {K : PySem.W.Frag} {mg : Str → Option Value} {base : Heap}
theorem lookD_mem {κ : Type} [DecidableEq κ] {m : List (κ × D)} {k : κ} {d : D} (h : lookD m k = some d) : (k, d) ∈ m := by
  unfold lookD at h
  cases q : m.find? (fun kv => decide (kv.1 = k)) with
  | none => rw [q] at h; cases h
  | some p =>
    rw [q] at h
    have e1 := List.find?_some q
    have e2 := List.mem_of_find?_eq_some q
    have e3 : p.1 = k := of_decide_eq_true e1
    have e4 : p.2 = d := Option.some.inj h
    rw [← e3, ← e4]
    exact e2
theorem putD_memK {κ : Type} [DecidableEq κ] {m : List (κ × D)} {k : κ} {d : D} {p : κ × D} (h : p ∈ putD m k d) : p ∈ m ∨ p = (k, d) := by
  unfold putD at h
  split at h
  · obtain ⟨y, hy, e⟩ := List.mem_map.mp h
    split at e
    · right; rw [← e]
    · left; rw [← e]; exact hy
  · rcases List.mem_append.mp h with h | h
    · exact .inl h
    · exact .inr (List.mem_singleton.mp h)
abbrev spCkLanes (C : Addr) : Sp := spNone C (fun p : List Hall × List (List Cmd) => [hallsD p.1, lanesD p.2]) fun p => HallsOk p.1 ∧ LanesOk p.1 p.2
theorem c_check_lanes (T : TF w K mg) (c_stands_in : Callee P w K mg base "stands_in" 6 ["command", "rooms"] (spStands (CB K))) : Callee P w K mg base "check_lanes" 7 ["rooms", "lanes"] (spCkLanes (CB K)) := by
  obtain ⟨fd, F⟩ := T.d_check_lanes
  refine callee_of F (F.ok sc_check_lanes (spA_len fun _ => rfl) fun cdv A outer s H vs Q E hr h => ?_) T.g_check_lanes fun _ _ _ _ _ _ us hl => match us, hl with | [_, _], _ => rfl
  obtain ⟨a, r, hp, q⟩ := h
  have g : Good P w K (L2.Cx.nox (cxOf CX0 P w K mg base ["rooms", "lanes", "setters", "lane", "row", "number", "command"] "check_lanes" (defScope s_check_lanes) (He.ga K "check_lanes") cdv A outer s H E)) := ⟨rfl, rfl, rfl, rfl, hu_un hr⟩
  have hu := hu_of hr
  refine ⟨_, PSs.nox (pss_cons (ps_if (PW.pt (pw_or (pt_not (pt_val (pe_callB (c_b g) (by rfl) T.f_isinstance bt_isinstance (pa_cons (pv 1) (pa_cons (pe_ty T.f_tuple bt_tuple) pa_nil))))) (pw_or (pt_cmpR (op_b g) (pe_callB (c_b g) (by rfl) T.f_len bt_len (pa_cons (pv 1) pa_nil)) (pe_gi T.MOST_LANES_books) (nomark _)) (pw_or1 (pt_not (pt_val (pe_callB (c_b g) (by rfl) T.f_all bt_all (pa_cons (pe_lc (own := [("row", 4)]) g.calm sc_check_lanes.nd (pi_b g (pv 1)) (blkOk_by (by kernel_rfl)) (fun _ _ _ _ _ => (pg_name (i := 4) sc_check_lanes.nd rfl (Or.inl rfl))) (fun _ _ _ _ _ => pts_nil) (fun _ _ _ _ _ => (pe_callB (c_b g.b) (by rfl) T.f_isinstance bt_isinstance (pa_cons (pv 4) (pa_cons (pe_ty T.f_tuple bt_tuple) pa_nil))))) pa_nil)))))))) (pss_one ps_never) pss_nil)
      (pss_cons (ps_if (pt_cmpR (op_b g) (pe_callB (c_b g) (by rfl) T.f_sum bt_sum (pa_cons (pe_lc (own := [("row", 4)]) g.calm sc_check_lanes.nd (pi_b g (pv 1)) (blkOk_by (by kernel_rfl)) (fun _ _ _ _ _ => (pg_name (i := 4) sc_check_lanes.nd rfl (Or.inl rfl))) (fun _ _ _ _ _ => pts_nil) (fun _ _ _ _ _ => (pe_callB (c_b g.b) (by rfl) T.f_len bt_len (pa_cons (pv 4) pa_nil)))) pa_nil)) (pe_gi T.MOST_COMMANDS) (nomark _)) (pss_one ps_never) pss_nil)
      (pss_cons (ps_set (i := 2) sc_check_lanes.nd rfl (Or.inl rfl) pe_dnewK)
      (pss_one (ps_for PassesOwn.never g.calm (pi_enumT (by rfl) T.f_enumerate (pa_cons (pv 1) pa_nil)) (pg_tup rfl (pgs_cons (pg_name (i := 3) sc_check_lanes.nd rfl (Or.inl rfl)) (pgs_cons (pg_name (i := 4) sc_check_lanes.nd rfl (Or.inl rfl)) pgs_nil))) (pss_one (ps_for PassesOwn.never g.calm (pi_enumT (by rfl) T.f_enumerate (pa_cons (pv 4) pa_nil)) (pg_tup rfl (pgs_cons (pg_name (i := 5) sc_check_lanes.nd rfl (Or.inl rfl)) (pgs_cons (pg_name (i := 6) sc_check_lanes.nd rfl (Or.inl rfl)) pgs_nil))) (pss_cons (ps_if (pt_not (pt_val (pe_c c_stands_in (hr.mono (by decide)) (by rfl) pass0 (pa_cons (pv 6) (pa_cons (pv 0) pa_nil))))) (pss_one ps_never) pss_nil)
      (pss_one (ps_if (PW.pt (pw_and (pt_cmpR (op_b g) (pe_ix (ix_b g) (pv 6) pe_int (fun _ _ => rfl)) pe_str (nomark _)) (pw_and1 (pt_cmpR (op_b g) (pe_dsetd (pv 2) (pe_ix (ix_b g) (pv 6) pe_int (fun _ _ => rfl)) (pv 3) ⟨rfl, rfl, rfl, rfl⟩) (pv 3) (nomark _))))) (pss_one ps_never) pss_nil)))))))))), ?_⟩
  obtain ⟨v, u, rfl, r1, r2⟩ := r.two
  obtain ⟨hs, ls⟩ := a
  obtain ⟨h1, h2⟩ := (show HallsOk hs ∧ LanesOk hs ls from hp)
  replace r1 : Rp (CB K) H v (hallsD hs) := r1
  replace r2 : Rp (CB K) H u (lanesD ls) := r2
  refine qd_no (et_is (et_or (et_not (et_val (ed_cb (ea1 (ed_var rfl r2) (ea1 ed_ty ea0)) (k_isi rfl kit_tt)))) fun _ => et_or (et_cmp (ed_op (ed_cb (ea1 (ed_var rfl r2) ea0) k_lent) ed_int o_gt)) fun _ =>
    et_not (et_val (ed_cb (ea1 (ed_map (fun _ => .bl true) (ei_tup (ed_var rfl r2)) (Nat.le_trans h2.few (by decide)) (fun _ _ => rfl) fun i row x H1 hi e1 r3 k q' => q' _ rfl (ed_cb (ea1 (ed_var rfl r3) (ea1 ed_ty ea0)) (k_isi rfl kit_tt))) ea0) (k_allM (g := fun _ => true))))) (by
      rw [List.length_map, decide_eq_false (by have := h2.few; omega), List.all_eq_true.mpr fun _ _ => rfl]
      rfl)) fun H1 e1 => ?_
  refine qd_no (et_is (et_cmp (ed_op (ed_cb (ea1 (ed_map (fun row => .int ((row.map Cmd.D).length : Nat)) (ei_tup (ed_var rfl (r2.ex e1))) (Nat.le_trans h2.few (by decide)) (fun _ _ => rfl) fun i row x H1 hi e1 r3 k q' => q' _ rfl (ed_cb (ea1 (ed_var rfl r3) ea0) k_lent)) ea0) k_sumM) ed_int o_gt)) (by
      rw [sum_cast fun row : List Cmd => (row.map Cmd.D).length]
      refine decide_eq_false ?_
      have h := h2.tot
      have e : (ls.map fun row : List Cmd => (row.map Cmd.D).length) = ls.map List.length := List.map_congr_left fun r _ => List.length_map _
      rw [e]
      omega)) fun H2 e2 => ?_
  refine q_dnew fun d hd => ?_
  have e12 := e1.trans e2
  have eD : Ex H (upd H2 d (.dK [])) := e12.trans (Ex.new hd)
  refine q_for0 (xs := ls.zipIdx) (F := fun p => D.tup [.int (p.2 : Nat), laneD p.1]) (ei_enumTM (ed_var rfl (r2.ex eD))) (fun p _ => by
    show (true && ((laneD p.1).fz && true)) = true
    rw [laneD_fz]
    rfl) fun H3 e3 => ?_
  let St : Hp → Nat → Prop := fun H' m => Tx H3 H' ∧ Ex H H' ∧ ∃ ks kvs, H' d = some (.dK ks) ∧ RK (Rp (CB K) H') ks kvs ∧ kvs.length ≤ m ∧ ∀ p ∈ kvs, ∃ (f : Str) (i : Nat) (r : List Cmd) (b : Int), p = (Sum.inr f, D.int i) ∧ ls[i]? = some r ∧ Cmd.set f b ∈ r
  refine ⟨fun i σ' H' => (∃ u3 u4 u5 u6, σ' = [some v, some u, some (.ref d), u3, u4, u5, u6]) ∧ St H' (60 * i),
    ⟨⟨_, _, _, _, rfl⟩, Tx.refl _, eD.trans e3, [], [], e3 _ _ upd_same, True.intro, Nat.le_refl _, fun _ h => (nomatch h)⟩, fun i σ' H' p => p.2.1, ?_, ?_⟩
  · rintro i ⟨row, k⟩ x σ' H' H'' hi ⟨⟨u3, u4, u5, u6, rfl⟩, p1, p2, ks, kvs, p3, p4, p5, p6⟩ e4 r3
    obtain ⟨hi', rfl⟩ := zipIdx_get hi
    have hm : row ∈ ls := List.mem_of_getElem? hi'
    have hil : k < ls.length := (List.getElem?_eq_some_iff.mp hi').1
    have hrow : row.length ≤ 60 := Nat.le_trans (le_sum List.length hm) h2.tot
    refine g_two r3 fun v1 v2 r4 r5 => ?_
    have c4 : v1 = V.int (k : Nat) := r4
    subst c4
    refine q_for0 (xs := row.zipIdx) (F := fun p => D.tup [.int (p.2 : Nat), p.1.D]) (ei_enumTM (ed_var rfl r5)) (fun p _ => by
      show (true && (p.1.D.fz && true)) = true
      rw [p.1.fz]
      rfl) fun H5 e5 => ?_
    refine ⟨fun j σ' H' => (∃ u5 u6, σ' = [some v, some u, some (.ref d), some (.int (k : Nat)), some v2, u5, u6]) ∧ Tx H5 H' ∧ St H' (60 * k + j),
      ⟨⟨_, _, rfl⟩, Tx.refl _, p1.trans (Tx.ex (e4.trans e5)), (p2.trans e4).trans e5, ks, kvs, (e4.trans e5) _ _ p3, p4.imp fun _ _ r => r.ex (e4.trans e5), p5, p6⟩, fun i σ' H' p => p.2.1, ?_, ?_⟩
    · rintro j ⟨c, k2⟩ y σ2 H6 H7 hj ⟨⟨u5, u6, rfl⟩, t1, q1, q2, ks, kvs, q3, q4, q5, q6⟩ e7 r6
      obtain ⟨hj', rfl⟩ := zipIdx_get hj
      have hcm : c ∈ row := List.mem_of_getElem? hj'
      have hjl : k2 < row.length := (List.getElem?_eq_some_iff.mp hj').1
      refine g_two r6 fun w1 w2 r7 r8 => ?_
      have rv : Rp (CB K) H7 v (hallsD hs) := r1.ex (q2.trans e7)
      refine qd_no (et_is (et_not (et_val (ed_call (c, hs) (ea1 (ed_var rfl r8) (ea1 (ed_var rfl rv) ea0)) ⟨h2.inn row hm c hcm, h1⟩))) rfl) fun H8 e8 => ?_
      have e78 := e7.trans e8
      have r8' : Rp (CB K) H8 w2 (.tup (.str c.word :: c.parts)) := c.hD ▸ r8.ex e8
      have hkl : ks.length ≤ 10000 := by rw [q4.length]; have := h2.few; omega
      by_cases hset : ∃ f b, c = .set f b
      · obtain ⟨f, b, rfl⟩ := hset
        refine (et_cmp (ed_op (ed_op (ed_var rfl r8') ed_int (o_ixt at0)) ed_str o_eqs) : EvT _ _ H8 _) H8 (Ex.refl _) _ fun H9 e9 => ?_
        rw [if_pos (by kernel_rfl)]
        refine ev_dsetd (k := Sum.inr f) (ev_var rfl) (ed_op (ed_var rfl (r8'.ex e9)) ed_int (o_ixt (atI_nat (j := 1) rfl))) (ed_var (d := .int (k : Nat)) rfl rfl) ((e78.trans e9) _ _ q3) hkl (fun vv H10 e10 hv => ?_) fun vv H10 e10 rvv hn => ?_
        · have eA : Ex H6 H10 := (e78.trans e9).trans e10
          obtain ⟨dd, hdd, rdd⟩ : ∃ dd, lookD kvs (Sum.inr f) = some dd ∧ Rp (CB K) H6 vv dd := by
            rcases q4.val (Sum.inr f) with ⟨z, _⟩ | ⟨v0, d0, z1, z2, z3⟩
            · rw [hv] at z; cases z
            · rw [hv] at z1; cases z1; exact ⟨d0, z2, z3⟩
          obtain ⟨f', i', r', b', ep, hr', hb'⟩ := q6 _ (lookD_mem hdd)
          cases ep
          have ei : i' = k := h2.sets i' k r' row f b' b hr' hi' hb' hcm
          subst ei
          have evv : vv = V.int (i' : Nat) := rdd
          subst evv
          refine ⟨_, rfl, o_nei (C := CB K) (i := (i' : Nat)) (j := (i' : Nat)) H10 _ _ rfl rfl _ fun o H11 e11 ro => ⟨_, ro, ?_⟩⟩
          rw [decide_eq_true rfl]
          have eB := eA.trans e11
          exact ⟨⟨_, _, rfl⟩, t1.trans (Tx.ex eB), q1.trans (Tx.ex eB), q2.trans eB, ks, kvs, eB _ _ q3, q4.imp fun _ _ r => r.ex eB, by omega, q6⟩
        · have eA : Ex H6 H10 := (e78.trans e9).trans e10
          have evv : vv = V.int (k : Nat) := rvv
          subst evv
          have hd10 : H10 d = some (.dK ks) := eA _ _ q3
          have t10 : Tx H10 (upd H10 d (.dK (putK ks (Sum.inr f) (V.int (k : Nat))))) := Tx.dk hd10
          refine ⟨_, rfl, o_nei (C := CB K) (i := (k : Nat)) (j := (k : Nat)) _ _ _ rfl rfl _ fun o H11 e11 ro => ⟨_, ro, ?_⟩⟩
          rw [decide_eq_true rfl]
          have tB : Tx H6 H11 := (Tx.ex eA).trans (t10.trans (Tx.ex e11))
          refine ⟨⟨_, _, rfl⟩, t1.trans tB, q1.trans tB, (Ex.mut (q2.trans eA) (fresh_back e12 hd)).trans e11, _, putD kvs (Sum.inr f) (.int (k : Nat)), e11 _ _ upd_same, RK.put ?_ rfl, ?_, ?_⟩
          · refine RK.fz ((t10.trans (Tx.ex e11))) (fun p hp => ?_) (q4.imp fun _ _ r => r.ex eA)
            obtain ⟨f', i', r', b', ep, _⟩ := q6 p hp
            rw [ep]
            rfl
          · have := putD_length (m := kvs) (k := (Sum.inr f : Key)) (d := D.int (k : Nat))
            omega
          · intro p hp
            rcases putD_memK hp with hp | hp
            · exact q6 p hp
            · exact ⟨f, k, row, b, hp, hi', hcm⟩
      · refine ql_no (et_is (et_and (b := false) (et_cmp (ed_op (ed_op (ed_var rfl r8') ed_int (o_ixt at0)) ed_str o_eqs)) fun z => ?_) ?_) fun H9 e9 => ?_
        · cases c <;> first | exact absurd ⟨_, _, rfl⟩ hset | exact absB z (by kernel_rfl)
        · cases c <;> first | exact absurd ⟨_, _, rfl⟩ hset | kernel_rfl
        · have eB := e78.trans e9
          exact ⟨⟨_, _, rfl⟩, t1.trans (Tx.ex eB), q1.trans (Tx.ex eB), q2.trans eB, ks, kvs, eB _ _ q3, q4.imp fun _ _ r => r.ex eB, by omega, q6⟩
    · rintro σ2 H6 ⟨⟨u5, u6, rfl⟩, t1, q1, q2, ks, kvs, q3, q4, q5, q6⟩
      exact ⟨⟨_, _, _, _, rfl⟩, q1, q2, ks, kvs, q3, q4, by rw [List.length_zipIdx] at q5; omega, q6⟩
  · rintro σ' H' ⟨_, _, p2, _⟩
    exact q _ _ H' rfl p2 rfl (.fz rfl)
structure CalleeM (P : Program) (w : World) (K : PySem.W.Frag) (mg : Str → Option Value) (base : Heap) (f : Addr) (k : Nat) (ps : List Str) (sp : Sp) : Prop where
  ex : ∃ (fd : FuncData), FnOk P w K mg base CX0 k f fd ps sp ∧ Binds K fd ps []
def spInit (C : Addr) : Sp := fun vs H Q _ => ∃ p dx r l hs ls, vs = [.ref p, r, l] ∧ H p = some (.ins C dx []) ∧ Rp C H r (hallsD hs) ∧ Rp C H l (lanesD ls) ∧ HallsOk hs ∧ LanesOk hs ls ∧
  ∀ H', (∀ a o, a ≠ p → H a = some o → H' a = some o) → H' p = some (.ins C dx [("rooms", r), ("lanes", l)]) → Q .non H'
theorem spInit_len {C : Addr} : ∀ vs H Q E, spInit C vs H Q E → vs.length = 3 := fun vs H Q E ⟨_, _, _, _, _, _, e, _⟩ => by rw [e]; rfl
theorem binds_initA {d : V} {f : Addr} {fd : FuncData} (F : FunD K "__init__" "Book.__init__" (defArgs s_Book_init) (defBody s_Book_init) (defScope s_Book_init) [d] [] f fd) : Binds K fd ["self", "rooms", "lanes"] [] := by
  obtain ⟨ds, hv, b⟩ := F.binds1 (ps := ["self", "rooms", "lanes"]) 3 1 (by simp) rfl fun T kV doc pm an cdv ct us its hu hi => match us, its, hu, hi with
    | [_, _, _], [_], _, _ => ⟨_, rfl, rfl⟩
  cases hv
  exact b
theorem c_Book_init (T : TF w K mg) (c_check_rooms : Callee P w K mg base "check_rooms" 5 ["thing"] (spCkRooms (CB K))) (c_check_lanes : Callee P w K mg base "check_lanes" 7 ["rooms", "lanes"] (spCkLanes (CB K))) :
    CalleeM P w K mg base (He.ma K (CB K) "__init__") 8 ["self", "rooms", "lanes"] (spInit (CB K)) := by
  obtain ⟨fd, F⟩ := T.d_Book_init
  refine ⟨fd, F.ok sc_Book_init spInit_len fun cdv A outer s H vs Q E hr h => ?_, binds_initA F⟩
  have g : Good P w K (L2.Cx.nox (cxOf CX0 P w K mg base ["self", "rooms", "lanes"] "Book.__init__" (defScope s_Book_init) (He.ma K (CB K) "__init__") cdv A outer s H E)) := ⟨rfl, rfl, rfl, rfl, hu_un hr⟩
  have hu := hu_of hr
  refine ⟨_, PSs.nox (pss_cons (ps_expr (pe_c c_check_rooms (hr.mono (by decide)) (by rfl) pass0 (pa_cons (pv 1) pa_nil)))
      (pss_cons (ps_expr (pe_c c_check_lanes (hr.mono (by decide)) (by rfl) pass0 (pa_cons (pv 1) (pa_cons (pv 2) pa_nil))))
      (pss_cons (ps_fld (pv 0) (pv 1) rfl)
      (pss_one (ps_fld (pv 0) (pv 2) rfl))))), ?_⟩
  obtain ⟨p, dx, r, l, hs, ls, rfl, hp0, rr, rl, ho, lo, q⟩ := h
  refine q_drop (ed_call hs (ea1 (ed_var rfl rr) ea0) ho) fun H1 e1 => ?_
  refine q_drop (ed_call (hs, ls) (ea1 (ed_var rfl (rr.ex e1)) (ea1 (ed_var rfl (rl.ex e1)) ea0)) ⟨ho, lo⟩) fun H2 e2 => ?_
  have e := e1.trans e2
  refine ⟨_, rfl, _, rfl, p, CB K, dx, [], rfl, e _ _ hp0, T.cls, T.n_rooms, by decide, ?_⟩
  refine ⟨_, rfl, _, rfl, p, CB K, dx, _, rfl, upd_same, T.cls, T.n_lanes, (by show 1 < 1000; decide), ?_⟩
  exact q _ (fun a o ha h => by rw [upd_ne ha, upd_ne ha]; exact e _ _ h) upd_same
theorem ei_rangeN {ta : TA} {C : Addr} {σ : L2.St} {H : Hp} {n : Nat} (h : EdA C ta σ H [.int (n : Nat)]) (hn : n ≤ 100000) : EvI C (iRng1 ta) σ H ((List.range n).map fun i => D.int (i : Nat)) B0 := by
  have z := ei_range1 h (by omega)
  have e : rangeD 0 ((n : Nat) : Int).toNat = (List.range n).map fun i => D.int (i : Nat) := by
    simp [rangeD]
  rw [e] at z
  exact z
theorem ei_range2N {ta : TA} {C : Addr} {σ : L2.St} {H : Hp} {m n : Nat} (h : EdA C ta σ H [.int (m : Nat), .int (n : Nat)]) (hm : m ≤ 100000) (hn : n ≤ 100000) : EvI C (iRng2 ta) σ H ((List.range (n - m)).map fun i => D.int ((m + i : Nat) : Int)) B0 := by
  have z := ei_range2 h (by omega) (by omega)
  have e : rangeD (m : Nat) (((n : Nat) : Int) - (m : Nat)).toNat = (List.range (n - m)).map fun i => D.int ((m + i : Nat) : Int) := by
    have e2 : (((n : Nat) : Int) - (m : Nat)).toNat = n - m := by omega
    rw [e2]
    simp [rangeD]
  rw [e] at z
  exact z
abbrev spotD (s : Nat × Nat) : D := .tup [.int (s.1 : Nat), .int (s.2 : Nat)]
def spotsOf (ls : List (List Cmd)) : List (Nat × Nat) := ls.zipIdx.flatMap fun p => (List.range p.1.length).map fun n => (p.2, n)
abbrev bookD (p : List Hall × List (List Cmd)) : D := .book (hallsD p.1) (lanesD p.2)
structure Few (ls : List (List Cmd)) : Prop where
  few : ls.length ≤ 6
  tot : (ls.map List.length).sum ≤ 60
theorem spots_eq {ls : List (List Cmd)} : (ls.zipIdx.flatMap fun p => (List.range p.1.length).map fun n => D.tup [.int (p.2 : Nat), .int (n : Nat)]) = (spotsOf ls).map spotD := by
  unfold spotsOf
  rw [List.map_flatMap]
  congr 1
  funext p
  rw [List.map_map]
  rfl
theorem spots_len (ls : List (List Cmd)) : (spotsOf ls).length = (ls.map List.length).sum := by
  unfold spotsOf
  rw [List.length_flatMap]
  have e : (ls.zipIdx.map fun p => ((List.range p.1.length).map fun n => (p.2, n)).length) = (ls.zipIdx.map Prod.fst).map List.length := by
    rw [List.map_map]
    exact List.map_congr_left fun p _ => by simp
  rw [e, List.zipIdx_map_fst]
theorem laneF_fz (p : List Cmd × Nat) : (D.tup [.int (p.2 : Nat), laneD p.1]).fz = true := by
  show (true && ((laneD p.1).fz && true)) = true
  rw [laneD_fz]
  rfl
theorem flat_len (ls : List (List Cmd)) : (ls.zipIdx.flatMap fun p => List.range p.1.length).length = (ls.map List.length).sum := by
  rw [List.length_flatMap]
  have e : (ls.zipIdx.map fun p => (List.range p.1.length).length) = (ls.zipIdx.map Prod.fst).map List.length := by
    rw [List.map_map]
    exact List.map_congr_left fun p _ => by simp
  rw [e, List.zipIdx_map_fst]
theorem mem_zipIdx {α : Type} {l : List α} {p : α × Nat} (h : p ∈ l.zipIdx) : p.1 ∈ l := by
  obtain ⟨i, hi⟩ := List.getElem?_of_mem h
  obtain ⟨x, k⟩ := p
  exact List.mem_of_getElem? (zipIdx_get hi).1
abbrev spSpots (C : Addr) : Sp := spF C (fun p : List Hall × List (List Cmd) => [bookD p]) (fun p => Few p.2) fun p => .tup ((spotsOf p.2).map spotD)
theorem c_Book_spots (T : TF w K mg) : CalleeM P w K mg base (He.ma K (CB K) "spots") 1 ["self"] (spSpots (CB K)) := by
  obtain ⟨fd, F⟩ := T.d_Book_spots
  refine ⟨fd, F.ok sc_Book_spots (spA_len fun _ => rfl) fun cdv A outer s H vs Q E hr h => ?_, F.bindsN fun _ _ _ _ _ _ us hl => match us, hl with | [_], _ => rfl⟩
  obtain ⟨a, r, hp, q⟩ := h
  have g : Good P w K (L2.Cx.nox (cxOf CX0 P w K mg base ["self", "lane", "row", "number"] "Book.spots" (defScope s_Book_spots) (He.ma K (CB K) "spots") cdv A outer s H E)) := ⟨rfl, rfl, rfl, rfl, hu_un hr⟩
  have hu := hu_of hr
  refine ⟨_, PSs.nox (pss_one (ps_ret (pe_callTy (c_b g) (by rfl) T.f_tuple bt_tuple (pa_cons (pe_lc2 (own := [("lane", 1), ("row", 2), ("number", 3)]) (vs1 := [3]) (g := (gTup K 2 (gCons (gName 1) (gCons (gName 2) gNil)))) g.calm sc_Book_spots.nd (pi_enumT (by rfl) T.f_enumerate (pa_cons (pe_fld (pv 0) rfl) pa_nil)) (blkOk_by (by kernel_rfl)) (by decide) (fun _ _ _ _ _ => (pg_tup rfl (pgs_cons (pg_name (i := 1) sc_Book_spots.nd rfl (Or.inl rfl)) (pgs_cons (pg_name (i := 2) sc_Book_spots.nd rfl (Or.inl rfl)) pgs_nil)))) (fun _ _ _ _ _ => pts_nil) (fun _ _ _ _ _ => (pi_range1 (by rfl) T.f_range (pa_cons (pe_callB (c_b g.b) (by rfl) T.f_len bt_len (pa_cons (pv 2) pa_nil)) pa_nil))) (fun _ _ _ _ _ => (pg_name (i := 3) sc_Book_spots.nd rfl (Or.inl rfl))) (fun _ _ _ _ _ => pts_nil) (fun _ _ _ _ _ => (pe_tup (pa_cons (pv 1) (pa_cons (pv 3) pa_nil))))) pa_nil)))), ?_⟩
  obtain ⟨v, rfl, r1⟩ := r.one
  obtain ⟨hs, ls⟩ := a
  replace hp : Few ls := hp
  have hl := flat_len ls
  refine ret_of (d := .tup ((spotsOf ls).map spotD)) (ed_cb (ea1 (spots_eq ▸ EvP.imp (ev_lc2 (xs := ls.zipIdx) (F := fun p => D.tup [.int (p.2 : Nat), laneD p.1]) (fun p => List.range p.1.length) (fun n => D.int (n : Nat)) (fun p n => D.tup [.int (p.2 : Nat), .int (n : Nat)])
    (ei_enumTM (ed_fld (ed_var rfl r1) T.cls T.n_lanes (.inr ⟨rfl, rfl⟩))) (by rw [hl]; exact Nat.le_trans hp.tot (by decide)) (fun _ _ _ _ => rfl) (fun _ _ _ _ => rfl)
    fun p x H1 hm e1 r2 k q' => g_two r2 fun v1 v2 r3 r4 => q' _ rfl (ei_rangeN (n := p.1.length) (ea1 ((ed_cb (ea1 (ed_var rfl r4) ea0) k_lent).is (by rw [List.length_map])) ea0) (Nat.le_trans (Nat.le_trans (le_sum List.length (mem_zipIdx hm)) hp.tot) (by decide))) fun n y H2 hn e2 r5 k' q'' => q'' _ rfl (ed_tup (ea1 (ed_var rfl r3) (ea1 (ed_var rfl r5) ea0)))) fun v H2 _ p => p.1) ea0) k_tuple) ?_ q rfl
  exact fzL_map fun _ _ => rfl
structure Spot (ls : List (List Cmd)) (s : Nat × Nat) (row : List Cmd) (c : Cmd) : Prop where
  atR : ls[s.1]? = some row
  cmd : row[s.2]? = some c
theorem Spot.l1 {ls : List (List Cmd)} {s : Nat × Nat} {row : List Cmd} {c : Cmd} (h : Spot ls s row c) : s.1 < ls.length := (List.getElem?_eq_some_iff.mp h.atR).1
theorem Spot.l2 {ls : List (List Cmd)} {s : Nat × Nat} {row : List Cmd} {c : Cmd} (h : Spot ls s row c) : s.2 < row.length := (List.getElem?_eq_some_iff.mp h.cmd).1
structure SpotA where
  hs : List Hall
  ls : List (List Cmd)
  s : Nat × Nat
  row : List Cmd
  c : Cmd
abbrev SpotA.args (a : SpotA) : List D := [bookD (a.hs, a.ls), spotD a.s]
abbrev SpotA.pre (a : SpotA) : Prop := Spot a.ls a.s a.row a.c
abbrev spIsSpot (C : Addr) : Sp := spF C SpotA.args SpotA.pre fun _ => .bl true
theorem at1 {d1 d2 : D} {ds : List D} : atI (d1 :: d2 :: ds) 1 = some d2 := atI_nat (j := 1) rfl
theorem c_is_spot (T : TF w K mg) (c_is_within : Callee P w K mg base "is_within" 2 ["thing", "low", "high"] (spWithin (CB K))) : Callee P w K mg base "is_spot" 3 ["book", "thing"] (spIsSpot (CB K)) := by
  obtain ⟨fd, F⟩ := T.d_is_spot
  refine callee_of F (F.ok sc_is_spot (spA_len fun _ => rfl) fun cdv A outer s H vs Q E hr h => ?_) T.g_is_spot fun _ _ _ _ _ _ us hl => match us, hl with | [_, _], _ => rfl
  obtain ⟨a, r, hp, q⟩ := h
  have g : Good P w K (L2.Cx.nox (cxOf CX0 P w K mg base ["book", "thing"] "is_spot" (defScope s_is_spot) (He.ga K "is_spot") cdv A outer s H E)) := ⟨rfl, rfl, rfl, rfl, hu_un hr⟩
  have hu := hu_of hr
  refine ⟨_, PSs.nox (pss_cons (ps_if (PW.pt (pw_or (pt_not (pt_val (pe_callB (c_b g) (by rfl) T.f_isinstance bt_isinstance (pa_cons (pv 1) (pa_cons (pe_ty T.f_tuple bt_tuple) pa_nil))))) (pw_or (pt_cmpR (op_b g) (pe_callB (c_b g) (by rfl) T.f_len bt_len (pa_cons (pv 1) pa_nil)) pe_int (nomark _)) (pw_or1 (pt_not (pt_val (pe_c c_is_within (hr.mono (by decide)) (by rfl) pass0 (pa_cons (pe_ix (ix_b g) (pv 1) pe_int (fun _ _ => rfl)) (pa_cons pe_int (pa_cons (pe_op (op_b g) (pe_callB (c_b g) (by rfl) T.f_len bt_len (pa_cons (pe_fld (pv 0) rfl) pa_nil)) pe_int) pa_nil)))))))))) (pss_one (ps_ret pe_bl)) pss_nil)
      (pss_one (ps_ret (pe_c c_is_within (hr.mono (by decide)) (by rfl) pass0 (pa_cons (pe_ix (ix_b g) (pv 1) pe_int (fun _ _ => rfl)) (pa_cons pe_int (pa_cons (pe_op (op_b g) (pe_callB (c_b g) (by rfl) T.f_len bt_len (pa_cons (pe_ix (ix_b g) (pe_fld (pv 0) rfl) (pe_ix (ix_b g) (pv 1) pe_int (fun _ _ => rfl)) (fun _ _ => rfl)) pa_nil)) pe_int) pa_nil))))))), ?_⟩
  obtain ⟨v, u, rfl, r1, r2⟩ := r.two
  obtain ⟨hs, ls, ⟨i, j⟩, row, c⟩ := a
  replace hp : Spot ls (i, j) row c := hp
  have l1 : i < ls.length := hp.l1
  have l2 : j < row.length := hp.l2
  refine qd_no (et_is (et_or (et_not (et_val (ed_cb (ea1 (ed_var rfl r2) (ea1 ed_ty ea0)) (k_isi rfl kit_tt)))) fun _ => et_or (et_cmp (ed_op (ed_cb (ea1 (ed_var rfl r2) ea0) k_lent) ed_int o_nei)) fun _ =>
    et_not (et_val (ed_call ((i : Int), 0, ((ls.map laneD).length : Int) - 1) (ea1 (ed_op (ed_var rfl r2) ed_int (o_ixt at0)) (ea1 ed_int (ea1 (ed_op (ed_cb (ea1 (ed_fld (ed_var rfl r1) T.cls T.n_lanes (.inr ⟨rfl, rfl⟩)) ea0) k_lent) ed_int o_sub) ea0))) trivial))) (by
      rw [List.length_map, decide_eq_true (show (0 : Int) ≤ (i : Int) by omega), decide_eq_true (show (i : Int) ≤ (ls.length : Int) - 1 by omega)]
      rfl)) fun H1 e1 => ?_
  refine ret_of (ed_call ((j : Int), 0, ((row.map Cmd.D).length : Int) - 1) (ea1 (ed_op (ed_var rfl (r2.ex e1)) ed_int (o_ixt at1)) (ea1 ed_int (ea1 (ed_op (ed_cb (ea1 (ed_op (ed_fld (ed_var rfl (r1.ex e1)) T.cls T.n_lanes (.inr ⟨rfl, rfl⟩)) (ed_op (ed_var rfl (r2.ex e1)) ed_int (o_ixt at0)) (o_ixt (d := laneD row) (atI_nat (j := i) (by rw [List.getElem?_map, hp.atR]; rfl)))) ea0) k_lent) ed_int o_sub) ea0))) trivial) rfl (q_ex e1 q) ?_
  show D.bl _ = D.bl _
  rw [List.length_map, decide_eq_true (show (0 : Int) ≤ (j : Int) by omega), decide_eq_true (show (j : Int) ≤ (row.length : Int) - 1 by omega)]
  rfl
abbrev spCkSpot (C : Addr) : Sp := spF C SpotA.args SpotA.pre fun _ => .non
theorem c_check_spot (T : TF w K mg) (c_is_spot : Callee P w K mg base "is_spot" 3 ["book", "thing"] (spIsSpot (CB K))) : Callee P w K mg base "check_spot" 4 ["book", "thing"] (spCkSpot (CB K)) := by
  obtain ⟨fd, F⟩ := T.d_check_spot
  refine callee_of F (F.ok sc_check_spot (spA_len fun _ => rfl) fun cdv A outer s H vs Q E hr h => ?_) T.g_check_spot fun _ _ _ _ _ _ us hl => match us, hl with | [_, _], _ => rfl
  obtain ⟨a, r, hp, q⟩ := h
  have g : Good P w K (L2.Cx.nox (cxOf CX0 P w K mg base ["book", "thing"] "check_spot" (defScope s_check_spot) (He.ga K "check_spot") cdv A outer s H E)) := ⟨rfl, rfl, rfl, rfl, hu_un hr⟩
  have hu := hu_of hr
  refine ⟨_, PSs.nox (pss_one (ps_if (pt_not (pt_val (pe_c c_is_spot (hr.mono (by decide)) (by rfl) pass0 (pa_cons (pv 0) (pa_cons (pv 1) pa_nil))))) (pss_one ps_never) pss_nil)), ?_⟩
  obtain ⟨v, u, rfl, r1, r2⟩ := r.two
  exact ql_no (et_is (et_not (et_val (ed_call a (ea1 (ed_var rfl r1) (ea1 (ed_var rfl r2) ea0)) hp))) rfl) fun H1 e1 => q _ _ H1 rfl e1 rfl (.fz rfl)
abbrev spComm (C : Addr) : Sp := spF C SpotA.args SpotA.pre fun a => a.c.D
theorem c_Book_command (T : TF w K mg) (c_check_spot : Callee P w K mg base "check_spot" 4 ["book", "thing"] (spCkSpot (CB K))) : CalleeM P w K mg base (He.ma K (CB K) "command") 5 ["self", "spot"] (spComm (CB K)) := by
  obtain ⟨fd, F⟩ := T.d_Book_command
  refine ⟨fd, F.ok sc_Book_command (spA_len fun _ => rfl) fun cdv A outer s H vs Q E hr h => ?_, F.bindsN fun _ _ _ _ _ _ us hl => match us, hl with | [_, _], _ => rfl⟩
  obtain ⟨a, r, hp, q⟩ := h
  have g : Good P w K (L2.Cx.nox (cxOf CX0 P w K mg base ["self", "spot"] "Book.command" (defScope s_Book_command) (He.ma K (CB K) "command") cdv A outer s H E)) := ⟨rfl, rfl, rfl, rfl, hu_un hr⟩
  have hu := hu_of hr
  refine ⟨_, PSs.nox (pss_cons (ps_expr (pe_c c_check_spot (hr.mono (by decide)) (by rfl) pass0 (pa_cons (pv 0) (pa_cons (pv 1) pa_nil))))
      (pss_one (ps_ret (pe_ix (ix_b g) (pe_ix (ix_b g) (pe_fld (pv 0) rfl) (pe_ix (ix_b g) (pv 1) pe_int (fun _ _ => rfl)) (fun _ _ => rfl)) (pe_ix (ix_b g) (pv 1) pe_int (fun _ _ => rfl)) (fun _ _ => rfl))))), ?_⟩
  obtain ⟨v, u, rfl, r1, r2⟩ := r.two
  refine q_drop (ed_call a (ea1 (ed_var rfl r1) (ea1 (ed_var rfl r2) ea0)) hp) fun H1 e1 => ?_
  obtain ⟨hs, ls, ⟨i, j⟩, row, c⟩ := a
  replace hp : Spot ls (i, j) row c := hp
  exact ret_of (ed_op (ed_op (ed_fld (ed_var rfl (r1.ex e1)) T.cls T.n_lanes (.inr ⟨rfl, rfl⟩)) (ed_op (ed_var rfl (r2.ex e1)) ed_int (o_ixt at0)) (o_ixt (d := laneD row) (atI_nat (j := i) (by rw [List.getElem?_map, hp.atR]; rfl)))) (ed_op (ed_var rfl (r2.ex e1)) ed_int (o_ixt at1)) (o_ixt (d := c.D) (atI_nat (j := j) (by rw [List.getElem?_map, hp.cmd]; rfl)))) c.fz (q_ex e1 q) rfl
abbrev spCkBook (C : Addr) : Sp := spNone C (fun p : List Hall × List (List Cmd) => [bookD p]) fun _ => True
theorem c_check_book (T : TF w K mg) : Callee P w K mg base "check_book" 1 ["thing"] (spCkBook (CB K)) := by
  obtain ⟨fd, F⟩ := T.d_check_book
  refine callee_of F (F.ok sc_check_book (spA_len fun _ => rfl) fun cdv A outer s H vs Q E hr h => ?_) T.g_check_book fun _ _ _ _ _ _ us hl => match us, hl with | [_], _ => rfl
  obtain ⟨a, r, hp, q⟩ := h
  have g : Good P w K (L2.Cx.nox (cxOf CX0 P w K mg base ["thing"] "check_book" (defScope s_check_book) (He.ga K "check_book") cdv A outer s H E)) := ⟨rfl, rfl, rfl, rfl, hu_un hr⟩
  have hu := hu_of hr
  refine ⟨_, PSs.nox (pss_one (ps_if (pt_not (pt_val (pe_callB (c_b g) (by rfl) T.f_isinstance bt_isinstance (pa_cons (pv 0) (pa_cons (pe_gr T.Book) pa_nil))))) (pss_one ps_never) pss_nil)), ?_⟩
  obtain ⟨v, rfl, r1⟩ := r.one
  exact ql_no (et_is (et_not (et_val (ed_cb (ea1 (ed_var rfl r1) (ea1 ed_cr ea0)) (k_isB T.ins)))) rfl) fun H1 e1 => q _ _ H1 rfl e1 rfl (.fz rfl)
theorem pe_cm {X : Cx} {f C' : Addr} {m : Str} {k : Nat} {ps : List Str} {sp : Sp} {o e : Expr} {es : List Expr} {to : TE} {ts : TA} {apos pos : Pos} {E : XK} (c : CalleeM X.prog X.w X.K X.mg X.base f k ps sp) (cl : Cls X.K C') (hm : Meth X.K C' m f) (hr : Room k X.A) (hx : Passes CX0 X E) (ho : PE X o to) (ha : PA X (e :: es) ts)
    (hst : starEach (e :: es) X.env = (false, eval e X.env) :: starEach es X.env := by rfl) (hpl : (backTo pos (starEach es X.env)).any (·.1) = false := by rfl) {pl : Sem Bool}
    (ht : eval (.Call (.Attribute o m apos) (e :: es) [] pos) X.env = (do
      let ov ← eval o X.env
      standAt apos.atName
      let (f, first) ← holding [ov] (getMethod ov m pl)
      callWith pos f first (backTo pos (starEach (e :: es) X.env)) (backToKw pos (keywordEach [] X.env))) := by rfl) : PE X (.Call (.Attribute o m apos) (e :: es) [] pos) (tMeth C' m sp [] E to ts) := by
  obtain ⟨fd, F, b⟩ := c.ex
  exact pe_meth ho cl hm F hr b .nil hx ha hst hpl ht
theorem pe_cm0 {X : Cx} {f C' : Addr} {m : Str} {k : Nat} {ps : List Str} {sp : Sp} {o : Expr} {to : TE} {apos pos : Pos} {E : XK} (c : CalleeM X.prog X.w X.K X.mg X.base f k ps sp) (cl : Cls X.K C') (hm : Meth X.K C' m f) (hr : Room k X.A) (hx : Passes CX0 X E) (ho : PE X o to) {pl : Sem Bool}
    (ht : eval (.Call (.Attribute o m apos) [] [] pos) X.env = (do
      let ov ← eval o X.env
      standAt apos.atName
      let (f, first) ← holding [ov] (getMethod ov m pl)
      callWith pos f first (backTo pos (starEach [] X.env)) (backToKw pos (keywordEach [] X.env))) := by rfl) : PE X (.Call (.Attribute o m apos) [] [] pos) (tMeth C' m sp [] E to tNil) := by
  obtain ⟨fd, F, b⟩ := c.ex
  exact pe_meth0 ho cl hm F hr b .nil hx ht
theorem pe_mk {X : Cx} {x : Str} {f C' : Addr} {k : Nat} {ps : List Str} {sp : Sp} {e : Expr} {es : List Expr} {ts : TA} {p pos : Pos} {E : XK} (c : CalleeM X.prog X.w X.K X.mg X.base f k ps sp) (M : Mk X.K C' f) (hr : Room (k + 1) X.A) (hg : Gl X x) (hm : X.mg x = some (.ref C')) (hx : Passes CX0 X E) (ha : PA X (e :: es) ts)
    (hdb : (x == ("__debug__" : Str)) = false := by decide) (he : starEach (e :: es) X.env = (false, eval e X.env) :: starEach es X.env := by rfl) (hpl : (backTo pos (starEach es X.env)).any (·.1) = false := by rfl) : PE X (.Call (.Name x p) (e :: es) [] pos) (tMake C' sp [] E ts) := by
  obtain ⟨fd, F, b⟩ := c.ex
  exact pe_make M F hr hg hm b .nil hx ha hdb he hpl
theorem ed_meth {α : Type} {C : Addr} {σ : L2.St} {H : Hp} {to : TE} {ts : TA} {E : XK} {m : Str} {args : α → List D} {pre : α → Prop} {f : α → D} {rs ls : D} {ds : List D} (a : α) (ho : Ed C to σ H (.book rs ls)) (h : EdA C ts σ H ds) (ha : args a = .book rs ls :: ds) (hp : pre a) (hm : m ≠ "rooms" ∧ m ≠ "lanes") :
    Ed C (tMeth C m (spF C args pre f) [] E to ts) σ H (f a) := fun H1 e Q q => ho H1 e _ fun v H2 e2 r => by
  obtain ⟨p, dx, r1, l1, ev, hpn, h3, h4⟩ := id r
  refine ⟨p, dx, _, ev, hpn, ?_, h H2 (e.trans e2) _ fun vs H3 e3 rs' => ⟨a, ?_, hp, fun d v' H4 ed e4 r4 _ => q v' H4 ((e2.trans e3).trans e4) (ed ▸ r4)⟩⟩
  · have h1 : (m == ("rooms" : Str)) = false := beq_eq_false_iff_ne.mpr hm.1
    have h2 : (m == ("lanes" : Str)) = false := beq_eq_false_iff_ne.mpr hm.2
    simp only [List.lookup, h1, h2]
  · rw [ha, List.append_nil]
    exact ⟨r.ex e3, rs'⟩
theorem ev_mk {C : Addr} {σ : L2.St} {H : Hp} {ts : TA} {E : XK} (hs : List Hall) (ls : List (List Cmd)) (h : EdA C ts σ H [hallsD hs, lanesD ls]) (h1 : HallsOk hs) (h2 : LanesOk hs ls) : EvP (tMake C (spInit C) [] E ts) σ H fun v H2 => Rp C H2 v (bookD (hs, ls)) ∧ Nw H v (bookD (hs, ls)) := fun H1 e Q q =>
  h H1 e _ fun vs H2 e2 r => by
    obtain ⟨v, u, rfl, r1, r2⟩ := r.two
    intro x dx hx hdx hne
    have eN : Ex H2 (upd (upd H2 dx (.own x)) x (.ins C dx [])) := fun a o ha => by
      rw [upd_ne (fun z => by subst z; rw [hx] at ha; cases ha), upd_ne (fun z => by subst z; rw [hdx] at ha; cases ha)]
      exact ha
    refine ⟨x, dx, v, u, hs, ls, rfl, upd_same, r1.ex eN, r2.ex eN, h1, h2, fun H' k hp => ⟨rfl, ?_⟩⟩
    have e3 : Ex H2 H' := fun a o ha => k a o (fun z => by subst z; rw [hx] at ha; cases ha) (eN a o ha)
    exact q _ H' (e2.trans e3) ⟨⟨x, dx, v, u, rfl, hp, r1.ex e3, r2.ex e3⟩, fun _ a ea => by
      cases ea
      exact fresh_back (e.trans e2) hx⟩
end
end Fl
set_option maxHeartbeats 2000000
namespace Fl
open PySem PySem.Spec PyProof.Rows L2 Evl
def HpOk (a : Addr) (H : Hp) : Prop := ∃ x y z : Int, H a = some (.lst [.int x, .int y, .int z]) ∧ 0 ≤ x
structure Mu (a : Addr) (H H' : Hp) : Prop where
  keep : ∀ b o, b ≠ a → H b = some o → H' b = some o
  ok : HpOk a H'
section
variable {a : Addr} {C : Addr} {H H1 H2 : Hp} {v : V} {d : D}
theorem Mu.refl (h : HpOk a H) : Mu a H H := ⟨fun _ _ _ h => h, h⟩
theorem Mu.trans (m : Mu a H H1) (n : Mu a H1 H2) : Mu a H H2 := ⟨fun b o hb h => n.keep b o hb (m.keep b o hb h), n.ok⟩
theorem HpOk.ex (h : HpOk a H) (e : Ex H H1) : HpOk a H1 := by
  obtain ⟨x, y, z, h, hx⟩ := h
  exact ⟨x, y, z, e _ _ h, hx⟩
theorem Mu.ex (h : HpOk a H) (e : Ex H H1) : Mu a H H1 := ⟨fun b o _ h => e b o h, h.ex e⟩
theorem Mu.tx (h : HpOk a H) (m : Mu a H H1) : Tx H H1 := fun b xs hb => m.keep b _ (fun z => by
  subst z
  obtain ⟨x, y, z, h, _⟩ := h
  rw [h] at hb
  cases hb) hb
theorem Mu.put {x y z : Int} (hx : 0 ≤ x) : Mu a H (upd H a (.lst [.int x, .int y, .int z])) := ⟨fun b o hb h => by rw [upd_ne hb]; exact h, x, y, z, upd_same, hx⟩
theorem HpOk.ne (h : HpOk a H) {p : Addr} (hp : H p = none) : p ≠ a := fun z => by
  subst z
  obtain ⟨x, y, z, h, _⟩ := h
  rw [h] at hp
  cases hp
def RpS (a C : Addr) (H : Hp) (v : V) (d : D) : Prop := ∀ H', Mu a H H' → Rp C H' v d
theorem RpS.mu (r : RpS a C H v d) (m : Mu a H H1) : RpS a C H1 v d := fun H' n => r H' (m.trans n)
theorem RpS.rp (r : RpS a C H v d) (h : HpOk a H) : Rp C H v d := r H (.refl h)
theorem RpS.fz (h : HpOk a H) (z : d.fz = true) (r : Rp C H v d) : RpS a C H v d := fun H' m => r.fz (m.tx h) z
theorem RpS.lst {ds : List D} {p : Addr} (h : HpOk a H) (hp : p ≠ a) (z : fzL ds = true) (r : Rp C H (.ref p) (.lst ds)) : RpS a C H (.ref p) (.lst ds) := fun H' m => by
  obtain ⟨b, xs, e, h1, h2⟩ := r
  cases e
  exact ⟨p, xs, rfl, m.keep p _ hp h1, h2.fz (m.tx h) z⟩
theorem RpS.lstn {ds : List D} (h : HpOk a H) (hn : ds.length ≠ 3) (z : fzL ds = true) (r : Rp C H v (.lst ds)) : RpS a C H v (.lst ds) := by
  obtain ⟨b, xs, rfl, h1, h2⟩ := r
  refine RpS.lst h (fun e => ?_) z ⟨b, xs, rfl, h1, h2⟩
  subst e
  obtain ⟨x, y, z, h, _⟩ := h
  rw [h] at h1
  cases h1
  exact hn h2.length.symm
def EM (a C : Addr) (te : TE) (σ : L2.St) (H : Hp) (φ : D → Prop) : Prop := ∀ H1, Mu a H H1 → ∀ Q : VK, (∀ d v H2, φ d → Mu a H1 H2 → RpS a C H2 v d → Q v H2) → te σ H1 Q
def EMA (a C : Addr) (ts : TA) (σ : L2.St) (H : Hp) (Ψ : List D → Prop) : Prop := ∀ H1, Mu a H H1 → ∀ Q : List V → Hp → Prop, (∀ ds vs H2, Ψ ds → Mu a H1 H2 → (∀ H', Mu a H2 H' → RpL C H' vs ds) → Q vs H2) → ts σ H1 Q
def EMT (a : Addr) (tt : TT) (σ : L2.St) (H : Hp) : Prop := ∀ H1, Mu a H H1 → ∀ Q : Bool → Hp → Prop, (∀ b H2, Mu a H1 H2 → Q b H2) → tt σ H1 Q
end
def Up (M : Nat) (d : D) : Prop := ∃ m : Nat, 0 < m ∧ m ≤ M ∧ d = .int (m : Nat)
def Lt (M : Nat) (d : D) : Prop := ∃ m : Nat, m < M ∧ d = .int (m : Nat)
section
variable {P : Program} {w : World} {K : PySem.W.Frag} {a C : Addr} {σ : L2.St} {H H1 : Hp} {te ta tb to ti : TE} {ts tr : TA} {t u : TT} {φ ψ χ : D → Prop} {Ψ Ψ' : List D → Prop} {d : D} {E : Ends} {tz tu tw : TS}
theorem EM.mu (h : EM a C te σ H φ) (m : Mu a H H1) : EM a C te σ H1 φ := fun H2 n Q q => h H2 (m.trans n) Q q
theorem EM.imp (h : EM a C te σ H φ) (i : ∀ d, φ d → ψ d) : EM a C te σ H ψ := fun H1 m Q q => h H1 m Q fun d v H2 p n r => q d v H2 (i d p) n r
theorem EMA.imp (h : EMA a C ts σ H Ψ) (i : ∀ d, Ψ d → Ψ' d) : EMA a C ts σ H Ψ' := fun H1 m Q q => h H1 m Q fun d v H2 p n r => q d v H2 (i d p) n r
theorem em_ed (h : ∀ H1, Mu a H H1 → Ed C te σ H1 d) (z : d.fz = true) : EM a C te σ H (fun e => e = d) := fun H1 m Q q => h H1 m H1 (Ex.refl _) Q fun v H2 e r => q d v H2 rfl (Mu.ex m.ok e) (.fz (m.ok.ex e) z r)
theorem em_edl {ds : List D} (h : ∀ H1, Mu a H H1 → Ed C te σ H1 (.lst ds)) (n : ds.length ≠ 3) (z : fzL ds = true) : EM a C te σ H (fun e => e = .lst ds) := fun H1 m Q q => h H1 m H1 (Ex.refl _) Q fun v H2 e r => q _ v H2 rfl (Mu.ex m.ok e) (.lstn (m.ok.ex e) n z r)
theorem em_var {i : Nat} {v : V} (h : σ[i]? = some (some v)) (r : RpS a C H v d) : EM a C (tVar i) σ H (fun e => e = d) := fun H1 m Q q => ⟨v, h, q d v H1 rfl (.refl m.ok) (r.mu m)⟩
theorem em_int {i : Int} : EM a C (tC (.int i)) σ H (fun e => e = .int i) := fun H1 m Q q => q _ _ H1 rfl (.refl m.ok) fun _ _ => rfl
theorem em_str {i : Str} : EM a C (tC (.str i)) σ H (fun e => e = .str i) := fun H1 m Q q => q _ _ H1 rfl (.refl m.ok) fun _ _ => rfl
theorem em_op {r : R2} (ha : EM a C ta σ H φ) (hb : EM a C tb σ H ψ) (ho : ∀ x y, φ x → ψ y → ∃ z, DOp C r x y z ∧ z.fz = true ∧ χ z) : EM a C (tOp r ta tb) σ H χ := fun H1 m Q q =>
  ha H1 m _ fun x v H2 px m2 rx => hb H2 (m.trans m2) _ fun y u H3 py m3 ry => by
    obtain ⟨z, h1, h2, h3⟩ := ho x y px py
    exact h1 H3 v u (rx H3 m3) (ry.rp m3.ok) Q fun o H4 e4 r4 => q z o H4 h3 ((m2.trans m3).trans (.ex m3.ok e4)) (.fz (m3.ok.ex e4) h2 r4)
theorem ema0 : EMA a C tNil σ H (fun l => l = []) := fun H1 m Q q => q [] [] H1 rfl (.refl m.ok) fun _ _ => True.intro
theorem ema1 (h : EM a C te σ H φ) (hr : EMA a C tr σ H Ψ) : EMA a C (tCons te tr) σ H (fun l => ∃ d ds, l = d :: ds ∧ φ d ∧ Ψ ds) := fun H1 m Q q =>
  h H1 m _ fun d v H2 p m2 r => hr H2 (m.trans m2) _ fun ds vs H3 ps m3 rs => q (d :: ds) (v :: vs) H3 ⟨d, ds, rfl, p, ps⟩ (m2.trans m3) fun H' m' => ⟨r H' (m3.trans m'), rs H' m'⟩
theorem em_tup (h : EMA a C ts σ H Ψ) (hl : ∀ ds, Ψ ds → ds.length ≤ 100000) : EM a C (tTup ts) σ H (fun d => ∃ ds, d = .tup ds ∧ Ψ ds) := fun H1 m Q q =>
  h H1 m _ fun ds vs H2 p m2 r => ⟨by rw [(r H2 (.refl m2.ok)).length]; exact sz_of (hl ds p), fun b hb => by
    have e : Ex H2 (upd H2 b (.tup vs)) := Ex.new hb
    exact q _ _ _ ⟨ds, rfl, p⟩ (m2.trans (.ex m2.ok e)) fun H' m' => ⟨b, vs, rfl, m'.tx (m2.ok.ex e) _ _ upd_same, r H' ((Mu.ex m2.ok e).trans m')⟩⟩
theorem em_lst {ds : List D} (h : ∀ H1, Mu a H H1 → EdA C ts σ H1 ds) (z : fzL ds = true) (hl : ds.length ≤ 100000 := by exact Nat.le_of_ble_eq_true rfl) : EM a C (tLst ts) σ H (fun d => d = .lst ds) := fun H1 m Q q =>
  h H1 m H1 (Ex.refl _) _ fun vs H2 e r => ⟨by rw [r.length]; exact sz_of hl, fun b hb => by
    have e2 : Ex H2 (upd H2 b (.lst vs)) := Ex.new hb
    have ok := m.ok.ex (e.trans e2)
    exact q _ _ _ rfl (.ex m.ok (e.trans e2)) (.lst ok ((m.ok.ex e).ne hb) z ⟨b, vs, rfl, upd_same, r.ex e2⟩)⟩
theorem em_ixl {ds : List D} (ho : EM a C to σ H (fun d => d = .lst ds)) (hi : EM a C ti σ H (Lt ds.length)) (z : fzL ds = true) : EM a C (tOp (rI_ P w K) to ti) σ H (fun d => d ∈ ds) :=
  em_op ho hi fun x y px ⟨m, hm, py⟩ => by
    subst px; subst py
    exact ⟨ds[m], o_ixl (atI_nat (List.getElem?_eq_getElem hm)), fzL_iff.mp z _ (List.getElem_mem hm), List.getElem_mem hm⟩
theorem em_ixt {ds : List D} (ho : EM a C to σ H (fun d => d = .tup ds)) (hi : EM a C ti σ H (Lt ds.length)) (z : fzL ds = true) : EM a C (tOp (rI_ P w K) to ti) σ H (fun d => d ∈ ds) :=
  em_op ho hi fun x y px ⟨m, hm, py⟩ => by
    subst px; subst py
    exact ⟨ds[m], o_ixt (atI_nat (List.getElem?_eq_getElem hm)), fzL_iff.mp z _ (List.getElem_mem hm), List.getElem_mem hm⟩
theorem em_ixs {z : Str} (hl : z.length ≤ 100000) (ho : EM a C to σ H (fun d => d = .str z)) (hi : EM a C ti σ H (Lt z.cps.toList.length)) : EM a C (tOp (rI_ P w K) to ti) σ H (fun d => ∃ c, c ∈ z.cps.toList ∧ d = .str ⟨#[c]⟩) :=
  em_op ho hi fun x y px ⟨m, hm, py⟩ => by
    subst px; subst py
    exact ⟨.str ⟨#[z.cps.toList[m]]⟩, o_ixs hl (atI_nat (List.getElem?_eq_getElem hm)), rfl, _, List.getElem_mem hm, rfl⟩
theorem emt_t {b : Bool} (h : ∀ H1, Mu a H H1 → EvT t σ H1 b) : EMT a t σ H := fun H1 m Q q => h H1 m H1 (Ex.refl _) Q fun H2 e => q b H2 (.ex m.ok e)
theorem emt_em (h : EM a C te σ H (fun d => ∃ b, d = .bl b)) : EMT a (tTest te) σ H := fun H1 m Q q => h H1 m _ fun d v H2 ⟨b, e⟩ m2 r => ⟨b, by subst e; exact r.rp m2.ok, q b H2 m2⟩
theorem emt_and (h : EMT a t σ H) (g : EMT a u σ H) : EMT a (tAnd t u) σ H := fun H1 m Q q => h H1 m _ fun b H2 m2 => by
  cases b with
  | true => exact g H2 (m.trans m2) Q fun c H3 m3 => q c H3 (m2.trans m3)
  | false => exact q false H2 m2
theorem qm_asg {i : Nat} (ok : HpOk a H) (h : EM a C te σ H φ) (k : ∀ d v H1, φ d → Mu a H H1 → RpS a C H1 v d → tz E (σ.set i (some v)) H1) : tSeq (tAsg te (gName i)) tz E σ H := h H (.refl ok) _ k
theorem qlm_asg {i : Nat} (ok : HpOk a H) (h : EM a C te σ H φ) (k : ∀ d v H1, φ d → Mu a H H1 → RpS a C H1 v d → E.nx (σ.set i (some v)) H1) : tAsg te (gName i) E σ H := h H (.refl ok) _ k
theorem qm_if (ok : HpOk a H) (h : EMT a t σ H) (h1 : ∀ H1, Mu a H H1 → tu { E with nx := tz E } σ H1) (h2 : ∀ H1, Mu a H H1 → tw { E with nx := tz E } σ H1) : tSeq (tIfS t tu tw) tz E σ H := h H (.refl ok) _ fun b H1 m => by
  cases b with
  | true => exact h1 H1 m
  | false => exact h2 H1 m
theorem qm_ifM (Mid : L2.St → Hp → Prop) (ok : HpOk a H) (h : EMT a t σ H) (h1 : ∀ nx : L2.St → Hp → Prop, (∀ σ' H', Mid σ' H' → nx σ' H') → ∀ H1, Mu a H H1 → tu { E with nx := nx } σ H1)
    (h2 : ∀ nx : L2.St → Hp → Prop, (∀ σ' H', Mid σ' H' → nx σ' H') → ∀ H1, Mu a H H1 → tw { E with nx := nx } σ H1) (h3 : ∀ σ' H', Mid σ' H' → tz E σ' H') : tSeq (tIfS t tu tw) tz E σ H := qm_if ok h (fun H1 m => h1 _ h3 H1 m) fun H1 m => h2 _ h3 H1 m
theorem qlm_asgE {i : Nat} {nx : L2.St → Hp → Prop} (ok : HpOk a H) (h : EM a C te σ H φ) (k : ∀ d v H1, φ d → Mu a H H1 → RpS a C H1 v d → nx (σ.set i (some v)) H1) : tAsg te (gName i) { E with nx := nx } σ H := h H (.refl ok) _ k
theorem em_lcR {i : Nat} {tn : TE} {N : Nat → Prop} (hi : i < σ.length) (hn : EM a C tn σ H (fun d => ∃ m : Nat, N m ∧ d = .int (m : Nat))) (hN : ∀ m, N m → m ≤ 10000) (he : ∀ (j : Nat) (H1 : Hp), Mu a H H1 → EM a C te ((wipe σ [i]).set i (some (.int (j : Nat)))) H1 φ) (z : ∀ d, φ d → d.fz = true) :
    EM a C (tLc (iRng1 (tCons tn tNil)) (gName i) tYes te [i]) σ H (fun d => ∃ ds, d = .lst ds ∧ N ds.length ∧ ∀ x ∈ ds, φ x) := fun H0 m0 Q q => hn H0 m0 _ fun dn vn H1 ⟨n, pn, edn⟩ m1 rn => by
  subst edn
  have evn : vn = V.int (n : Nat) := rn.rp m1.ok
  subst evn
  have hn1 := hN n pn
  refine ⟨(n : Int), rfl, by omega, by omega, fun Dl hD => ?_⟩
  rw [Int.toNat_natCast]
  have hDa : Dl ≠ a := m1.ok.ne hD
  have eD : Ex H1 (upd H1 Dl (.lst [])) := Ex.new hD
  refine lc_it (walk_range (lo := 0) (n := n)) (fun j H' => Mu a H1 H' ∧ ∃ acc ds, H' Dl = some (.lst acc) ∧ ds.length = j ∧ (∀ x ∈ ds, φ x) ∧ RpL C H' acc ds) ⟨.ex m1.ok eD, [], [], upd_same, rfl, (fun _ h => nomatch h), True.intro⟩ (fun _ _ _ _ => True.intro) (fun j x H2 H3 hj p y => ?_) fun H' p => ?_
  · obtain ⟨p1, acc, ds, p2, p3, p4, p5⟩ := p
    obtain ⟨rfl, rfl⟩ := y
    show wipe ((wipe σ [i]).set i _) [i] = wipe σ [i] ∧ _
    refine ⟨by simp [wipe], ?_⟩
    dsimp only [tYes]
    rw [if_pos rfl]
    have e0 : (0 : Int) + ((j : Nat) : Int) = ((j : Nat) : Int) := by omega
    rw [e0]
    refine he j _ ((m0.trans m1).trans p1) _ (.refl p1.ok) _ fun d v H4 pd m4 r4 => ?_
    have hD4 := m4.keep Dl _ hDa p2
    have tx4 : Tx H4 (upd H4 Dl (.lst (acc ++ [v]))) := Tx.lst hD4
    have hz : fzL ds = true := fzL_iff.mpr fun x hx => z x (p4 x hx)
    refine ⟨acc, hD4, sz_lt (by rw [p5.length]; omega), ⟨fun b o hb h => ?_, ?_⟩, acc ++ [v], ds ++ [d], upd_same, by rw [List.length_append, p3]; rfl, fun x hx => ?_, ?_⟩
    · rw [upd_ne (ne_of_none h hD)]
      exact (p1.trans m4).keep b o hb h
    · obtain ⟨x, y, w, h, hx⟩ := m4.ok
      exact ⟨x, y, w, by rw [upd_ne hDa.symm]; exact h, hx⟩
    · rcases List.mem_append.mp hx with h | h
      · exact p4 x h
      · rw [List.mem_singleton.mp h]; exact pd
    · exact RpL.fz tx4 (fzL_append hz (fzL_iff.mpr fun x hx => by rw [List.mem_singleton.mp hx]; exact z d pd)) (RpL.append (p5.fz (m4.tx p1.ok) hz) (show RpL C H4 [v] [d] from ⟨r4.rp m4.ok, True.intro⟩))
  · obtain ⟨p1, acc, ds, p2, p3, p4, p5⟩ := p
    exact q (.lst ds) (.ref Dl) H' ⟨ds, rfl, by rw [p3]; exact pn, p4⟩ (m1.trans p1) (.lst p1.ok hDa (fzL_iff.mpr fun x hx => z x (p4 x hx)) ⟨Dl, acc, rfl, p2, p5⟩)
def spDr {α : Type} (C : Addr) (args : α → List D) (pre : α → Prop) (res : α → D → Prop) : Sp := fun vs H Q _ => ∃ (x : α) (a : Addr) (us : List V), vs = .ref a :: us ∧ HpOk a H ∧ (∀ H', Mu a H H' → RpL C H' us (args x)) ∧ pre x ∧ ∀ d v H', res x d → Mu a H H' → RpS a C H' v d → Q v H'
theorem spDr_len {α : Type} {C : Addr} {args : α → List D} {pre : α → Prop} {res : α → D → Prop} {n : Nat} (h : ∀ a, (args a).length = n) : ∀ vs H Q E, spDr C args pre res vs H Q E → vs.length = n + 1 := fun vs H Q E ⟨x, a, us, e, ok, r, _⟩ => by
  rw [e, List.length_cons, (r H (.refl ok)).length, h]
theorem em_dr {α : Type} {args : α → List D} {pre : α → Prop} {res : α → D → Prop} {E : XK} {i : Nat} (ha : σ[i]? = some (some (.ref a))) (hs : EMA a C ts σ H Ψ) (hx : ∀ ds, Ψ ds → ∃ x, args x = ds ∧ pre x ∧ ∀ d, res x d → φ d) :
    EM a C (tCall (spDr C args pre res) [] E (tCons (tVar i) ts)) σ H φ := fun H1 m Q q => ⟨_, ha, hs H1 m _ fun ds vs H2 p m2 r => by
    obtain ⟨x, ex, px, rx⟩ := hx ds p
    exact ⟨x, a, vs, List.append_nil _, m2.ok, fun H' m' => ex ▸ r H' m', px, fun d v H3 rd m3 r3 => q d v H3 (rx d rd) (m2.trans m3) r3⟩⟩
abbrev spDraw (C : Addr) : Sp := spDr C (fun n : Nat => [.int (n : Nat)]) (fun n => 0 < n ∧ n ≤ 1000000) Lt
theorem em_draw {E : XK} {i M : Nat} (ha : σ[i]? = some (some (.ref a))) (hn : EM a C te σ H (Up M)) (hM : M ≤ 1000000) : EM a C (tCall (spDraw C) [] E (tCons (tVar i) (tCons te tNil))) σ H (Lt M) :=
  em_dr ha (ema1 hn ema0) fun ds ⟨d, l, e, ⟨m, h1, h2, ed⟩, el⟩ => by
    subst e; subst ed; subst el
    exact ⟨m, rfl, ⟨h1, Nat.le_trans h2 hM⟩, fun d ⟨k, hk, e⟩ => ⟨k, Nat.lt_of_lt_of_le hk h2, e⟩⟩
theorem em_drawN {E : XK} {i M : Nat} (ha : σ[i]? = some (some (.ref a))) (hM : 0 < M ∧ M ≤ 1000000) : EM a C (tCall (spDraw C) [] E (tCons (tVar i) (tCons (tC (.int (M : Nat))) tNil))) σ H (Lt M) :=
  em_draw ha (em_int.imp fun d e => ⟨M, hM.1, Nat.le_refl _, e⟩) hM.2
theorem RpS.ne {p : Addr} {ds : List D} (h : RpS a C H (.ref p) (.lst ds)) : p ≠ a := fun e => by
  subst e
  obtain ⟨b, xs, e1, e2, e3⟩ := h _ (Mu.put (x := 0) (y := 0) (z := 0) (Int.le_refl 0))
  obtain ⟨c, ys, f1, f2, f3⟩ := h _ (Mu.put (x := 1) (y := 0) (z := 0) (by decide))
  cases e1
  cases f1
  rw [upd_same] at e2 f2
  cases e2
  cases f2
  match ds, e3, f3 with
  | d :: _, e3, f3 =>
    have g1 := e3.1
    have g2 := f3.1
    cases d with
    | int i =>
      have h1 : V.int 0 = V.int i := g1
      have h2 : V.int 1 = V.int i := g2
      rw [← h1] at h2
      cases h2
    | tup _ => obtain ⟨_, _, z, _⟩ := g1; cases z
    | lst _ => obtain ⟨_, _, z, _⟩ := g1; cases z
    | dk _ => obtain ⟨_, _, z, _⟩ := g1; cases z
    | dt _ => obtain ⟨_, _, z, _⟩ := g1; cases z
    | book _ _ => obtain ⟨_, _, _, _, z, _⟩ := g1; cases z
    | non => cases (show V.int 0 = V.non from g1)
    | bl b => cases (show V.int 0 = V.bl b from g1)
    | str b => cases (show V.int 0 = V.str b from g1)
    | ty b => cases (show V.int 0 = V.ty b from g1)
    | cr => cases (show V.int 0 = V.ref C from g1)
theorem em_new {ds : List D} (h : ∀ H1, Mu a H H1 → EvP te σ H1 fun v H2 => Rp C H2 v (.lst ds) ∧ Nw H1 v (.lst ds)) (z : fzL ds = true) : EM a C te σ H (fun d => d = .lst ds) := fun H1 m Q q => h H1 m H1 (Ex.refl _) Q fun v H2 e ⟨r, n⟩ => by
  obtain ⟨p, xs, rfl, r1⟩ := r
  exact q _ _ H2 rfl (Mu.ex m.ok e) (.lst (m.ok.ex e) (m.ok.ne (n rfl p rfl)) z ⟨p, xs, rfl, r1⟩)
theorem em_cb1 {r : List V → Hp → VK → Prop} (h : EM a C te σ H φ) (hr : ∀ x, φ x → ∃ z, DCall C r [x] z ∧ z.fz = true ∧ χ z) : EM a C (tCB r (tCons te tNil)) σ H χ := fun H1 m Q q =>
  h H1 m _ fun x v H2 px m2 rx => by
    obtain ⟨z, h1, h2, h3⟩ := hr x px
    exact h1 H2 [v] ⟨rx.rp m2.ok, True.intro⟩ Q fun o H3 e r3 => q z o H3 h3 (m2.trans (.ex m2.ok e)) (.fz (m2.ok.ex e) h2 r3)
theorem ret_m (ok : HpOk a H) (h : EM a C te σ H φ) (k : ∀ d v H', φ d → Mu a H H' → RpS a C H' v d → E.rt v H') : tRet te E σ H := h H (.refl ok) _ k
theorem qm_par {i j : Nat} (ok : HpOk a H) (h : EMA a C ts σ H (fun l => ∃ d1 d2, l = [d1, d2] ∧ φ d1 ∧ ψ d2)) (k : ∀ d1 d2 v1 v2 H1, φ d1 → ψ d2 → Mu a H H1 → RpS a C H1 v1 d1 → RpS a C H1 v2 d2 → tz E ((σ.set i (some v1)).set j (some v2)) H1) :
    tSeq (tPar i j ts) tz E σ H := h H (.refl ok) _ fun ds vs H1 ⟨d1, d2, e, p1, p2⟩ m r => by
  subst e
  obtain ⟨v1, v2, rfl, _⟩ := (r H1 (.refl m.ok)).two
  exact ⟨v1, v2, rfl, k d1 d2 v1 v2 H1 p1 p2 m (fun H' m' => (r H' m').1) fun H' m' => (r H' m').2.1⟩
theorem ema2 (h : EM a C ta σ H φ) (g : EM a C tb σ H ψ) : EMA a C (tCons ta (tCons tb tNil)) σ H (fun l => ∃ d1 d2, l = [d1, d2] ∧ φ d1 ∧ ψ d2) := (ema1 h (ema1 g ema0)).imp fun l ⟨d1, l1, e, p1, d2, l2, e2, p2, e3⟩ => ⟨d1, d2, by rw [e, e2, e3], p1, p2⟩
theorem ema3 {tc : TE} {ω : D → Prop} (h : EM a C ta σ H φ) (g : EM a C tb σ H ψ) (f : EM a C tc σ H ω) : EMA a C (tCons ta (tCons tb (tCons tc tNil))) σ H (fun l => ∃ d1 d2 d3, l = [d1, d2, d3] ∧ φ d1 ∧ ψ d2 ∧ ω d3) := (ema1 h (ema2 g f)).imp fun l ⟨d1, l1, e, p1, d2, d3, e2, p2, p3⟩ => ⟨d1, d2, d3, by rw [e, e2], p1, p2, p3⟩
theorem qm_append {i : Nat} {p : Addr} {xs : List V} (ok : HpOk a H) (ho : σ[i]? = some (some (.ref p))) (hp : p ≠ a) (hl : H p = some (.lst xs)) (hn : xs.length ≤ 40000) (he : EM a C te σ H φ)
    (q : ∀ d v H1, φ d → Mu a H H1 → RpS a C H1 v d → H1 p = some (.lst xs) → E.nx σ (upd H1 p (.lst (xs ++ [v])))) : tDrop (tBM K "list" (rM P w K "list.append") (tVar i) (tCons te tNil)) E σ H :=
  ⟨_, ho, .inl ⟨rfl, xs, sq_of hl⟩, he H (.refl ok) _ fun d v H2 pd m2 r2 =>
    ⟨rAppend, fun _ _ => mt_append, p, xs, v, rfl, rfl, m2.keep p _ hp hl, Nat.lt_of_le_of_lt hn (by decide), q d v H2 pd m2 r2 (m2.keep p _ hp hl)⟩⟩
theorem qsm_forL {α : Type} {F : α → D} {tg : Expr} {i : Nat} {tb : TS} {ψ : List α → Prop} (ok : HpOk a H) (h : EM a C te σ H (fun d => ∃ xs : List α, d = .lst (xs.map F) ∧ ψ xs)) (hz : ∀ x, (F x).fz = true) (l : Addr) (hla : l ≠ a) (hl : H l = some (.lst [])) (hψ : ∀ xs, ψ xs → xs ≠ [])
    (q : ∀ (xs : List α) (H1 : Hp), ψ xs → Mu a H H1 → ∃ Pv : Nat → L2.St → Hp → Prop, Pv 0 σ H1 ∧ (∀ i σ' H', Pv i σ' H' → (∀ b o, b ≠ a → b ≠ l → H1 b = some o → H' b = some o) ∧ HpOk a H') ∧
      (∀ j x v σ' H', xs[j]? = some x → Pv j σ' H' → RpS a C H' v (F x) → tb { E with nx := Pv (j + 1), ct := Pv (j + 1), bk := tz E } (σ'.set i (some v)) H') ∧
      ∀ σ' H', Pv xs.length σ' H' → tz E σ' H') : tSeq (tFor (iB P w K tg te) (gName i) tb) tz E σ H := h H (.refl ok) _ fun d v H1 ⟨xs, ed, hx⟩ m r => by
  subst ed
  obtain ⟨p, vs, rfl, h1, h2⟩ := r.rp m.ok
  have hp : p ≠ a := r.ne
  refine ⟨_, fun X g => g.K ▸ it_list, p, rfl, ⟨vs, sq_of h1⟩, ?_⟩
  obtain ⟨Pv, h0, hm, hs, hd⟩ := q xs H1 hx m
  have hlen : vs.length = xs.length := by rw [h2.length, List.length_map]
  have hl1 : H1 l = some (.lst []) := m.keep l _ hla hl
  have hpl : p ≠ l := fun e => by
    subst e
    rw [hl1] at h1
    cases h1
    exact hψ xs hx (List.length_eq_zero_iff.mp hlen.symm)
  have tx : ∀ j σ' H', Pv j σ' H' → Tx H1 H' := fun j σ' H' p' b ys hb => (hm j σ' H' p').1 b _ (fun z => by
    subst z
    obtain ⟨x, y, z, h, _⟩ := m.ok
    rw [h] at hb
    cases hb) (fun z => by
    subst z
    rw [hl1] at hb
    cases hb) hb
  have w := walk_list (K := K) (a := p) (xs := vs)
  refine for_it (D := { E with nx := tz E }) w Pv h0 (fun j σ' H' _ p' => sq_of ((hm j σ' H' p').1 p _ hp hpl h1)) (fun j x σ' H' H'' hj p' y => ?_) fun σ' H' p' => hd σ' H' (hlen ▸ p')
  obtain ⟨rfl, ey⟩ := y
  obtain ⟨dx, hdx, rx⟩ := h2.getV ey
  obtain ⟨x0, hx0, rfl⟩ : ∃ x0, xs[j]? = some x0 ∧ F x0 = dx := by
    rw [List.getElem?_map] at hdx
    cases q : xs[j]? with
    | none => rw [q] at hdx; cases hdx
    | some b => rw [q] at hdx; exact ⟨b, rfl, Option.some.inj hdx⟩
  exact hs j x0 x σ' _ hx0 p' (RpS.fz (hm j σ' _ p').2 (hz x0) (rx.fz (tx j σ' _ p') (hz x0)))
theorem et_and0 (h : EvT t σ H false) : EvT (tAnd t u) σ H false := fun H1 e Q q => h H1 e _ fun H2 e2 => by
  show Q false H2
  exact q H2 e2
end
end Fl
set_option maxHeartbeats 4000000
namespace Fl
open PySem PySem.Spec PyProof.Rows L2 Evl
theorem sc_touching : FnScope ["rooms", "found", "name", "size", "place", "owner", "near", "mate", "wide", "there", "holder", "apart"] ["rooms"] (defScope s_touching) := ⟨rfl, rfl, rfl, by decide +kernel, rfl, by decide +kernel, by decide +kernel⟩
theorem sc_clash_word : FnScope ["touch", "one", "other", "grounds", "first", "last", "used", "name", "mate"] ["touch", "one", "other"] (defScope s_clash_word) := ⟨rfl, rfl, rfl, by decide +kernel, rfl, by decide +kernel, by decide +kernel⟩
theorem sc_clash : FnScope ["touch", "one", "other"] ["touch", "one", "other"] (defScope s_clash) := ⟨rfl, rfl, rfl, by decide +kernel, rfl, by decide +kernel, by decide +kernel⟩
def nearB (h g : Hall) : Bool := match h.at_, g.at_ with
  | some p, some t => !decide (g.name = h.name) && (decide (p < t + g.size) && decide (t < p + h.size))
  | _, _ => false
def nearL (hs : List Hall) (h : Hall) : List Str := h.name :: (hs.filter (nearB h)).map Hall.name
abbrev touchD (hs : List Hall) : List (Key × D) := dcD hs (fun h => (Sum.inr h.name : Key)) fun h => .tup ((nearL hs h).map D.str)
theorem near_off {h g : Hall} (hap : (decide (g.name = h.name) || ((optD h.at_).isN || (optD g.at_).isN)) = true) : nearB h g = false := by
  unfold nearB
  cases h1 : h.at_ with
  | none => rfl
  | some p =>
    cases h2 : g.at_ with
    | none => rfl
    | some t =>
      rw [h1, h2] at hap
      have e : decide (g.name = h.name) = true := by simpa [optD, D.isN] using hap
      show (!decide (g.name = h.name) && _) = false
      rw [e]
      rfl
theorem near_at {h g : Hall} (hap : ¬ (decide (g.name = h.name) || ((optD h.at_).isN || (optD g.at_).isN)) = true) : ∃ p t, h.at_ = some p ∧ g.at_ = some t ∧ g.name ≠ h.name := by
  cases h1 : h.at_ with
  | none => rw [h1] at hap; exact absurd (by simp [optD, D.isN]) hap
  | some p =>
    cases h2 : g.at_ with
    | none => rw [h1, h2] at hap; exact absurd (by simp [optD, D.isN]) hap
    | some t =>
      refine ⟨p, t, rfl, rfl, fun e => hap ?_⟩
      rw [decide_eq_true e]
      rfl
theorem near_on {h g : Hall} {p t : Int} (h1 : h.at_ = some p) (h2 : g.at_ = some t) (hne : g.name ≠ h.name) : nearB h g = (!false && (decide (p < t + g.size) && decide (t < p + h.size))) := by
  unfold nearB
  rw [h1, h2]
  show (!decide (g.name = h.name) && _) = _
  rw [decide_eq_false hne]
section
variable {P : Program} {w : World} {K : PySem.W.Frag} {mg : Str → Option Value} {base : Heap}
abbrev spTouch (C : Addr) : Sp := spF C (fun hs : List Hall => [hallsD hs]) HallsOk fun hs => .dk (touchD hs)
theorem c_touching (T : TF w K mg) : Callee P w K mg base "touching" 1 ["rooms"] (spTouch (CB K)) := by
  obtain ⟨fd, F⟩ := T.d_touching
  refine callee_of F (F.ok sc_touching (spA_len fun _ => rfl) fun cdv A outer s H vs Q E hr h => ?_) T.g_touching fun _ _ _ _ _ _ us hl => match us, hl with | [_], _ => rfl
  obtain ⟨a, r, hp, q⟩ := h
  have g : Good P w K (L2.Cx.nox (cxOf CX0 P w K mg base ["rooms", "found", "name", "size", "place", "owner", "near", "mate", "wide", "there", "holder", "apart"] "touching" (defScope s_touching) (He.ga K "touching") cdv A outer s H E)) := ⟨rfl, rfl, rfl, rfl, hu_un hr⟩
  have hu := hu_of hr
  refine ⟨_, PSs.nox (pss_cons (ps_set (i := 1) sc_touching.nd rfl (Or.inl rfl) pe_dnewK)
      (pss_cons (ps_for PassesOwn.never g.calm (pi_b g (pv 0)) (pg_tup rfl (pgs_cons (pg_name (i := 2) sc_touching.nd rfl (Or.inl rfl)) (pgs_cons (pg_name (i := 3) sc_touching.nd rfl (Or.inl rfl)) (pgs_cons (pg_name (i := 4) sc_touching.nd rfl (Or.inl rfl)) (pgs_cons (pg_name (i := 5) sc_touching.nd rfl (Or.inl rfl)) pgs_nil))))) (pss_cons (ps_set (i := 6) sc_touching.nd rfl (Or.inl rfl) (pe_lst (pa_cons (pv 2) pa_nil)))
      (pss_cons (ps_for PassesOwn.never g.calm (pi_b g (pv 0)) (pg_tup rfl (pgs_cons (pg_name (i := 7) sc_touching.nd rfl (Or.inl rfl)) (pgs_cons (pg_name (i := 8) sc_touching.nd rfl (Or.inl rfl)) (pgs_cons (pg_name (i := 9) sc_touching.nd rfl (Or.inl rfl)) (pgs_cons (pg_name (i := 10) sc_touching.nd rfl (Or.inl rfl)) pgs_nil))))) (pss_cons (ps_set (i := 11) sc_touching.nd rfl (Or.inl rfl) (pe_or (pe_cmpR (op_b g) (pv 7) (pv 2) (nomark _)) (pe_or (pe_cmpR (op_b g) (pv 4) pe_non (nomark _)) (pe_one (pe_cmpR (op_b g) (pv 9) pe_non (nomark _))))))
      (pss_one (ps_if (PW.pt (pw_and (pt_not (pt_val (pv 11))) (pw_and (pt_cmpR (op_b g) (pv 4) (pe_op (op_b g) (pv 9) (pv 8)) (nomark _)) (pw_and1 (pt_cmpR (op_b g) (pv 9) (pe_op (op_b g) (pv 4) (pv 3)) (nomark _)))))) (pss_one (ps_expr (pe_bm PySem.F.plainAttrs_list PySem.F.slot_list_append PySem.F.type_list_append (mt_b g) (pv 6) (pa_cons (pv 7) pa_nil)))) pss_nil))))
      (pss_one (ps_asg (pe_callTy (c_b g) (by rfl) T.f_tuple bt_tuple (pa_cons (pv 6) pa_nil)) (pg_sub (pv 1) (pv 2) (set_b g)))))))
      (pss_one (ps_ret (pv 1))))), ?_⟩
  obtain ⟨v, rfl, r1⟩ := r.one
  replace r1 : Rp (CB K) H v (hallsD a) := r1
  replace hp : HallsOk a := hp
  refine q_dnew fun d hd => ?_
  have eD : Ex H (upd H d (.dK [])) := Ex.new hd
  refine qs_for0 (xs := a) (F := Hall.D) (ei_tup (ed_var rfl (r1.ex eD))) (fun h _ => h.fz) fun H2 e2 => ?_
  refine ⟨fun i σ' H' => (∃ u2 u3 u4 u5 u6 u7 u8 u9 u10 u11, σ' = [some v, some (.ref d), u2, u3, u4, u5, u6, u7, u8, u9, u10, u11]) ∧ Tx H2 H' ∧ Ex H H' ∧ ∃ ks, H' d = some (.dK ks) ∧ RK (Rp (CB K) H') ks (dcD (a.take i) (fun h => (Sum.inr h.name : Key)) fun h => .tup ((nearL a h).map D.str)),
    ⟨⟨_, _, _, _, _, _, _, _, _, _, rfl⟩, Tx.refl _, eD.trans e2, [], e2 _ _ upd_same, True.intro⟩, fun i σ' H' p => p.2.1, ?_, ?_⟩
  · rintro i h x σ' H' H'' hi ⟨⟨u2, u3, u4, u5, u6, u7, u8, u9, u10, u11, rfl⟩, p1, p2, ks, p3, p4⟩ e3 r3
    have hm : h ∈ a := List.mem_of_getElem? hi
    refine g_four r3 fun v1 v2 v3 v4 q1 q2 q3 q4 => ?_
    refine q_lnew (ea1 (ed_var rfl q1) ea0) fun l vs H3 e4 rl hl => ?_
    have rv : Rp (CB K) H3 v (hallsD a) := r1.ex (p2.trans (e3.trans e4))
    have hdl : d ≠ l := fun z => by
      subst z
      rw [(e3.trans e4) _ _ p3] at hl
      cases hl
    have eL : Ex H3 (upd H3 l (.lst vs)) := Ex.new hl
    refine qs_for0 (xs := a) (F := Hall.D) (ei_tup (ed_var rfl (rv.ex eL))) (fun h _ => h.fz) fun H4 e5 => ?_
    have e35 : Ex H' H4 := (e3.trans e4).trans (eL.trans e5)
    refine ⟨fun j σ' H' => (∃ u7 u8 u9 u10 u11, σ' = [some v, some (.ref d), some v1, some v2, some v3, some v4, some (.ref l), u7, u8, u9, u10, u11]) ∧ Tx H4 H' ∧ Ex H3 H' ∧ ∃ acc, H' l = some (.lst acc) ∧ RpL (CB K) H' acc ((h.name :: ((a.take j).filter (nearB h)).map Hall.name).map D.str),
      ⟨⟨_, _, _, _, _, rfl⟩, Tx.refl _, eL.trans e5, vs, e5 _ _ upd_same, rl.ex (eL.trans e5)⟩, fun i σ' H' p => p.2.1, ?_, ?_⟩
    · rintro j g x2 σ2 H5 H6 hj ⟨⟨u7, u8, u9, u10, u11, rfl⟩, t1, t2, acc, t3, t4⟩ e6 r6
      have hgm : g ∈ a := List.mem_of_getElem? hj
      refine g_four r6 fun w1 w2 w3 w4 s1 s2 s3 s4 => ?_
      have e46 := t2.trans e6
      have q1' : Rp (CB K) H6 v1 (.str h.name) := q1.ex (e4.trans e46)
      have q2' : Rp (CB K) H6 v2 (.int h.size) := q2.ex (e4.trans e46)
      have q3' : Rp (CB K) H6 v3 (optD h.at_) := q3.ex (e4.trans e46)
      refine qd_asg (ed_or (ed_op (ed_var rfl s1) (ed_var rfl q1') o_eqs) fun _ => ed_or (ed_op (ed_var rfl q3') ed_non o_isN) fun _ => ed_op (ed_var rfl s3) ed_non o_isN) fun va H7 e7 ra => ?_
      by_cases hap : (decide (g.name = h.name) || ((optD h.at_).isN || (optD g.at_).isN)) = true
      · rw [hap] at ra
        refine ql_no (et_is (et_and (b := false) (et_not (et_val (ed_var rfl ra))) fun z => absB z (by kernel_rfl)) (by kernel_rfl)) fun H8 e8 => ?_
        have e68 := e7.trans e8
        refine ⟨⟨_, _, _, _, _, rfl⟩, t1.trans (Tx.ex (e6.trans e68)), e46.trans e68, acc, (e6.trans e68) _ _ t3, ?_⟩
        rw [take_item hj, List.filter_append, List.filter_cons, if_neg (by rw [near_off hap]; decide), List.filter_nil, List.append_nil]
        exact t4.ex (e6.trans e68)
      · obtain ⟨p, tt, hp1, hp2, hne⟩ := near_at hap
        have hap' := eq_false_of_ne_true hap
        rw [hap'] at ra
        rw [hp1] at q3'
        rw [hp2] at s3
        refine ql_if (et_and (et_not (et_val (ed_var rfl ra))) fun _ => et_and (et_cmp (ed_op (ed_var rfl (q3'.ex e7)) (ed_op (ed_var rfl (s3.ex e7)) (ed_var rfl (s2.ex e7)) o_add) o_lt)) fun _ => et_cmp (ed_op (ed_var rfl (s3.ex e7)) (ed_op (ed_var rfl (q3'.ex e7)) (ed_var rfl (q2'.ex e7)) o_add) o_lt)) (fun hb H8 e8 => ?_) fun hb H8 e8 => ?_
        · have e68 := e7.trans e8
          have hl8 := (e6.trans e68) _ _ t3
          refine q_append (ev_var rfl) (ed_var rfl (s1.ex e68)) hl8 ?_ fun v' H9 e9 r9 => ?_
          · rw [t4.length, List.length_map, List.length_cons, List.length_map]
            have h1 := List.length_filter_le (nearB h) (a.take j)
            rw [List.length_take] at h1
            have := hp.few
            omega
          · have hl9 := e9 _ _ hl8
            have e69 := e68.trans e9
            have t9 : Tx H9 (upd H9 l (.lst (acc ++ [v']))) := Tx.lst hl9
            refine ⟨⟨_, _, _, _, _, rfl⟩, t1.trans ((Tx.ex (e6.trans e69)).trans t9), Ex.mut (e46.trans e69) hl, _, upd_same, ?_⟩
            rw [take_item hj, List.filter_append, List.filter_cons, if_pos (by rw [near_on hp1 hp2 hne]; exact hb), List.filter_nil, List.map_append, ← List.cons_append, List.map_append]
            exact RpL.fz t9 (fzL_append (fzL_map fun _ _ => rfl) rfl) ((t4.ex (e6.trans e69)).snoc r9)
        · have e68 := e7.trans e8
          refine ⟨⟨_, _, _, _, _, rfl⟩, t1.trans (Tx.ex (e6.trans e68)), e46.trans e68, acc, (e6.trans e68) _ _ t3, ?_⟩
          rw [take_item hj, List.filter_append, List.filter_cons, if_neg (by rw [near_on hp1 hp2 hne]; intro z; rw [z] at hb; cases hb), List.filter_nil, List.append_nil]
          exact t4.ex (e6.trans e68)
    · rintro σ2 H5 ⟨⟨u7, u8, u9, u10, u11, rfl⟩, t1, t2, acc, t3, t4⟩
      rw [List.take_length] at t4
      have e35' : Ex H' H3 := e3.trans e4
      refine q_putK (k := Sum.inr h.name) (ed_cb (ea1 (ed_var rfl (show Rp (CB K) H5 (.ref l) (.lst ((nearL a h).map D.str)) from ⟨l, acc, rfl, t3, t4⟩)) ea0) k_tuple) (ev_var rfl) (ed_var rfl (rp_key.mpr (q1.ex (e4.trans t2)))) ((e35'.trans t2) _ _ p3) (by
        rw [p4.length]
        refine Nat.le_trans dcD_length ?_
        rw [List.length_take]
        have := hp.few
        omega) fun v' H6 e6 r6 => ?_
      have eA := (e35'.trans t2).trans e6
      have hd6 := eA _ _ p3
      have t6 : Tx H6 (upd H6 d (.dK (putK ks (Sum.inr h.name) v'))) := Tx.dk hd6
      refine ⟨⟨_, _, _, _, _, _, _, _, _, _, rfl⟩, p1.trans ((Tx.ex eA).trans t6), Ex.mut (p2.trans eA) hd, _, upd_same, ?_⟩
      rw [take_item hi, dcD_snoc]
      exact RK.put (RK.fz t6 (dcD_fz (fun p hp => nomatch hp) fun b _ => fz_strs) (p4.imp fun _ _ r => r.ex eA)) (r6.fz t6 fz_strs)
  · rintro σ' H' ⟨⟨u2, u3, u4, u5, u6, u7, u8, u9, u10, u11, rfl⟩, p1, p2, ks, p3, p4⟩
    rw [List.take_length] at p4
    exact ⟨_, rfl, q _ (.ref d) H' rfl p2 ⟨d, ks, rfl, p3, rpK_iff.mpr p4⟩ fun _ b eb => by
      cases eb
      exact hd⟩
def nearN (hs : List Hall) (z : Str) : List Str := match hs.find? (fun h => decide (h.name = z)) with
  | some h => nearL hs h
  | none => []
def roomB (a b : Cmd) : Bool := a.dst.any fun z => decide (z ∈ b.src ++ b.dst)
def grdB (hs : List Hall) (a b : Cmd) : Bool := a.dst.any fun z => (nearN hs z).any fun m => decide (m ∈ b.src ++ b.dst)
def clashB (hs : List Hall) (a b : Cmd) : Bool := (decide (a.word = "show") && decide (b.word = "show")) || ((roomB a b || roomB b a) || (grdB hs a b || grdB hs b a))
theorem find_name {hs : List Hall} (nd : (hs.map Hall.name).Nodup) {h : Hall} (hm : h ∈ hs) : hs.find? (fun g => decide (g.name = h.name)) = some h := by
  induction hs with
  | nil => cases hm
  | cons g gs ih =>
    rw [List.map_cons, List.nodup_cons] at nd
    rcases List.mem_cons.mp hm with e | e
    · subst e
      simp
    · have hne : g.name ≠ h.name := fun z => nd.1 (z ▸ List.mem_map.mpr ⟨h, e, rfl⟩)
      rw [List.find?_cons, decide_eq_false hne]
      exact ih nd.2 e
theorem touch_look {hs : List Hall} (ok : HallsOk hs) {z : Str} (hz : z ∈ hs.map Hall.name) : lookD (touchD hs) (Sum.inr z) = some (.tup ((nearN hs z).map D.str)) := by
  obtain ⟨h, hm, rfl⟩ := List.mem_map.mp hz
  have e : nearN hs h.name = nearL hs h := by
    unfold nearN
    rw [find_name ok.nd hm]
  rw [e]
  refine dcD_look hm fun b hb eb => ?_
  have e1 : b.name = h.name := Sum.inr.inj eb
  have e2 := find_name ok.nd hm
  have e3 := find_name ok.nd hb
  rw [e1] at e3
  rw [e2] at e3
  cases e3
  rfl
theorem nearN_len {hs : List Hall} (ok : HallsOk hs) (z : Str) : (nearN hs z).length ≤ 20 := by
  unfold nearN
  split
  · rename_i h _
    show ((hs.filter (nearB h)).map Hall.name).length + 1 ≤ 20
    rw [List.length_map]
    have h1 := List.length_filter_le (nearB h) hs
    have := ok.few
    omega
  · exact Nat.zero_le _
theorem clash_of_room {hs : List Hall} {c1 c2 a b : Cmd} (hm : (a, b) ∈ [(c1, c2), (c2, c1)]) (h : roomB a b = true) : clashB hs c1 c2 = true := by
  unfold clashB
  rcases List.mem_cons.mp hm with e | e
  · cases e; simp [h]
  · cases List.mem_singleton.mp e; simp [h]
abbrev clArgs (p : List Hall × Cmd × Cmd) : List D := [.dk (touchD p.1), p.2.1.D, p.2.2.D]
abbrev clPre (p : List Hall × Cmd × Cmd) : Prop := HallsOk p.1 ∧ p.2.1.inn p.1 ∧ p.2.2.inn p.1
abbrev spClW (C : Addr) : Sp := spA C clArgs clPre fun p d => ∃ s : Str, d = .str s ∧ (!decide (s = "")) = clashB p.1 p.2.1 p.2.2
theorem c_clash_word (T : TF w K mg) (c_shows : Callee P w K mg base "shows" 1 ["command"] (spShows (CB K))) (c_rooms_of : Callee P w K mg base "rooms_of" 2 ["command"] (spRooms (CB K))) (c_written_by : Callee P w K mg base "written_by" 1 ["command"] (spDst (CB K))) :
    Callee P w K mg base "clash_word" 3 ["touch", "one", "other"] (spClW (CB K)) := by
  obtain ⟨fd, F⟩ := T.d_clash_word
  refine callee_of F (F.ok sc_clash_word (spA_len fun _ => rfl) fun cdv A outer s H vs Q E hr h => ?_) T.g_clash_word fun _ _ _ _ _ _ us hl => match us, hl with | [_, _, _], _ => rfl
  obtain ⟨a, r, hp, q⟩ := h
  have g : Good P w K (L2.Cx.nox (cxOf CX0 P w K mg base ["touch", "one", "other", "grounds", "first", "last", "used", "name", "mate"] "clash_word" (defScope s_clash_word) (He.ga K "clash_word") cdv A outer s H E)) := ⟨rfl, rfl, rfl, rfl, hu_un hr⟩
  have hu := hu_of hr
  refine ⟨_, PSs.nox (pss_cons (ps_if (PW.pt (pw_and (pt_val (pe_c c_shows (hr.mono (by decide)) (by rfl) pass0 (pa_cons (pv 1) pa_nil))) (pw_and1 (pt_val (pe_c c_shows (hr.mono (by decide)) (by rfl) pass0 (pa_cons (pv 2) pa_nil)))))) (pss_one (ps_ret pe_str)) pss_nil)
      (pss_cons (ps_set (i := 3) sc_clash_word.nd rfl (Or.inl rfl) pe_bl)
      (pss_cons (ps_for PassesOwn.never g.calm (pi_b g (pe_tup (pa_cons (pe_tup (pa_cons (pv 1) (pa_cons (pv 2) pa_nil))) (pa_cons (pe_tup (pa_cons (pv 2) (pa_cons (pv 1) pa_nil))) pa_nil)))) (pg_tup rfl (pgs_cons (pg_name (i := 4) sc_clash_word.nd rfl (Or.inl rfl)) (pgs_cons (pg_name (i := 5) sc_clash_word.nd rfl (Or.inl rfl)) pgs_nil))) (pss_cons (ps_set (i := 6) sc_clash_word.nd rfl (Or.inr rfl) (pe_c c_rooms_of (hr.mono (by decide)) (by rfl) pass0 (pa_cons (pv 5) pa_nil)))
      (pss_one (ps_for PassesOwn.never g.calm (pi_b g (pe_c c_written_by (hr.mono (by decide)) (by rfl) pass0 (pa_cons (pv 4) pa_nil))) (pg_name (i := 7) sc_clash_word.nd rfl (Or.inl rfl)) (pss_cons (ps_if (pt_cmpR (op_b g) (pv 7) (pv 6) rfl) (pss_one (ps_ret pe_str)) pss_nil)
      (pss_one (ps_set (i := 3) sc_clash_word.nd rfl (Or.inl rfl) (pe_or (pv 3) (pe_one (pe_callB (c_b g) (by rfl) T.f_any bt_any (pa_cons (pe_lc (own := [("mate", 8)]) g.calm sc_clash_word.nd (pi_b g (pe_ix (ix_b g) (pv 0) (pv 7) (fun _ _ => rfl))) (blkOk_by (by kernel_rfl)) (fun _ _ _ _ _ => (pg_name (i := 8) sc_clash_word.nd rfl (Or.inl rfl))) (fun _ _ _ _ _ => pts_nil) (fun _ _ _ _ _ => (pe_cmpR (op_b g.b) (pv 8) (pv 6) rfl))) pa_nil)))))))))))
      (pss_one (ps_ret (pe_ifExp (pt_val (pv 3)) pe_str pe_str)))))), ?_⟩
  obtain ⟨v, u1, u2, rfl, r1, r2, r3⟩ := r.three
  obtain ⟨hs, c1, c2⟩ := a
  obtain ⟨h1, h2, h3⟩ := (show HallsOk hs ∧ c1.inn hs ∧ c2.inn hs from hp)
  replace r1 : Rp (CB K) H v (.dk (touchD hs)) := r1
  replace r2 : Rp (CB K) H u1 c1.D := r2
  replace r3 : Rp (CB K) H u2 c2.D := r3
  refine qd_when (et_and (et_val (ed_call c1 (ea1 (ed_var rfl r2) ea0) trivial)) fun _ => et_val (ed_call c2 (ea1 (ed_var rfl r3) ea0) trivial)) (fun hb H1 e1 => ?_) fun hb H1 e1 => ?_
  · refine ret_of ed_str rfl (q_ex e1 q) ⟨_, rfl, ?_⟩
    show _ = ((decide (c1.word = "show") && decide (c2.word = "show")) || _)
    rw [hb]
    rfl
  refine qd_asg (C := CB K) ed_bl fun vg H2 e2 rg => ?_
  have eg : vg = V.bl false := rg
  subst eg
  have e12 := e1.trans e2
  refine qs_for0 (xs := [(c1, c2), (c2, c1)]) (F := fun p : Cmd × Cmd => D.tup [p.1.D, p.2.D]) (ei_tup (ed_tup (ea1 (ed_tup (ea1 (ed_var rfl (r2.ex e12)) (ea1 (ed_var rfl (r3.ex e12)) ea0))) (ea1 (ed_tup (ea1 (ed_var rfl (r3.ex e12)) (ea1 (ed_var rfl (r2.ex e12)) ea0))) ea0)))) (fun p _ => by
    show (p.1.D.fz && (p.2.D.fz && true)) = true
    rw [p.1.fz, p.2.fz]
    rfl) fun H3 e3 => ?_
  refine ⟨fun i σ' H' => (∃ u4 u5 u6 u7 u8, σ' = [some v, some u1, some u2, some (.bl (([(c1, c2), (c2, c1)].take i).any fun p => grdB hs p.1 p.2)), u4, u5, u6, u7, u8]) ∧ Ex H3 H' ∧ (([(c1, c2), (c2, c1)].take i).all fun p => !roomB p.1 p.2) = true,
    ⟨⟨_, _, _, _, _, rfl⟩, Ex.refl _, rfl⟩, fun i σ' H' p => Tx.ex p.2.1, ?_, ?_⟩
  · rintro i ⟨a, b⟩ x σ' H' H'' hi ⟨⟨u4, u5, u6, u7, u8, rfl⟩, p1, p2⟩ e4 r4
    have hab : a.inn hs ∧ b.inn hs := by
      have hm := List.mem_of_getElem? hi
      rcases List.mem_cons.mp hm with e | e
      · cases e; exact ⟨h2, h3⟩
      · cases List.mem_singleton.mp e; exact ⟨h3, h2⟩
    refine g_two r4 fun va vb ra rb => ?_
    refine qd_asgP (edx_call b (ea1 (ed_var rfl rb) ea0) hab.2.1) fun vu H5 e5 ⟨dd, ⟨zs, ed, hz, hl⟩, ru⟩ => ?_
    subst ed
    have eH5 : Ex H H5 := ((e12.trans e3).trans p1).trans (e4.trans e5)
    refine q_for0 (xs := a.dst) (F := D.str) (ei_tup (ed_call a (ea1 (ed_var rfl (ra.ex e5)) ea0) trivial)) (fun _ _ => rfl) fun H6 e6 => ?_
    refine ⟨fun j σ' H' => (∃ u7 u8, σ' = [some v, some u1, some u2, some (.bl ((([(c1, c2), (c2, c1)].take i).any fun p => grdB hs p.1 p.2) || ((a.dst.take j).any fun z => (nearN hs z).any fun m => decide (m ∈ b.src ++ b.dst)))), some va, some vb, some vu, u7, u8]) ∧ Ex H6 H' ∧ ((a.dst.take j).all fun z => !decide (z ∈ b.src ++ b.dst)) = true,
      ⟨⟨u7, u8, by rw [List.take_zero, List.any_nil, Bool.or_false]; rfl⟩, Ex.refl _, rfl⟩, fun i σ' H' p => Tx.ex p.2.1, ?_, ?_⟩
    · rintro j z y σ2 H7 H8 hj ⟨⟨u7, u8, rfl⟩, t1, t2⟩ e8 r8
      have hzm : z ∈ a.dst := List.mem_of_getElem? hj
      have hzn : z ∈ hs.map Hall.name := hab.1.2 z (List.mem_append.mpr (.inr hzm))
      have e68 := (e6.trans t1).trans e8
      have ru' := ru.ex e68
      show gName 7 y _ H8 _
      refine qd_when (et_cmp (ed_op (ed_var rfl r8) (ed_var rfl ru') o_intup)) (fun hb H9 e9 => ?_) fun hb H9 e9 => ?_
      · have hin : z ∈ b.src ++ b.dst := (hz z).mp (of_decide_eq_true hb)
        have hroom : roomB a b = true := List.any_eq_true.mpr ⟨z, hzm, decide_eq_true hin⟩
        have hfin : clashB hs c1 c2 = true := clash_of_room (List.mem_of_getElem? hi) hroom
        exact sd_retF (C := CB K) ed_str rfl fun v' H10 e10 r10 n10 => q_ex ((eH5.trans e68).trans e9) q _ v' H10 ⟨_, rfl, hfin ▸ rfl⟩ e10 r10 n10
      · have hnin : ¬ z ∈ b.src ++ b.dst := fun q => by
          rw [decide_eq_true ((hz z).mpr q)] at hb
          cases hb
        have e69 := e68.trans e9
        have rt9 : Rp (CB K) H9 v (.dk (touchD hs)) := r1.ex (eH5.trans e69)
        refine ql_asg (C := CB K) (ed_or (ed_var rfl (show Rp (CB K) H9 _ (.bl _) from rfl)) (fun _ => ed_cb (ea1 (ed_map (fun m : Str => .bl (decide (m ∈ zs))) (ei_tup (ed_op (ed_var rfl rt9) (ed_var rfl (show Rp (CB K) H9 y (kD (Sum.inr z)) from r8)) (o_ixK (touch_look h1 hzn)))) (Nat.le_trans (nearN_len h1 z) (by decide)) (fun _ _ => rfl)
          fun i m x H10 hi e10 r10 k q' => q' _ rfl (ed_op (ed_var rfl r10) (ed_var rfl (ru'.ex (e9.trans e10))) o_intup)) ea0) k_anyM)) fun vo H10 e10 ro => ?_
        have evo : vo = V.bl _ := ro
        subst evo
        refine ⟨⟨some y, u8, ?_⟩, (t1.trans e8).trans (e9.trans e10), ?_⟩
        · rw [take_item hj, List.any_append, List.any_cons, List.any_nil, Bool.or_false, ← Bool.or_assoc]
          have e : ((nearN hs z).any fun m => decide (m ∈ zs)) = (nearN hs z).any fun m => decide (m ∈ b.src ++ b.dst) := by
            congr 1
            funext m
            exact decide_eq_decide.mpr (hz m)
          rw [e]
          rfl
        · rw [take_item hj, List.all_append, t2, List.all_cons, decide_eq_false hnin]
          rfl
    · rintro σ2 H7 ⟨⟨u7, u8, rfl⟩, t1, t2⟩
      rw [List.take_length] at t2 ⊢
      refine ⟨⟨some va, some vb, some vu, u7, u8, ?_⟩, p1.trans ((e4.trans e5).trans (e6.trans t1)), ?_⟩
      · rw [take_item hi, List.any_append, List.any_cons, List.any_nil, Bool.or_false]
        rfl
      · rw [take_item hi, List.all_append, p2, List.all_cons]
        have e : roomB a b = false := by
          unfold roomB
          rw [← Bool.not_eq_true, List.any_eq_true]
          rintro ⟨z, hzm, hzz⟩
          have := List.all_eq_true.mp t2 z hzm
          rw [hzz] at this
          cases this
        show (true && (!roomB a b && true)) = true
        rw [e]
        rfl
  · rintro σ' H' ⟨⟨u4, u5, u6, u7, u8, rfl⟩, p1, p2⟩
    have eH : Ex H H' := (e12.trans e3).trans p1
    have hp2 : roomB c1 c2 = false ∧ roomB c2 c1 = false := by
      have h : (!roomB c1 c2 && (!roomB c2 c1 && true)) = true := p2
      cases h1 : roomB c1 c2 <;> cases h2 : roomB c2 c1 <;> rw [h1, h2] at h <;> first | exact ⟨rfl, rfl⟩ | cases h
    have hfin : clashB hs c1 c2 = (grdB hs c1 c2 || grdB hs c2 c1) := by
      unfold clashB
      rw [hb, hp2.1, hp2.2]
      rfl
    have hgr : (([(c1, c2), (c2, c1)].take [(c1, c2), (c2, c1)].length).any fun p => grdB hs p.1 p.2) = (grdB hs c1 c2 || grdB hs c2 c1) := by
      show (grdB hs c1 c2 || (grdB hs c2 c1 || false)) = _
      rw [Bool.or_false]
    rw [hgr]
    cases hg : (grdB hs c1 c2 || grdB hs c2 c1) with
    | true =>
      refine ret_of (d := .str "ground") (ed_if (b := true) (et_val (C := CB K) (ed_var rfl rfl)) (fun _ => ed_str) fun z => nomatch z) rfl (q_ex eH q) ⟨_, rfl, ?_⟩
      rw [hfin, hg]
      rfl
    | false =>
      refine ret_of (d := .str "") (ed_if (b := false) (et_val (C := CB K) (ed_var rfl rfl)) (fun z => nomatch z) fun _ => ed_str) rfl (q_ex eH q) ⟨_, rfl, ?_⟩
      rw [hfin, hg]
      rfl
theorem edx_op1 {ta tb : TE} {σ : L2.St} {H : Hp} {C : Addr} {r : R2} {φ ψ : D → Prop} {y : D} (ha : EdX C ta σ H φ) (hb : Ed C tb σ H y) (ho : ∀ d, φ d → ∃ z, DOp C r d y z ∧ ψ z) : EdX C (tOp r ta tb) σ H ψ := fun H1 e Q q =>
  ha H1 e _ fun v H2 e2 ⟨d, p, r2⟩ => hb H2 (e.trans e2) _ fun u H3 e3 r3 => by
    obtain ⟨z, dz, pz⟩ := ho d p
    exact dz H3 v u (r2.ex e3) r3 Q fun o H4 e4 r4 => q o H4 ((e2.trans e3).trans e4) ⟨z, pz, r4⟩
abbrev spClash (C : Addr) : Sp := spF C clArgs clPre fun p => .bl (clashB p.1 p.2.1 p.2.2)
theorem c_clash (T : TF w K mg) (c_clash_word : Callee P w K mg base "clash_word" 3 ["touch", "one", "other"] (spClW (CB K))) : Callee P w K mg base "clash" 4 ["touch", "one", "other"] (spClash (CB K)) := by
  obtain ⟨fd, F⟩ := T.d_clash
  refine callee_of F (F.ok sc_clash (spA_len fun _ => rfl) fun cdv A outer s H vs Q E hr h => ?_) T.g_clash fun _ _ _ _ _ _ us hl => match us, hl with | [_, _, _], _ => rfl
  obtain ⟨a, r, hp, q⟩ := h
  have g : Good P w K (L2.Cx.nox (cxOf CX0 P w K mg base ["touch", "one", "other"] "clash" (defScope s_clash) (He.ga K "clash") cdv A outer s H E)) := ⟨rfl, rfl, rfl, rfl, hu_un hr⟩
  have hu := hu_of hr
  refine ⟨_, PSs.nox (pss_one (ps_ret (pe_cmpR (op_b g) (pe_c c_clash_word (hr.mono (by decide)) (by rfl) pass0 (pa_cons (pv 0) (pa_cons (pv 1) (pa_cons (pv 2) pa_nil)))) pe_str (nomark _)))), ?_⟩
  obtain ⟨v, u1, u2, rfl, r1, r2, r3⟩ := r.three
  refine ret_of (EdX.ed (edx_op1 (edx_call a (ea1 (ed_var rfl r1) (ea1 (ed_var rfl r2) (ea1 (ed_var rfl r3) ea0))) hp) ed_str fun d ⟨s, e1, e2⟩ => ⟨.bl (!decide (s = "")), by rw [e1]; exact o_nes, ?_⟩)) rfl q rfl
  rw [e2]
end
end Fl
set_option maxHeartbeats 2000000
namespace Fl
open PySem PySem.Spec PyProof.Rows L2 Evl
def maxL (d : Int) : List Int → Int
  | [] => d
  | y :: ys => ys.foldl (fun a y => if a < y then y else a) y
def rMaxDf (K : PySem.W.Frag) : List V → List V → Hp → VK → Prop := fun vs zs H Q => ∃ (l : Addr) (d : Int) (ns : List Int), vs = [.ref l] ∧ zs = [.int d] ∧ SqL K H l (ns.map V.int) ∧ Q (.int (maxL d ns)) H
section
variable {X : Cx}
theorem cr_maxDf (hc : X.calm = true) (hu : X.A.units + 65 < cLine) : CallRK X (.builtin "max") [Str.ofString "default"] (rMaxDf X.K) := by
  intro pins s σ H xs zs us ws Q I rx rz h
  obtain ⟨l, d, ns, rfl, rfl, hs, q⟩ := h
  rw [Vals.ref1 rx]
  cases rz with
  | cons r rr =>
    cases rr
    obtain ⟨t, rfl⟩ := r
    obtain ⟨its, rv, hl, _⟩ := I.list hs
    have hi := rv.ints
    refine PySem.W.max_list_datum_default (α := Int) (I.ok.hd hc) hl.isList (PySem.W.HoldAll.of_ints hi) (by show X.A.units + 1 + 0 < cLine; omega) (fun e h' tk k => ?_) fun y ys i v h' tk e hv hh k => ?_
    · subst e
      exact ⟨.int d, H, I.kept (t' := tk) k, ⟨t, rfl⟩, q⟩
    · subst e
      obtain ⟨tt, rfl⟩ := PySem.W.int_of_holds hh
      have e : PySem.W.maxOf y ys = maxL d (y :: ys) := by
        unfold PySem.W.maxOf maxL
        congr 1
        funext a z
        by_cases q : a < z
        · rw [if_pos q, if_pos (show PySem.W.DatumOrd.lt a z = true from decide_eq_true q)]
        · rw [if_neg q, if_neg (show ¬ PySem.W.DatumOrd.lt a z = true from fun e => q (of_decide_eq_true e))]
      exact ⟨.int _, H, I.kept (t' := tk) k, ⟨tt, rfl⟩, e ▸ q⟩
end
section
variable {P : Program} {w : World} {K : PySem.W.Frag} {C : Addr} {te tk : TE} {σ : L2.St} {H : Hp}
def rMaxB (P : Program) (w : World) (K : PySem.W.Frag) : List V → List V → Hp → VK → Prop := fun vs zs H Q => ∃ r, (∀ X, Good P w K X → CallRK X (.builtin "max") [Str.ofString "default"] r) ∧ r vs zs H Q
theorem maxd_b {X : Cx} (g : Good P w K X) : CallRK X (.builtin "max") [Str.ofString "default"] (rMaxB P w K) := fun pins s σ H xs zs us ws Q I rx rz ⟨_, h, q⟩ => h X g pins s σ H xs zs us ws Q I rx rz q
theorem ed_maxd {ns : List Int} {d : Int} (h : Ed C te σ H (.lst (ns.map D.int))) : Ed C (tCKw (rMaxB P w K) (tCons te tNil) (tCons (tC (.int d)) tNil)) σ H (.int (maxL d ns)) := fun H1 e Q q => h H1 e _ fun v H2 e2 ⟨a, xs, ev, ha, rx⟩ => by
  subst ev
  have ex := rx.ints
  subst ex
  exact ⟨rMaxDf K, fun X g => by
    have h := g.K
    subst h
    exact cr_maxDf g.calm g.units, a, d, ns, rfl, rfl, sq_of ha, q _ H2 e2 rfl⟩
theorem fold_max : ∀ (ys : List Int) (y : Int), ys.foldl (fun a y => if a < y then y else a) y ∈ y :: ys ∧ ∀ z ∈ y :: ys, z ≤ ys.foldl (fun a y => if a < y then y else a) y
  | [], y => by simp
  | a :: ys, y => by
    rw [List.foldl_cons]
    obtain ⟨h1, h2⟩ := fold_max ys (if y < a then a else y)
    refine ⟨?_, fun z hz => ?_⟩
    · rcases List.mem_cons.mp h1 with e | e
      · rw [e]
        split
        · exact .tail _ (.head _)
        · exact .head _
      · exact .tail _ (.tail _ e)
    · have h3 := h2 (if y < a then a else y) List.mem_cons_self
      rcases List.mem_cons.mp hz with e | e
      · subst e
        exact Int.le_trans (by split <;> omega) h3
      · rcases List.mem_cons.mp e with e | e
        · subst e
          exact Int.le_trans (by split <;> omega) h3
        · exact h2 z (List.mem_cons_of_mem _ e)
theorem maxL_uniq {d m y : Int} {ys : List Int} (h1 : m ∈ y :: ys) (h2 : ∀ z, z ∈ y :: ys → z ≤ m) : m = maxL d (y :: ys) := by
  obtain ⟨a, b⟩ := fold_max ys y
  exact Int.le_antisymm (b m h1) (h2 _ a)
theorem maxL_ge {d : Int} {ns : List Int} {z : Int} (h : z ∈ ns) : z ≤ maxL d ns := by
  cases ns with
  | nil => cases h
  | cons y ys => exact (fold_max ys y).2 z h
theorem maxL_mem {d : Int} {ns : List Int} (h : ns ≠ []) : maxL d ns ∈ ns := by
  cases ns with
  | nil => exact absurd rfl h
  | cons y ys => exact (fold_max ys y).1
theorem k_maxl {ns : List Int} (hn : ns ≠ []) : DCall C (rC P w K (.builtin "max")) [.lst (ns.map D.int)] (.int (maxL 0 ns)) := dcall_of (r := rMax K) (fun X g => by
    have h := g.K
    subst h
    exact cr_max g.calm) fun H vs rx Q q => by
  obtain ⟨v, rfl, a, xs, rfl, e2, e3⟩ := rx.one
  have ex := e3.ints
  subst ex
  refine ⟨a, ns, rfl, sq_of e2, List.length_pos_iff.mpr hn, fun m h1 h2 => ?_⟩
  cases ns with
  | nil => exact absurd rfl hn
  | cons y ys =>
    rw [maxL_uniq (d := 0) h1 h2]
    exact q _ H (Ex.refl H) rfl
end
end Fl
set_option maxHeartbeats 2000000
namespace Fl
open PySem PySem.Spec PyProof.Rows L2 Evl
section
variable {X : Cx}
def updK (ks ls : List (Key × V)) : List (Key × V) := ls.foldl (fun m kv => putK m kv.1 kv.2) ks
theorem KV_upd : ∀ {ls : List (Key × V)} {ws : List (Key × Value)}, KV ls ws → ∀ {ks : List (Key × V)} {vs : List (Key × Value)}, KV ks vs → KV (updK ks ls) (merged vs ws) := by
  intro ls ws h
  induction h with
  | nil => intro ks vs g; exact g
  | @cons p q ps qs h1 h2 ih =>
    intro ks vs g
    obtain ⟨e1, e2⟩ := h1
    show KV (updK (putK ks p.1 p.2) ps) (merged (stored vs q.1 q.2) qs)
    refine ih ?_
    have := g.put p.1 e2
    rw [← e1]
    exact this
theorem updK_len : ∀ (ls ks : List (Key × V)), (updK ks ls).length ≤ ks.length + ls.length
  | [], ks => Nat.le_refl _
  | p :: ls, ks => by
    have h := updK_len ls (putK ks p.1 p.2)
    have h2 := length_putK ks p.1 p.2
    rw [List.length_cons]
    show (updK (putK ks p.1 p.2) ls).length ≤ _
    omega
def rDUpd : V → List V → Hp → VK → Prop := fun x xs H Q => ∃ a b ks ls, x = V.ref a ∧ xs = [V.ref b] ∧ H a = some (.dK ks) ∧ H b = some (.dK ls) ∧ a ≠ b ∧ ks.length + ls.length ≤ sizeLine ∧ Q .non (upd H a (.dK (updK ks ls)))
theorem mt_dupd : MtR X "dict.update" rDUpd := by
  intro pins s σ H x xs v us Q I rx rxs h
  obtain ⟨a, b, ks, ls, rfl, rfl, ha, hb, hne, hl, q⟩ := h
  cases rx
  cases rxs with
  | cons ry rt =>
    cases rt
    cases ry
    obtain ⟨z, hd, vs, rel, dd⟩ := dk_of I.hok ha
    obtain ⟨z2, hd2, ws, rel2, dd2⟩ := dk_of I.hok hb
    have e1 := rel.length
    have e2 := rel2.length
    refine call_meetsIn PySem.F.slot_dict_update dd.typeIs PySem.F.entry_dict_update (PySem.F.args_dict_update_2 _ _) (meets_dict_update (mixKind X.prog X.w) a b hne hd2) ⟨vs, ws, dd, dd2, by omega, fun h' dd' _ hs => ?_⟩
    have hl' : (updK ks ls).length ≤ sizeLine := Nat.le_trans (updK_len ls ks) hl
    have he : ∃ q, h'.get? a = some q := let ⟨q, _, _, hq, _⟩ := dd'; ⟨q, hq⟩
    exact ⟨.non, upd H a (.dK (updK ks ls)), d_write I (by rw [ha]; exact True.intro) hs he (dk_new hl' hd (KV_upd rel2 rel) dd'), rfl, q⟩
end
def updD (ms ns : List (Key × D)) : List (Key × D) := ns.foldl (fun m kv => putD m kv.1 kv.2) ms
theorem RK.upd {R : V → D → Prop} : ∀ {ls : List (Key × V)} {ns : List (Key × D)}, RK R ls ns → ∀ {ks : List (Key × V)} {ms : List (Key × D)}, RK R ks ms → RK R (updK ks ls) (updD ms ns)
  | [], [], _, _, _, g => g
  | p :: ls, q :: ns, h, ks, ms, g => by
    show RK R (updK (putK ks p.1 p.2) ls) (updD (putD ms q.1 q.2) ns)
    refine RK.upd h.2 ?_
    rw [h.1.1]
    exact RK.put g h.1.2
  | [], _ :: _, h, _, _, _ => h.elim
  | _ :: _, [], h, _, _, _ => h.elim
theorem updD_some {k : Key} : ∀ (ns ms : List (Key × D)), (lookD (updD ms ns) k).isSome = ((lookD ms k).isSome || (lookD ns k).isSome)
  | [], ms => by simp [updD, lookD]
  | p :: ns, ms => by
    show (lookD (updD (putD ms p.1 p.2) ns) k).isSome = _
    rw [updD_some ns, lookD_put]
    by_cases e : k = p.1
    · subst e
      simp [lookD]
    · rw [if_neg e]
      have e' : ¬ p.1 = k := fun z => e z.symm
      simp [lookD, e']
theorem updD_mem : ∀ (ns ms : List (Key × D)) (p : Key × D), p ∈ updD ms ns → (∃ q ∈ ms, q.2 = p.2) ∨ ∃ q ∈ ns, q.2 = p.2
  | [], ms, p, h => .inl ⟨p, h, rfl⟩
  | r :: ns, ms, p, h => by
    rcases updD_mem ns (putD ms r.1 r.2) p h with ⟨q, hq, e⟩ | ⟨q, hq, e⟩
    · rcases putD_mem hq with hq | hq
      · exact .inl ⟨q, hq, e⟩
      · exact .inr ⟨r, List.mem_cons_self, hq ▸ e⟩
    · exact .inr ⟨q, List.mem_cons_of_mem _ hq, e⟩
theorem updD_len : ∀ (ns ms : List (Key × D)), (updD ms ns).length ≤ ms.length + ns.length
  | [], ms => Nat.le_refl _
  | p :: ns, ms => by
    have h := updD_len ns (putD ms p.1 p.2)
    have h2 := putD_length (m := ms) (k := p.1) (d := p.2)
    rw [List.length_cons]
    show (updD (putD ms p.1 p.2) ns).length ≤ _
    omega
section
variable {P : Program} {w : World} {K : PySem.W.Frag} {C : Addr} {σ : L2.St} {H : Hp} {td te to : TE} {E : Ends} {tz : TS}
theorem ev_dcKeys {a : Addr} {i : Nat} {ks : List (Key × V)} {Q : VK} (hd : H a = some (.dK ks)) (hl : ks.length ≤ 10000) (hi : i < σ.length) (htd : ∀ od, EvP td σ (upd H a (.frz od (.dK ks))) fun v _ => v = .ref a)
    (q : ∀ Dl ks' H', Ex H H' → H Dl = none → H' Dl = some (.dK ks') → RK (Rp C H') ks' (dcD (ks.map (·.1)) id fun _ => D.bl true) → Q (.ref Dl) H') : tLockE (tDc (iKeys td) (gName i) tYes (tVar i) (tC (.bl true)) [i]) σ H Q := by
  refine ⟨a, .dK ks, hd, True.intro, fun od => ?_⟩
  show iKeys td σ (upd H a (.frz od (.dK ks))) _
  refine htd od _ (Ex.refl _) _ fun v H1 e1 ev => ?_
  have ha1 : H1 a = some (.frz od (.dK ks)) := e1 _ _ upd_same
  refine ⟨a, od, ev, .inl ⟨ks, ha1, fun Dl hD => ?_⟩⟩
  have hne : Dl ≠ a := fun z => by subst z; rw [ha1] at hD; cases hD
  refine w_it (walk_keys (d := a) (o := od) (kvs := ks)) (fun j H' => Ex H1 H' ∧ ∃ ks', H' Dl = some (.dK ks') ∧ RK (Rp C H') ks' (dcD ((ks.map (·.1)).take j) id fun _ => D.bl true)) ⟨Ex.new hD, [], upd_same, True.intro⟩ (fun j H' _ p => p.1 _ _ ha1) (fun j x H2 H3 hj p y => ?_) fun H' p => ?_
  · obtain ⟨p1, ks', p2, p3⟩ := p
    obtain ⟨rfl, k, vv, hk, rfl⟩ := y
    have hk' : (ks.map (·.1))[j]? = some k := by rw [List.getElem?_map, hk]; rfl
    refine ⟨?_, ?_⟩
    · show wipe ((wipe σ [i]).set i _) [i] = wipe σ [i]
      simp [wipe]
    dsimp only [tYes]
    rw [if_pos rfl]
    refine ⟨_, List.getElem?_set_self (by simp [wipe, hi]), ?_⟩
    refine ⟨ks', k, rfl, p2, ?_, Ex.mut p1 hD, _, upd_same, ?_⟩
    · rw [p3.length]
      refine Nat.lt_of_le_of_lt (Nat.le_trans dcD_length ?_) (show 10000 < sizeLine by decide)
      rw [List.length_take, List.length_map]
      omega
    · rw [take_item hk', dcD_snoc]
      exact RK.put (RK.fz (Tx.dk p2) (dcD_fz (fun p hp => nomatch hp) fun _ _ => rfl) p3) rfl
  · obtain ⟨p1, ks', p2, p3⟩ := p
    rw [show ks.length = (ks.map (·.1)).length from (List.length_map _).symm, List.take_length] at p3
    have haF := p1 _ _ ha1
    refine ⟨haF, q Dl ks' _ (fun b o hb => ?_) ?_ ?_ ?_⟩
    · by_cases e : b = a
      · subst e
        rw [hd] at hb
        cases hb
        exact upd_same
      · rw [upd_ne e]
        exact p1 _ _ (e1 _ _ (by rw [upd_ne e]; exact hb))
    · have := fresh_back e1 hD
      rw [upd_ne hne] at this
      exact this
    · rw [upd_ne hne]
      exact p2
    · refine RK.fz (Tx.put fun xs z => ?_) (dcD_fz (fun p hp => nomatch hp) fun _ _ => rfl) p3
      rw [haF] at z
      cases z
end
end Fl
set_option maxHeartbeats 4000000
namespace Fl
open PySem PySem.Spec PyProof.Rows L2 Evl
abbrev Row := Nat × Cmd
abbrev rowD (r : Row) : D := .tup [.int (r.1 : Nat), r.2.D]
abbrev scriptD (rs : List Row) : D := .tup (rs.map rowD)
theorem rowD_fz (r : Row) : (rowD r).fz = true := by
  show (true && (r.2.D.fz && true)) = true
  rw [r.2.fz]
  rfl
theorem scriptD_fz (rs : List Row) : (scriptD rs).fz = true := fzL_map fun r _ => rowD_fz r
def Cmd.plain : Cmd → Bool
  | .wait _ _ => false
  | .set _ _ => false
  | _ => true
structure RowsOk (hs : List Hall) (rs : List Row) : Prop where
  halls : HallsOk hs
  few : rs.length ≤ 5
  lane : ∀ r ∈ rs, r.1 ≤ 5
  cmd : ∀ r ∈ rs, r.2.inn hs ∧ r.2.plain = true
theorem sc_is_script_row : FnScope ["rooms", "thing"] ["rooms", "thing"] (defScope s_is_script_row) := ⟨rfl, rfl, rfl, by decide +kernel, rfl, by decide +kernel, by decide +kernel⟩
theorem sc_check_script : FnScope ["rooms", "script", "number", "row"] ["rooms", "script"] (defScope s_check_script) := ⟨rfl, rfl, rfl, by decide +kernel, rfl, by decide +kernel, by decide +kernel⟩
theorem sc_how_many_lanes : FnScope ["script", "lane", "command"] ["script"] (defScope s_how_many_lanes) := ⟨rfl, rfl, rfl, by decide +kernel, rfl, by decide +kernel, by decide +kernel⟩
section
variable {P : Program} {w : World} {K : PySem.W.Frag} {mg : Str → Option Value} {base : Heap}
theorem ed_ninF {C : Addr} {σ : L2.St} {H : Hp} {te : TE} {z : Str} (T : TF w K mg) (h : Ed C te σ H (.str z)) : Ed C (tOp (rB P w K (compareOp .NotIn)) te (tC (.ref (He.ga K "FENCED")))) σ H (.bl (!decide (z ∈ (["wait", "set"] : List Str)))) := fun H1 e Q q =>
  h H1 e _ fun v H2 e2 r => by
    have r' : v = V.str z := r
    subst r'
    refine ⟨rIn K true, fun X g => g.K ▸ op_notIn_seq, He.ga K "FENCED", _, rfl, .inr (T.fenced H2), rfl, flat_strs, ?_⟩
    show Q (.bl (!inV (.str z) ((["wait", "set"] : List Str).map V.str))) H2
    rw [inV_strs]
    exact q _ H2 e2 rfl
abbrev spSRow (C : Addr) : Sp := spF C (fun p : List Hall × Row => [hallsD p.1, rowD p.2]) (fun p => HallsOk p.1 ∧ p.2.1 ≤ 5 ∧ p.2.2.inn p.1 ∧ p.2.2.plain = true) fun _ => .bl true
theorem c_is_script_row (T : TF w K mg) (c_is_lane : Callee P w K mg base "is_lane" 3 ["thing"] (spIn (CB K) 0 5)) (c_stands_in : Callee P w K mg base "stands_in" 6 ["command", "rooms"] (spStands (CB K))) : Callee P w K mg base "is_script_row" 7 ["rooms", "thing"] (spSRow (CB K)) := by
  obtain ⟨fd, F⟩ := T.d_is_script_row
  refine callee_of F (F.ok sc_is_script_row (spA_len fun _ => rfl) fun cdv A outer s H vs Q E hr h => ?_) T.g_is_script_row fun _ _ _ _ _ _ us hl => match us, hl with | [_, _], _ => rfl
  obtain ⟨a, r, hp, q⟩ := h
  have g : Good P w K (L2.Cx.nox (cxOf CX0 P w K mg base ["rooms", "thing"] "is_script_row" (defScope s_is_script_row) (He.ga K "is_script_row") cdv A outer s H E)) := ⟨rfl, rfl, rfl, rfl, hu_un hr⟩
  have hu := hu_of hr
  refine ⟨_, PSs.nox (pss_cons (ps_if (PW.pt (pw_or (pt_not (pt_val (pe_callB (c_b g) (by rfl) T.f_isinstance bt_isinstance (pa_cons (pv 1) (pa_cons (pe_ty T.f_tuple bt_tuple) pa_nil))))) (pw_or (pt_cmpR (op_b g) (pe_callB (c_b g) (by rfl) T.f_len bt_len (pa_cons (pv 1) pa_nil)) pe_int (nomark _)) (pw_or1 (pt_not (pt_val (pe_c c_is_lane (hr.mono (by decide)) (by rfl) pass0 (pa_cons (pe_ix (ix_b g) (pv 1) pe_int (fun _ _ => rfl)) pa_nil)))))))) (pss_one (ps_ret pe_bl)) pss_nil)
      (pss_one (ps_ret (pe_and (pe_c c_stands_in (hr.mono (by decide)) (by rfl) pass0 (pa_cons (pe_ix (ix_b g) (pv 1) pe_int (fun _ _ => rfl)) (pa_cons (pv 0) pa_nil))) (pe_one (pe_cmpR (op_b g) (pe_ix (ix_b g) (pe_ix (ix_b g) (pv 1) pe_int (fun _ _ => rfl)) pe_int (fun _ _ => rfl)) (pe_gr T.FENCED) rfl)))))), ?_⟩
  obtain ⟨v, u, rfl, r1, r2⟩ := r.two
  obtain ⟨hs, l, c⟩ := a
  obtain ⟨h1, h2, h3, h4⟩ := (show HallsOk hs ∧ l ≤ 5 ∧ c.inn hs ∧ c.plain = true from hp)
  replace r2 : Rp (CB K) H u (.tup [.int (l : Nat), c.D]) := r2
  refine qd_no (et_is (et_or (et_not (et_val (ed_cb (ea1 (ed_var rfl r2) (ea1 ed_ty ea0)) (k_isi rfl kit_tt)))) fun _ => et_or (et_cmp (ed_op (ed_cb (ea1 (ed_var rfl r2) ea0) k_lent) ed_int o_nei)) fun _ => et_not (et_val (ed_call (l : Int) (ea1 (ed_op (ed_var rfl r2) ed_int (o_ixt at0)) ea0) trivial))) (by
      rw [decide_eq_true (show (0 : Int) ≤ (l : Int) by omega), decide_eq_true (show (l : Int) ≤ 5 by omega)]
      kernel_rfl)) fun H1 e1 => ?_
  refine ret_of (ed_and (ed_call (c, hs) (ea1 (ed_op (ed_var rfl (r2.ex e1)) ed_int (o_ixt at1)) (ea1 (ed_var rfl (r1.ex e1)) ea0)) ⟨h3, h1⟩) fun _ => ed_ninF (z := c.word) T (ed_op (ed_op (ed_var rfl (r2.ex e1)) ed_int (o_ixt (d := .tup (.str c.word :: c.parts)) (c.hD ▸ at1))) ed_int (o_ixt at0))) rfl (q_ex e1 q) ?_
  cases c <;> first | rfl | cases h4
abbrev spCkScript (C : Addr) : Sp := spNone C (fun p : List Hall × List Row => [hallsD p.1, scriptD p.2]) fun p => RowsOk p.1 p.2
theorem c_check_script (T : TF w K mg) (c_is_script_row : Callee P w K mg base "is_script_row" 7 ["rooms", "thing"] (spSRow (CB K))) : Callee P w K mg base "check_script" 8 ["rooms", "script"] (spCkScript (CB K)) := by
  obtain ⟨fd, F⟩ := T.d_check_script
  refine callee_of F (F.ok sc_check_script (spA_len fun _ => rfl) fun cdv A outer s H vs Q E hr h => ?_) T.g_check_script fun _ _ _ _ _ _ us hl => match us, hl with | [_, _], _ => rfl
  obtain ⟨a, r, hp, q⟩ := h
  have g : Good P w K (L2.Cx.nox (cxOf CX0 P w K mg base ["rooms", "script", "number", "row"] "check_script" (defScope s_check_script) (He.ga K "check_script") cdv A outer s H E)) := ⟨rfl, rfl, rfl, rfl, hu_un hr⟩
  have hu := hu_of hr
  refine ⟨_, PSs.nox (pss_cons (ps_if (PW.pt (pw_or (pt_not (pt_val (pe_callB (c_b g) (by rfl) T.f_isinstance bt_isinstance (pa_cons (pv 1) (pa_cons (pe_ty T.f_tuple bt_tuple) pa_nil))))) (pw_or1 (pt_cmpR (op_b g) (pe_callB (c_b g) (by rfl) T.f_len bt_len (pa_cons (pv 1) pa_nil)) (pe_gi T.MOST_ROWS) (nomark _))))) (pss_one ps_never) pss_nil)
      (pss_one (ps_for PassesOwn.never g.calm (pi_enumT (by rfl) T.f_enumerate (pa_cons (pv 1) pa_nil)) (pg_tup rfl (pgs_cons (pg_name (i := 2) sc_check_script.nd rfl (Or.inl rfl)) (pgs_cons (pg_name (i := 3) sc_check_script.nd rfl (Or.inl rfl)) pgs_nil))) (pss_one (ps_if (pt_not (pt_val (pe_c c_is_script_row (hr.mono (by decide)) (by rfl) pass0 (pa_cons (pv 0) (pa_cons (pv 3) pa_nil))))) (pss_one ps_never) pss_nil))))), ?_⟩
  obtain ⟨v, u, rfl, r1, r2⟩ := r.two
  obtain ⟨hs, rs⟩ := a
  replace hp : RowsOk hs rs := hp
  replace r1 : Rp (CB K) H v (hallsD hs) := r1
  replace r2 : Rp (CB K) H u (scriptD rs) := r2
  refine qd_no (et_is (et_or (et_not (et_val (ed_cb (ea1 (ed_var rfl r2) (ea1 ed_ty ea0)) (k_isi rfl kit_tt)))) fun _ => et_cmp (ed_op (ed_cb (ea1 (ed_var rfl r2) ea0) k_lent) ed_int o_gt)) (by
      rw [List.length_map, decide_eq_false (by have := hp.few; omega)]
      rfl)) fun H1 e1 => ?_
  refine q_for0 (xs := rs.zipIdx) (F := fun p => D.tup [.int (p.2 : Nat), rowD p.1]) (ei_enumTM (ed_var rfl (r2.ex e1))) (fun p _ => by
    show (true && ((rowD p.1).fz && true)) = true
    rw [rowD_fz]
    rfl) fun H2 e2 => ?_
  refine ⟨fun i σ' H' => (∃ u2 u3, σ' = [some v, some u, u2, u3]) ∧ Ex H2 H', ⟨⟨_, _, rfl⟩, Ex.refl _⟩, fun i σ' H' p => Tx.ex p.2, ?_, ?_⟩
  · rintro i ⟨row, k⟩ x σ' H' H'' hi ⟨⟨u2, u3, rfl⟩, p1⟩ e3 r3
    obtain ⟨hi', rfl⟩ := zipIdx_get hi
    have hm : row ∈ rs := List.mem_of_getElem? hi'
    refine g_two r3 fun v1 v2 q1 q2 => ?_
    exact ql_no (et_is (et_not (et_val (ed_call (hs, row) (ea1 (ed_var rfl (r1.ex ((e1.trans e2).trans (p1.trans e3)))) (ea1 (ed_var rfl q2) ea0)) ⟨hp.halls, hp.lane row hm, hp.cmd row hm⟩))) rfl) fun H3 e4 => ⟨⟨_, _, rfl⟩, p1.trans (e3.trans e4)⟩
  · rintro σ' H' ⟨⟨u2, u3, rfl⟩, p1⟩
    exact q _ _ H' rfl ((e1.trans e2).trans p1) rfl (.fz rfl)
def lanesN (rs : List Row) : Nat := rs.foldr (fun r m => max (r.1 + 1) m) 0
theorem lanesN_mem : ∀ (rs : List Row) (r : Row), ((lanesN (r :: rs) : Nat) : Int) ∈ (r :: rs).map fun r => ((r.1 : Nat) : Int) + 1
  | [], r => by simp [lanesN]
  | b :: bs, r => by
    have h := lanesN_mem bs b
    by_cases hle : r.1 + 1 ≤ lanesN (b :: bs)
    · have e : lanesN (r :: b :: bs) = lanesN (b :: bs) := by
        show max (r.1 + 1) (lanesN (b :: bs)) = _
        omega
      rw [e]
      exact List.mem_cons_of_mem _ h
    · have e : lanesN (r :: b :: bs) = r.1 + 1 := by
        show max (r.1 + 1) (lanesN (b :: bs)) = _
        omega
      rw [e]
      simp
theorem lanesN_ge : ∀ {rs : List Row} {a : Row}, a ∈ rs → a.1 + 1 ≤ lanesN rs
  | b :: bs, a, h => by
    show a.1 + 1 ≤ max (b.1 + 1) (lanesN bs)
    rcases List.mem_cons.mp h with e | e
    · subst e; omega
    · have := lanesN_ge e; omega
theorem lanesN_eq (rs : List Row) : maxL 0 (rs.map fun r => ((r.1 : Nat) : Int) + 1) = (lanesN rs : Nat) := by
  cases rs with
  | nil => rfl
  | cons r rs =>
    refine (maxL_uniq (lanesN_mem rs r) fun z hz => ?_).symm
    obtain ⟨a, ha, rfl⟩ := List.mem_map.mp (show z ∈ (r :: rs).map fun r => ((r.1 : Nat) : Int) + 1 from hz)
    have := lanesN_ge ha
    omega
abbrev spMany (C : Addr) : Sp := spF C (fun rs : List Row => [scriptD rs]) (fun rs => rs.length ≤ 1000) fun rs => .int (lanesN rs : Nat)
theorem c_how_many_lanes (T : TF w K mg) : Callee P w K mg base "how_many_lanes" 1 ["script"] (spMany (CB K)) := by
  obtain ⟨fd, F⟩ := T.d_how_many_lanes
  refine callee_of F (F.ok sc_how_many_lanes (spA_len fun _ => rfl) fun cdv A outer s H vs Q E hr h => ?_) T.g_how_many_lanes fun _ _ _ _ _ _ us hl => match us, hl with | [_], _ => rfl
  obtain ⟨a, r, hp, q⟩ := h
  have g : Good P w K (L2.Cx.nox (cxOf CX0 P w K mg base ["script", "lane", "command"] "how_many_lanes" (defScope s_how_many_lanes) (He.ga K "how_many_lanes") cdv A outer s H E)) := ⟨rfl, rfl, rfl, rfl, hu_un hr⟩
  have hu := hu_of hr
  refine ⟨_, PSs.nox (pss_one (ps_ret (pe_callBK (maxd_b g) (by rfl) T.f_max bt_max (pa_cons (pe_lc (own := [("lane", 1), ("command", 2)]) (g := (gTup K 2 (gCons (gName 1) (gCons (gName 2) gNil)))) g.calm sc_how_many_lanes.nd (pi_b g (pv 0)) (blkOk_by (by kernel_rfl)) (fun _ _ _ _ _ => (pg_tup rfl (pgs_cons (pg_name (i := 1) sc_how_many_lanes.nd rfl (Or.inl rfl)) (pgs_cons (pg_name (i := 2) sc_how_many_lanes.nd rfl (Or.inl rfl)) pgs_nil)))) (fun _ _ _ _ _ => pts_nil) (fun _ _ _ _ _ => (pe_op (op_b g.b) (pv 1) pe_int))) pa_nil) (pk_cons pe_int pk_nil)))), ?_⟩
  obtain ⟨v, rfl, r1⟩ := r.one
  refine ret_of (ed_maxd (ns := a.map fun r => ((r.1 : Nat) : Int) + 1) (Ed.is (ed_map (xs := a) (F := rowD) (fun r => .int (((r.1 : Nat) : Int) + 1)) (ei_tup (ed_var rfl r1)) (Nat.le_trans hp (by decide)) (fun _ _ => rfl)
    fun i r x H1 hi e1 r2 k q' => g_two r2 fun v1 v2 q1 q2 => q' _ rfl (ed_op (ed_var rfl q1) ed_int o_add)) (by rw [List.map_map]; rfl))) rfl q (by rw [lanesN_eq])
end
end Fl
set_option maxHeartbeats 4000000
namespace Fl
open PySem PySem.Spec PyProof.Rows L2 Evl
inductive Ah (dir : Nat → Nat → Bool) : Nat → Nat → Prop
  | base {i j : Nat} (h : i < j) (d : dir i j = true) : Ah dir i j
  | step {i k j : Nat} (a : Ah dir i k) (h : k < j) (d : dir k j = true) : Ah dir i j
theorem Ah.lt {dir : Nat → Nat → Bool} {i j : Nat} (h : Ah dir i j) : i < j := by
  induction h with
  | base h _ => exact h
  | step _ h _ ih => exact Nat.lt_trans ih h
theorem ah_iff {dir : Nat → Nat → Bool} {m i : Nat} : (∃ k, k < i ∧ dir k i = true ∧ (m = k ∨ Ah dir m k)) ↔ Ah dir m i := by
  constructor
  · rintro ⟨k, h1, h2, h3 | h3⟩
    · subst h3; exact .base h1 h2
    · exact .step h3 h1 h2
  · intro h
    cases h with
    | base h d => exact ⟨m, h, d, .inl rfl⟩
    | step a h d => exact ⟨_, h, d, .inr a⟩
noncomputable def ahB (dir : Nat → Nat → Bool) (i j : Nat) : Bool := @decide (Ah dir i j) (Classical.propDecidable _)
theorem ahB_iff {dir : Nat → Nat → Bool} {i j : Nat} : ahB dir i j = true ↔ Ah dir i j := @decide_eq_true_iff _ (Classical.propDecidable _)
def dirB (hs : List Hall) (rs : List Row) (i j : Nat) : Bool := match rs[i]?, rs[j]? with
  | some a, some b => decide (a.1 = b.1) || clashB hs a.2 b.2
  | _, _ => false
noncomputable abbrev tellD (dir : Nat → Nat → Bool) (n : Nat) : D := .tup ((List.range n).map fun i => .tup ((List.range n).map fun j => .bl (ahB dir i j)))
theorem sc_rows_ahead : FnScope ["rooms", "script", "touch", "elders", "at", "lane", "command", "some", "number", "track", "elder", "older"] ["rooms", "script"] (defScope s_rows_ahead) := ⟨rfl, rfl, rfl, by decide +kernel, rfl, by decide +kernel, by decide +kernel⟩
theorem sc_is_link : FnScope ["told", "one", "other", "mid"] ["told", "one", "other"] (defScope s_is_link) := ⟨rfl, rfl, rfl, by decide +kernel, rfl, by decide +kernel, by decide +kernel⟩
theorem sc_links_of : FnScope ["rooms", "script", "told", "many", "pairs", "unlike", "one", "other"] ["rooms", "script"] (defScope s_links_of) := ⟨rfl, rfl, rfl, by decide +kernel, rfl, by decide +kernel, by decide +kernel⟩
theorem sc_links : FnScope ["rooms", "script"] ["rooms", "script"] (defScope s_links) := ⟨rfl, rfl, rfl, by decide +kernel, rfl, by decide +kernel, by decide +kernel⟩
theorem lookD_key {κ : Type} [DecidableEq κ] {m : List (κ × D)} {k : κ} : (lookD m k).isSome = decide (k ∈ m.map (·.1)) := by
  induction m with
  | nil => rfl
  | cons p m ih =>
    by_cases e : p.1 = k
    · simp [lookD, e]
    · have e' : ¬ k = p.1 := fun z => e z.symm
      have : lookD (p :: m) k = lookD m k := by simp [lookD, e]
      rw [this, ih]
      simp [e']
theorem RK.keys {κ : Type} {R : V → D → Prop} : ∀ {ks : List (κ × V)} {kvs : List (κ × D)}, RK R ks kvs → ks.map (·.1) = kvs.map (·.1)
  | [], [], _ => rfl
  | p :: ks, q :: kvs, h => by rw [List.map_cons, List.map_cons, h.1.1, RK.keys h.2]
  | [], _ :: _, h => h.elim
  | _ :: _, [], h => h.elim
theorem RpL.keep {C : Addr} {H H' : Hp} {l : Addr} {o : HO} (hl : H l = some o) (ho : ∀ ks, o ≠ .dK ks) (hk : ∀ a u, a ≠ l → H a = some u → H' a = some u) (ht : Tx H H') : ∀ {kvss : List (List (Key × D))} {vs : List V}, (∀ kvs ∈ kvss, ∀ p ∈ kvs, p.2.fz = true) → RpL C H vs (kvss.map D.dk) → RpL C H' vs (kvss.map D.dk)
  | [], [], _, _ => True.intro
  | kvs :: kvss, v :: vs, hz, r => by
    obtain ⟨a, ks, e1, e2, e3⟩ := r.1
    have hne : a ≠ l := fun z => by
      subst z
      rw [e2] at hl
      cases hl
      exact ho ks rfl
    exact ⟨⟨a, ks, e1, hk a _ hne e2, rpK_iff.mpr (RK.fz ht (hz kvs List.mem_cons_self) (rpK_iff.mp e3))⟩, RpL.keep hl ho hk ht (fun kvs hm => hz kvs (List.mem_cons_of_mem _ hm)) r.2⟩
  | [], _ :: _, _, r => r.elim
  | _ :: _, [], _, r => r.elim
structure KO (dir : Nat → Nat → Bool) (k : Nat) (kvs : List (Key × D)) : Prop where
  vals : ∀ p ∈ kvs, p.2 = .bl true
  keys : ∀ m : Nat, (lookD kvs (Sum.inl (m : Int))).isSome = true ↔ Ah dir m k
  few : kvs.length + 1 ≤ 2 ^ k
structure KOp (dir : Nat → Nat → Bool) (i j : Nat) (kvs : List (Key × D)) : Prop where
  vals : ∀ p ∈ kvs, p.2 = .bl true
  keys : ∀ m : Nat, (lookD kvs (Sum.inl (m : Int))).isSome = true ↔ ∃ k, k < j ∧ dir k i = true ∧ (m = k ∨ Ah dir m k)
  few : kvs.length + 1 ≤ 2 ^ j
theorem KOp.skip {dir : Nat → Nat → Bool} {i j : Nat} {kvs : List (Key × D)} (h : KOp dir i j kvs) (hd : dir j i = false) : KOp dir i (j + 1) kvs := by
  refine ⟨h.vals, fun m => (h.keys m).trans ?_, Nat.le_trans h.few (Nat.pow_le_pow_right (by decide) (Nat.le_succ j))⟩
  constructor
  · rintro ⟨k, h1, h2⟩; exact ⟨k, Nat.lt_succ_of_lt h1, h2⟩
  · rintro ⟨k, h1, h2, h3⟩
    rcases Nat.lt_succ_iff_lt_or_eq.mp h1 with e | e
    · exact ⟨k, e, h2, h3⟩
    · subst e; rw [hd] at h2; cases h2
theorem KOp.add {dir : Nat → Nat → Bool} {i j : Nat} {kvs ks : List (Key × D)} (h : KOp dir i j kvs) (hd : dir j i = true) (g : KO dir j ks) : KOp dir i (j + 1) (updD (putD kvs (Sum.inl (j : Int)) (.bl true)) (dcD (ks.map (·.1)) id fun _ => D.bl true)) := by
  refine ⟨fun p hp => ?_, fun m => ?_, ?_⟩
  · rcases updD_mem _ _ _ hp with ⟨q, hq, e⟩ | ⟨q, hq, e⟩
    · rcases putD_mem hq with hq | hq
      · rw [← e]; exact h.vals q hq
      · rw [← e]; exact hq
    · rw [← e]
      have : ∀ (xs : List Key) (m : List (Key × D)), (∀ p ∈ m, p.2 = .bl true) → ∀ p ∈ xs.foldl (fun m a => putD m (id a) (D.bl true)) m, p.2 = .bl true := by
        intro xs
        induction xs with
        | nil => intro m hm; exact hm
        | cons x xs ih => intro m hm; exact ih _ fun p hp => (putD_mem hp).elim (hm p) id
      exact this _ [] (fun _ z => by cases z) q hq
  · rw [updD_some, lookD_put, dcD_some, List.map_id, Bool.or_eq_true]
    have e2 := g.keys m
    rw [lookD_key] at e2
    rw [e2]
    by_cases e : m = j
    · subst e
      rw [if_pos rfl]
      exact ⟨fun _ => ⟨m, Nat.lt_succ_self m, hd, .inl rfl⟩, fun _ => .inl rfl⟩
    · rw [if_neg (fun z => e (by have := Sum.inl.inj z; omega)), h.keys m]
      constructor
      · rintro (⟨k, h1, h2⟩ | h1)
        · exact ⟨k, Nat.lt_succ_of_lt h1, h2⟩
        · exact ⟨j, Nat.lt_succ_self j, hd, .inr h1⟩
      · rintro ⟨k, h1, h2, h3⟩
        rcases Nat.lt_succ_iff_lt_or_eq.mp h1 with e' | e'
        · exact .inl ⟨k, e', h2, h3⟩
        · subst e'
          rcases h3 with h3 | h3
          · exact absurd h3 e
          · exact .inr h3
  · have h1 := updD_len (dcD (ks.map (·.1)) id fun _ => D.bl true) (putD kvs (Sum.inl (j : Int)) (.bl true))
    have h2 := putD_length (m := kvs) (k := (Sum.inl (j : Int) : Key)) (d := D.bl true)
    have h3 : (dcD (ks.map (·.1)) id fun _ => D.bl true).length ≤ ks.length := by
      refine Nat.le_trans dcD_length ?_
      rw [List.length_map]
      exact Nat.le_refl _
    have h4 := h.few
    have h5 := g.few
    rw [Nat.pow_succ]
    omega
theorem KOp.done {dir : Nat → Nat → Bool} {i : Nat} {kvs : List (Key × D)} (h : KOp dir i i kvs) : KO dir i kvs := ⟨h.vals, fun m => (h.keys m).trans ah_iff, h.few⟩
theorem KOp.nil {dir : Nat → Nat → Bool} {i : Nat} : KOp dir i 0 [] := ⟨(fun _ h => by cases h), (fun m => ⟨fun h => by simp [lookD] at h, fun ⟨k, h, _⟩ => absurd h (Nat.not_lt_zero k)⟩), by simp⟩
section
variable {P : Program} {w : World} {K : PySem.W.Frag} {mg : Str → Option Value} {base : Heap}
theorem g_nest {C : Addr} {K : PySem.W.Frag} {σ : L2.St} {H : Hp} {x : V} {k : L2.St → Hp → Prop} {i j l : Nat} {d1 d2 d3 : D} (r : Rp C H x (.tup [d1, .tup [d2, d3]])) (h : ∀ v1 v2 v3, Rp C H v1 d1 → Rp C H v2 d2 → Rp C H v3 d3 → k (((σ.set i (some v1)).set j (some v2)).set l (some v3)) H) :
    gTup K 2 (gCons (gName i) (gCons (gTup K 2 (gCons (gName j) (gCons (gName l) gNil))) gNil)) x σ H k := g_tup2 r fun v1 v2 r1 r2 => g_two (σ := σ.set i (some v1)) r2 fun v3 v4 r3 r4 => h v1 v3 v4 r1 r3 r4
theorem ed_slTM {C : Addr} {σ : L2.St} {H : Hp} {te th : TE} {α : Type} {xs : List α} {F : α → D} {k : Nat} (h : Ed C te σ H (.tup (xs.map F))) (hh : Ed C th σ H (.int (k : Nat))) (hk : k ≤ xs.length) : Ed C (tSl (rS P w K) te tNoPart (tPart th)) σ H (.tup ((xs.take k).map F)) := by
  rw [List.map_take]
  exact ed_slTN h hh (by rw [List.length_map]; exact hk)
abbrev raPre (p : List Hall × List Row) : Prop := HallsOk p.1 ∧ p.2.length ≤ 5 ∧ ∀ r ∈ p.2, r.2.inn p.1
noncomputable abbrev spAhead (C : Addr) : Sp := spF C (fun p : List Hall × List Row => [hallsD p.1, scriptD p.2]) raPre fun p => tellD (dirB p.1 p.2) p.2.length
theorem c_rows_ahead (T : TF w K mg) (c_touching : Callee P w K mg base "touching" 1 ["rooms"] (spTouch (CB K))) (c_clash : Callee P w K mg base "clash" 4 ["touch", "one", "other"] (spClash (CB K))) : Callee P w K mg base "rows_ahead" 5 ["rooms", "script"] (spAhead (CB K)) := by
  obtain ⟨fd, F⟩ := T.d_rows_ahead
  refine callee_of F (F.ok sc_rows_ahead (spA_len fun _ => rfl) fun cdv A outer s H vs Q E hr h => ?_) T.g_rows_ahead fun _ _ _ _ _ _ us hl => match us, hl with | [_, _], _ => rfl
  obtain ⟨a, r, hp, q⟩ := h
  have g : Good P w K (L2.Cx.nox (cxOf CX0 P w K mg base ["rooms", "script", "touch", "elders", "at", "lane", "command", "some", "number", "track", "elder", "older"] "rows_ahead" (defScope s_rows_ahead) (He.ga K "rows_ahead") cdv A outer s H E)) := ⟨rfl, rfl, rfl, rfl, hu_un hr⟩
  have hu := hu_of hr
  refine ⟨_, PSs.nox (pss_cons (ps_set (i := 2) sc_rows_ahead.nd rfl (Or.inl rfl) (pe_c c_touching (hr.mono (by decide)) (by rfl) pass0 (pa_cons (pv 0) pa_nil)))
      (pss_cons (ps_set (i := 3) sc_rows_ahead.nd rfl (Or.inr rfl) (pe_lst pa_nil))
      (pss_cons (ps_for PassesOwn.never g.calm (pi_enumT (by rfl) T.f_enumerate (pa_cons (pv 1) pa_nil)) (pg_tup rfl (pgs_cons (pg_name (i := 4) sc_rows_ahead.nd rfl (Or.inl rfl)) (pgs_cons (pg_tup rfl (pgs_cons (pg_name (i := 5) sc_rows_ahead.nd rfl (Or.inl rfl)) (pgs_cons (pg_name (i := 6) sc_rows_ahead.nd rfl (Or.inl rfl)) pgs_nil))) pgs_nil))) (pss_cons (ps_set (i := 7) sc_rows_ahead.nd rfl (Or.inl rfl) pe_dnewK)
      (pss_cons (ps_for PassesOwn.never g.calm (pi_enumT (by rfl) T.f_enumerate (pa_cons (pe_slice (sl_b g) (pv 1) po_none (po_some (pv 4))) pa_nil)) (pg_tup rfl (pgs_cons (pg_name (i := 8) sc_rows_ahead.nd rfl (Or.inl rfl)) (pgs_cons (pg_tup rfl (pgs_cons (pg_name (i := 9) sc_rows_ahead.nd rfl (Or.inl rfl)) (pgs_cons (pg_name (i := 10) sc_rows_ahead.nd rfl (Or.inl rfl)) pgs_nil))) pgs_nil))) (pss_one (ps_if (PW.pt (pw_or (pt_cmpR (op_b g) (pv 9) (pv 5) (nomark _)) (pw_or1 (pt_val (pe_c c_clash (hr.mono (by decide)) (by rfl) pass0 (pa_cons (pv 2) (pa_cons (pv 10) (pa_cons (pv 6) pa_nil)))))))) (pss_cons (ps_asg pe_bl (pg_sub (pv 7) (pv 8) (set_b g)))
      (pss_one (ps_expr (pe_bm PySem.F.plainAttrs_dict PySem.F.slot_dict_update PySem.F.type_dict_update (mt_b g) (pv 7) (pa_cons (pe_lock (pe_dc (own := [("older", 11)]) g.calm sc_rows_ahead.nd (pi_keys (pe_ix (ix_b g) (pv 3) (pv 8) (fun _ _ => rfl))) (blkOk_by (by kernel_rfl)) (fun _ _ _ _ _ => (pg_name (i := 11) sc_rows_ahead.nd rfl (Or.inl rfl))) (fun _ _ _ _ _ => pts_nil) (fun _ _ _ _ _ => (pv 11)) (fun _ _ _ _ _ => pe_bl))) pa_nil))))) pss_nil)))
      (pss_one (ps_expr (pe_bm PySem.F.plainAttrs_list PySem.F.slot_list_append PySem.F.type_list_append (mt_b g) (pv 3) (pa_cons (pv 7) pa_nil)))))))
      (pss_one (ps_ret (pe_callTy (c_b g) (by rfl) T.f_tuple bt_tuple (pa_cons (pe_lc (own := [("number", 8)]) g.calm sc_rows_ahead.nd (pi_range1 (by rfl) T.f_range (pa_cons (pe_callB (c_b g) (by rfl) T.f_len bt_len (pa_cons (pv 1) pa_nil)) pa_nil)) (blkOk_by (by kernel_rfl)) (fun _ _ _ _ _ => (pg_name (i := 8) sc_rows_ahead.nd rfl (Or.inr rfl))) (fun _ _ _ _ _ => pts_nil) (fun _ _ _ _ _ => (pe_callTy (c_b g.b) (by rfl) T.f_tuple bt_tuple (pa_cons (pe_lc (own := [("some", 7)]) g.b.calm sc_rows_ahead.nd (pi_b g.b (pv 3)) (blkOk_by (by kernel_rfl)) (fun _ _ _ _ _ => (pg_name (i := 7) sc_rows_ahead.nd rfl (Or.inl rfl))) (fun _ _ _ _ _ => pts_nil) (fun _ _ _ _ _ => (pe_cmpR (op_b g.b.b) (pv 8) (pv 7) rfl))) pa_nil)))) pa_nil))))))), ?_⟩
  obtain ⟨v, u, rfl, r1, r2⟩ := r.two
  obtain ⟨hs, rs⟩ := a
  obtain ⟨p1, p2, p3⟩ := (show HallsOk hs ∧ rs.length ≤ 5 ∧ ∀ r ∈ rs, r.2.inn hs from hp)
  replace r1 : Rp (CB K) H v (hallsD hs) := r1
  replace r2 : Rp (CB K) H u (scriptD rs) := r2
  refine qd_asg (ed_call hs (ea1 (ed_var rfl r1) ea0) p1) fun vt H1 e1 rt => ?_
  refine q_lnew (C := CB K) ea0 fun L vs0 H2 e2 rl0 hL => ?_
  have ev0 : vs0 = [] := rl0.nil
  subst ev0
  have e12 := e1.trans e2
  have eL : Ex H2 (upd H2 L (.lst [])) := Ex.new hL
  refine qs_for0 (xs := rs.zipIdx) (F := fun p => D.tup [.int (p.2 : Nat), rowD p.1]) (ei_enumTM (ed_var rfl (r2.ex (e12.trans eL)))) (fun p _ => by
    show (true && ((rowD p.1).fz && true)) = true
    rw [rowD_fz]
    rfl) fun H3 e3 => ?_
  refine ⟨fun i σ' H' => (∃ u4 u5 u6 u7 u8 u9 u10 u11, σ' = [some v, some u, some vt, some (.ref L), u4, u5, u6, u7, u8, u9, u10, u11]) ∧ Tx H3 H' ∧ Ex H2 H' ∧ ∃ (vs : List V) (kvss : List (List (Key × D))), H' L = some (.lst vs) ∧ RpL (CB K) H' vs (kvss.map D.dk) ∧ kvss.length = i ∧ ∀ k kvs, kvss[k]? = some kvs → KO (dirB hs rs) k kvs,
    ⟨⟨_, _, _, _, _, _, _, _, rfl⟩, Tx.refl _, eL.trans e3, [], [], e3 _ _ upd_same, True.intro, rfl, fun k kvs h => (nomatch h)⟩, fun i σ' H' p => p.2.1, ?_, ?_⟩
  · rintro i ⟨⟨lane, cmd⟩, k0⟩ x σ' H' H'' hi ⟨⟨u4, u5, u6, u7, u8, u9, u10, u11, rfl⟩, t1, t2, vs, kvss, hLs, rvs, hlen, hko⟩ e4 r4
    obtain ⟨hi', rfl⟩ := zipIdx_get hi
    have hil : k0 < rs.length := (List.getElem?_eq_some_iff.mp hi').1
    have hm : (lane, cmd) ∈ rs := List.mem_of_getElem? hi'
    refine g_nest r4 fun v1 v2 v3 q1 q2 q3 => ?_
    refine q_dnew fun d hd => ?_
    have hLd : L ≠ d := fun z => by
      subst z
      rw [e4 _ _ hLs] at hd
      cases hd
    have eD : Ex H'' (upd H'' d (.dK [])) := Ex.new hd
    have e2D : Ex H2 (upd H'' d (.dK [])) := (t2.trans e4).trans eD
    have ru : Rp (CB K) (upd H'' d (.dK [])) u (scriptD rs) := r2.ex (e12.trans e2D)
    refine qs_for0 (xs := (rs.take k0).zipIdx) (F := fun p => D.tup [.int (p.2 : Nat), rowD p.1]) (ei_enumTM (ed_slTM (ed_var rfl ru) (ed_var rfl (q1.ex eD)) (Nat.le_of_lt hil))) (fun p _ => by
      show (true && ((rowD p.1).fz && true)) = true
      rw [rowD_fz]
      rfl) fun H5 e5 => ?_
    have eB : Ex H'' H5 := eD.trans e5
    refine ⟨fun j σ' H' => (∃ u8 u9 u10 u11, σ' = [some v, some u, some vt, some (.ref L), some v1, some v2, some v3, some (.ref d), u8, u9, u10, u11]) ∧ Tx H5 H' ∧ Ex H'' H' ∧ ∃ ks kvs, H' d = some (.dK ks) ∧ RK (Rp (CB K) H') ks kvs ∧ KOp (dirB hs rs) k0 j kvs,
      ⟨⟨_, _, _, _, rfl⟩, Tx.refl _, eB, [], [], e5 _ _ upd_same, True.intro, KOp.nil⟩, fun i σ' H' p => p.2.1, ?_, ?_⟩
    · rintro j ⟨⟨track, elder⟩, k1⟩ y σ2 H6 H7 hj ⟨⟨u8, u9, u10, u11, rfl⟩, s1, s2, ks, kvs, s3, s4, s5⟩ e7 r7
      obtain ⟨hj', rfl⟩ := zipIdx_get hj
      have hjk : k1 < k0 := by
        have h1 := (List.getElem?_eq_some_iff.mp hj').1
        rw [List.length_take] at h1
        omega
      have hj2 : rs[k1]? = some (track, elder) := by
        rw [List.getElem?_take, if_pos hjk] at hj'
        exact hj'
      have hm2 : (track, elder) ∈ rs := List.mem_of_getElem? hj2
      have hdir : dirB hs rs k1 k0 = (decide ((track : Int) = (lane : Int)) || clashB hs elder cmd) := by
        unfold dirB
        rw [hj2, hi']
        show (decide (track = lane) || clashB hs elder cmd) = _
        congr 1
        exact decide_eq_decide.mpr ⟨fun h => by rw [h], fun h => by omega⟩
      refine g_nest r7 fun w1 w2 w3 z1 z2 z3 => ?_
      have e27 : Ex H2 H7 := (t2.trans e4).trans (s2.trans e7)
      refine ql_if (et_or (et_cmp (ed_op (ed_var rfl z2) (ed_var rfl (q2.ex (s2.trans e7))) o_eqi)) fun _ => et_val (ed_call (hs, elder, cmd) (ea1 (ed_var rfl (rt.ex (e2.trans e27))) (ea1 (ed_var rfl z3) (ea1 (ed_var rfl (q3.ex (s2.trans e7))) ea0))) ⟨p1, p3 _ hm2, p3 _ hm⟩)) (fun hb H8 e8 => ?_) fun hb H8 e8 => ?_
      · rw [← hdir] at hb
        have e78 := e7.trans e8
        have hd8 := e78 _ _ s3
        have h2few : ∀ n, n ≤ 5 → 2 ^ n ≤ 32 := fun n hn => Nat.le_trans (Nat.pow_le_pow_right (by decide) hn) (by decide)
        refine qs_putK (k := Sum.inl (k1 : Int)) (C := CB K) ed_bl (ev_var rfl) (ed_var rfl (z1.ex e8)) hd8 (by
          rw [s4.length]
          have h1 := s5.few
          have h2 := h2few k1 (by omega)
          omega) fun vb H9 e9 rb => ?_
        have evb : vb = V.bl true := rb
        subst evb
        have e89 := e78.trans e9
        have hd9 := e89 _ _ s3
        have eall : Ex H' H9 := e4.trans (s2.trans e89)
        obtain ⟨kvsE, hkE⟩ : ∃ kvsE, kvss[k1]? = some kvsE := ⟨_, List.getElem?_eq_getElem (by omega)⟩
        obtain ⟨ve, hve, aE, ksE, hae, haE, rkE⟩ := rvs.get (i := k1) (d := .dk kvsE) (by rw [List.getElem?_map, hkE]; rfl)
        subst hae
        have hKO := hko k1 kvsE hkE
        have haE'' : H'' aE = some (.dK ksE) := e4 _ _ haE
        have hne : aE ≠ d := fun z => by
          subst z
          rw [haE''] at hd
          cases hd
        have hLe : L ≠ aE := fun z => by
          subst z
          rw [hLs] at haE
          cases haE
        have haE9 := eall _ _ haE
        have hL9 := eall _ _ hLs
        have haE10 : (upd H9 d (.dK (putK ks (Sum.inl (k1 : Int)) (V.bl true)))) aE = some (.dK ksE) := by rw [upd_ne hne]; exact haE9
        refine ⟨_, rfl, .inr (.inr (.inl ⟨rfl, .inl ⟨_, upd_same⟩⟩)), ?_⟩
        refine ev_dcKeys (C := CB K) haE10 (by rw [(rpK_iff.mp rkE).length]; have := hKO.few; have := h2few k1 (by omega); omega) (by simp) (fun od H10 e10 Q' q' => ⟨_, rfl, _, rfl, rIxL K, fun X g => g.K ▸ ix_list, L, vs, (k1 : Int), V.ref aE, rfl, (show w1 = V.int (k1 : Int) from z1), sq_of (e10 _ _ (by rw [upd_ne hLe, upd_ne hLd]; exact hL9)), atI_nat hve, q' _ H10 (Ex.refl _) rfl⟩) fun Dl lsD H10 e10 hDl hDl2 rkD => ?_
        have hd10 : H10 d = some (.dK (putK ks (Sum.inl (k1 : Int)) (V.bl true))) := e10 _ _ upd_same
        have hdD : d ≠ Dl := fun z => by
          subst z
          rw [upd_same] at hDl
          cases hDl
        have hkeys : ksE.map (·.1) = kvsE.map (·.1) := RK.keys (rpK_iff.mp rkE)
        rw [hkeys] at rkD
        have t9 : Tx H9 (upd H9 d (.dK (putK ks (Sum.inl (k1 : Int)) (V.bl true)))) := Tx.dk hd9
        have rk10 : RK (Rp (CB K) H10) (putK ks (Sum.inl (k1 : Int)) (V.bl true)) (putD kvs (Sum.inl (k1 : Int)) (.bl true)) := RK.put (RK.fz (t9.trans (Tx.ex e10)) (fun p hp => by rw [s5.vals p hp]; rfl) (s4.imp fun _ _ r => r.ex e89)) rfl
        have t10 : ∀ o, Tx H10 (upd H10 d (.dK o)) := fun o => Tx.dk hd10
        have hadd := s5.add hb hKO
        refine ⟨rDUpd, fun _ _ => mt_dupd, d, Dl, _, lsD, rfl, rfl, hd10, hDl2, hdD, ?_, ?_⟩
        · rw [rk10.length, rkD.length]
          have h1 := putD_length (m := kvs) (k := (Sum.inl (k1 : Int) : Key)) (d := D.bl true)
          have h2 : (dcD (kvsE.map (·.1)) id fun _ => D.bl true).length ≤ kvsE.length := by
            refine Nat.le_trans dcD_length ?_
            rw [List.length_map]
            exact Nat.le_refl _
          have h3 := s5.few
          have h4 := hKO.few
          have h5 := h2few k1 (by omega)
          exact Nat.le_trans (show _ ≤ 100 by omega) (by decide)
        · have hdN : H'' d = none := hd
          refine ⟨⟨_, _, _, _, rfl⟩, s1.trans ((Tx.ex e89).trans (t9.trans ((Tx.ex e10).trans (t10 _)))), Ex.mut ((Ex.mut (s2.trans e89) hdN).trans e10) hdN, _, _, upd_same, ?_, hadd⟩
          exact RK.fz (t10 _) (fun p hp => by rw [hadd.vals p hp]; rfl) (RK.upd rkD rk10)
      · have hb' : dirB hs rs k1 k0 = false := hdir.trans hb
        have e78 := e7.trans e8
        exact ⟨⟨_, _, _, _, rfl⟩, s1.trans (Tx.ex e78), s2.trans e78, ks, kvs, e78 _ _ s3, s4.imp fun _ _ r => r.ex e78, s5.skip hb'⟩
    · rintro σ2 H6 ⟨⟨u8, u9, u10, u11, rfl⟩, s1, s2, ks, kvs, s3, s4, s5⟩
      have hl2 : (rs.take k0).zipIdx.length = k0 := by rw [List.length_zipIdx, List.length_take]; omega
      rw [hl2] at s5
      have hL6 := (e4.trans s2) _ _ hLs
      refine q_append (d := .dk kvs) (ev_var rfl) (ed_var rfl (show Rp (CB K) H6 (.ref d) (.dk kvs) from ⟨d, ks, rfl, s3, rpK_iff.mpr s4⟩)) hL6 (by rw [rvs.length, List.length_map]; omega) fun vv H7 e7 r7 => ?_
      have eA := e4.trans (s2.trans e7)
      have hL7 := eA _ _ hLs
      have t7 : Tx H7 (upd H7 L (.lst (vs ++ [vv]))) := Tx.lst hL7
      refine ⟨⟨_, _, _, _, _, _, _, _, rfl⟩, t1.trans ((Tx.ex eA).trans t7), Ex.mut (t2.trans eA) hL, _, kvss ++ [kvs], upd_same, ?_, by rw [List.length_append, hlen]; rfl, fun k kvs' hk => ?_⟩
      · rw [List.map_append]
        have hall : ∀ kv ∈ kvss ++ [kvs], ∀ p ∈ kv, p.2.fz = true := fun kv hkv p hp => by
          rcases List.mem_append.mp hkv with h | h
          · obtain ⟨n, hn⟩ := List.getElem?_of_mem h
            rw [(hko n kv hn).vals p hp]; rfl
          · rw [List.mem_singleton.mp h] at hp
            rw [s5.vals p hp]; rfl
        have hrow : RpL (CB K) H7 (vs ++ [vv]) ((kvss ++ [kvs]).map D.dk) := by
          rw [List.map_append]
          exact (rvs.ex eA).append ⟨r7, True.intro⟩
        have := RpL.keep (H' := upd H7 L (.lst (vs ++ [vv]))) hL7 (fun _ z => nomatch z) (fun a u ha h => by rw [upd_ne ha]; exact h) t7 hall hrow
        rw [List.map_append] at this
        exact this
      · by_cases hkl : k < kvss.length
        · rw [List.getElem?_append_left hkl] at hk
          exact hko k kvs' hk
        · rw [List.getElem?_append_right (by omega)] at hk
          have e0 : k - kvss.length = 0 := by
            cases q : k - kvss.length with
            | zero => rfl
            | succ n => rw [q] at hk; cases hk
          rw [e0] at hk
          cases hk
          have ek : k = k0 := by omega
          subst ek
          exact s5.done
  · rintro σ' H' ⟨⟨u4, u5, u6, u7, u8, u9, u10, u11, rfl⟩, t1, t2, vs, kvss, hLs, rvs, hlen, hko⟩
    rw [List.length_zipIdx] at hlen
    have ru : Rp (CB K) H' u (scriptD rs) := r2.ex (e12.trans t2)
    have hrow : ∀ i : Nat, kvss.map (fun kvs => D.bl (lookD kvs (Sum.inl (i : Int))).isSome) = (List.range rs.length).map fun j => D.bl (ahB (dirB hs rs) i j) := fun i => by
      refine List.ext_getElem? fun j => ?_
      rw [List.getElem?_map, List.getElem?_map]
      by_cases hj : j < rs.length
      · rw [List.getElem?_eq_getElem (by omega), List.getElem?_range hj]
        have h := (hko j kvss[j] (List.getElem?_eq_getElem (by omega))).keys i
        refine congrArg some (congrArg D.bl ?_)
        rw [Bool.eq_iff_iff, h, ahB_iff]
      · rw [List.getElem?_eq_none (by omega), List.getElem?_eq_none (by rw [List.length_range]; omega)]
        rfl
    refine ret_of (d := tellD (dirB hs rs) rs.length) (ed_cb (ea1 (ed_map (xs := List.range rs.length) (F := fun i => D.int (i : Nat)) (fun i => .tup ((List.range rs.length).map fun j => .bl (ahB (dirB hs rs) i j))) (ei_rangeN (ea1 (Ed.is (ed_cb (ea1 (ed_var rfl ru) ea0) k_lent) (by rw [List.length_map])) ea0) (by omega)) (by rw [List.length_range]; omega) (fun i _ => fzL_map fun _ _ => rfl)
      fun n i x H1 hi e1' r3 k q' => q' _ rfl (ed_cb (ea1 (Ed.is (ed_map (xs := kvss) (F := D.dk) (fun kvs => D.bl (lookD kvs (Sum.inl (i : Int))).isSome) (ei_lst (ed_var rfl (show Rp (CB K) H1 (.ref L) (.lst (kvss.map D.dk)) from ⟨L, vs, rfl, e1' _ _ hLs, rvs.ex e1'⟩))) (by omega) (fun _ _ => rfl)
        fun n2 kvs y H2' hn2 e2' r4 k2 q2 => q2 _ rfl (ed_op (ed_var rfl (r3.ex e2')) (ed_var rfl r4) (o_inK (k := Sum.inl (i : Int))))) (congrArg D.lst (hrow i))) ea0) k_tuple)) ea0) k_tuple) (fzL_map fun i _ => fzL_map fun _ _ => rfl) (q_ex (e12.trans t2) q) rfl
def linkB (a : Nat → Nat → Bool) (i j : Nat) : Bool := a i j && !((List.range (j - (i + 1))).any fun k => a i (i + 1 + k) && a (i + 1 + k) j)
structure LnA where
  dir : Nat → Nat → Bool
  n : Nat
  i : Nat
  j : Nat
noncomputable abbrev LnA.args (a : LnA) : List D := [tellD a.dir a.n, .int (a.i : Nat), .int (a.j : Nat)]
abbrev LnA.pre (a : LnA) : Prop := a.i < a.n ∧ a.j < a.n ∧ a.n ≤ 5
noncomputable abbrev spIsLink (C : Addr) : Sp := spF C LnA.args LnA.pre fun a => .bl (linkB (ahB a.dir) a.i a.j)
theorem told_at {C : Addr} {σ : L2.St} {H : Hp} {t1 t2 t3 : TE} {dir : Nat → Nat → Bool} {n i j : Nat} (h1 : Ed C t1 σ H (tellD dir n)) (h2 : Ed C t2 σ H (.int (i : Nat))) (h3 : Ed C t3 σ H (.int (j : Nat))) (hi : i < n) (hj : j < n) : Ed C (tOp (rI_ P w K) (tOp (rI_ P w K) t1 t2) t3) σ H (.bl (ahB dir i j)) :=
  ed_op (ed_op h1 h2 (o_ixt (d := .tup ((List.range n).map fun j => .bl (ahB dir i j))) (atI_nat (j := i) (by rw [List.getElem?_map, List.getElem?_range hi]; rfl)))) h3 (o_ixt (atI_nat (j := j) (by rw [List.getElem?_map, List.getElem?_range hj]; rfl)))
theorem c_is_link (T : TF w K mg) : Callee P w K mg base "is_link" 1 ["told", "one", "other"] (spIsLink (CB K)) := by
  obtain ⟨fd, F⟩ := T.d_is_link
  refine callee_of F (F.ok sc_is_link (spA_len fun _ => rfl) fun cdv A outer s H vs Q E hr h => ?_) T.g_is_link fun _ _ _ _ _ _ us hl => match us, hl with | [_, _, _], _ => rfl
  obtain ⟨a, r, hp, q⟩ := h
  have g : Good P w K (L2.Cx.nox (cxOf CX0 P w K mg base ["told", "one", "other", "mid"] "is_link" (defScope s_is_link) (He.ga K "is_link") cdv A outer s H E)) := ⟨rfl, rfl, rfl, rfl, hu_un hr⟩
  have hu := hu_of hr
  refine ⟨_, PSs.nox (pss_one (ps_ret (pe_and (pe_ix (ix_b g) (pe_ix (ix_b g) (pv 0) (pv 1) (fun _ _ => rfl)) (pv 2) (fun _ _ => rfl)) (pe_one (pe_not (pe_callB (c_b g) (by rfl) T.f_any bt_any (pa_cons (pe_lc (own := [("mid", 3)]) g.calm sc_is_link.nd (pi_range2 (by rfl) T.f_range (pa_cons (pe_op (op_b g) (pv 1) pe_int) (pa_cons (pv 2) pa_nil))) (blkOk_by (by kernel_rfl)) (fun _ _ _ _ _ => (pg_name (i := 3) sc_is_link.nd rfl (Or.inl rfl))) (fun _ _ _ _ _ => pts_nil) (fun _ _ _ _ _ => (pe_and (pe_ix (ix_b g.b) (pe_ix (ix_b g.b) (pv 0) (pv 1) (fun _ _ => rfl)) (pv 3) (fun _ _ => rfl)) (pe_one (pe_ix (ix_b g.b) (pe_ix (ix_b g.b) (pv 0) (pv 3) (fun _ _ => rfl)) (pv 2) (fun _ _ => rfl)))))) pa_nil))))))), ?_⟩
  obtain ⟨v, u1, u2, rfl, r1, r2, r3⟩ := r.three
  obtain ⟨dir, n, i, j⟩ := a
  obtain ⟨h1, h2, h3⟩ := (show i < n ∧ j < n ∧ n ≤ 5 from hp)
  replace r1 : Rp (CB K) H v (tellD dir n) := r1
  replace r2 : Rp (CB K) H u1 (.int (i : Nat)) := r2
  replace r3 : Rp (CB K) H u2 (.int (j : Nat)) := r3
  refine ret_of (ed_and (told_at (ed_var rfl r1) (ed_var rfl r2) (ed_var rfl r3) h1 h2) fun _ => ed_not (ed_cb (ea1 (ed_map (xs := List.range (j - (i + 1))) (F := fun k => D.int ((i + 1 + k : Nat) : Int)) (fun k => .bl (ahB dir i (i + 1 + k) && ahB dir (i + 1 + k) j))
    (ei_range2N (m := i + 1) (n := j) (ea1 (Ed.is (ed_op (ed_var rfl r2) ed_int o_add) (by simp)) (ea1 (ed_var rfl r3) ea0)) (by omega) (by omega)) (by rw [List.length_range]; omega) (fun _ _ => rfl)
    fun m k x H1 hk e1 r4 kk q' => q' _ rfl (ed_and (told_at (ed_var rfl (r1.ex e1)) (ed_var rfl (r2.ex e1)) (ed_var rfl r4) h1 (by have := List.mem_range.mp (List.mem_of_getElem? hk); omega)) fun _ => told_at (ed_var rfl (r1.ex e1)) (ed_var rfl r4) (ed_var rfl (r3.ex e1)) (by have := List.mem_range.mp (List.mem_of_getElem? hk); omega) h2)) ea0) k_anyM)) rfl q rfl
def pairsAll (n : Nat) : List (Nat × Nat) := (List.range n).flatMap fun i => ((List.range (n - (i + 1))).map fun k => i + 1 + k).map fun m => (i, m)
def laneOf (rs : List Row) (i : Nat) : Nat := (rs[i]?.map Prod.fst).getD 0
noncomputable def linksL (hs : List Hall) (rs : List Row) : List (Nat × Nat) := ((pairsAll rs.length).filter fun p => !decide (laneOf rs p.1 = laneOf rs p.2)).filter fun p => linkB (ahB (dirB hs rs)) p.1 p.2
theorem mem_pairsAll {n : Nat} {p : Nat × Nat} : p ∈ pairsAll n ↔ p.1 < p.2 ∧ p.2 < n := by
  unfold pairsAll
  simp only [List.mem_flatMap, List.mem_range, List.mem_map]
  constructor
  · rintro ⟨i, hi, m, ⟨k, hk, rfl⟩, rfl⟩
    exact ⟨by show i < i + 1 + k; omega, by show i + 1 + k < n; omega⟩
  · rintro ⟨h1, h2⟩
    exact ⟨p.1, by omega, p.2, ⟨p.2 - (p.1 + 1), by omega, by omega⟩, rfl⟩
theorem qd_two {C : Addr} {σ : L2.St} {H : Hp} {te : TE} {tz : TS} {E : Ends} {i1 i2 : Nat} {d1 d2 : D} (h : Ed C te σ H (.tup [d1, d2])) (k : ∀ v1 v2 H1, Ex H H1 → Rp C H1 v1 d1 → Rp C H1 v2 d2 → tz E ((σ.set i1 (some v1)).set i2 (some v2)) H1) :
    tSeq (tAsg te (gTup K 2 (gCons (gName i1) (gCons (gName i2) gNil)))) tz E σ H := h H (Ex.refl H) _ fun v H1 e r => g_two r fun v1 v2 r1 r2 => k v1 v2 H1 e r1 r2
theorem lane_at {C : Addr} {σ : L2.St} {H : Hp} {t1 t2 : TE} {rs : List Row} {i : Nat} (h1 : Ed C t1 σ H (scriptD rs)) (h2 : Ed C t2 σ H (.int (i : Nat))) (hi : i < rs.length) : Ed C (tOp (rI_ P w K) (tOp (rI_ P w K) t1 t2) (tC (.int 0))) σ H (.int (laneOf rs i : Nat)) := by
  have e : laneOf rs i = rs[i].1 := by
    unfold laneOf
    rw [List.getElem?_eq_getElem hi]
    rfl
  rw [e]
  exact ed_op (ed_op h1 h2 (o_ixt (d := rowD rs[i]) (atI_nat (j := i) (by rw [List.getElem?_map, List.getElem?_eq_getElem hi]; rfl)))) ed_int (o_ixt at0)
noncomputable abbrev spLinksOf (C : Addr) : Sp := spF C (fun p : List Hall × List Row => [hallsD p.1, scriptD p.2]) raPre fun p => .tup ((linksL p.1 p.2).map spotD)
theorem ei_range2M {ta : TA} {C : Addr} {σ : L2.St} {H : Hp} {m n : Nat} (h : EdA C ta σ H [.int (m : Nat), .int (n : Nat)]) (hm : m ≤ 100000) (hn : n ≤ 100000) : EvI C (iRng2 ta) σ H (((List.range (n - m)).map fun i => m + i).map fun x => D.int (x : Nat)) B0 := by
  rw [List.map_map]
  exact ei_range2N h hm hn
theorem pairs_few {n : Nat} (hn : n ≤ 5) : ((List.range n).flatMap fun i => (List.range (n - (i + 1))).map fun k => i + 1 + k).length ≤ 25 := by
  match n, hn with
  | 0, _ => decide
  | 1, _ => decide
  | 2, _ => decide
  | 3, _ => decide
  | 4, _ => decide
  | 5, _ => decide
theorem c_links_of (T : TF w K mg) (c_rows_ahead : Callee P w K mg base "rows_ahead" 5 ["rooms", "script"] (spAhead (CB K))) (c_is_link : Callee P w K mg base "is_link" 1 ["told", "one", "other"] (spIsLink (CB K))) : Callee P w K mg base "links_of" 6 ["rooms", "script"] (spLinksOf (CB K)) := by
  obtain ⟨fd, F⟩ := T.d_links_of
  refine callee_of F (F.ok sc_links_of (spA_len fun _ => rfl) fun cdv A outer s H vs Q E hr h => ?_) T.g_links_of fun _ _ _ _ _ _ us hl => match us, hl with | [_, _], _ => rfl
  obtain ⟨a, r, hp, q⟩ := h
  have g : Good P w K (L2.Cx.nox (cxOf CX0 P w K mg base ["rooms", "script", "told", "many", "pairs", "unlike", "one", "other"] "links_of" (defScope s_links_of) (He.ga K "links_of") cdv A outer s H E)) := ⟨rfl, rfl, rfl, rfl, hu_un hr⟩
  have hu := hu_of hr
  refine ⟨_, PSs.nox (pss_cons (ps_asg (pe_tup (pa_cons (pe_c c_rows_ahead (hr.mono (by decide)) (by rfl) pass0 (pa_cons (pv 0) (pa_cons (pv 1) pa_nil))) (pa_cons (pe_callB (c_b g) (by rfl) T.f_len bt_len (pa_cons (pv 1) pa_nil)) pa_nil))) (pg_tup rfl (pgs_cons (pg_name (i := 2) sc_links_of.nd rfl (Or.inr rfl)) (pgs_cons (pg_name (i := 3) sc_links_of.nd rfl (Or.inr rfl)) pgs_nil))))
      (pss_cons (ps_setLc2 (i := 4) (own := [("one", 6), ("other", 7)]) (vs1 := [7]) g.calm sc_links_of.nd rfl rfl (sw_true rfl rfl rfl (by decide +kernel)) (pi_range1 (by rfl) T.f_range (pa_cons (pv 3) pa_nil)) (blkOk_by (by kernel_rfl)) (by decide) (fun _ _ _ _ _ => (pg_name (i := 6) sc_links_of.nd rfl (Or.inl rfl))) (fun _ _ _ _ _ => pts_nil) (fun _ _ _ _ _ => (pi_range2 (by rfl) T.f_range (pa_cons (pe_op (op_b g.b) (pv 6) pe_int) (pa_cons (pv 3) pa_nil)))) (fun _ _ _ _ _ => (pg_name (i := 7) sc_links_of.nd rfl (Or.inl rfl))) (fun _ _ _ _ _ => pts_nil) (fun _ _ _ _ _ => (pe_tup (pa_cons (pv 6) (pa_cons (pv 7) pa_nil)))))
      (pss_cons (ps_setLc (i := 5) (own := [("one", 6), ("other", 7)]) (g := (gTup K 2 (gCons (gName 6) (gCons (gName 7) gNil)))) g.calm sc_links_of.nd rfl rfl (sw_true rfl rfl rfl (by decide +kernel)) (pi_b g (pv 4)) (blkOk_by (by kernel_rfl)) (fun _ _ _ _ _ => (pg_tup rfl (pgs_cons (pg_name (i := 6) sc_links_of.nd rfl (Or.inl rfl)) (pgs_cons (pg_name (i := 7) sc_links_of.nd rfl (Or.inl rfl)) pgs_nil)))) (fun _ _ _ _ _ => (pts_one (pt_cmpR (op_b g.b) (pe_ix (ix_b g.b) (pe_ix (ix_b g.b) (pv 1) (pv 6) (fun _ _ => rfl)) pe_int (fun _ _ => rfl)) (pe_ix (ix_b g.b) (pe_ix (ix_b g.b) (pv 1) (pv 7) (fun _ _ => rfl)) pe_int (fun _ _ => rfl)) (nomark _)))) (fun _ _ _ _ _ => (pe_tup (pa_cons (pv 6) (pa_cons (pv 7) pa_nil)))))
      (pss_one (ps_ret (pe_callTy (c_b g) (by rfl) T.f_tuple bt_tuple (pa_cons (pe_lc (own := [("one", 6), ("other", 7)]) (g := (gTup K 2 (gCons (gName 6) (gCons (gName 7) gNil)))) g.calm sc_links_of.nd (pi_b g (pv 5)) (blkOk_by (by kernel_rfl)) (fun _ _ _ _ _ => (pg_tup rfl (pgs_cons (pg_name (i := 6) sc_links_of.nd rfl (Or.inl rfl)) (pgs_cons (pg_name (i := 7) sc_links_of.nd rfl (Or.inl rfl)) pgs_nil)))) (fun _ _ _ _ _ => (pts_one (pt_val (pe_c c_is_link (hr.mono (by decide)) (by rfl) pass0 (pa_cons (pv 2) (pa_cons (pv 6) (pa_cons (pv 7) pa_nil))))))) (fun _ _ _ _ _ => (pe_tup (pa_cons (pv 6) (pa_cons (pv 7) pa_nil))))) pa_nil))))))), ?_⟩
  obtain ⟨v, u, rfl, r1, r2⟩ := r.two
  obtain ⟨hs, rs⟩ := a
  obtain ⟨p1, p2, p3⟩ := (show HallsOk hs ∧ rs.length ≤ 5 ∧ ∀ r ∈ rs, r.2.inn hs from hp)
  replace r1 : Rp (CB K) H v (hallsD hs) := r1
  replace r2 : Rp (CB K) H u (scriptD rs) := r2
  refine qd_two (ed_tup (ea1 (ed_call (hs, rs) (ea1 (ed_var rfl r1) (ea1 (ed_var rfl r2) ea0)) ⟨p1, p2, p3⟩) (ea1 (Ed.is (ed_cb (ea1 (ed_var rfl r2) ea0) k_lent) (by rw [List.length_map])) ea0))) fun vt vm H1 e1 rt rm => ?_
  replace rt : Rp (CB K) H1 vt (tellD (dirB hs rs) rs.length) := rt
  replace rm : Rp (CB K) H1 vm (.int (rs.length : Nat)) := rm
  have hpf := pairs_few p2
  refine qd_asgP (EvP.imp (ev_lc2 (C := CB K) (xs := List.range rs.length) (F := fun i => D.int (i : Nat)) (fun i => (List.range (rs.length - (i + 1))).map fun k => i + 1 + k) (fun m => D.int (m : Nat)) (fun i m => spotD (i, m))
    (ei_rangeN (ea1 (ed_var rfl rm) ea0) (by omega)) (Nat.le_trans hpf (by decide)) (fun _ _ _ _ => rfl) (fun _ _ _ _ => rfl)
    fun i x H2 hi e2 r3 k q' => q' _ rfl (ei_range2M (m := i + 1) (n := rs.length) (ea1 (Ed.is (ed_op (ed_var rfl r3) ed_int o_add) (by simp)) (ea1 (ed_var rfl (rm.ex e2)) ea0)) (by have := List.mem_range.mp hi; omega) (by omega)) fun m y H3 hm e3 r4 k' q'' => q'' _ rfl (ed_tup (ea1 (ed_var rfl r3) (ea1 (ed_var rfl r4) ea0)))) fun v H2 _ p => p.1) fun vp H2 e2 rp => ?_
  have hpa : ((List.range rs.length).flatMap fun i => ((List.range (rs.length - (i + 1))).map fun k => i + 1 + k).map fun m => spotD (i, m)) = (pairsAll rs.length).map spotD := by
    unfold pairsAll
    rw [List.map_flatMap]
    congr 1
    funext i
    simp only [List.map_map]
    rfl
  rw [hpa] at rp
  have hlen : (pairsAll rs.length).length ≤ 25 := by
    have e : (pairsAll rs.length).length = ((List.range rs.length).flatMap fun i => (List.range (rs.length - (i + 1))).map fun k => i + 1 + k).length := by
      unfold pairsAll
      rw [List.length_flatMap, List.length_flatMap]
      congr 1
      exact List.map_congr_left fun c _ => List.length_map _
    rw [e]
    exact hpf
  refine qd_asg (d := .lst (((pairsAll rs.length).filter fun p => !decide (laneOf rs p.1 = laneOf rs p.2)).map spotD)) (ed_lc (xs := pairsAll rs.length) (F := spotD) (fun p => !decide (laneOf rs p.1 = laneOf rs p.2)) spotD (ei_lst (ed_var rfl rp)) (Nat.le_trans hlen (by decide)) (fun _ _ _ => rfl)
    fun n p x H3 hn e3 r3 k q' => g_two r3 fun v1 v2 r4 r5 => by
      have hp := mem_pairsAll.mp (List.mem_of_getElem? hn)
      refine q' _ rfl (et_is (et_cmp (ed_op (lane_at (ed_var rfl (r2.ex (e1.trans (e2.trans e3)))) (ed_var rfl r4) (by omega)) (lane_at (ed_var rfl (r2.ex (e1.trans (e2.trans e3)))) (ed_var rfl r5) (by omega)) o_nei)) ?_) fun _ => ed_tup (ea1 (ed_var rfl r4) (ea1 (ed_var rfl r5) ea0))
      exact congrArg Bool.not (decide_eq_decide.mpr ⟨fun h => by omega, fun h => by omega⟩)) fun vq H3 e3 rq => ?_
  refine ret_of (d := .tup ((linksL hs rs).map spotD)) (ed_cb (ea1 (ed_lc (xs := (pairsAll rs.length).filter fun p => !decide (laneOf rs p.1 = laneOf rs p.2)) (F := spotD) (fun p => linkB (ahB (dirB hs rs)) p.1 p.2) spotD (ei_lst (ed_var rfl rq)) (Nat.le_trans (List.length_filter_le _ _) (Nat.le_trans hlen (by decide))) (fun _ _ _ => rfl)
    fun n p x H4 hn e4 r3 k q' => g_two r3 fun v1 v2 r4 r5 => by
      have hp := mem_pairsAll.mp (List.mem_filter.mp (List.mem_of_getElem? hn)).1
      exact q' _ rfl (et_val (ed_call (LnA.mk (dirB hs rs) rs.length p.1 p.2) (ea1 (ed_var rfl (rt.ex (e2.trans (e3.trans e4)))) (ea1 (ed_var rfl r4) (ea1 (ed_var rfl r5) ea0))) ⟨by show p.1 < rs.length; omega, by show p.2 < rs.length; omega, p2⟩)) fun _ => ed_tup (ea1 (ed_var rfl r4) (ea1 (ed_var rfl r5) ea0))) ea0) k_tuple) (fzL_map fun _ _ => rfl) (q_ex (e1.trans (e2.trans e3)) q) rfl
noncomputable abbrev spLinks (C : Addr) : Sp := spF C (fun p : List Hall × List Row => [hallsD p.1, scriptD p.2]) (fun p => RowsOk p.1 p.2) fun p => .tup ((linksL p.1 p.2).map spotD)
theorem RowsOk.ra {hs : List Hall} {rs : List Row} (h : RowsOk hs rs) : raPre (hs, rs) := ⟨h.halls, h.few, fun r hr => (h.cmd r hr).1⟩
theorem c_links (T : TF w K mg) (c_check_rooms : Callee P w K mg base "check_rooms" 5 ["thing"] (spCkRooms (CB K))) (c_check_script : Callee P w K mg base "check_script" 8 ["rooms", "script"] (spCkScript (CB K))) (c_links_of : Callee P w K mg base "links_of" 6 ["rooms", "script"] (spLinksOf (CB K))) : Callee P w K mg base "links" 9 ["rooms", "script"] (spLinks (CB K)) := by
  obtain ⟨fd, F⟩ := T.d_links
  refine callee_of F (F.ok sc_links (spA_len fun _ => rfl) fun cdv A outer s H vs Q E hr h => ?_) T.g_links fun _ _ _ _ _ _ us hl => match us, hl with | [_, _], _ => rfl
  obtain ⟨a, r, hp, q⟩ := h
  have g : Good P w K (L2.Cx.nox (cxOf CX0 P w K mg base ["rooms", "script"] "links" (defScope s_links) (He.ga K "links") cdv A outer s H E)) := ⟨rfl, rfl, rfl, rfl, hu_un hr⟩
  have hu := hu_of hr
  refine ⟨_, PSs.nox (pss_cons (ps_expr (pe_c c_check_rooms (hr.mono (by decide)) (by rfl) pass0 (pa_cons (pv 0) pa_nil)))
      (pss_cons (ps_expr (pe_c c_check_script (hr.mono (by decide)) (by rfl) pass0 (pa_cons (pv 0) (pa_cons (pv 1) pa_nil))))
      (pss_one (ps_ret (pe_c c_links_of (hr.mono (by decide)) (by rfl) pass0 (pa_cons (pv 0) (pa_cons (pv 1) pa_nil))))))), ?_⟩
  obtain ⟨v, u, rfl, r1, r2⟩ := r.two
  obtain ⟨hs, rs⟩ := a
  replace hp : RowsOk hs rs := hp
  replace r1 : Rp (CB K) H v (hallsD hs) := r1
  replace r2 : Rp (CB K) H u (scriptD rs) := r2
  refine q_drop (ed_call hs (ea1 (ed_var rfl r1) ea0) hp.halls) fun H1 e1 => ?_
  refine q_drop (ed_call (hs, rs) (ea1 (ed_var rfl (r1.ex e1)) (ea1 (ed_var rfl (r2.ex e1)) ea0)) hp) fun H2 e2 => ?_
  have e := e1.trans e2
  exact ret_of (ed_call (hs, rs) (ea1 (ed_var rfl (r1.ex e)) (ea1 (ed_var rfl (r2.ex e)) ea0)) hp.ra) (fzL_map fun _ _ => rfl) (q_ex e q) rfl
end
end Fl
set_option maxHeartbeats 1000000
namespace Fl
theorem sorted_ext : ∀ {xs ys : List Nat}, xs.Pairwise (· < ·) → ys.Pairwise (· < ·) → (∀ a, a ∈ xs ↔ a ∈ ys) → xs = ys
  | [], [], _, _, _ => rfl
  | [], y :: ys, _, _, h => absurd ((h y).mpr List.mem_cons_self) (by simp)
  | x :: xs, [], _, _, h => absurd ((h x).mp List.mem_cons_self) (by simp)
  | x :: xs, y :: ys, hx, hy, h => by
    rw [List.pairwise_cons] at hx hy
    have e : x = y := by
      rcases List.mem_cons.mp ((h x).mp List.mem_cons_self) with e | e
      · exact e
      · rcases List.mem_cons.mp ((h y).mpr List.mem_cons_self) with e' | e'
        · exact e'.symm
        · have h1 := hx.1 y e'
          have h2 := hy.1 x e
          omega
    subst e
    refine congrArg _ (sorted_ext hx.2 hy.2 fun a => ?_)
    constructor
    · intro ha
      rcases List.mem_cons.mp ((h a).mp (List.mem_cons_of_mem _ ha)) with e | e
      · subst e; exact absurd (hx.1 a ha) (Nat.lt_irrefl a)
      · exact e
    · intro ha
      rcases List.mem_cons.mp ((h a).mpr (List.mem_cons_of_mem _ ha)) with e | e
      · subst e; exact absurd (hy.1 a ha) (Nat.lt_irrefl a)
      · exact e
theorem range_sorted (n : Nat) : (List.range n).Pairwise (· < ·) := List.pairwise_lt_range
theorem take_le {xs : List Nat} (h : xs.Pairwise (· < ·)) {i n : Nat} (hi : xs[i]? = some n) (a : Nat) : a ∈ xs.take (i + 1) ↔ a ∈ xs ∧ a ≤ n := by
  have e : xs = xs.take (i + 1) ++ xs.drop (i + 1) := (List.take_append_drop _ _).symm
  have hp := h
  rw [e, List.pairwise_append] at hp
  have hn : n ∈ xs.take (i + 1) := by
    rw [take_item hi]
    simp
  have hle : ∀ b ∈ xs.take (i + 1), b ≤ n := fun b hb => by
    have hp1 := hp.1
    rw [take_item hi, List.pairwise_append] at hp1
    rw [take_item hi] at hb
    rcases List.mem_append.mp hb with q | q
    · exact Nat.le_of_lt (hp1.2.2 b q n (by simp))
    · rw [List.mem_singleton.mp q]; exact Nat.le_refl _
  constructor
  · intro ha
    exact ⟨List.mem_of_mem_take ha, hle a ha⟩
  · rintro ⟨ha, hb⟩
    rw [e] at ha
    rcases List.mem_append.mp ha with q | q
    · exact q
    · have := hp.2.2 n hn a q
      omega
theorem ints_nats {zs : List Int} (h : ∀ z ∈ zs, ∃ n : Nat, z = (n : Int)) (hp : zs.Pairwise (· < ·)) : ∃ ns : List Nat, zs = ns.map (fun n : Nat => (n : Int)) ∧ ns.Pairwise (· < ·) := by
  refine ⟨zs.map Int.toNat, ?_, ?_⟩
  · rw [List.map_map]
    conv => lhs; rw [← List.map_id zs]
    refine List.map_congr_left fun z hz => ?_
    obtain ⟨n, rfl⟩ := h z hz
    simp
  · rw [List.pairwise_map]
    refine hp.imp_of_mem fun {a b} ha hb hab => ?_
    obtain ⟨n, rfl⟩ := h a ha
    obtain ⟨m, rfl⟩ := h b hb
    simp only [Int.toNat_natCast]
    omega
def fronts (S : List (Nat × Nat)) (f : Nat) : Bool := decide (f ∈ S.map Prod.fst)
def numOf (rs : List Row) (S : List (Nat × Nat)) (one : Nat) : Nat := ((List.range (one + 1)).filter fun f => fronts S f && decide (laneOf rs f = laneOf rs one)).length
theorem numOf_take {rs : List Row} {S : List (Nat × Nat)} {ns : List Nat} (hp : ns.Pairwise (· < ·)) (hm : ∀ n, n ∈ ns ↔ n ∈ S.map Prod.fst) {i n : Nat} (hi : ns[i]? = some n) : numOf rs S n = ((ns.take (i + 1)).filter fun f => decide (laneOf rs f = laneOf rs n)).length := by
  have e : (List.range (n + 1)).filter (fronts S) = ns.take (i + 1) := by
    refine sorted_ext ((range_sorted _).filter _) (hp.sublist (List.take_sublist _ _)) fun a => ?_
    rw [List.mem_filter, List.mem_range, take_le hp hi, hm]
    unfold fronts
    rw [decide_eq_true_eq]
    constructor
    · rintro ⟨h1, h2⟩; exact ⟨h2, by omega⟩
    · rintro ⟨h1, h2⟩; exact ⟨by omega, h1⟩
  unfold numOf
  rw [← e, List.filter_filter]
  congr 2
  funext f
  exact Bool.and_comm _ _
end Fl
set_option maxHeartbeats 2000000
namespace Fl
open PySem PySem.Spec PyProof.Rows L2 Evl
section
variable {C : Addr} {H H' : Hp}
theorem RpL.perm {α : Type} {F : α → D} : ∀ {xs ys : List V}, ys.Perm xs → ∀ {l : List α}, RpL C H xs (l.map F) → ∃ l' : List α, l'.Perm l ∧ RpL C H ys (l'.map F) := by
  intro xs ys h
  induction h with
  | nil =>
    intro l r
    match l, r with
    | [], _ => exact ⟨[], .nil, True.intro⟩
  | cons x _ ih =>
    intro l r
    match l, r with
    | a :: l, r =>
      obtain ⟨l', h1, h2⟩ := ih r.2
      exact ⟨a :: l', h1.cons a, r.1, h2⟩
  | swap x y l0 =>
    intro l r
    match l, r with
    | a :: b :: l, r => exact ⟨b :: a :: l, .swap _ _ _, r.2.1, r.1, r.2.2⟩
  | trans _ _ ih1 ih2 =>
    intro l r
    obtain ⟨l1, h1, h2⟩ := ih2 r
    obtain ⟨l2, h3, h4⟩ := ih1 h2
    exact ⟨l2, h3.trans h1, h4⟩
structure LN (C : Addr) (H : Hp) (L : Addr) (as : List Addr) (ls : List (List D)) : Prop where
  top : H L = some (.lst (as.map V.ref))
  nd : (L :: as).Nodup
  len : as.length = ls.length
  row : ∀ (k : Nat) (a : Addr) (r : List D), as[k]? = some a → ls[k]? = some r → ∃ vs, H a = some (.lst vs) ∧ RpL C H vs r
  fz : ∀ r ∈ ls, fzL r = true
theorem LN.keep {L : Addr} {as : List Addr} {ls : List (List D)} (h : LN C H L as ls) (t : Tx H H') (k : ∀ a ∈ L :: as, H' a = H a) : LN C H' L as ls :=
  ⟨by rw [k L List.mem_cons_self]; exact h.top, h.nd, h.len, fun i a r ha hr => by
    obtain ⟨vs, h1, h2⟩ := h.row i a r ha hr
    exact ⟨vs, by rw [k a (List.mem_cons_of_mem _ (List.mem_of_getElem? ha))]; exact h1, h2.fz t (h.fz r (List.mem_of_getElem? hr))⟩, h.fz⟩
theorem LN.ex {L : Addr} {as : List Addr} {ls : List (List D)} (h : LN C H L as ls) (e : Ex H H') : LN C H' L as ls := h.keep (Tx.ex e) fun a ha => by
  rcases List.mem_cons.mp ha with z | z
  · rw [z, h.top]; exact e _ _ h.top
  · obtain ⟨i, hi⟩ := List.getElem?_of_mem z
    have hl : i < ls.length := by rw [← h.len]; exact (List.getElem?_eq_some_iff.mp hi).1
    obtain ⟨vs, h1, _⟩ := h.row i a _ hi (List.getElem?_eq_getElem hl)
    rw [h1]
    exact e _ _ h1
theorem LN.put {L a : Addr} {as : List Addr} {ls : List (List D)} {k : Nat} {r r2 : List D} {vs ws : List V} (h : LN C H L as ls) (ha : as[k]? = some a) (hr : ls[k]? = some r) (hv : H a = some (.lst vs)) (rv : RpL C H vs r) (rw' : RpL C H ws r2) (hz : fzL r2 = true) :
    LN C (upd H a (.lst (vs ++ ws))) L as (ls.set k (r ++ r2)) := by
  have hne : L ≠ a := fun z => by
    have := (List.nodup_cons.mp h.nd).1
    rw [z] at this
    exact this (List.mem_of_getElem? ha)
  have hlk : k < ls.length := (List.getElem?_eq_some_iff.mp hr).1
  have t : Tx H (upd H a (.lst (vs ++ ws))) := Tx.lst hv
  refine ⟨by rw [upd_ne hne]; exact h.top, h.nd, by rw [List.length_set]; exact h.len, fun i b q hb hq => ?_, fun q hq => ?_⟩
  · rw [List.getElem?_set] at hq
    by_cases e : k = i
    · subst e
      rw [if_pos rfl, if_pos hlk] at hq
      cases hq
      rw [ha] at hb
      cases hb
      exact ⟨_, upd_same, (rv.append rw').fz t (fzL_append (h.fz r (List.mem_of_getElem? hr)) hz)⟩
    · rw [if_neg e] at hq
      obtain ⟨us, h1, h2⟩ := h.row i b q hb hq
      have hba : b ≠ a := fun z => by
        subst z
        have hn := (List.nodup_cons.mp h.nd).2
        have h3 := (List.getElem?_eq_some_iff.mp ha)
        have h4 := (List.getElem?_eq_some_iff.mp hb)
        obtain ⟨l1, e1⟩ := h3
        obtain ⟨l2, e2⟩ := h4
        rcases Nat.lt_or_gt_of_ne e with q | q
        · exact List.pairwise_iff_getElem.mp hn k i l1 l2 q (e1.trans e2.symm)
        · exact List.pairwise_iff_getElem.mp hn i k l2 l1 q (e2.trans e1.symm)
      exact ⟨us, by rw [upd_ne hba]; exact h1, h2.fz t (h.fz q (List.mem_of_getElem? hq))⟩
  · rcases List.mem_or_eq_of_mem_set hq with h1 | h1
    · exact h.fz q h1
    · rw [h1]; exact fzL_append (h.fz r (List.mem_of_getElem? hr)) hz
theorem LN.rp {L : Addr} {as : List Addr} {ls : List (List D)} (h : LN C H L as ls) : Rp C H (.ref L) (.lst (ls.map D.lst)) := by
  refine ⟨L, _, rfl, h.top, ?_⟩
  have key : ∀ (as : List Addr) (ls : List (List D)), as.length = ls.length → (∀ (k : Nat) (a : Addr) (r : List D), as[k]? = some a → ls[k]? = some r → ∃ vs, H a = some (.lst vs) ∧ RpL C H vs r) → RpL C H (as.map V.ref) (ls.map D.lst) := by
    intro as
    induction as with
    | nil =>
      intro ls hl _
      cases ls with
      | nil => exact True.intro
      | cons => cases hl
    | cons a as ih =>
      intro ls hl hk
      cases ls with
      | nil => cases hl
      | cons r ls =>
        obtain ⟨vs, h1, h2⟩ := hk 0 a r rfl rfl
        exact ⟨⟨a, vs, rfl, h1, h2⟩, ih ls (Nat.succ.inj hl) fun k b q hb hq => hk (k + 1) b q hb hq⟩
  exact key as ls h.len h.row
end
section
variable {P : Program} {w : World} {K : PySem.W.Frag} {C : Addr} {σ : L2.St} {H : Hp} {te to : TE}
theorem ev_row {L : Addr} {as : List Addr} {ls : List (List D)} {ti : TE} {k : Nat} {a : Addr} (ho : EvP to σ H fun v _ => v = V.ref L) (h : LN C H L as ls) (hi : Ed C ti σ H (.int (k : Nat))) (ha : as[k]? = some a) : EvP (tOp (rI_ P w K) to ti) σ H fun v _ => v = V.ref a := fun H1 e Q q =>
  ho H1 e _ fun u H2 e2 r2 => hi H2 (e.trans e2) _ fun y H3 e3 r3 => ⟨rIxL K, fun X g => g.K ▸ ix_list, L, as.map V.ref, (k : Int), V.ref a, r2, r3, sq_of ((e.trans (e2.trans e3)) _ _ h.top), atI_nat (by rw [List.getElem?_map, ha]; rfl), q _ H3 (e2.trans e3) rfl⟩
theorem ev_lnew {α : Type} {wi : TI} {g : TG} {vs : List Nat} {B : Hp → Addr → Prop} {xs : List α} {F : α → D} (h : EvI C wi σ H (xs.map F) B) (hl : xs.length ≤ 10000)
    (hs : ∀ (a : α) (x : V) (H1 : Hp), a ∈ xs → Ex H H1 → Rp C H1 x (F a) → ∀ k : L2.St → Hp → Prop, (∀ σ2, wipe σ2 vs = wipe σ vs → k σ2 H1) → g x (wipe σ vs) H1 k) :
    EvP (tLc wi g tYes (tLst tNil) vs) σ H fun v H2 => ∃ L as, v = .ref L ∧ LN C H2 L as (List.replicate xs.length []) ∧ ∀ a ∈ L :: as, H a = none := fun H0 e Q q => h H0 e _ fun J A H1 e1 dw hA Dl hD => by
  obtain ⟨G, Y, wk, hG, hY⟩ := dw.ex
  refine lc_it wk (fun i H' => Ex H1 H' ∧ ∃ as : List Addr, LN C H' Dl as (List.replicate i []) ∧ ∀ a ∈ as, H1 a = none) ⟨Ex.new hD, [], ⟨upd_same, by simp, rfl, fun k a r ha => (nomatch ha), fun r hr => (nomatch hr)⟩, fun a ha => (nomatch ha)⟩ (fun i H' _ p => hG H' (fun a ha => by
      obtain ⟨_, o, ho⟩ := hA a ha
      rw [ho]
      exact p.1 a _ ho) (Tx.ex p.1)) (fun i x H2 H3 hi p y => ?_) fun H' p => ?_
  · obtain ⟨p1, as, p2, p3⟩ := p
    obtain ⟨e3, d, hd, hr⟩ := hY i H2 x H3 hi (fun a ha => by
      obtain ⟨_, o, ho⟩ := hA a ha
      rw [ho]
      exact p1 a _ ho) (Tx.ex p1) y
    have eH : Ex H1 H3 := p1.trans e3
    have hr := hr (.inl p1)
    obtain ⟨a, ha, rfl⟩ := item_of hd
    refine hs a x H3 (List.mem_of_getElem? ha) ((e.trans e1).trans eH) hr _ fun σ2 hw => ⟨hw, ?_⟩
    dsimp only [tYes]
    rw [if_pos rfl]
    refine ⟨Nat.zero_le _, fun l hl3 => ?_⟩
    have q3 := p2.ex e3
    have hlD : l ≠ Dl := fun z => by
      subst z
      rw [q3.top] at hl3
      cases hl3
    have hla : l ∉ as := fun hm => by
      obtain ⟨k, hk⟩ := List.getElem?_of_mem hm
      have hlk : k < (List.replicate i ([] : List D)).length := by rw [← q3.len]; exact (List.getElem?_eq_some_iff.mp hk).1
      obtain ⟨us, h1, _⟩ := q3.row k l _ hk (List.getElem?_eq_getElem hlk)
      rw [h1] at hl3
      cases hl3
    have eN : Ex H3 (upd H3 l (.lst [])) := Ex.new hl3
    have q4 := q3.ex eN
    have hi' : i < xs.length := by rw [List.length_map] at hi; exact hi
    refine ⟨as.map V.ref, q4.top, ?_, Ex.mut (eH.trans eN) hD, as ++ [l], ⟨?_, ?_, ?_, ?_, ?_⟩, fun b hb => ?_⟩
    · have := q3.len
      rw [List.length_replicate] at this
      rw [List.length_map, this]
      exact Nat.lt_of_lt_of_le hi' (Nat.le_trans hl (by decide))
    · rw [upd_same, List.map_append]
      rfl
    · have h1 := q3.nd
      rw [List.nodup_cons] at h1 ⊢
      refine ⟨fun hm => ?_, ?_⟩
      · rcases List.mem_append.mp hm with z | z
        · exact h1.1 z
        · exact hlD (List.mem_singleton.mp z).symm
      · rw [List.nodup_append]
        exact ⟨h1.2, by simp, fun x hx y hy => by rw [List.mem_singleton.mp hy]; exact fun z => hla (z ▸ hx)⟩
    · rw [List.length_append, q3.len, List.length_replicate, List.length_replicate]
      rfl
    · intro k b r hb hr
      have er : r = [] := List.eq_of_mem_replicate (List.mem_of_getElem? hr)
      subst er
      by_cases hk : k < as.length
      · rw [List.getElem?_append_left hk] at hb
        have hk2 : k < (List.replicate i ([] : List D)).length := by rw [← q3.len]; exact hk
        have hrow : (List.replicate i ([] : List D))[k]? = some [] := by
          rw [List.getElem?_eq_getElem hk2]
          simp
        obtain ⟨us, h1, h2⟩ := q4.row k b [] hb hrow
        have hbD : b ≠ Dl := fun z => by
          have := (List.nodup_cons.mp q3.nd).1
          rw [← z] at this
          exact this (List.mem_of_getElem? hb)
        refine ⟨us, by rw [upd_ne hbD]; exact h1, ?_⟩
        match us, h2 with
        | [], _ => exact True.intro
      · rw [List.getElem?_append_right (by omega)] at hb
        have e0 : k - as.length = 0 := by
          cases q : k - as.length with
          | zero => rfl
          | succ n => rw [q] at hb; cases hb
        rw [e0] at hb
        cases hb
        exact ⟨[], by rw [upd_ne hlD, upd_same], True.intro⟩
    · intro r hr
      rw [List.eq_of_mem_replicate hr]
      rfl
    · rcases List.mem_append.mp hb with z | z
      · exact p3 b z
      · rw [List.mem_singleton.mp z]
        exact fresh_back eH hl3
  · obtain ⟨p1, as, p2, p3⟩ := p
    rw [List.length_map] at p2
    refine q (.ref Dl) H' (e1.trans p1) ⟨Dl, as, rfl, p2, fun a ha => ?_⟩
    rcases List.mem_cons.mp ha with z | z
    · rw [z]; exact fresh_back (e.trans e1) hD
    · exact fresh_back (e.trans e1) (p3 a z)
end
end Fl
set_option maxHeartbeats 4000000
namespace Fl
open PySem PySem.Spec PyProof.Rows L2 Evl
theorem sc_numbers_of : FnScope ["script", "pairs", "found", "counts", "one", "lane", "pair"] ["script", "pairs"] (defScope s_numbers_of) := ⟨rfl, rfl, rfl, by decide +kernel, rfl, by decide +kernel, by decide +kernel⟩
theorem sc_fenced_rows : FnScope ["script", "pairs", "prefix", "numbers", "lanes", "at", "lane", "command", "elders", "row", "one", "other", "track"] ["script", "pairs", "prefix"] (defScope s_fenced_rows) := ⟨rfl, rfl, rfl, by decide +kernel, rfl, by decide +kernel, by decide +kernel⟩
theorem item_ofG {α β : Type} {xs : List α} {F : α → β} {i : Nat} {d : β} (hd : (xs.map F)[i]? = some d) : ∃ a, xs[i]? = some a ∧ F a = d := by
  rw [List.getElem?_map] at hd
  cases q : xs[i]? with
  | none => rw [q] at hd; cases hd
  | some a => rw [q] at hd; exact ⟨a, rfl, Option.some.inj hd⟩
section
variable {P : Program} {w : World} {K : PySem.W.Frag} {mg : Str → Option Value} {base : Heap} {C : Addr} {σ : L2.St} {H : Hp} {te td ty tx : TE} {tz : TS} {E : Ends}
theorem ed_get2 {k : Key} {kvs : List (Key × D)} {d : D} (ho : Ed C td σ H (.dk kvs)) (hk : Ed C ty σ H (kD k)) (hx : Ed C tx σ H d) : Ed C (tDGet2 td ty tx) σ H ((lookD kvs k).getD d) := fun H1 e Q q =>
  ho H1 e _ fun v H2 e2 ⟨a, ks, ev, ha, rk⟩ => ⟨a, ev, .inl ⟨ks, .inl ha⟩, hk H2 (e.trans e2) _ fun y H3 e3 r3 => hx H3 ((e.trans e2).trans e3) _ fun z H4 e4 r4 => by
    have hy := rp_key.mp r3
    refine ⟨valV ks k, hy ▸ DGet.k ((e3.trans e4) _ _ ha), ?_⟩
    have rk4 : RK (Rp C H4) ks kvs := (rpK_iff.mp rk).imp fun _ _ r => r.ex (e3.trans e4)
    rcases rk4.val k with ⟨h1, h2⟩ | ⟨v0, d0, h1, h2, h3⟩
    · rw [h1]
      exact q _ H4 ((e2.trans e3).trans e4) (by rw [h2]; exact r4)
    · rw [h1]
      exact q _ H4 ((e2.trans e3).trans e4) (by rw [h2]; exact h3)⟩
theorem q_dnew2 {i j : Nat} (k : ∀ f c, H f = none → (upd H f (.dK [])) c = none → tz E ((σ.set i (some (.ref f))).set j (some (.ref c))) (upd (upd H f (.dK [])) c (.dK []))) : tSeq (tPar i j (tCons tDNewK (tCons tDNewK tNil))) tz E σ H := fun f hf c hc => ⟨_, _, rfl, k f c hf hc⟩
theorem ev_sortedMI {ks : List Key} (h : EvP te σ H fun v H2 => IsSet w H2 v ks) (hS : ∀ k ∈ ks, ∃ x : Int, k = .inl x) (hl : ks.length < 64) :
    EvP (tCB (rC P w K (.builtin "sorted")) (tCons te tNil)) σ H fun v H2 => ∃ zs : List Int, (zs.Pairwise (· < ·) ∧ (∀ z, z ∈ zs ↔ Sum.inl z ∈ ks) ∧ zs.length ≤ ks.length) ∧ Rp C H2 v (.lst (zs.map D.int)) ∧ Nw H v (.lst (zs.map D.int)) := fun H1 e Q q => h H1 e _ fun v H2 e2 ⟨a, S, n, ev, ha, hs, hn⟩ => by
  subst ev
  refine ⟨rSortedMI w, fun X g => by
    have h := g.w
    subst h
    exact cr_sortedMI g.calm, a, S, n, rfl, ha, fun k hk => hS k ((hs k).mp hk), by omega, fun ns p h1 h2 h3 hp => ?_⟩
  exact q _ _ (e2.trans (Ex.new hp)) ⟨ns, ⟨h1, fun z => (h2 z).trans (hs _), by omega⟩, ⟨p, _, rfl, upd_same, RpL.of_ints⟩, fun _ b eb => by
    cases eb
    exact fresh_back (e.trans e2) hp⟩
theorem eix_new {α : Type} {F : α → D} {ψ : List α → Prop} {tg : Expr} (h : EvP te σ H fun v H2 => ∃ xs, ψ xs ∧ Rp C H2 v (.lst (xs.map F)) ∧ Nw H v (.lst (xs.map F))) : EvIX C (iB P w K tg te) σ H F ψ fun _ a => H a = none := fun H1 e R q => h H1 e _ fun v H2 e2 ⟨xs, hp, ⟨a, vs, e3, e4, e5⟩, nw⟩ =>
  ⟨_, fun X g => g.K ▸ it_list, a, e3, ⟨vs, sq_of e4⟩, q xs _ [a] H2 hp e2 (dw_lst e4 e5) fun b hb => by
    have e : b = a := by simpa using hb
    rw [e]
    exact ⟨nw rfl a e3, _, e4⟩⟩
end
structure NumK (rs : List Row) (S : List (Nat × Nat)) (kvs : List (Key × D)) : Prop where
  vals : ∀ p ∈ kvs, p.2.fz = true
  at_ : ∀ m : Nat, lookD kvs (Sum.inl (m : Int)) = if m ∈ S.map Prod.fst then some (.int (numOf rs S m : Nat)) else none
section
variable {P : Program} {w : World} {K : PySem.W.Frag} {mg : Str → Option Value} {base : Heap}
abbrev pairsT (S : List (Nat × Nat)) : D := .tup (S.map spotD)
abbrev noPre (p : List Row × List (Nat × Nat)) : Prop := p.1.length ≤ 5 ∧ p.2.length ≤ 60 ∧ ∀ s ∈ p.2, s.1 < p.1.length
abbrev spNumbers (C : Addr) : Sp := spA C (fun p : List Row × List (Nat × Nat) => [scriptD p.1, pairsT p.2]) noPre fun p d => ∃ kvs, d = .dk kvs ∧ NumK p.1 p.2 kvs
theorem c_numbers_of (T : TF w K mg) : Callee P w K mg base "numbers_of" 1 ["script", "pairs"] (spNumbers (CB K)) := by
  obtain ⟨fd, F⟩ := T.d_numbers_of
  refine callee_of F (F.ok sc_numbers_of (spA_len fun _ => rfl) fun cdv A outer s H vs Q E hr h => ?_) T.g_numbers_of fun _ _ _ _ _ _ us hl => match us, hl with | [_, _], _ => rfl
  obtain ⟨a, r, hp, q⟩ := h
  have g : Good P w K (L2.Cx.nox (cxOf CX0 P w K mg base ["script", "pairs", "found", "counts", "one", "lane", "pair"] "numbers_of" (defScope s_numbers_of) (He.ga K "numbers_of") cdv A outer s H E)) := ⟨rfl, rfl, rfl, rfl, hu_un hr⟩
  have hu := hu_of hr
  refine ⟨_, PSs.nox (pss_cons (ps_par (i := 2) (j := 3) g.calm sc_numbers_of.nd rfl rfl (by decide) rfl rfl (pa_cons pe_dnewK (pa_cons pe_dnewK pa_nil)) rfl)
      (pss_cons (ps_for PassesOwn.never g.calm (pi_b g (pe_callB (c_b g) (by rfl) T.f_sorted bt_sorted (pa_cons (pe_scM (own := [("pair", 6)]) g.calm sc_numbers_of.nd (pi_b g (pv 1)) (blkOk_by (by kernel_rfl)) (fun _ _ _ _ _ => (pg_name (i := 6) sc_numbers_of.nd rfl (Or.inl rfl))) (fun _ _ _ _ _ => pts_nil) (fun _ _ _ _ _ => (pe_ix (ix_b g.b) (pv 6) pe_int (fun _ _ => rfl)))) pa_nil))) (pg_name (i := 4) sc_numbers_of.nd rfl (Or.inl rfl)) (pss_cons (ps_set (i := 5) sc_numbers_of.nd rfl (Or.inl rfl) (pe_ix (ix_b g) (pe_ix (ix_b g) (pv 0) (pv 4) (fun _ _ => rfl)) pe_int (fun _ _ => rfl)))
      (pss_cons (ps_asg (pe_op (op_b g) (pe_dget2 hu (pv 3) (pv 5) pe_int ⟨rfl, rfl, rfl, rfl⟩) pe_int) (pg_sub (pv 3) (pv 5) (set_b g)))
      (pss_one (ps_asg (pe_ix (ix_b g) (pv 3) (pv 5) (fun _ _ => rfl)) (pg_sub (pv 2) (pv 4) (set_b g)))))))
      (pss_one (ps_ret (pv 2))))), ?_⟩
  obtain ⟨v, u, rfl, r1, r2⟩ := r.two
  obtain ⟨rs, S⟩ := a
  obtain ⟨p1, p2, p3⟩ := (show rs.length ≤ 5 ∧ S.length ≤ 60 ∧ ∀ s ∈ S, s.1 < rs.length from hp)
  replace r1 : Rp (CB K) H v (scriptD rs) := r1
  replace r2 : Rp (CB K) H u (pairsT S) := r2
  refine q_dnew2 fun f c hf hc => ?_
  have ef : Ex H (upd (upd H f (.dK [])) c (.dK [])) := (Ex.new hf).trans (Ex.new hc)
  have hfc : f ≠ c := fun z => by
    subst z
    rw [upd_same] at hc
    cases hc
  have hcH : H c = none := by rw [upd_ne hfc.symm] at hc; exact hc
  refine qs_forX (C := CB K) (F := D.int) (ψ := fun zs => zs.Pairwise (· < ·) ∧ (∀ z : Int, z ∈ zs ↔ (Sum.inl z : Key) ∈ S.map fun s => (Sum.inl (s.1 : Int) : Key)) ∧ zs.length ≤ (S.map fun s => (Sum.inl (s.1 : Int) : Key)).length)
    (eix_new (ev_sortedMI (ks := S.map fun s => (Sum.inl (s.1 : Int) : Key)) ?_ ?_ ?_)) fun zs hz A H1 e1 hA => ?_
  · exact ev_sc (xs := S) (F := spotD) (fun s => (Sum.inl (s.1 : Int) : Key)) (ei_tup (ed_var rfl (r2.ex ef))) (Nat.le_trans p2 (by decide))
      fun s x H1 hs e1 r3 k q' => q' _ rfl (EvP.imp (ed_op (ed_var rfl r3) ed_int (o_ixt at0)) fun v H2 _ r => r)
  · intro k hk
    obtain ⟨s, _, rfl⟩ := List.mem_map.mp hk
    exact ⟨_, rfl⟩
  · rw [List.length_map]
    omega
  obtain ⟨z1, z2, z3⟩ := hz
  obtain ⟨ns, rfl, n1⟩ := ints_nats (fun z hz' => by
    obtain ⟨s, _, e⟩ := List.mem_map.mp ((z2 z).mp hz')
    exact ⟨s.1, (Sum.inl.inj e).symm⟩) z1
  have n2 : ∀ n, n ∈ ns ↔ n ∈ S.map Prod.fst := fun n => by
    have h := z2 (n : Int)
    constructor
    · intro hn
      obtain ⟨s, hs, e⟩ := List.mem_map.mp (h.mp (List.mem_map.mpr ⟨n, hn, rfl⟩))
      have e' := Sum.inl.inj e
      exact List.mem_map.mpr ⟨s, hs, by omega⟩
    · intro hn
      obtain ⟨s, hs, e⟩ := List.mem_map.mp hn
      obtain ⟨m, hm, e'⟩ := List.mem_map.mp (h.mpr (List.mem_map.mpr ⟨s, hs, by rw [← e]⟩))
      have : m = n := by omega
      exact this ▸ hm
  have hnl : ns.length ≤ 60 := by
    rw [List.length_map, List.length_map] at z3
    omega
  have hff : f ∉ A := fun h => by
    have := (hA f h).1
    rw [upd_ne hfc, upd_same] at this
    cases this
  have hcf : c ∉ A := fun h => by
    have := (hA c h).1
    rw [upd_same] at this
    cases this
  refine ⟨fun i σ' H' => (∃ u4 u5 u6, σ' = [some v, some u, some (.ref f), some (.ref c), u4, u5, u6]) ∧ Ex H H' ∧ (∀ b o, b ≠ f → b ≠ c → H1 b = some o → H' b = some o) ∧ ∃ fs cs fv cv, H' f = some (.dK fs) ∧ H' c = some (.dK cs) ∧ RK (Rp (CB K) H') fs fv ∧ RK (Rp (CB K) H') cs cv ∧ (∀ p ∈ fv, p.2.fz = true) ∧ (∀ p ∈ cv, p.2.fz = true) ∧ fv.length ≤ i ∧ cv.length ≤ i ∧
      (∀ m : Nat, lookD fv (Sum.inl (m : Int)) = if m ∈ ns.take i then some (.int (numOf rs S m : Nat)) else none) ∧ ∀ l : Nat, (lookD cv (Sum.inl (l : Int))).getD (.int 0) = .int (((ns.take i).filter fun f => decide (laneOf rs f = l)).length : Nat),
    ⟨⟨_, _, _, rfl⟩, ef.trans e1, fun b o _ _ h => h, [], [], [], [], e1 _ _ (by rw [upd_ne hfc, upd_same]), e1 _ _ upd_same, True.intro, True.intro, fun _ h => (nomatch h), fun _ h => (nomatch h), Nat.le_refl _, Nat.le_refl _, fun m => by simp [lookD], fun l => by simp [lookD]⟩, fun i σ' H' hi p => ?_, ?_, ?_⟩
  · obtain ⟨_, _, k2, fs, cs, fv, cv, hfs, hcs, _⟩ := p
    have hf1 : H1 f = some (.dK []) := e1 _ _ (by rw [upd_ne hfc, upd_same])
    have hc1 : H1 c = some (.dK []) := e1 _ _ upd_same
    refine ⟨fun b xs hb => k2 b _ (fun z => ?_) (fun z => ?_) hb, fun b hb => ?_⟩
    · subst z; rw [hf1] at hb; cases hb
    · subst z; rw [hc1] at hb; cases hb
    · obtain ⟨o, ho⟩ := (hA b hb).2
      rw [ho]
      exact k2 b o (fun z => hff (z ▸ hb)) (fun z => hcf (z ▸ hb)) ho
  · rintro i z x σ' H' H'' hi ⟨⟨u4, u5, u6, rfl⟩, q1, q2, fs, cs, fv, cv, q3, q4, q5, q6, q7, q8, q9, q10, q11, q12⟩ e2 r3
    obtain ⟨n, hn, rfl⟩ := item_ofG hi
    have hnm : n ∈ ns := List.mem_of_getElem? hn
    have hin : i < ns.length := (List.getElem?_eq_some_iff.mp hn).1
    have hnr : n < rs.length := by
      obtain ⟨s, hs, e⟩ := List.mem_map.mp ((n2 n).mp hnm)
      rw [← e]
      exact p3 s hs
    have rx : Rp (CB K) H'' x (.int (n : Nat)) := r3 (.inr rfl)
    have evx : x = V.int (n : Nat) := rx
    subst evx
    refine qd_asg (lane_at (ed_var rfl (r1.ex (q1.trans e2))) (ed_var rfl rx) hnr) fun vl H3 e3 rl => ?_
    have evl : vl = V.int (laneOf rs n : Nat) := rl
    subst evl
    have e23 := e2.trans e3
    have rc : Rp (CB K) H3 (.ref c) (.dk cv) := ⟨c, cs, rfl, e23 _ _ q4, rpK_iff.mpr (q6.imp fun _ _ r => r.ex e23)⟩
    have hcnt := q12 (laneOf rs n)
    refine qs_putK (k := Sum.inl (laneOf rs n : Int)) (d := .int ((((ns.take i).filter fun f => decide (laneOf rs f = laneOf rs n)).length : Nat) + 1)) (ed_op (Ed.is (ed_get2 (k := Sum.inl (laneOf rs n : Int)) (ed_var rfl rc) (ed_var rfl rl) ed_int) hcnt) ed_int o_add) (ev_var rfl) (ed_var rfl rl) (e23 _ _ q4) (by rw [q6.length]; omega) fun vc H4 e4 rvc => ?_
    have e24 := e23.trans e4
    have hc4 := e24 _ _ q4
    have hf4 := e24 _ _ q3
    have t4 : Tx H4 (upd H4 c (.dK (putK cs (Sum.inl (laneOf rs n : Int)) vc))) := Tx.dk hc4
    have evc : vc = V.int _ := rvc
    subst evc
    have rc5 : RK (Rp (CB K) (upd H4 c (.dK (putK cs (Sum.inl (laneOf rs n : Int)) (V.int _))))) (putK cs (Sum.inl (laneOf rs n : Int)) _) (putD cv (Sum.inl (laneOf rs n : Int)) (.int ((((ns.take i).filter fun f => decide (laneOf rs f = laneOf rs n)).length : Nat) + 1))) := RK.put (RK.fz t4 q8 (q6.imp fun _ _ r => r.ex e24)) rfl
    refine q_putK (k := Sum.inl (n : Int)) (d := .int ((((ns.take i).filter fun f => decide (laneOf rs f = laneOf rs n)).length : Nat) + 1)) (ed_op (ed_var rfl (show Rp (CB K) _ (.ref c) (.dk _) from ⟨c, _, rfl, upd_same, rpK_iff.mpr rc5⟩)) (ed_var rfl (show Rp (CB K) _ (V.int (laneOf rs n : Nat)) (kD (Sum.inl (laneOf rs n : Int))) from rfl)) (o_ixK (by rw [lookD_put, if_pos rfl]))) (ev_var rfl) (ed_var rfl (show Rp (CB K) _ (V.int (n : Nat)) (kD (Sum.inl (n : Int))) from rfl)) (by rw [upd_ne hfc]; exact hf4) (by rw [q5.length]; omega) fun vf H5 e5 rvf => ?_
    have evf : vf = V.int _ := rvf
    subst evf
    have hc5 : H5 c = some (.dK (putK cs (Sum.inl (laneOf rs n : Int)) (V.int ((((ns.take i).filter fun f => decide (laneOf rs f = laneOf rs n)).length : Nat) + 1)))) := e5 _ _ upd_same
    have hf5 : H5 f = some (.dK fs) := e5 _ _ (by rw [upd_ne hfc]; exact hf4)
    have t5 : Tx H5 (upd H5 f (.dK (putK fs (Sum.inl (n : Int)) (V.int ((((ns.take i).filter fun f => decide (laneOf rs f = laneOf rs n)).length : Nat) + 1))))) := Tx.dk hf5
    have hnum : numOf rs S n = ((ns.take i).filter fun f => decide (laneOf rs f = laneOf rs n)).length + 1 := by
      rw [numOf_take n1 n2 hn, take_item hn, List.filter_append, List.length_append, List.filter_cons, if_pos (by simp)]
      rfl
    refine ⟨⟨_, _, _, rfl⟩, Ex.mut ((Ex.mut (q1.trans e24) hcH).trans e5) hf, fun b o hb1 hb2 hb => ?_, _, _, putD fv (Sum.inl (n : Int)) (.int ((((ns.take i).filter fun f => decide (laneOf rs f = laneOf rs n)).length : Nat) + 1)), putD cv (Sum.inl (laneOf rs n : Int)) (.int ((((ns.take i).filter fun f => decide (laneOf rs f = laneOf rs n)).length : Nat) + 1)), upd_same, by rw [upd_ne hfc.symm]; exact hc5, RK.put (RK.fz (t4.trans ((Tx.ex e5).trans t5)) q7 (q5.imp fun _ _ r => r.ex e24)) rfl, RK.fz ((Tx.ex e5).trans t5) (fun p hp => (putD_mem hp).elim (q8 p) fun e => by rw [e]; rfl) rc5, fun p hp => (putD_mem hp).elim (q7 p) fun e => by rw [e]; rfl, fun p hp => (putD_mem hp).elim (q8 p) fun e => by rw [e]; rfl, ?_, ?_, fun m => ?_, fun l => ?_⟩
    · rw [upd_ne hb1]
      refine e5 _ _ ?_
      rw [upd_ne hb2]
      exact e24 _ _ (q2 b o hb1 hb2 hb)
    · have := putD_length (m := fv) (k := (Sum.inl (n : Int) : Key)) (d := D.int ((((ns.take i).filter fun f => decide (laneOf rs f = laneOf rs n)).length : Nat) + 1))
      omega
    · have := putD_length (m := cv) (k := (Sum.inl (laneOf rs n : Int) : Key)) (d := D.int ((((ns.take i).filter fun f => decide (laneOf rs f = laneOf rs n)).length : Nat) + 1))
      omega
    · rw [lookD_put, take_item hn]
      by_cases e : m = n
      · subst e
        rw [if_pos rfl, if_pos (by simp), hnum]
        rfl
      · rw [if_neg (fun z => e (by have := Sum.inl.inj z; omega)), q11 m]
        have : (m ∈ ns.take i ++ [n]) ↔ m ∈ ns.take i := by simp [e]
        by_cases h : m ∈ ns.take i
        · rw [if_pos h, if_pos (this.mpr h)]
        · rw [if_neg h, if_neg (fun z => h (this.mp z))]
    · rw [lookD_put, take_item hn, List.filter_append, List.length_append]
      by_cases e : l = laneOf rs n
      · subst e
        rw [if_pos rfl, List.filter_cons, if_pos (by simp)]
        rfl
      · rw [if_neg (fun z => e (by have := Sum.inl.inj z; omega)), q12 l, List.filter_cons, if_neg (by simp; exact fun z => e z.symm)]
        rfl
  · rintro σ' H' ⟨⟨u4, u5, u6, rfl⟩, q1, q2, fs, cs, fv, cv, q3, q4, q5, q6, q7, q8, q9, q10, q11, q12⟩
    rw [List.length_map, List.take_length] at q11
    refine ⟨_, rfl, q _ (.ref f) H' ⟨fv, rfl, q7, fun m => ?_⟩ q1 ⟨f, fs, rfl, q3, rpK_iff.mpr q5⟩ fun _ b eb => by
      cases eb
      exact hf⟩
    rw [q11 m]
    by_cases h : m ∈ ns
    · rw [if_pos h, if_pos ((n2 m).mp h)]
    · rw [if_neg h, if_neg (fun z => h ((n2 m).mpr z))]
end
def fname (pre : Str) (l : Nat) : Str := pre ++ (toString ((l : Nat) : Int) : Str)
def blk (pre : Str) (rs : List Row) (S : List (Nat × Nat)) (o : List Nat) (i : Nat) (c : Cmd) (lane : Nat) : List Cmd :=
  o.map (fun one => Cmd.wait (fname pre (laneOf rs one)) (numOf rs S one : Nat)) ++ (c :: if fronts S i then [Cmd.set (fname pre lane) 1] else [])
inductive Build (pre : Str) (rs : List Row) (S : List (Nat × Nat)) : Nat → List (List Cmd) → Prop
  | nil : Build pre rs S 0 (List.replicate (lanesN rs) [])
  | row {i : Nat} {ls : List (List Cmd)} {r : Row} {o : List Nat} {old : List Cmd} (b : Build pre rs S i ls) (hr : rs[i]? = some r) (ho : ls[r.1]? = some old) (hp : o.Perm ((S.filter fun s => decide (s.2 = i)).map Prod.fst)) : Build pre rs S (i + 1) (ls.set r.1 (old ++ blk pre rs S o i r.2 r.1))
theorem Build.len {pre : Str} {rs : List Row} {S : List (Nat × Nat)} {i : Nat} {ls : List (List Cmd)} (h : Build pre rs S i ls) : ls.length = lanesN rs := by
  induction h with
  | nil => simp
  | row _ _ _ _ ih => rw [List.length_set]; exact ih
theorem Str.empty_append (x : Str) : Str.empty ++ x = x := by
  cases x with
  | mk c => exact congrArg Str.mk (by simp [Str.empty])
theorem len_digit : ∀ l : Nat, l ≤ 5 → (toString ((l : Nat) : Int) : Str).length = 1 := by
  intro l hl
  match l, hl with
  | 0, _ => decide +kernel
  | 1, _ => decide +kernel
  | 2, _ => decide +kernel
  | 3, _ => decide +kernel
  | 4, _ => decide +kernel
  | 5, _ => decide +kernel
section
variable {P : Program} {w : World} {K : PySem.W.Frag} {mg : Str → Option Value} {base : Heap} {C : Addr} {σ : L2.St} {H : Hp} {te to : TE} {E : Ends} {tz : TS}
theorem ed_fmt2 {t1 t2 : TE} {pre : Str} {l : Nat} (h1 : Ed C t1 σ H (.str pre)) (h2 : Ed C t2 σ H (.int (l : Nat))) (hp : pre.length ≤ 5) (hl : l ≤ 5) : Ed C (fun σ H Q => tJs [tFmt t1, tFmt t2] Str.empty σ H fun out H1 => Q (.str out) H1) σ H (.str (fname pre l)) := fun H1 e Q q =>
  h1 H1 e _ fun v H2 e2 r => .inl ⟨pre, r, sz_of (by omega), pre, rfl, by rw [Str.empty_append]; exact sz_of (by omega), h2 H2 (e.trans e2) _ fun u H3 e3 ru => .inr ⟨(l : Int), ru, by
    match l, hl with
    | 0, _ => decide +kernel
    | 1, _ => decide +kernel
    | 2, _ => decide +kernel
    | 3, _ => decide +kernel
    | 4, _ => decide +kernel
    | 5, _ => decide +kernel, _, rfl, by
      rw [Str.empty_append]
      refine sz_of ?_
      have h : (pre ++ (toString ((l : Nat) : Int) : Str)).length = pre.length + (toString ((l : Nat) : Int) : Str).length := by
        show (pre.cps ++ (toString ((l : Nat) : Int) : Str).cps).size = _
        exact Array.size_append
      rw [h, len_digit l hl]
      omega, by
      show Q (.str (Str.empty ++ pre ++ toString ((l : Nat) : Int))) H3
      rw [Str.empty_append]
      exact q _ H3 (e2.trans e3) rfl⟩⟩
theorem ev_sortedP {α : Type} {l : List α} {f1 f2 : α → Int} (h : EvP te σ H fun v H2 => Rp C H2 v (.lst (l.map fun a => D.tup [.int (f1 a), .int (f2 a)]))) :
    EvP (tCB (rC P w K (.builtin "sorted")) (tCons te tNil)) σ H fun v H2 => ∃ l' : List α, l'.Perm l ∧ Rp C H2 v (.lst (l'.map fun a => D.tup [.int (f1 a), .int (f2 a)])) ∧ Nw H v (.lst (l'.map fun a => D.tup [.int (f1 a), .int (f2 a)])) := fun H1 e Q q => h H1 e _ fun v H2 e2 ⟨a, xs, ev, ha, rx⟩ => by
  subst ev
  refine ⟨rSortedP K, fun X g => g.K ▸ cr_sortedP, a, xs, rfl, sq_of ha, fun x hx => ?_, fun ys p hp hn => ?_⟩
  · obtain ⟨i, hi⟩ := List.getElem?_of_mem hx
    obtain ⟨d, hd, r⟩ := rx.getV hi
    obtain ⟨b, _, rfl⟩ := item_of hd
    obtain ⟨t, zs, e1, e2', e3⟩ := r
    obtain ⟨u1, u2, rfl, q1, q2⟩ := e3.two
    have q1' : u1 = V.int _ := q1
    have q2' : u2 = V.int _ := q2
    subst q1' q2'
    exact ⟨t, _, _, e1, e2'⟩
  · obtain ⟨l', p1, p2⟩ := RpL.perm hp rx
    exact q _ _ (e2.trans (Ex.new hn)) ⟨l', p1, ⟨p, ys, rfl, upd_same, p2.ex (Ex.new hn)⟩, fun _ b eb => by
      cases eb
      exact fresh_back (e.trans e2) hn⟩
structure FrA where
  rs : List Row
  S : List (Nat × Nat)
  pre : Str
abbrev FrA.args (a : FrA) : List D := [scriptD a.rs, pairsT a.S, .str a.pre]
structure FrA.ok (a : FrA) : Prop where
  few : a.rs.length ≤ 5
  fewS : a.S.length ≤ 60
  pairs : ∀ s ∈ a.S, s.1 < s.2 ∧ s.2 < a.rs.length
  lane : ∀ r ∈ a.rs, r.1 ≤ 5
  pre : a.pre.length ≤ 5
abbrev spFRows (C : Addr) : Sp := spA C FrA.args FrA.ok fun a d => ∃ ls, d = lanesD ls ∧ Build a.pre a.rs a.S a.rs.length ls
theorem c_fenced_rows (T : TF w K mg) (c_numbers_of : Callee P w K mg base "numbers_of" 1 ["script", "pairs"] (spNumbers (CB K))) (c_how_many_lanes : Callee P w K mg base "how_many_lanes" 1 ["script"] (spMany (CB K))) :
    Callee P w K mg base "fenced_rows" 2 ["script", "pairs", "prefix"] (spFRows (CB K)) := by
  obtain ⟨fd, F⟩ := T.d_fenced_rows
  refine callee_of F (F.ok sc_fenced_rows (spA_len fun _ => rfl) fun cdv A outer s H vs Q E hr h => ?_) T.g_fenced_rows fun _ _ _ _ _ _ us hl => match us, hl with | [_, _, _], _ => rfl
  obtain ⟨a, r, hp, q⟩ := h
  have g : Good P w K (L2.Cx.nox (cxOf CX0 P w K mg base ["script", "pairs", "prefix", "numbers", "lanes", "at", "lane", "command", "elders", "row", "one", "other", "track"] "fenced_rows" (defScope s_fenced_rows) (He.ga K "fenced_rows") cdv A outer s H E)) := ⟨rfl, rfl, rfl, rfl, hu_un hr⟩
  have hu := hu_of hr
  refine ⟨_, PSs.nox (pss_cons (ps_set (i := 3) sc_fenced_rows.nd rfl (Or.inr rfl) (pe_c c_numbers_of (hr.mono (by decide)) (by rfl) pass0 (pa_cons (pv 0) (pa_cons (pv 1) pa_nil))))
      (pss_cons (ps_setLc (i := 4) (own := [("lane", 6)]) g.calm sc_fenced_rows.nd rfl rfl (sw_true rfl rfl rfl (by decide +kernel)) (pi_range1 (by rfl) T.f_range (pa_cons (pe_c c_how_many_lanes (hr.mono (by decide)) (by rfl) pass0 (pa_cons (pv 0) pa_nil)) pa_nil)) (blkOk_by (by kernel_rfl)) (fun _ _ _ _ _ => (pg_name (i := 6) sc_fenced_rows.nd rfl (Or.inl rfl))) (fun _ _ _ _ _ => pts_nil) (fun _ _ _ _ _ => (pe_lst pa_nil)))
      (pss_cons (ps_for PassesOwn.never g.calm (pi_enumT (by rfl) T.f_enumerate (pa_cons (pv 0) pa_nil)) (pg_tup rfl (pgs_cons (pg_name (i := 5) sc_fenced_rows.nd rfl (Or.inr rfl)) (pgs_cons (pg_tup rfl (pgs_cons (pg_name (i := 6) sc_fenced_rows.nd rfl (Or.inl rfl)) (pgs_cons (pg_name (i := 7) sc_fenced_rows.nd rfl (Or.inl rfl)) pgs_nil))) pgs_nil))) (pss_cons (ps_set (i := 8) sc_fenced_rows.nd rfl (Or.inl rfl) (pe_callB (c_b g) (by rfl) T.f_sorted bt_sorted (pa_cons (pe_lc (own := [("one", 10), ("other", 11)]) (g := (gTup K 2 (gCons (gName 10) (gCons (gName 11) gNil)))) g.calm sc_fenced_rows.nd (pi_b g (pv 1)) (blkOk_by (by kernel_rfl)) (fun _ _ _ _ _ => (pg_tup rfl (pgs_cons (pg_name (i := 10) sc_fenced_rows.nd rfl (Or.inl rfl)) (pgs_cons (pg_name (i := 11) sc_fenced_rows.nd rfl (Or.inl rfl)) pgs_nil)))) (fun _ _ _ _ _ => (pts_one (pt_cmpR (op_b g.b) (pv 11) (pv 5) (nomark _)))) (fun _ _ _ _ _ => (pe_tup (pa_cons (pe_ix (ix_b g.b) (pe_ix (ix_b g.b) (pv 0) (pv 10) (fun _ _ => rfl)) pe_int (fun _ _ => rfl)) (pa_cons (pv 10) pa_nil))))) pa_nil)))
      (pss_cons (ps_expr (pe_bm PySem.F.plainAttrs_list PySem.F.slot_list_extend PySem.F.type_list_extend (mt_b g) (pe_ix (ix_b g) (pv 4) (pv 6) (fun _ _ => rfl)) (pa_cons (pe_lc (own := [("track", 12), ("one", 10)]) (g := (gTup K 2 (gCons (gName 12) (gCons (gName 10) gNil)))) g.calm sc_fenced_rows.nd (pi_b g (pv 8)) (blkOk_by (by kernel_rfl)) (fun _ _ _ _ _ => (pg_tup rfl (pgs_cons (pg_name (i := 12) sc_fenced_rows.nd rfl (Or.inl rfl)) (pgs_cons (pg_name (i := 10) sc_fenced_rows.nd rfl (Or.inl rfl)) pgs_nil)))) (fun _ _ _ _ _ => pts_nil) (fun _ _ _ _ _ => (pe_tup (pa_cons pe_str (pa_cons (pe_joined (PJ.cons (pe_fmt (pv 2)) (PJ.cons (pe_fmt (pv 12)) PJ.nil))) (pa_cons (pe_ix (ix_b g.b) (pv 3) (pv 10) (fun _ _ => rfl)) pa_nil)))))) pa_nil)))
      (pss_cons (ps_expr (pe_bm PySem.F.plainAttrs_list PySem.F.slot_list_append PySem.F.type_list_append (mt_b g) (pe_ix (ix_b g) (pv 4) (pv 6) (fun _ _ => rfl)) (pa_cons (pv 7) pa_nil)))
      (pss_one (ps_if (pt_cmpR (op_b g) (pv 5) (pv 3) rfl) (pss_one (ps_expr (pe_bm PySem.F.plainAttrs_list PySem.F.slot_list_append PySem.F.type_list_append (mt_b g) (pe_ix (ix_b g) (pv 4) (pv 6) (fun _ _ => rfl)) (pa_cons (pe_tup (pa_cons pe_str (pa_cons (pe_joined (PJ.cons (pe_fmt (pv 2)) (PJ.cons (pe_fmt (pv 6)) PJ.nil))) (pa_cons pe_int pa_nil)))) pa_nil)))) pss_nil))))))
      (pss_one (ps_ret (pe_callTy (c_b g) (by rfl) T.f_tuple bt_tuple (pa_cons (pe_lc (own := [("row", 9)]) g.calm sc_fenced_rows.nd (pi_b g (pv 4)) (blkOk_by (by kernel_rfl)) (fun _ _ _ _ _ => (pg_name (i := 9) sc_fenced_rows.nd rfl (Or.inl rfl))) (fun _ _ _ _ _ => pts_nil) (fun _ _ _ _ _ => (pe_callTy (c_b g.b) (by rfl) T.f_tuple bt_tuple (pa_cons (pv 9) pa_nil)))) pa_nil))))))), ?_⟩
  obtain ⟨v, u, vp, rfl, r1, r2, r3⟩ := r.three
  obtain ⟨rs, S, pre⟩ := a
  obtain ⟨o1, o2, o3, o4, o5⟩ := hp
  replace o1 : rs.length ≤ 5 := o1
  replace o2 : S.length ≤ 60 := o2
  replace o3 : ∀ s ∈ S, s.1 < s.2 ∧ s.2 < rs.length := o3
  replace o4 : ∀ r ∈ rs, r.1 ≤ 5 := o4
  replace o5 : pre.length ≤ 5 := o5
  replace r1 : Rp (CB K) H v (scriptD rs) := r1
  replace r2 : Rp (CB K) H u (pairsT S) := r2
  replace r3 : Rp (CB K) H vp (.str pre) := r3
  refine qd_asgP (edx_call (rs, S) (ea1 (ed_var rfl r1) (ea1 (ed_var rfl r2) ea0)) ⟨o1, o2, fun s hs => by have := o3 s hs; show s.1 < rs.length; omega⟩) fun vn H1 e1 ⟨dn, ⟨kvn, edn, hnum⟩, rn⟩ => ?_
  subst edn
  have hlanes : lanesN rs ≤ 6 := by
    have key : ∀ l : List Row, (∀ r ∈ l, r.1 ≤ 5) → lanesN l ≤ 6 := by
      intro l
      induction l with
      | nil => intro _; exact Nat.zero_le _
      | cons b bs ih =>
        intro h
        show max (b.1 + 1) (lanesN bs) ≤ 6
        have h1 := h b List.mem_cons_self
        have h2 := ih fun r hr => h r (List.mem_cons_of_mem _ hr)
        omega
    exact key rs o4
  refine qd_asgP (ev_lnew (C := CB K) (xs := List.range (lanesN rs)) (F := fun i => D.int (i : Nat)) (ei_rangeN (ea1 (ed_call rs (ea1 (ed_var rfl (r1.ex e1)) ea0) (Nat.le_trans o1 (by decide))) ea0) (by omega)) (by rw [List.length_range]; omega) fun i x H2 _ _ _ k q' => q' _ rfl) fun vl H2 e2 ⟨L, as, evl, ln0, hnew⟩ => ?_
  subst evl
  rw [List.length_range] at ln0
  have e12 := e1.trans e2
  refine qs_for0 (xs := rs.zipIdx) (F := fun p => D.tup [.int (p.2 : Nat), rowD p.1]) (ei_enumTM (ed_var rfl (r1.ex e12))) (fun p _ => by
    show (true && ((rowD p.1).fz && true)) = true
    rw [rowD_fz]
    rfl) fun H3 e3 => ?_
  refine ⟨fun i σ' H' => (∃ u5 u6 u7 u8 u9 u10 u11 u12, σ' = [some v, some u, some vp, some vn, some (.ref L), u5, u6, u7, u8, u9, u10, u11, u12]) ∧ Tx H3 H' ∧ Ex H1 H' ∧ ∃ ls, LN (CB K) H' L as (ls.map fun row => row.map Cmd.D) ∧ Build pre rs S i ls ∧ ∀ row ∈ ls, row.length ≤ 62 * i,
    ⟨⟨_, _, _, _, _, _, _, _, rfl⟩, Tx.refl _, e2.trans e3, _, by rw [List.map_replicate]; exact ln0.ex e3, .nil, fun row hrow => by rw [List.eq_of_mem_replicate hrow]; exact Nat.zero_le _⟩, fun i σ' H' p => p.2.1, ?_, ?_⟩
  · rintro i ⟨⟨lane, cmd⟩, k0⟩ x σ' H' H'' hi ⟨⟨u5, u6, u7, u8, u9, u10, u11, u12, rfl⟩, t1, t2, ls, ln, hb, hrow⟩ e4 r4
    obtain ⟨hi', rfl⟩ := zipIdx_get hi
    have hm : (lane, cmd) ∈ rs := List.mem_of_getElem? hi'
    have hil : k0 < rs.length := (List.getElem?_eq_some_iff.mp hi').1
    refine g_nest r4 fun v1 v2 v3 q1 q2 q3 => ?_
    have ln1 := ln.ex e4
    have hlaneL : lane < ls.length := by
      rw [hb.len]
      have := lanesN_ge hm
      show lane < lanesN rs
      have h2 : (lane, cmd).1 + 1 ≤ lanesN rs := this
      exact h2
    obtain ⟨al, hal⟩ : ∃ al, as[lane]? = some al := ⟨_, List.getElem?_eq_getElem (by rw [ln1.len, List.length_map]; exact hlaneL)⟩
    obtain ⟨old, hold⟩ : ∃ old, ls[lane]? = some old := ⟨_, List.getElem?_eq_getElem hlaneL⟩
    have hl5 : lane ≤ 5 := o4 _ hm
    have hrowold : old.length ≤ 62 * k0 := hrow old (List.mem_of_getElem? hold)
    have hold' : (ls.map fun row => row.map Cmd.D)[lane]? = some (old.map Cmd.D) := by rw [List.getElem?_map, hold]; rfl
    have q1' : Rp (CB K) H'' v1 (.int (k0 : Nat)) := q1
    have q2' : Rp (CB K) H'' v2 (.int (lane : Nat)) := q2
    have q3' : Rp (CB K) H'' v3 cmd.D := q3
    have eA : Ex H H'' := (e1.trans t2).trans e4
    refine qd_asgP (ev_sortedP (C := CB K) (l := S.filter fun s => decide (s.2 = k0)) (f1 := fun s => ((laneOf rs s.1 : Nat) : Int)) (f2 := fun s => ((s.1 : Nat) : Int)) ?_) fun ve H4 e5 ⟨l', hperm, re, _⟩ => ?_
    · refine ed_lc (xs := S) (F := spotD) (fun s => decide (s.2 = k0)) (fun s => D.tup [.int ((laneOf rs s.1 : Nat) : Int), .int ((s.1 : Nat) : Int)]) (ei_tup (ed_var rfl (r2.ex eA))) (Nat.le_trans o2 (by decide)) (fun _ _ _ => rfl) fun n s y H5 hn e6 r5 k q' => g_two r5 fun w1 w2 s1 s2 => ?_
      have hs := o3 s (List.mem_of_getElem? hn)
      refine q' _ rfl (et_is (et_cmp (ed_op (ed_var rfl s2) (ed_var rfl (q1'.ex e6)) o_eqi)) ?_) fun _ => ed_tup (ea1 (lane_at (ed_var rfl (r1.ex (eA.trans e6))) (ed_var rfl s1) (by omega)) (ea1 (ed_var rfl s1) ea0))
      exact decide_eq_decide.mpr ⟨fun h => by omega, fun h => by omega⟩
    have ln2 := ln1.ex e5
    have hlen' : l'.length ≤ 60 := by
      rw [hperm.length_eq]
      exact Nat.le_trans (List.length_filter_le _ _) o2
    have hmem : ∀ s ∈ l', s ∈ S ∧ s.2 = k0 := fun s hs => by
      have := List.mem_filter.mp (hperm.mem_iff.mp hs)
      exact ⟨this.1, of_decide_eq_true this.2⟩
    obtain ⟨vs1, hv1, rv1⟩ := ln2.row lane al _ hal hold'
    refine qs_extend (C := CB K) (φ := fun ds => ds = l'.map fun s => (Cmd.wait (fname pre (laneOf rs s.1)) (numOf rs S s.1 : Nat)).D) (ev_row (ev_var rfl) ln2 (ed_var rfl (q2'.ex e5)) hal) ?_ hv1 (by rw [rv1.length, List.length_map]; omega) (fun ds h => by rw [h, List.length_map]; omega) fun vs2 ds H5 hds e6 rv2 => ?_
    · refine EvP.imp (ed_map (C := CB K) (xs := l') (F := fun s : Nat × Nat => D.tup [.int ((laneOf rs s.1 : Nat) : Int), .int ((s.1 : Nat) : Int)]) (fun s => (Cmd.wait (fname pre (laneOf rs s.1)) (numOf rs S s.1 : Nat)).D) (ei_lst (ed_var rfl re)) (by omega) (fun _ _ => rfl) fun n s y H5 hn e6 r5 k q' => g_two r5 fun w1 w2 s1 s2 => ?_) fun v H5 _ r => ⟨_, rfl, r⟩
      have hs := hmem s (List.mem_of_getElem? hn)
      have hs3 := o3 s hs.1
      have hln : laneOf rs s.1 ≤ 5 := by
        unfold laneOf
        rw [List.getElem?_eq_getElem (by omega)]
        exact o4 _ (List.getElem_mem _)
      refine q' _ rfl (ed_tup (ea1 ed_str (ea1 (ed_fmt2 (ed_var rfl (r3.ex (eA.trans (e5.trans e6)))) (ed_var rfl s1) o5 hln) (ea1 (ed_op (ed_var rfl (rn.ex ((t2.trans e4).trans (e5.trans e6)))) (ed_var rfl (show Rp (CB K) H5 w2 (kD (Sum.inl (s.1 : Int))) from s2)) (o_ixK ?_)) ea0))))
      rw [hnum.at_ s.1, if_pos (List.mem_map.mpr ⟨s, hs.1, rfl⟩)]
    subst hds
    have ln3 := ln2.ex e6
    have hv3 : H5 al = some (.lst vs1) := e6 _ _ hv1
    have ln4 := ln3.put hal hold' hv3 (rv1.ex e6) rv2 (fzL_map fun _ _ => rfl)
    have t6 : Tx H5 (upd H5 al (.lst (vs1 ++ vs2))) := Tx.lst hv3
    have hal1 : H1 al = none := hnew al (List.mem_cons_of_mem _ (List.mem_of_getElem? hal))
    have e17 : Ex H1 (upd H5 al (.lst (vs1 ++ vs2))) := Ex.mut ((t2.trans e4).trans (e5.trans e6)) hal1
    have hget4 : ((ls.map fun row => row.map Cmd.D).set lane (old.map Cmd.D ++ l'.map fun s => (Cmd.wait (fname pre (laneOf rs s.1)) (numOf rs S s.1 : Nat)).D))[lane]? = some (old.map Cmd.D ++ l'.map fun s => (Cmd.wait (fname pre (laneOf rs s.1)) (numOf rs S s.1 : Nat)).D) := by
      rw [List.getElem?_set_self (by rw [List.length_map]; exact hlaneL)]
    have q3c : Rp (CB K) (upd H5 al (.lst (vs1 ++ vs2))) v3 cmd.D := (q3'.ex (e5.trans e6)).fz t6 cmd.fz
    have q2c : Rp (CB K) (upd H5 al (.lst (vs1 ++ vs2))) v2 (.int (lane : Nat)) := q2'
    refine qs_append (C := CB K) (d := cmd.D) (ev_row (ev_var rfl) ln4 (ed_var rfl q2c) hal) (ed_var rfl q3c) upd_same (by rw [List.length_append, rv1.length, rv2.length, List.length_map, List.length_map]; omega) fun vc H6 e7 rvc => ?_
    have ln5 := ln4.ex e7
    have hv6 : H6 al = some (.lst (vs1 ++ vs2)) := e7 _ _ upd_same
    obtain ⟨vsx, hvx, rvx⟩ := ln5.row lane al _ hal hget4
    rw [hv6] at hvx
    cases hvx
    have ln6 := ln5.put hal hget4 hv6 rvx (show RpL (CB K) H6 [vc] [cmd.D] from ⟨rvc, True.intro⟩) (by show (cmd.D.fz && true) = true; rw [cmd.fz]; rfl)
    rw [List.set_set] at ln6
    have t7 : Tx H6 (upd H6 al (.lst (vs1 ++ vs2 ++ [vc]))) := Tx.lst hv6
    have e18 : Ex H1 (upd H6 al (.lst (vs1 ++ vs2 ++ [vc]))) := Ex.mut (e17.trans e7) hal1
    have tt : Tx H' (upd H6 al (.lst (vs1 ++ vs2 ++ [vc]))) := (Tx.ex (e4.trans (e5.trans e6))).trans (t6.trans ((Tx.ex e7).trans t7))
    have rn8 := rn.ex e18
    have hcond : (lookD kvn (Sum.inl (k0 : Int))).isSome = fronts S k0 := by
      rw [hnum.at_ k0]
      unfold fronts
      by_cases h : k0 ∈ S.map Prod.fst
      · rw [if_pos h, decide_eq_true h]; rfl
      · rw [if_neg h, decide_eq_false h]; rfl
    have hperm2 : (l'.map Prod.fst).Perm ((S.filter fun s => decide (s.2 = k0)).map Prod.fst) := hperm.map _
    have hwmap : (l'.map fun s => (Cmd.wait (fname pre (laneOf rs s.1)) (numOf rs S s.1 : Nat)).D) = ((l'.map Prod.fst).map fun one => Cmd.wait (fname pre (laneOf rs one)) (numOf rs S one : Nat)).map Cmd.D := by
      rw [List.map_map, List.map_map]
      rfl
    refine ql_if (et_is (et_cmp (ed_op (ed_var rfl (show Rp (CB K) _ v1 (kD (Sum.inl (k0 : Int))) from q1')) (ed_var rfl rn8) o_inK)) hcond) (fun hb1 H7 e9 => ?_) fun hb1 H7 e9 => ?_
    · have ln7 := ln6.ex e9
      have hget6 : ((ls.map fun row => row.map Cmd.D).set lane (old.map Cmd.D ++ (l'.map fun s => (Cmd.wait (fname pre (laneOf rs s.1)) (numOf rs S s.1 : Nat)).D) ++ [cmd.D]))[lane]? = some (old.map Cmd.D ++ (l'.map fun s => (Cmd.wait (fname pre (laneOf rs s.1)) (numOf rs S s.1 : Nat)).D) ++ [cmd.D]) := by
        rw [List.getElem?_set_self (by rw [List.length_map]; exact hlaneL)]
      have hv7 : H7 al = some (.lst (vs1 ++ vs2 ++ [vc])) := e9 _ _ upd_same
      refine q_append (C := CB K) (d := (Cmd.set (fname pre lane) 1).D) (ev_row (ev_var rfl) ln7 (ed_var rfl (show Rp (CB K) H7 v2 (.int (lane : Nat)) from q2')) hal) (ed_tup (ea1 ed_str (ea1 (ed_fmt2 (ed_var rfl (show Rp (CB K) H7 vp (.str pre) from r3)) (ed_var rfl (show Rp (CB K) H7 v2 (.int (lane : Nat)) from q2')) o5 hl5) (ea1 ed_int ea0)))) hv7 (by rw [List.length_append, List.length_append, rv1.length, rv2.length, List.length_map, List.length_map]; simp; omega) fun vz H8 e10 rvz => ?_
      have ln8 := ln7.ex e10
      have hv8 : H8 al = some (.lst (vs1 ++ vs2 ++ [vc])) := e10 _ _ hv7
      obtain ⟨vsy, hvy, rvy⟩ := ln8.row lane al _ hal hget6
      rw [hv8] at hvy
      cases hvy
      have ln9 := ln8.put hal hget6 hv8 rvy (show RpL (CB K) H8 [vz] [(Cmd.set (fname pre lane) 1).D] from ⟨rvz, True.intro⟩) rfl
      rw [List.set_set] at ln9
      have t9 : Tx H8 (upd H8 al (.lst (vs1 ++ vs2 ++ [vc] ++ [vz]))) := Tx.lst hv8
      have hfin : (old ++ blk pre rs S (l'.map Prod.fst) k0 cmd lane).map Cmd.D = old.map Cmd.D ++ (l'.map fun s => (Cmd.wait (fname pre (laneOf rs s.1)) (numOf rs S s.1 : Nat)).D) ++ [cmd.D] ++ [(Cmd.set (fname pre lane) 1).D] := by
        unfold blk
        rw [hb1, if_pos rfl, List.map_append, List.map_append, ← hwmap]
        simp [List.append_assoc]
      refine ⟨⟨_, _, _, _, _, _, _, _, rfl⟩, t1.trans (tt.trans ((Tx.ex (e9.trans e10)).trans t9)), Ex.mut (e18.trans (e9.trans e10)) hal1, ls.set lane (old ++ blk pre rs S (l'.map Prod.fst) k0 cmd lane), ?_, .row hb hi' hold hperm2, fun row hrw => ?_⟩
      · rw [List.map_set, hfin]
        exact ln9
      · rcases List.mem_or_eq_of_mem_set hrw with h | h
        · have := hrow row h; omega
        · rw [h]
          unfold blk
          rw [hb1, if_pos rfl]
          simp
          omega
    · have ln7 := ln6.ex e9
      have hfin : (old ++ blk pre rs S (l'.map Prod.fst) k0 cmd lane).map Cmd.D = old.map Cmd.D ++ (l'.map fun s => (Cmd.wait (fname pre (laneOf rs s.1)) (numOf rs S s.1 : Nat)).D) ++ [cmd.D] := by
        unfold blk
        rw [hb1, if_neg (by decide), List.map_append, List.map_append, ← hwmap]
        simp [List.append_assoc]
      refine ⟨⟨_, _, _, _, _, _, _, _, rfl⟩, t1.trans (tt.trans (Tx.ex e9)), e18.trans e9, ls.set lane (old ++ blk pre rs S (l'.map Prod.fst) k0 cmd lane), ?_, .row hb hi' hold hperm2, fun row hrw => ?_⟩
      · rw [List.map_set, hfin]
        exact ln7
      · rcases List.mem_or_eq_of_mem_set hrw with h | h
        · have := hrow row h; omega
        · rw [h]
          unfold blk
          rw [hb1, if_neg (by decide)]
          simp
          omega
  · rintro σ' H' ⟨⟨u5, u6, u7, u8, u9, u10, u11, u12, rfl⟩, t1, t2, ls, ln, hb, hrow⟩
    rw [List.length_zipIdx] at hb
    have hls : ls.length ≤ 6 := by rw [hb.len]; exact hlanes
    refine ret_of (d := lanesD ls) (ed_cb (ea1 (ed_map (xs := ls) (F := fun row => D.lst (row.map Cmd.D)) laneD (ei_lst (ds := ls.map fun row => D.lst (row.map Cmd.D)) (ed_var rfl (by
      have h := ln.rp
      rw [List.map_map] at h
      exact h))) (by omega) (fun row _ => laneD_fz row)
      fun n row x H1' hn e1' r5 k q' => q' _ rfl (ed_cb (ea1 (ed_var rfl r5) ea0) k_tuple)) ea0) k_tuple) (lanesD_fz ls) (q_ex (e1.trans t2) q) ⟨ls, rfl, hb⟩
end
end Fl
set_option maxHeartbeats 4000000
namespace Fl
open PySem PySem.Spec PyProof.Rows L2 Evl
theorem sc_check_prefix : FnScope ["prefix"] ["prefix"] (defScope s_check_prefix) := ⟨rfl, rfl, rfl, by decide +kernel, rfl, by decide +kernel, by decide +kernel⟩
theorem sc_fenced : FnScope ["rooms", "script", "prefix", "lanes", "many", "row"] ["rooms", "script", "prefix"] (defScope s_fenced) := ⟨rfl, rfl, rfl, by decide +kernel, rfl, by decide +kernel, by decide +kernel⟩
theorem sum_set {ls : List (List Cmd)} : ∀ {k : Nat} {old b : List Cmd}, ls[k]? = some old → ((ls.set k (old ++ b)).map List.length).sum = (ls.map List.length).sum + b.length := by
  induction ls with
  | nil => intro k old b h; simp at h
  | cons r ls ih =>
    intro k old b h
    cases k with
    | zero =>
      have e : r = old := Option.some.inj (by simpa using h)
      subst e
      simp [List.set]
      omega
    | succ k =>
      have := ih (k := k) (old := old) (b := b) (by simpa using h)
      simp only [List.set, List.map_cons, List.sum_cons, this]
      omega
theorem cnt_succ (S : List (Nat × Nat)) (i : Nat) : (S.filter fun s => decide (s.2 < i + 1)).length = (S.filter fun s => decide (s.2 < i)).length + (S.filter fun s => decide (s.2 = i)).length := by
  induction S with
  | nil => rfl
  | cons s S ih =>
    by_cases h1 : s.2 < i
    · rw [List.filter_cons, List.filter_cons, List.filter_cons, if_pos (by simp; omega), if_pos (by simp [h1]), if_neg (by simp; omega), List.length_cons, List.length_cons, ih]
      omega
    · by_cases h2 : s.2 = i
      · rw [List.filter_cons, List.filter_cons, List.filter_cons, if_pos (by simp; omega), if_neg (by simp; omega), if_pos (by simp [h2]), List.length_cons, List.length_cons, ih]
        omega
      · rw [List.filter_cons, List.filter_cons, List.filter_cons, if_neg (by simp; omega), if_neg (by simp; omega), if_neg (by simp [h2]), ih]
theorem blk_len {pre : Str} {rs : List Row} {S : List (Nat × Nat)} {o : List Nat} {i : Nat} {c : Cmd} {lane : Nat} : (blk pre rs S o i c lane).length ≤ o.length + 2 := by
  unfold blk
  rw [List.length_append, List.length_map, List.length_cons]
  split <;> simp
theorem Build.tot {pre : Str} {rs : List Row} {S : List (Nat × Nat)} {i : Nat} {ls : List (List Cmd)} (h : Build pre rs S i ls) : (ls.map List.length).sum ≤ (S.filter fun s => decide (s.2 < i)).length + 2 * i := by
  induction h with
  | nil => simp
  | @row i ls r o old b hr ho hp ih =>
    rw [sum_set ho, cnt_succ]
    have h1 := hp.length_eq
    rw [List.length_map] at h1
    have h2 := blk_len (pre := pre) (rs := rs) (S := S) (o := o) (i := i) (c := r.2) (lane := r.1)
    omega
inductive From (pre : Str) (rs : List Row) (S : List (Nat × Nat)) (k : Nat) : Cmd → Prop
  | row {i : Nat} {c : Cmd} (h : rs[i]? = some (k, c)) : From pre rs S k c
  | wait {one : Nat} (h : one ∈ S.map Prod.fst) : From pre rs S k (.wait (fname pre (laneOf rs one)) (numOf rs S one : Nat))
  | set : From pre rs S k (.set (fname pre k) 1)
theorem Build.from_ {pre : Str} {rs : List Row} {S : List (Nat × Nat)} {i : Nat} {ls : List (List Cmd)} (h : Build pre rs S i ls) : ∀ (k : Nat) (row : List Cmd), ls[k]? = some row → ∀ c ∈ row, From pre rs S k c := by
  induction h with
  | nil =>
    intro k row hk c hc
    rw [List.eq_of_mem_replicate (List.mem_of_getElem? hk)] at hc
    cases hc
  | @row i ls r o old b hr ho hp ih =>
    intro k row hk c hc
    rw [List.getElem?_set] at hk
    by_cases e : r.1 = k
    · rw [if_pos e] at hk
      have hlk : r.1 < ls.length := (List.getElem?_eq_some_iff.mp ho).1
      rw [if_pos hlk] at hk
      cases hk
      subst e
      rcases List.mem_append.mp hc with h | h
      · exact ih r.1 old ho c h
      · unfold blk at h
        rcases List.mem_append.mp h with h | h
        · obtain ⟨one, h1, rfl⟩ := List.mem_map.mp h
          obtain ⟨s, hs, e⟩ := List.mem_map.mp (hp.mem_iff.mp h1)
          exact .wait (List.mem_map.mpr ⟨s, (List.mem_filter.mp hs).1, e⟩)
        · rcases List.mem_cons.mp h with h | h
          · subst h; exact .row hr
          · by_cases hf : fronts S i = true
            · rw [if_pos hf] at h
              rw [List.mem_singleton.mp h]
              exact .set
            · rw [if_neg hf] at h
              cases h
    · rw [if_neg e] at hk
      exact ih k row hk c hc
theorem numOf_pos {rs : List Row} {S : List (Nat × Nat)} {one : Nat} (h : one ∈ S.map Prod.fst) : 1 ≤ numOf rs S one := by
  unfold numOf
  refine List.length_pos_iff.mpr (List.ne_nil_of_mem (a := one) (List.mem_filter.mpr ⟨by simp, ?_⟩))
  unfold fronts
  simp [h]
theorem numOf_le (rs : List Row) (S : List (Nat × Nat)) (one : Nat) : numOf rs S one ≤ one + 1 := by
  unfold numOf
  refine Nat.le_trans (List.length_filter_le _ _) ?_
  rw [List.length_range]
  exact Nat.le_refl _
structure PreOk (pre : Str) : Prop where
  nm : ∀ l, l ≤ 5 → isNm (fname pre l)
  inj : ∀ l m, l ≤ 5 → m ≤ 5 → fname pre l = fname pre m → l = m
  own : isNm pre
  few : pre.length ≤ 5
theorem isNm_of {z : Str} (h : (1 ≤ z.length ∧ z.length ≤ 6) ∧ (z.cps.toList.head?.all fun c => decide (c ∈ sLET.cps.toList)) = true ∧ (z.cps.toList.all fun c => decide (c ∈ sSIG.cps.toList)) = true) : isNm z := by
  refine ⟨h.1, fun c hc => ?_, fun c hc => of_decide_eq_true (List.all_eq_true.mp h.2.2 c hc)⟩
  have h1 := h.2.1
  rw [← List.head?_eq_getElem?] at hc
  rw [hc] at h1
  exact of_decide_eq_true h1
theorem preF : PreOk "f" := by
  refine ⟨fun l hl => isNm_of ?_, fun l m hl hm e => ?_, isNm_of (by decide +kernel), by decide +kernel⟩
  · match l, hl with
    | 0, _ => decide +kernel
    | 1, _ => decide +kernel
    | 2, _ => decide +kernel
    | 3, _ => decide +kernel
    | 4, _ => decide +kernel
    | 5, _ => decide +kernel
  · have key : (List.range 6).all (fun l => (List.range 6).all fun m => decide (fname "f" l = fname "f" m → l = m)) = true := by decide +kernel
    exact of_decide_eq_true (List.all_eq_true.mp (List.all_eq_true.mp key l (by simp; omega)) m (by simp; omega)) e
theorem preW : PreOk "w" := by
  refine ⟨fun l hl => isNm_of ?_, fun l m hl hm e => ?_, isNm_of (by decide +kernel), by decide +kernel⟩
  · match l, hl with
    | 0, _ => decide +kernel
    | 1, _ => decide +kernel
    | 2, _ => decide +kernel
    | 3, _ => decide +kernel
    | 4, _ => decide +kernel
    | 5, _ => decide +kernel
  · have key : (List.range 6).all (fun l => (List.range 6).all fun m => decide (fname "w" l = fname "w" m → l = m)) = true := by decide +kernel
    exact of_decide_eq_true (List.all_eq_true.mp (List.all_eq_true.mp key l (by simp; omega)) m (by simp; omega)) e
theorem lanesN_le {rs : List Row} (h : ∀ r ∈ rs, r.1 ≤ 5) : lanesN rs ≤ 6 := by
  induction rs with
  | nil => exact Nat.zero_le _
  | cons b bs ih =>
    show max (b.1 + 1) (lanesN bs) ≤ 6
    have h1 := h b List.mem_cons_self
    have h2 := ih fun r hr => h r (List.mem_cons_of_mem _ hr)
    omega
structure PairsOk (rs : List Row) (S : List (Nat × Nat)) : Prop where
  few : S.length ≤ 40
  pairs : ∀ s ∈ S, s.1 < s.2 ∧ s.2 < rs.length
theorem Build.ok {pre : Str} {hs : List Hall} {rs : List Row} {S : List (Nat × Nat)} {ls : List (List Cmd)} (h : Build pre rs S rs.length ls) (ok : RowsOk hs rs) (sk : PairsOk rs S) (pk : PreOk pre) : LanesOk hs ls := by
  have hl : ls.length ≤ 6 := by rw [h.len]; exact lanesN_le ok.lane
  refine ⟨hl, ?_, fun row hrow c hc => ?_, fun i j r r' f b b' hi hj hb hb' => ?_⟩
  · have h1 := h.tot
    have h2 := List.length_filter_le (fun s => decide (s.2 < rs.length)) S
    have := sk.few
    have := ok.few
    omega
  · obtain ⟨k, hk⟩ := List.getElem?_of_mem hrow
    have hk6 : k ≤ 5 := by have := (List.getElem?_eq_some_iff.mp hk).1; omega
    cases h.from_ k row hk c hc with
    | row hr => exact (ok.cmd _ (List.mem_of_getElem? hr)).1
    | @wait one ho =>
      obtain ⟨s, hs', e⟩ := List.mem_map.mp ho
      have hp := sk.pairs s hs'
      have hl5 : laneOf rs one ≤ 5 := by
        unfold laneOf
        rw [List.getElem?_eq_getElem (by omega)]
        exact ok.lane _ (List.getElem_mem _)
      have h1 := numOf_pos (rs := rs) ho
      have h2 := numOf_le rs S one
      have h3 := ok.few
      exact ⟨⟨pk.nm _ hl5, by omega, by omega⟩, fun z hz => by cases hz⟩
    | set => exact ⟨⟨pk.nm _ hk6, by decide, by decide⟩, fun z hz => by cases hz⟩
  · have key : ∀ {k : Nat} {row : List Cmd} {b : Int}, ls[k]? = some row → Cmd.set f b ∈ row → f = fname pre k := fun {k row b} hk hm => by
      generalize hc : Cmd.set f b = c at hm
      cases h.from_ k row hk c hm with
      | row hr =>
        have := (ok.cmd _ (List.mem_of_getElem? hr)).2
        rw [← hc] at this
        cases this
      | wait ho => cases hc
      | set => cases hc; rfl
    have hi6 : i ≤ 5 := by have := (List.getElem?_eq_some_iff.mp hi).1; omega
    have hj6 : j ≤ 5 := by have := (List.getElem?_eq_some_iff.mp hj).1; omega
    exact pk.inj i j hi6 hj6 ((key hi hb).symm.trans (key hj hb'))
theorem links_ok {hs : List Hall} {rs : List Row} (ok : RowsOk hs rs) : PairsOk rs (linksL hs rs) := by
  refine ⟨?_, fun s hs' => mem_pairsAll.mp (List.mem_filter.mp (List.mem_filter.mp hs').1).1⟩
  refine Nat.le_trans (List.length_filter_le _ _) (Nat.le_trans (List.length_filter_le _ _) ?_)
  have h1 := pairs_few ok.few
  have e : (pairsAll rs.length).length = ((List.range rs.length).flatMap fun i => (List.range (rs.length - (i + 1))).map fun k => i + 1 + k).length := by
    unfold pairsAll
    rw [List.length_flatMap, List.length_flatMap]
    congr 1
    exact List.map_congr_left fun c _ => List.length_map _
  omega
section
variable {P : Program} {w : World} {K : PySem.W.Frag} {mg : Str → Option Value} {base : Heap}
abbrev spCkPre (C : Addr) : Sp := spNone C (fun z : Str => [.str z]) fun z => isNm z ∧ z.length ≤ 5
theorem c_check_prefix (T : TF w K mg) (c_is_name : Callee P w K mg base "is_name" 1 ["thing"] (spName (CB K))) : Callee P w K mg base "check_prefix" 2 ["prefix"] (spCkPre (CB K)) := by
  obtain ⟨fd, F⟩ := T.d_check_prefix
  refine callee_of F (F.ok sc_check_prefix (spA_len fun _ => rfl) fun cdv A outer s H vs Q E hr h => ?_) T.g_check_prefix fun _ _ _ _ _ _ us hl => match us, hl with | [_], _ => rfl
  obtain ⟨a, r, hp, q⟩ := h
  have g : Good P w K (L2.Cx.nox (cxOf CX0 P w K mg base ["prefix"] "check_prefix" (defScope s_check_prefix) (He.ga K "check_prefix") cdv A outer s H E)) := ⟨rfl, rfl, rfl, rfl, hu_un hr⟩
  have hu := hu_of hr
  refine ⟨_, PSs.nox (pss_one (ps_if (PW.pt (pw_or (pt_not (pt_val (pe_c c_is_name (hr.mono (by decide)) (by rfl) pass0 (pa_cons (pv 0) pa_nil)))) (pw_or1 (pt_cmpR (op_b g) (pe_callB (c_b g) (by rfl) T.f_len bt_len (pa_cons (pv 0) pa_nil)) (pe_gi T.MOST_PREFIX) (nomark _))))) (pss_one ps_never) pss_nil)), ?_⟩
  obtain ⟨v, rfl, r1⟩ := r.one
  obtain ⟨h1, h2⟩ := (show isNm a ∧ a.length ≤ 5 from hp)
  exact ql_no (et_is (et_or (et_not (et_val (ed_call a (ea1 (ed_var rfl r1) ea0) h1))) fun _ => et_cmp (ed_op (ed_cb (ea1 (ed_var rfl r1) ea0) (k_lens (by omega))) ed_int o_gt)) (by
    rw [decide_eq_false (show ¬ (5 : Int) < (a.length : Int) by omega)]
    rfl)) fun H1 e1 => q _ _ H1 rfl e1 rfl (.fz rfl)
structure CalleeD (P : Program) (w : World) (K : PySem.W.Frag) (mg : Str → Option Value) (base : Heap) (x : Str) (k : Nat) (ps : List Str) (dvs : List V) (sp : Sp) : Prop where
  ex : ∃ (f : Addr) (fd : FuncData) (ds : List Value), FnOk P w K mg base CX0 k f fd ps sp ∧ mg x = some (.ref f) ∧ PySem.W.keepIn K (.ref f) = true ∧ Vals dvs ds ∧ Binds K fd ps ds
theorem pe_cD {X : Cx} {x : Str} {k : Nat} {ps : List Str} {dvs : List V} {sp : Sp} {e : Expr} {es : List Expr} {ts : TA} {p pos : Pos} {E : XK} (c : CalleeD X.prog X.w X.K X.mg X.base x k ps dvs sp) (hr : Room k X.A) (hg : Gl X x) (hx : Passes CX0 X E) (ha : PA X (e :: es) ts)
    (hs : starEach (e :: es) X.env = (false, eval e X.env) :: starEach es X.env := by rfl) (hb : (backTo pos (starEach es X.env)).any (·.1) = false := by rfl) (hd : (x == ("__debug__" : Str)) = false := by decide) : PE X (.Call (.Name x p) (e :: es) [] pos) (tCall sp dvs E ts) := by
  obtain ⟨f, fd, ds, F, hm, hk, hv, b⟩ := c.ex
  exact pe_call F hr hg hm hk b hv hx ha hd hs hb
theorem evD_call {α : Type} {C : Addr} {σ : L2.St} {H : Hp} {args : α → List D} {pre : α → Prop} {res : α → D → Prop} {ts : TA} {E : XK} {dvs : List V} {ds : List D} {dd : List D} (a : α) (h : EdA C ts σ H ds) (hd : ∀ H, RpL C H dvs dd) (ha : args a = ds ++ dd) (hp : pre a) : EvP (tCall (spA C args pre res) dvs E ts) σ H fun v H2 => ∃ d, res a d ∧ Rp C H2 v d ∧ Nw H v d := fun H1 e Q q =>
  h H1 e _ fun vs H2 e2 r => ⟨a, by rw [ha]; exact r.append (hd H2), hp, fun d v H3 p e3 r3 n3 => q v H3 (e2.trans e3) ⟨d, p, r3, n3.back (e.trans e2)⟩⟩
abbrev spFenced (C : Addr) : Sp := spA C (fun p : List Hall × List Row => [hallsD p.1, scriptD p.2, .str "f"]) (fun p => RowsOk p.1 p.2) fun p d => ∃ ls, d = bookD (p.1, ls) ∧ Build "f" p.2 (linksL p.1 p.2) p.2.length ls
theorem c_fenced (T : TF w K mg) (c_check_rooms : Callee P w K mg base "check_rooms" 5 ["thing"] (spCkRooms (CB K))) (c_check_script : Callee P w K mg base "check_script" 8 ["rooms", "script"] (spCkScript (CB K))) (c_check_prefix : Callee P w K mg base "check_prefix" 2 ["prefix"] (spCkPre (CB K)))
    (c_fenced_rows : Callee P w K mg base "fenced_rows" 2 ["script", "pairs", "prefix"] (spFRows (CB K))) (c_links_of : Callee P w K mg base "links_of" 6 ["rooms", "script"] (spLinksOf (CB K))) (c_Book_init : CalleeM P w K mg base (He.ma K (CB K) "__init__") 8 ["self", "rooms", "lanes"] (spInit (CB K))) :
    CalleeD P w K mg base "fenced" 10 ["rooms", "script", "prefix"] [V.str "f"] (spFenced (CB K)) := by
  obtain ⟨fd, F⟩ := T.d_fenced
  obtain ⟨ds, hv, hb⟩ := F.binds0 (ps := ["rooms", "script", "prefix"]) 2 (by simp) rfl fun D doc pm an cdv ct us ks hu hk => match us, ks, hu, hk with
    | [_, _], [_], _, _ => ⟨_, _, _, _, _, _, rfl, rfl, rfl⟩
  refine ⟨_, fd, ds, F.ok sc_fenced (spA_len fun _ => rfl) fun cdv A outer s H vs Q E hr h => ?_, T.g_fenced, F.kp, hv, hb⟩
  obtain ⟨a, r, hp, q⟩ := h
  have g : Good P w K (L2.Cx.nox (cxOf CX0 P w K mg base ["rooms", "script", "prefix", "lanes", "many", "row"] "fenced" (defScope s_fenced) (He.ga K "fenced") cdv A outer s H E)) := ⟨rfl, rfl, rfl, rfl, hu_un hr⟩
  have hu := hu_of hr
  refine ⟨_, PSs.nox (pss_cons (ps_expr (pe_c c_check_rooms (hr.mono (by decide)) (by rfl) pass0 (pa_cons (pv 0) pa_nil)))
      (pss_cons (ps_expr (pe_c c_check_script (hr.mono (by decide)) (by rfl) pass0 (pa_cons (pv 0) (pa_cons (pv 1) pa_nil))))
      (pss_cons (ps_expr (pe_c c_check_prefix (hr.mono (by decide)) (by rfl) pass0 (pa_cons (pv 2) pa_nil)))
      (pss_cons (ps_set (i := 3) sc_fenced.nd rfl (Or.inl rfl) (pe_c c_fenced_rows (hr.mono (by decide)) (by rfl) pass0 (pa_cons (pv 1) (pa_cons (pe_c c_links_of (hr.mono (by decide)) (by rfl) pass0 (pa_cons (pv 0) (pa_cons (pv 1) pa_nil))) (pa_cons (pv 2) pa_nil)))))
      (pss_cons (ps_set (i := 4) sc_fenced.nd rfl (Or.inl rfl) (pe_callB (c_b g) (by rfl) T.f_sum bt_sum (pa_cons (pe_lc (own := [("row", 5)]) g.calm sc_fenced.nd (pi_b g (pv 3)) (blkOk_by (by kernel_rfl)) (fun _ _ _ _ _ => (pg_name (i := 5) sc_fenced.nd rfl (Or.inl rfl))) (fun _ _ _ _ _ => pts_nil) (fun _ _ _ _ _ => (pe_callB (c_b g.b) (by rfl) T.f_len bt_len (pa_cons (pv 5) pa_nil)))) pa_nil)))
      (pss_cons (ps_if (pt_cmpR (op_b g) (pv 4) (pe_gi T.MOST_COMMANDS) (nomark _)) (pss_one ps_never) pss_nil)
      (pss_one (ps_ret (pe_mk c_Book_init T.mkr (hr.mono (by decide)) (by rfl) T.Book pass0 (pa_cons (pv 0) (pa_cons (pv 3) pa_nil))))))))))), ?_⟩
  obtain ⟨v, u, vp, rfl, r1, r2, r3⟩ := r.three
  obtain ⟨hs, rs⟩ := a
  replace hp : RowsOk hs rs := hp
  replace r1 : Rp (CB K) H v (hallsD hs) := r1
  replace r2 : Rp (CB K) H u (scriptD rs) := r2
  replace r3 : Rp (CB K) H vp (.str "f") := r3
  refine q_drop (ed_call hs (ea1 (ed_var rfl r1) ea0) hp.halls) fun H1 e1 => ?_
  refine q_drop (ed_call (hs, rs) (ea1 (ed_var rfl (r1.ex e1)) (ea1 (ed_var rfl (r2.ex e1)) ea0)) hp) fun H2 e2 => ?_
  have e12 := e1.trans e2
  refine q_drop (ed_call ("f" : Str) (ea1 (ed_var rfl (r3.ex e12)) ea0) ⟨preF.own, preF.few⟩) fun H3 e3 => ?_
  have e13 := e12.trans e3
  have lk := links_ok hp
  refine qd_asgP (edx_call (FrA.mk rs (linksL hs rs) "f") (ea1 (ed_var rfl (r2.ex e13)) (ea1 (ed_call (hs, rs) (ea1 (ed_var rfl (r1.ex e13)) (ea1 (ed_var rfl (r2.ex e13)) ea0)) hp.ra) (ea1 (ed_var rfl (r3.ex e13)) ea0))) ⟨hp.few, Nat.le_trans lk.few (by decide), lk.pairs, hp.lane, preF.few⟩) fun vl H4 e4 ⟨dl, ⟨ls, edl, hb⟩, rl⟩ => ?_
  subst edl
  have lo := hb.ok hp lk preF
  refine qd_asg (ed_cb (ea1 (ed_map (xs := ls) (F := laneD) (fun row => .int ((row.map Cmd.D).length : Nat)) (ei_tup (ed_var rfl rl)) (Nat.le_trans lo.few (by decide)) (fun _ _ => rfl) fun i row x H1 hi e1 r3 k q' => q' _ rfl (ed_cb (ea1 (ed_var rfl r3) ea0) k_lent)) ea0) k_sumM) fun vm H5 e5 rm => ?_
  have hsum : (ls.map fun row : List Cmd => (((row.map Cmd.D).length : Nat) : Int)).sum = ((ls.map List.length).sum : Nat) := by
    rw [sum_cast fun row : List Cmd => (row.map Cmd.D).length]
    have e : (ls.map fun row : List Cmd => (row.map Cmd.D).length) = ls.map List.length := List.map_congr_left fun r _ => List.length_map _
    rw [e]
  rw [hsum] at rm
  refine qd_no (et_is (et_cmp (ed_op (ed_var rfl rm) ed_int o_gt)) (decide_eq_false (by have := lo.tot; omega))) fun H6 e6 => ?_
  have e46 := e4.trans (e5.trans e6)
  exact sd_ret (ev_mk hs ls (ea1 (ed_var rfl (r1.ex (e13.trans e46))) (ea1 (ed_var rfl (rl.ex (e5.trans e6))) ea0)) hp.halls lo) fun v H7 e7 r7 n7 => q_ex (e13.trans e46) q _ v H7 ⟨ls, rfl, hb⟩ e7 r7 n7
end
end Fl
set_option maxHeartbeats 2000000
namespace Fl
open PySem PySem.Spec PyProof.Rows L2 Evl
structure Ent where
  k : Key
  a : Addr
  r : List D
section
variable {C : Addr} {H H' : Hp} {d : Addr} {es : List Ent}
abbrev entV (e : Ent) : Key × V := (e.k, V.ref e.a)
structure DN (C : Addr) (H : Hp) (d : Addr) (es : List Ent) : Prop where
  top : H d = some (.dK (es.map entV))
  nd : (d :: es.map Ent.a).Nodup
  kn : (es.map Ent.k).Nodup
  row : ∀ e ∈ es, ∃ vs, H e.a = some (.lst vs) ∧ RpL C H vs e.r
  fz : ∀ e ∈ es, fzL e.r = true
theorem DN.keep (h : DN C H d es) (t : Tx H H') (k : ∀ a ∈ d :: es.map Ent.a, H' a = H a) : DN C H' d es :=
  ⟨by rw [k d List.mem_cons_self]; exact h.top, h.nd, h.kn, fun e he => by
    obtain ⟨vs, h1, h2⟩ := h.row e he
    exact ⟨vs, by rw [k e.a (List.mem_cons_of_mem _ (List.mem_map.mpr ⟨e, he, rfl⟩))]; exact h1, h2.fz t (h.fz e he)⟩, h.fz⟩
theorem DN.ex (h : DN C H d es) (e : Ex H H') : DN C H' d es := h.keep (Tx.ex e) fun a ha => by
  rcases List.mem_cons.mp ha with z | z
  · rw [z, h.top]; exact e _ _ h.top
  · obtain ⟨x, hx, rfl⟩ := List.mem_map.mp z
    obtain ⟨vs, h1, _⟩ := h.row x hx
    rw [h1]; exact e _ _ h1
theorem DN.rp (h : DN C H d es) : Rp C H (.ref d) (.dk (es.map fun e => (e.k, D.lst e.r))) := by
  refine ⟨d, _, rfl, h.top, rpK_iff.mpr ?_⟩
  have key : ∀ (l : List Ent), (∀ e ∈ l, ∃ vs, H e.a = some (.lst vs) ∧ RpL C H vs e.r) → RK (Rp C H) (l.map entV) (l.map fun e => (e.k, D.lst e.r)) := by
    intro l
    induction l with
    | nil => intro _; exact True.intro
    | cons e l ih =>
      intro hl
      obtain ⟨vs, h1, h2⟩ := hl e List.mem_cons_self
      exact ⟨⟨rfl, e.a, vs, rfl, h1, h2⟩, ih fun x hx => hl x (List.mem_cons_of_mem _ hx)⟩
  exact key es h.row
theorem ent_val {k : Key} : ∀ {es : List Ent}, valV (es.map entV) k = (es.find? fun e => decide (e.k = k)).map fun e => V.ref e.a
  | [] => rfl
  | e :: es => by
    by_cases q : e.k = k
    · simp [valV, q]
    · have ih := ent_val (k := k) (es := es)
      have h1 : valV ((e :: es).map entV) k = valV (es.map entV) k := by simp [valV, q]
      rw [h1, ih]
      simp [q]
theorem putK_new {k : Key} {v : V} {ks : List (Key × V)} (h : valV ks k = none) : putK ks k v = ks ++ [(k, v)] := by
  unfold putK
  rw [if_neg]
  intro z
  obtain ⟨p, hp, e⟩ := List.any_eq_true.mp z
  unfold valV at h
  have h' := Option.map_eq_none_iff.mp h
  have := List.find?_eq_none.mp h' p hp
  exact this e
theorem DN.add {k : Key} {a : Addr} {r : List D} {vs : List V} (h : DN C H d es) (hk : es.find? (fun e => decide (e.k = k)) = none) (ha : H a = some (.lst vs)) (rv : RpL C H vs r) (hz : fzL r = true) (hn : a ∉ d :: es.map Ent.a) : DN C (upd H d (.dK (putK (es.map entV) k (.ref a)))) d (es ++ [⟨k, a, r⟩]) := by
  have hv : valV (es.map entV) k = none := by rw [ent_val, hk]; rfl
  have t : Tx H (upd H d (.dK (putK (es.map entV) k (.ref a)))) := Tx.dk h.top
  have had : a ≠ d := fun z => hn (z ▸ List.mem_cons_self)
  have hkn : k ∉ es.map Ent.k := fun hm => by
    obtain ⟨e, he, ek⟩ := List.mem_map.mp hm
    have := List.find?_eq_none.mp hk e he
    exact this (decide_eq_true ek)
  refine ⟨by rw [upd_same, putK_new hv, List.map_append]; rfl, ?_, ?_, fun e he => ?_, fun e he => ?_⟩
  · rw [List.map_append, ← List.cons_append, List.nodup_append]
    exact ⟨h.nd, by simp, fun x hx y hy => by rw [show y = a by simpa using hy]; exact fun z => hn (z ▸ hx)⟩
  · rw [List.map_append, List.nodup_append]
    exact ⟨h.kn, by simp, fun x hx y hy => by rw [show y = k by simpa using hy]; exact fun z => hkn (z ▸ hx)⟩
  · rcases List.mem_append.mp he with he | he
    · obtain ⟨us, h1, h2⟩ := h.row e he
      have hne : e.a ≠ d := fun z => (List.nodup_cons.mp h.nd).1 (z ▸ List.mem_map.mpr ⟨e, he, rfl⟩)
      exact ⟨us, by rw [upd_ne hne]; exact h1, h2.fz t (h.fz e he)⟩
    · rw [List.mem_singleton.mp he]
      exact ⟨vs, by rw [upd_ne had]; exact ha, rv.fz t hz⟩
  · rcases List.mem_append.mp he with he | he
    · exact h.fz e he
    · rw [List.mem_singleton.mp he]; exact hz
def entApp (es : List Ent) (k : Key) (x : D) : List Ent := es.map fun e => if e.k = k then ⟨e.k, e.a, e.r ++ [x]⟩ else e
theorem entApp_a (es : List Ent) (k : Key) (x : D) : (entApp es k x).map Ent.a = es.map Ent.a := by
  unfold entApp
  rw [List.map_map]
  refine List.map_congr_left fun e _ => ?_
  show (if e.k = k then (⟨e.k, e.a, e.r ++ [x]⟩ : Ent) else e).a = e.a
  split <;> rfl
theorem entApp_k (es : List Ent) (k : Key) (x : D) : (entApp es k x).map Ent.k = es.map Ent.k := by
  unfold entApp
  rw [List.map_map]
  refine List.map_congr_left fun e _ => ?_
  show (if e.k = k then (⟨e.k, e.a, e.r ++ [x]⟩ : Ent) else e).k = e.k
  split <;> rfl
theorem entApp_v (es : List Ent) (k : Key) (x : D) : (entApp es k x).map entV = es.map entV := by
  unfold entApp
  rw [List.map_map]
  refine List.map_congr_left fun e _ => ?_
  show entV (if e.k = k then (⟨e.k, e.a, e.r ++ [x]⟩ : Ent) else e) = entV e
  split <;> rfl
theorem DN.app {e : Ent} {vs : List V} {v : V} {x : D} (h : DN C H d es) (he : e ∈ es) (hv : H e.a = some (.lst vs)) (rv : RpL C H vs e.r) (rx : Rp C H v x) (hz : x.fz = true) : DN C (upd H e.a (.lst (vs ++ [v]))) d (entApp es e.k x) := by
  have t : Tx H (upd H e.a (.lst (vs ++ [v]))) := Tx.lst hv
  have hne : d ≠ e.a := fun z => (List.nodup_cons.mp h.nd).1 (z ▸ List.mem_map.mpr ⟨e, he, rfl⟩)
  have uniqK : ∀ e' ∈ es, e'.k = e.k → e' = e := by
    have kn := h.kn
    intro e' he' ek
    obtain ⟨i, hi⟩ := List.getElem?_of_mem he
    obtain ⟨j, hj⟩ := List.getElem?_of_mem he'
    obtain ⟨l1, e1⟩ := List.getElem?_eq_some_iff.mp hi
    obtain ⟨l2, e2⟩ := List.getElem?_eq_some_iff.mp hj
    by_cases q : i = j
    · subst q; rw [hi] at hj; exact (Option.some.inj hj).symm
    · exfalso
      have hp := List.pairwise_iff_getElem.mp kn
      rcases Nat.lt_or_gt_of_ne q with q | q
      · exact hp i j (by simpa using l1) (by simpa using l2) q (by simp [e1, e2, ek])
      · exact hp j i (by simpa using l2) (by simpa using l1) q (by simp [e1, e2, ek])
  have uniqA : ∀ e' ∈ es, e'.a = e.a → e' = e := by
    have kn := (List.nodup_cons.mp h.nd).2
    intro e' he' ek
    obtain ⟨i, hi⟩ := List.getElem?_of_mem he
    obtain ⟨j, hj⟩ := List.getElem?_of_mem he'
    obtain ⟨l1, e1⟩ := List.getElem?_eq_some_iff.mp hi
    obtain ⟨l2, e2⟩ := List.getElem?_eq_some_iff.mp hj
    by_cases q : i = j
    · subst q; rw [hi] at hj; exact (Option.some.inj hj).symm
    · exfalso
      have hp := List.pairwise_iff_getElem.mp kn
      rcases Nat.lt_or_gt_of_ne q with q | q
      · exact hp i j (by simpa using l1) (by simpa using l2) q (by simp [e1, e2, ek])
      · exact hp j i (by simpa using l2) (by simpa using l1) q (by simp [e1, e2, ek])
  refine ⟨by rw [upd_ne hne, entApp_v]; exact h.top, by rw [entApp_a]; exact h.nd, by rw [entApp_k]; exact h.kn, fun e2 he2 => ?_, fun e2 he2 => ?_⟩
  · obtain ⟨e', he', rfl⟩ := List.mem_map.mp he2
    by_cases q : e'.k = e.k
    · have := uniqK e' he' q
      subst this
      rw [if_pos rfl]
      exact ⟨vs ++ [v], upd_same, (rv.snoc rx).fz t (fzL_append (h.fz _ he) (by show (x.fz && true) = true; rw [hz]; rfl))⟩
    · rw [if_neg q]
      obtain ⟨us, h1, h2⟩ := h.row e' he'
      have hna : e'.a ≠ e.a := fun z => q (uniqA e' he' z ▸ rfl)
      exact ⟨us, by rw [upd_ne hna]; exact h1, h2.fz t (h.fz e' he')⟩
  · obtain ⟨e', he', rfl⟩ := List.mem_map.mp he2
    by_cases q : e'.k = e.k
    · rw [if_pos q]; exact fzL_append (h.fz e' he') (by show (x.fz && true) = true; rw [hz]; rfl)
    · rw [if_neg q]; exact h.fz e' he'
end
end Fl
set_option maxHeartbeats 4000000
namespace Fl
open PySem PySem.Spec PyProof.Rows L2 Evl
theorem sc_all_spots : FnScope ["book", "lane", "commands", "number"] ["book"] (defScope s_all_spots) := ⟨rfl, rfl, rfl, by decide +kernel, rfl, by decide +kernel, by decide +kernel⟩
theorem sc_command_at : FnScope ["book", "spot", "lane", "number"] ["book", "spot"] (defScope s_command_at) := ⟨rfl, rfl, rfl, by decide +kernel, rfl, by decide +kernel, by decide +kernel⟩
theorem sc_sets_of : FnScope ["book", "found", "spot", "word", "parts", "fence", "by", "steps", "elder", "total", "place"] ["book"] (defScope s_sets_of) := ⟨rfl, rfl, rfl, by decide +kernel, rfl, by decide +kernel, by decide +kernel⟩
theorem sc_first_with : FnScope ["steps", "value", "total", "spot"] ["steps", "value"] (defScope s_first_with) := ⟨rfl, rfl, rfl, by decide +kernel, rfl, by decide +kernel, by decide +kernel⟩
theorem sc_hangs : FnScope ["book", "steps", "found", "spot", "word", "parts", "fence", "value"] ["book"] (defScope s_hangs) := ⟨rfl, rfl, rfl, by decide +kernel, rfl, by decide +kernel, by decide +kernel⟩
theorem sc_elders_of : FnScope ["hung", "spot", "lane", "number", "found"] ["hung", "spot"] (defScope s_elders_of) := ⟨rfl, rfl, rfl, by decide +kernel, rfl, by decide +kernel, by decide +kernel⟩
abbrev Sp2 := Nat × Nat
abbrev stepD (p : Int × Sp2) : D := .tup [.int p.1, spotD p.2]
def optS : Option Sp2 → D
  | none => .non
  | some s => spotD s
theorem optS_fz (o : Option Sp2) : (optS o).fz = true := by cases o <;> rfl
def firstW (st : List (Int × Sp2)) (v : Int) : Option Sp2 := (st.find? fun p => decide (v ≤ p.1)).map Prod.snd
abbrev sk (s : Sp2) : List Key := [.inl (s.1 : Int), .inl (s.2 : Int)]
theorem sk_inj {s t : Sp2} (h : sk s = sk t) : s = t := by
  injection h with h1 h2
  injection h2 with h3 _
  have e1 := Sum.inl.inj h1
  have e2 := Sum.inl.inj h3
  exact Prod.ext (by omega) (by omega)
def HungK (hg : Sp2 → Option Sp2) (kvs : List (List Key × D)) : Prop := ∀ s, (lookD kvs (sk s)).getD .non = optS (hg s)
def prevS (s : Sp2) : List Sp2 := if 0 < s.2 then [(s.1, s.2 - 1)] else []
def eldersL (hg : Sp2 → Option Sp2) (s : Sp2) : List Sp2 := prevS s ++ (hg s).toList
section
variable {P : Program} {w : World} {K : PySem.W.Frag} {C : Addr} {σ : L2.St} {H : Hp} {ta tb td ty : TE} {t : TT} {Φ : V → Hp → Prop}
theorem ev_if {b : Bool} (h : EvT t σ H b) (h1 : b = true → EvP ta σ H Φ) (h2 : b = false → EvP tb σ H Φ) : EvP (tIf t ta tb) σ H Φ := fun H1 e Q q => h H1 e _ fun H2 e2 => by
  cases b with
  | true => exact h1 rfl H2 (e.trans e2) _ fun v H3 e3 r3 => q v H3 (e2.trans e3) r3
  | false => exact h2 rfl H2 (e.trans e2) _ fun v H3 e3 r3 => q v H3 (e2.trans e3) r3
theorem ev_lst {ts : TA} {ds : List D} (h : EdA C ts σ H ds) (hl : ds.length ≤ 100000 := by exact Nat.le_of_ble_eq_true rfl) : EvP (tLst ts) σ H fun v H2 => Rp C H2 v (.lst ds) ∧ Nw H v (.lst ds) := fun H1 e Q q =>
  h H1 e _ fun vs H2 e2 r => ⟨by rw [r.length]; exact sz_of hl, fun p hp => q _ _ (e2.trans (Ex.new hp)) ⟨⟨p, vs, rfl, upd_same, r.ex (Ex.new hp)⟩, fun _ a ea => by
    cases ea
    exact fresh_back (e.trans e2) hp⟩⟩
theorem ed_get1T {k : List Key} {kvs : List (List Key × D)} (ho : Ed C td σ H (.dt kvs)) (hk : Ed C ty σ H (tD k)) : Ed C (tDGet1 td ty) σ H ((lookD kvs k).getD .non) := fun H1 e Q q =>
  ho H1 e _ fun v H2 e2 ⟨a, ks, ev, ha, rk⟩ => ⟨a, ev, .inr ⟨ks, .inl ha⟩, hk H2 (e.trans e2) _ fun y H3 e3 ⟨b, xs, f1, f2, f3⟩ => by
    rw [rpl_keys.mp f3] at f2
    subst f1
    refine ⟨valV ks k, DGet.t (e3 _ _ ha) f2, ?_⟩
    have rk3 : RK (Rp C H3) ks kvs := (rpT_iff.mp rk).imp fun _ _ r => r.ex e3
    rcases rk3.val k with ⟨h1, h2⟩ | ⟨v0, d0, h1, h2, h3⟩
    · rw [h1]
      exact q _ H3 (e2.trans e3) (by rw [h2]; rfl)
    · rw [h1]
      exact q _ H3 (e2.trans e3) (by rw [h2]; exact h3)⟩
end
section
variable {P : Program} {w : World} {K : PySem.W.Frag} {mg : Str → Option Value} {base : Heap}
abbrev spAllSp (C : Addr) : Sp := spF C (fun p : List Hall × List (List Cmd) => [bookD p]) (fun p => Few p.2) fun p => .lst ((spotsOf p.2).map spotD)
theorem c_all_spots (T : TF w K mg) : Callee P w K mg base "all_spots" 1 ["book"] (spAllSp (CB K)) := by
  obtain ⟨fd, F⟩ := T.d_all_spots
  refine callee_of F (F.ok sc_all_spots (spA_len fun _ => rfl) fun cdv A outer s H vs Q E hr h => ?_) T.g_all_spots fun _ _ _ _ _ _ us hl => match us, hl with | [_], _ => rfl
  obtain ⟨a, r, hp, q⟩ := h
  have g : Good P w K (L2.Cx.nox (cxOf CX0 P w K mg base ["book", "lane", "commands", "number"] "all_spots" (defScope s_all_spots) (He.ga K "all_spots") cdv A outer s H E)) := ⟨rfl, rfl, rfl, rfl, hu_un hr⟩
  have hu := hu_of hr
  refine ⟨_, PSs.nox (pss_one (ps_ret (pe_lc2 (own := [("lane", 1), ("commands", 2), ("number", 3)]) (vs1 := [3]) (g := (gTup K 2 (gCons (gName 1) (gCons (gName 2) gNil)))) g.calm sc_all_spots.nd (pi_enumT (by rfl) T.f_enumerate (pa_cons (pe_fld (pv 0) rfl) pa_nil)) (blkOk_by (by kernel_rfl)) (by decide) (fun _ _ _ _ _ => (pg_tup rfl (pgs_cons (pg_name (i := 1) sc_all_spots.nd rfl (Or.inl rfl)) (pgs_cons (pg_name (i := 2) sc_all_spots.nd rfl (Or.inl rfl)) pgs_nil)))) (fun _ _ _ _ _ => pts_nil) (fun _ _ _ _ _ => (pi_range1 (by rfl) T.f_range (pa_cons (pe_callB (c_b g.b) (by rfl) T.f_len bt_len (pa_cons (pv 2) pa_nil)) pa_nil))) (fun _ _ _ _ _ => (pg_name (i := 3) sc_all_spots.nd rfl (Or.inl rfl))) (fun _ _ _ _ _ => pts_nil) (fun _ _ _ _ _ => (pe_tup (pa_cons (pv 1) (pa_cons (pv 3) pa_nil))))))), ?_⟩
  obtain ⟨v, rfl, r1⟩ := r.one
  obtain ⟨hs, ls⟩ := a
  replace hp : Few ls := hp
  have hl := flat_len ls
  refine sd_ret (C := CB K) (d := .lst ((spotsOf ls).map spotD)) (spots_eq ▸ ev_lc2 (xs := ls.zipIdx) (F := fun p => D.tup [.int (p.2 : Nat), laneD p.1]) (fun p => List.range p.1.length) (fun n => D.int (n : Nat)) (fun p n => D.tup [.int (p.2 : Nat), .int (n : Nat)])
    (ei_enumTM (ed_fld (ed_var rfl r1) T.cls T.n_lanes (.inr ⟨rfl, rfl⟩))) (by rw [hl]; exact Nat.le_trans hp.tot (by decide)) (fun _ _ _ _ => rfl) (fun _ _ _ _ => rfl)
    fun p x H1 hm e1 r2 k q' => g_two r2 fun v1 v2 r3 r4 => q' _ rfl (ei_rangeN (n := p.1.length) (ea1 ((ed_cb (ea1 (ed_var rfl r4) ea0) k_lent).is (by rw [List.length_map])) ea0) (Nat.le_trans (Nat.le_trans (le_sum List.length (mem_zipIdx hm)) hp.tot) (by decide))) fun n y H2 hn e2 r5 k' q'' => q'' _ rfl (ed_tup (ea1 (ed_var rfl r3) (ea1 (ed_var rfl r5) ea0)))) fun v H1 e1 r9 n9 => q _ v H1 rfl e1 r9 n9
theorem c_command_at (T : TF w K mg) : Callee P w K mg base "command_at" 1 ["book", "spot"] (spComm (CB K)) := by
  obtain ⟨fd, F⟩ := T.d_command_at
  refine callee_of F (F.ok sc_command_at (spA_len fun _ => rfl) fun cdv A outer s H vs Q E hr h => ?_) T.g_command_at fun _ _ _ _ _ _ us hl => match us, hl with | [_, _], _ => rfl
  obtain ⟨a, r, hp, q⟩ := h
  have g : Good P w K (L2.Cx.nox (cxOf CX0 P w K mg base ["book", "spot", "lane", "number"] "command_at" (defScope s_command_at) (He.ga K "command_at") cdv A outer s H E)) := ⟨rfl, rfl, rfl, rfl, hu_un hr⟩
  have hu := hu_of hr
  refine ⟨_, PSs.nox (pss_cons (ps_asg (pv 1) (pg_tup rfl (pgs_cons (pg_name (i := 2) sc_command_at.nd rfl (Or.inl rfl)) (pgs_cons (pg_name (i := 3) sc_command_at.nd rfl (Or.inl rfl)) pgs_nil))))
      (pss_one (ps_ret (pe_ix (ix_b g) (pe_ix (ix_b g) (pe_fld (pv 0) rfl) (pv 2) (fun _ _ => rfl)) (pv 3) (fun _ _ => rfl))))), ?_⟩
  obtain ⟨v, u, rfl, r1, r2⟩ := r.two
  obtain ⟨hs, ls, ⟨i, j⟩, row, c⟩ := a
  replace hp : Spot ls (i, j) row c := hp
  refine qd_two (ed_var rfl r2) fun v1 v2 H1 e1 q1 q2 => ?_
  exact ret_of (ed_op (ed_op (ed_fld (ed_var rfl (r1.ex e1)) T.cls T.n_lanes (.inr ⟨rfl, rfl⟩)) (ed_var rfl q1) (o_ixt (d := laneD row) (atI_nat (j := i) (by rw [List.getElem?_map, hp.atR]; rfl)))) (ed_var rfl q2) (o_ixt (d := c.D) (atI_nat (j := j) (by rw [List.getElem?_map, hp.cmd]; rfl)))) c.fz (q_ex e1 q) rfl
abbrev spFirst (C : Addr) : Sp := spF C (fun p : List (Int × Sp2) × Int => [.lst (p.1.map stepD), .int p.2]) (fun _ => True) fun p => optS (firstW p.1 p.2)
theorem c_first_with (T : TF w K mg) : Callee P w K mg base "first_with" 1 ["steps", "value"] (spFirst (CB K)) := by
  obtain ⟨fd, F⟩ := T.d_first_with
  refine callee_of F (F.ok sc_first_with (spA_len fun _ => rfl) fun cdv A outer s H vs Q E hr h => ?_) T.g_first_with fun _ _ _ _ _ _ us hl => match us, hl with | [_, _], _ => rfl
  obtain ⟨a, r, hp, q⟩ := h
  have g : Good P w K (L2.Cx.nox (cxOf CX0 P w K mg base ["steps", "value", "total", "spot"] "first_with" (defScope s_first_with) (He.ga K "first_with") cdv A outer s H E)) := ⟨rfl, rfl, rfl, rfl, hu_un hr⟩
  have hu := hu_of hr
  refine ⟨_, PSs.nox (pss_cons (ps_for PassesOwn.never g.calm (pi_b g (pv 0)) (pg_tup rfl (pgs_cons (pg_name (i := 2) sc_first_with.nd rfl (Or.inl rfl)) (pgs_cons (pg_name (i := 3) sc_first_with.nd rfl (Or.inl rfl)) pgs_nil))) (pss_one (ps_if (pt_cmpR (op_b g) (pv 2) (pv 1) (nomark _)) (pss_one (ps_ret (pv 3))) pss_nil)))
      (pss_one (ps_ret pe_non))), ?_⟩
  obtain ⟨v, u, rfl, r1, r2⟩ := r.two
  obtain ⟨st, val⟩ := a
  replace r1 : Rp (CB K) H v (.lst (st.map stepD)) := r1
  replace r2 : Rp (CB K) H u (.int val) := r2
  refine qs_for (xs := st) (F := stepD) (ei_lst (ed_var rfl r1)) fun A H1 e1 hA => ?_
  refine ⟨fun i σ' H' => (∃ u2 u3, σ' = [some v, some u, u2, u3]) ∧ Ex H1 H' ∧ ∀ p ∈ st.take i, ¬ val ≤ p.1, ⟨⟨_, _, rfl⟩, Ex.refl _, fun p h => (nomatch h)⟩, fun i σ' H' hi p => ⟨Tx.ex p.2.1, fun a ha => by
    obtain ⟨_, o, ho⟩ := hA a ha
    rw [ho]
    exact p.2.1 a _ ho⟩, ?_, ?_⟩
  · rintro i p x σ' H' H'' hi ⟨⟨u2, u3, rfl⟩, t1, t2⟩ e2 r3
    have r3 := r3 (.inl t1)
    refine g_two r3 fun v1 v2 q1 q2 => ?_
    refine ql_if (et_cmp (ed_op (ed_var rfl q1) (ed_var rfl (show Rp (CB K) H'' u (.int val) from r2)) o_ge)) (fun hb H3 e3 => ?_) fun hb H3 e3 => ?_
    · have hv : val ≤ p.1 := of_decide_eq_true hb
      have hf : firstW st val = some p.2 := by
        unfold firstW
        have e : st = st.take i ++ p :: st.drop (i + 1) := by
          have h1 := List.take_append_drop i st
          have h2 : st.drop i = p :: st.drop (i + 1) := by
            obtain ⟨hl, he⟩ := List.getElem?_eq_some_iff.mp hi
            rw [← he, List.drop_eq_getElem_cons hl]
          rw [← h2]
          exact h1.symm
        rw [e, List.find?_append, List.find?_eq_none.mpr (fun y hy => by simpa using t2 y hy)]
        simp [hv]
      refine sd_retF (C := CB K) (d := spotD p.2) (ed_var rfl (q2.ex e3)) rfl fun v' H4 e4 r4 n4 => q_ex ((e1.trans t1).trans (e2.trans e3)) q _ v' H4 ?_ e4 r4 n4
      show spotD p.2 = optS (firstW st val)
      rw [hf]
      rfl
    · have hv : ¬ val ≤ p.1 := of_decide_eq_false hb
      refine ⟨⟨_, _, rfl⟩, t1.trans (e2.trans e3), fun y hy => ?_⟩
      rw [take_item hi] at hy
      rcases List.mem_append.mp hy with h | h
      · exact t2 y h
      · rw [List.mem_singleton.mp h]; exact hv
  · rintro σ' H' ⟨⟨u2, u3, rfl⟩, t1, t2⟩
    rw [List.take_length] at t2
    have hf : firstW st val = none := by
      unfold firstW
      rw [List.find?_eq_none.mpr (fun y hy => by simpa using t2 y hy)]
      rfl
    refine ret_of (ed_non) rfl (q_ex (e1.trans t1) q) ?_
    show D.non = optS (firstW st val)
    rw [hf]
    rfl
structure ElA where
  hg : Sp2 → Option Sp2
  kvs : List (List Key × D)
  s : Sp2
abbrev spElders (C : Addr) : Sp := spF C (fun a : ElA => [.dt a.kvs, spotD a.s]) (fun a => HungK a.hg a.kvs) fun a => .lst ((eldersL a.hg a.s).map spotD)
theorem c_elders_of (T : TF w K mg) : Callee P w K mg base "elders_of" 1 ["hung", "spot"] (spElders (CB K)) := by
  obtain ⟨fd, F⟩ := T.d_elders_of
  refine callee_of F (F.ok sc_elders_of (spA_len fun _ => rfl) fun cdv A outer s H vs Q E hr h => ?_) T.g_elders_of fun _ _ _ _ _ _ us hl => match us, hl with | [_, _], _ => rfl
  obtain ⟨a, r, hp, q⟩ := h
  have g : Good P w K (L2.Cx.nox (cxOf CX0 P w K mg base ["hung", "spot", "lane", "number", "found"] "elders_of" (defScope s_elders_of) (He.ga K "elders_of") cdv A outer s H E)) := ⟨rfl, rfl, rfl, rfl, hu_un hr⟩
  have hu := hu_of hr
  refine ⟨_, PSs.nox (pss_cons (ps_asg (pv 1) (pg_tup rfl (pgs_cons (pg_name (i := 2) sc_elders_of.nd rfl (Or.inl rfl)) (pgs_cons (pg_name (i := 3) sc_elders_of.nd rfl (Or.inl rfl)) pgs_nil))))
      (pss_cons (ps_set (i := 4) sc_elders_of.nd rfl (Or.inl rfl) (pe_ifExp (pt_cmpR (op_b g) (pv 3) pe_int (nomark _)) (pe_lst (pa_cons (pe_tup (pa_cons (pv 2) (pa_cons (pe_op (op_b g) (pv 3) pe_int) pa_nil))) pa_nil)) (pe_lst pa_nil)))
      (pss_cons (ps_if (pt_cmpR (op_b g) (pe_dget1 hu (pv 0) (pv 1) ⟨rfl, rfl, rfl, rfl⟩) pe_non (nomark _)) (pss_one (ps_expr (pe_bm PySem.F.plainAttrs_list PySem.F.slot_list_append PySem.F.type_list_append (mt_b g) (pv 4) (pa_cons (pe_ix (ix_b g) (pv 0) (pv 1) (fun _ _ => rfl)) pa_nil)))) pss_nil)
      (pss_one (ps_ret (pv 4)))))), ?_⟩
  obtain ⟨v, u, rfl, r1, r2⟩ := r.two
  obtain ⟨hg, kvs, i, j⟩ := a
  replace hp : HungK hg kvs := hp
  replace r1 : Rp (CB K) H v (.dt kvs) := r1
  replace r2 : Rp (CB K) H u (spotD (i, j)) := r2
  refine qd_two (ed_var rfl r2) fun v1 v2 H1 e1 q1 q2 => ?_
  refine qd_asgP (Φ := fun x H2 => Rp (CB K) H2 x (.lst ((prevS (i, j)).map spotD)) ∧ Nw H1 x (.lst ((prevS (i, j)).map spotD))) (ev_if (et_cmp (C := CB K) (ed_op (ed_var rfl q2) ed_int o_gt)) (fun hb => ?_) fun hb => ?_) fun vf H2 e2 ⟨rf, nf⟩ => ?_
  · have hj : 0 < j := by have := of_decide_eq_true hb; omega
    have e : prevS (i, j) = [(i, j - 1)] := by unfold prevS; rw [if_pos hj]
    rw [e]
    exact ev_lst (ea1 (ed_tup (ea1 (ed_var rfl q1) (ea1 (Ed.is (ed_op (ed_var rfl q2) ed_int o_sub) (congrArg D.int (by show ((j : Nat) : Int) - 1 = ((j - 1 : Nat) : Int); omega))) ea0))) ea0)
  · have hj : ¬ 0 < j := by have := of_decide_eq_false hb; omega
    have e : prevS (i, j) = [] := by unfold prevS; rw [if_neg hj]
    rw [e]
    exact ev_lst ea0
  obtain ⟨l, vs, evf, hl, rvs⟩ := rf
  subst evf
  have hl1 : H1 l = none := nf rfl l rfl
  have hH : H l = none := fresh_back e1 hl1
  have e12 := e1.trans e2
  have rk : Rp (CB K) H2 u (tD (sk (i, j))) := r2.ex e12
  have hgs := hp (i, j)
  have hls : ∀ H3, Ex H2 H3 → Rp (CB K) H3 (.ref l) (.lst ((prevS (i, j)).map spotD)) := fun H3 e3 => ⟨l, vs, rfl, e3 _ _ hl, rvs.ex e3⟩
  cases hh : hg (i, j) with
  | none =>
    rw [hh] at hgs
    have hel : eldersL hg (i, j) = prevS (i, j) := by unfold eldersL; rw [hh]; simp
    refine qd_if (et_is (b := false) (et_cmp (ed_op (Ed.is (ed_get1T (k := sk (i, j)) (ed_var rfl (r1.ex e12)) (ed_var rfl rk)) hgs) ed_non o_notN)) rfl) (fun hb => nomatch hb) fun _ H3 e3 => ?_
    refine ⟨_, rfl, q _ (.ref l) H3 ?_ (e12.trans e3) (hls H3 e3) fun _ b eb => by
      cases eb
      exact hH⟩
    show D.lst _ = D.lst _
    rw [hel]
  | some s' =>
    rw [hh] at hgs
    have hel : eldersL hg (i, j) = prevS (i, j) ++ [s'] := by unfold eldersL; rw [hh]; rfl
    have hlk : lookD kvs (sk (i, j)) = some (spotD s') := by
      cases hq : lookD kvs (sk (i, j)) with
      | none => rw [hq] at hgs; cases hgs
      | some d => rw [hq] at hgs; exact congrArg some hgs
    refine qd_if (et_is (b := true) (et_cmp (ed_op (Ed.is (ed_get1T (k := sk (i, j)) (ed_var rfl (r1.ex e12)) (ed_var rfl rk)) hgs) ed_non o_notN)) rfl) (fun _ H3 e3 => ?_) fun hb => nomatch hb
    have hl3 := e3 _ _ hl
    refine q_append (C := CB K) (d := spotD s') (ev_var rfl) (ed_op (ed_var rfl (r1.ex (e12.trans e3))) (ed_var rfl (rk.ex e3)) (o_ixT hlk)) hl3 (by rw [rvs.length, List.length_map]; unfold prevS; split <;> simp) fun vv H4 e4 r4 => ?_
    have hl4 := e4 _ _ hl3
    have e24 := e3.trans e4
    refine ⟨_, rfl, q (.lst ((prevS (i, j)).map spotD ++ [spotD s'])) (.ref l) _ ?_ (Ex.mut (e12.trans e24) hH) ⟨l, vs ++ [vv], rfl, upd_same, RpL.fz (Tx.lst hl4) ?_ ((rvs.ex e24).append (show RpL (CB K) H4 [vv] [spotD s'] from ⟨r4, True.intro⟩))⟩ fun _ b eb => by
      cases eb
      exact hH⟩
    · show D.lst _ = D.lst _
      rw [hel, List.map_append]
      rfl
    · exact fzL_append (fzL_map fun _ _ => rfl) rfl
end
end Fl
set_option maxHeartbeats 4000000
namespace Fl
open PySem PySem.Spec PyProof.Rows L2 Evl
def cmdAt (ls : List (List Cmd)) (s : Sp2) : Option Cmd := (ls[s.1]?).bind fun row => row[s.2]?
def stepOf (ls : List (List Cmd)) (f : Str) (acc : List (Int × Sp2)) (s : Sp2) : List (Int × Sp2) := match cmdAt ls s with
  | some (.set f' b) => if f' = f then acc ++ [(maxL 0 (acc.map Prod.fst) + b, s)] else acc
  | _ => acc
def setsL (ls : List (List Cmd)) (f : Str) : List (Int × Sp2) := (spotsOf ls).foldl (stepOf ls f) []
def rowOf (es : List Ent) (k : Key) : List D := ((es.find? fun e => decide (e.k = k)).map Ent.r).getD []
theorem find_k {es : List Ent} {k : Key} {e : Ent} (h : es.find? (fun e => decide (e.k = k)) = some e) : e.k = k := by
  have := List.find?_some h
  simpa using this
theorem rowOf_mem {es : List Ent} (kn : (es.map Ent.k).Nodup) {e : Ent} (he : e ∈ es) : rowOf es e.k = e.r := by
  unfold rowOf
  induction es with
  | nil => cases he
  | cons x es ih =>
    rw [List.map_cons, List.nodup_cons] at kn
    rcases List.mem_cons.mp he with h | h
    · subst h; simp
    · have hne : x.k ≠ e.k := fun z => kn.1 (z ▸ List.mem_map.mpr ⟨e, h, rfl⟩)
      rw [List.find?_cons, decide_eq_false hne]
      exact ih kn.2 h
theorem rowOf_app {es : List Ent} {k k' : Key} {x : D} (h : ∃ e ∈ es, e.k = k) : rowOf (entApp es k x) k' = if k' = k then rowOf es k ++ [x] else rowOf es k' := by
  have key : ∀ es : List Ent, (entApp es k x).find? (fun e => decide (e.k = k')) = (es.find? fun e => decide (e.k = k')).map fun e => if e.k = k then ⟨e.k, e.a, e.r ++ [x]⟩ else e := by
    intro es
    induction es with
    | nil => rfl
    | cons e es ih =>
      have hk : (if e.k = k then (⟨e.k, e.a, e.r ++ [x]⟩ : Ent) else e).k = e.k := by split <;> rfl
      show ((if e.k = k then (⟨e.k, e.a, e.r ++ [x]⟩ : Ent) else e) :: entApp es k x).find? _ = _
      rw [List.find?_cons, List.find?_cons, hk]
      by_cases q : e.k = k'
      · rw [decide_eq_true q]; rfl
      · rw [decide_eq_false q]; exact ih
  unfold rowOf
  rw [key]
  by_cases e : k' = k
  · subst e
    rw [if_pos rfl]
    cases hf : es.find? (fun e => decide (e.k = k')) with
    | none =>
      obtain ⟨e, he, ek⟩ := h
      have := List.find?_eq_none.mp hf e he
      exact absurd (decide_eq_true ek) this
    | some e =>
      have ek : e.k = k' := find_k hf
      show (Ent.r (if e.k = k' then (⟨e.k, e.a, e.r ++ [x]⟩ : Ent) else e)) = e.r ++ [x]
      rw [if_pos ek]
  · rw [if_neg e]
    cases hf : es.find? (fun e => decide (e.k = k')) with
    | none => rfl
    | some e2 =>
      have ek : e2.k = k' := find_k hf
      show (Ent.r (if e2.k = k then (⟨e2.k, e2.a, e2.r ++ [x]⟩ : Ent) else e2)) = e2.r
      rw [if_neg (fun z => e (ek.symm.trans z))]
theorem rowOf_rp {es : List Ent} {k : Key} : (lookD (es.map fun e => (e.k, D.lst e.r)) k).getD (.lst []) = .lst (rowOf es k) := by
  unfold rowOf
  induction es with
  | nil => rfl
  | cons e es ih =>
    by_cases q : e.k = k
    · simp [lookD, q]
    · have h1 : lookD ((e :: es).map fun e => (e.k, D.lst e.r)) k = lookD (es.map fun e => (e.k, D.lst e.r)) k := by simp [lookD, q]
      rw [h1, ih, List.find?_cons, decide_eq_false q]
section
variable {P : Program} {w : World} {K : PySem.W.Frag} {C : Addr} {σ : L2.St} {H : Hp} {td ty te : TE} {tz : TS} {E : Ends}
theorem ev_dsetdN {d : Addr} {es : List Ent} {k : Key} {Q : VK} (h : DN C H d es) (hl : es.length ≤ 10000) (ho : EvP td σ H fun v _ => v = V.ref d) (hk : Ed C ty σ H (kD k))
    (q : ∀ e es5 H5, DN C H5 d es5 → e ∈ es5 → e.k = k → (∀ b o, b ≠ d → H b = some o → H5 b = some o) → (∀ k', rowOf es5 k' = rowOf es k') → (∀ x ∈ es5, x ∈ es ∨ H x.a = none) → es5.length ≤ es.length + 1 → Q (.ref e.a) H5) : tDSetd td ty (tLst tNil) σ H Q :=
  ho H (Ex.refl H) _ fun u H1 e1 r1 => ⟨d, r1, .inl ⟨_, .inl (e1 _ _ h.top)⟩, hk H1 e1 _ fun y H2 e2 r2 => ⟨Nat.zero_le _, fun p hp => by
    have eN : Ex H2 (upd H2 p (.lst [])) := Ex.new hp
    have h2 := ((h.ex e1).ex e2).ex eN
    have e12 := e1.trans e2
    refine ⟨_, k, h2.top, rp_key.mp r2, by rw [List.length_map]; exact Nat.lt_of_le_of_lt hl (by decide), fun v hv => ?_, fun hn => ?_⟩
    · rw [ent_val] at hv
      cases hf : es.find? (fun e => decide (e.k = k)) with
      | none => rw [hf] at hv; cases hv
      | some e =>
        rw [hf] at hv
        have ev : V.ref e.a = v := Option.some.inj hv
        rw [← ev]
        exact q e es _ h2 (List.mem_of_find?_eq_some hf) (find_k hf) (fun b o _ hb => eN _ _ (e12 _ _ hb)) (fun _ => rfl) (fun x hx => .inl hx) (Nat.le_succ _)
    · rw [ent_val] at hn
      have hf : es.find? (fun e => decide (e.k = k)) = none := Option.map_eq_none_iff.mp hn
      have hpd : p ∉ d :: es.map Ent.a := fun hm => by
        have h3 := (h.ex e1).ex e2
        rcases List.mem_cons.mp hm with z | z
        · subst z; rw [h3.top] at hp; cases hp
        · obtain ⟨x, hx, e⟩ := List.mem_map.mp z
          obtain ⟨vs, h4, _⟩ := h3.row x hx
          rw [e, hp] at h4
          cases h4
      have h5 := h2.add (k := k) (a := p) (r := []) (vs := []) hf upd_same True.intro rfl hpd
      refine q ⟨k, p, []⟩ _ _ h5 (List.mem_append.mpr (.inr List.mem_cons_self)) rfl (fun b o hb hbo => by rw [upd_ne hb]; exact eN _ _ (e12 _ _ hbo)) (fun k' => ?_) (fun x hx => ?_) (by rw [List.length_append]; exact Nat.le_refl _)
      · unfold rowOf
        rw [List.find?_append]
        cases hf2 : es.find? (fun e => decide (e.k = k')) with
        | some e => rfl
        | none =>
          by_cases ek : k = k'
          · simp [ek]
          · simp [ek]
      · rcases List.mem_append.mp hx with hx | hx
        · exact .inl hx
        · rw [List.mem_singleton.mp hx]
          exact .inr (fresh_back e12 hp)⟩⟩
theorem qd_unl2 {i1 i2 : Nat} {d1 d2 : D} (h : Ed C te σ H (.lst [d1, d2])) (k : ∀ v1 v2 H1, Ex H H1 → Rp C H1 v1 d1 → Rp C H1 v2 d2 → tz E ((σ.set i1 (some v1)).set i2 (some v2)) H1) :
    tSeq (tAsg te (gUnl K 2 (gCons (gName i1) (gCons (gName i2) gNil)))) tz E σ H := h H (Ex.refl H) _ fun v H1 e ⟨a, xs, e1, e2, e3⟩ => by
  obtain ⟨v1, v2, rfl, r1, r2⟩ := e3.two
  exact ⟨a, _, e1, sq_of e2, rfl, v1, _, rfl, v2, _, rfl, rfl, k v1 v2 H1 e r1 r2⟩
end
theorem mem_spots {ls : List (List Cmd)} {s : Sp2} (h : s ∈ spotsOf ls) : ∃ row c, Spot ls s row c := by
  unfold spotsOf at h
  obtain ⟨p, hp, hs⟩ := List.mem_flatMap.mp h
  obtain ⟨n, hn, rfl⟩ := List.mem_map.mp hs
  obtain ⟨i, hi⟩ := List.getElem?_of_mem hp
  obtain ⟨row, k⟩ := p
  obtain ⟨h1, rfl⟩ := zipIdx_get hi
  have hn' : n < row.length := List.mem_range.mp hn
  exact ⟨row, row[n], h1, List.getElem?_eq_getElem hn'⟩
theorem spots_of {ls : List (List Cmd)} {s : Sp2} {row : List Cmd} {c : Cmd} (h : Spot ls s row c) : s ∈ spotsOf ls := by
  unfold spotsOf
  refine List.mem_flatMap.mpr ⟨(row, s.1), ?_, List.mem_map.mpr ⟨s.2, List.mem_range.mpr h.l2, rfl⟩⟩
  refine List.mem_of_getElem? (i := s.1) ?_
  rw [List.getElem?_zipIdx, h.atR]
  simp
theorem Spot.at_ {ls : List (List Cmd)} {s : Sp2} {row : List Cmd} {c : Cmd} (h : Spot ls s row c) : cmdAt ls s = some c := by
  unfold cmdAt
  rw [h.atR]
  exact h.cmd
section
variable {P : Program} {w : World} {K : PySem.W.Frag} {mg : Str → Option Value} {base : Heap}
def SetsK (ls : List (List Cmd)) (kvs : List (Key × D)) : Prop := ∀ f : Str, (lookD kvs (Sum.inr f)).getD (.lst []) = .lst ((setsL ls f).map stepD)
abbrev spSets (C : Addr) : Sp := spA C (fun p : List Hall × List (List Cmd) => [bookD p]) (fun p => Few p.2) fun p d => ∃ kvs, d = .dk kvs ∧ SetsK p.2 kvs
theorem c_sets_of (T : TF w K mg) (c_all_spots : Callee P w K mg base "all_spots" 1 ["book"] (spAllSp (CB K))) (c_command_at : Callee P w K mg base "command_at" 1 ["book", "spot"] (spComm (CB K))) : Callee P w K mg base "sets_of" 2 ["book"] (spSets (CB K)) := by
  obtain ⟨fd, F⟩ := T.d_sets_of
  refine callee_of F (F.ok sc_sets_of (spA_len fun _ => rfl) fun cdv A outer s H vs Q E hr h => ?_) T.g_sets_of fun _ _ _ _ _ _ us hl => match us, hl with | [_], _ => rfl
  obtain ⟨a, r, hp, q⟩ := h
  have g : Good P w K (L2.Cx.nox (cxOf CX0 P w K mg base ["book", "found", "spot", "word", "parts", "fence", "by", "steps", "elder", "total", "place"] "sets_of" (defScope s_sets_of) (He.ga K "sets_of") cdv A outer s H E)) := ⟨rfl, rfl, rfl, rfl, hu_un hr⟩
  have hu := hu_of hr
  refine ⟨_, PSs.nox (pss_cons (ps_set (i := 1) sc_sets_of.nd rfl (Or.inl rfl) pe_dnewK)
      (pss_cons (ps_for PassesOwn.never g.calm (pi_b g (pe_c c_all_spots (hr.mono (by decide)) (by rfl) pass0 (pa_cons (pv 0) pa_nil))) (pg_name (i := 2) sc_sets_of.nd rfl (Or.inl rfl)) (pss_cons (ps_asg (pe_c c_command_at (hr.mono (by decide)) (by rfl) pass0 (pa_cons (pv 0) (pa_cons (pv 2) pa_nil))) (pg_star (pg_name (i := 3) sc_sets_of.nd rfl (Or.inl rfl)) (pg_name (i := 4) sc_sets_of.nd rfl (Or.inl rfl))))
      (pss_one (ps_if (pt_cmpR (op_b g) (pv 3) pe_str (nomark _)) (pss_cons (ps_asg (pv 4) (pg_unl rfl (pgs_cons (pg_name (i := 5) sc_sets_of.nd rfl (Or.inl rfl)) (pgs_cons (pg_name (i := 6) sc_sets_of.nd rfl (Or.inl rfl)) pgs_nil))))
      (pss_cons (ps_set (i := 7) sc_sets_of.nd rfl (Or.inl rfl) (pe_dsetd (pv 1) (pv 5) (pe_lst pa_nil) ⟨rfl, rfl, rfl, rfl⟩))
      (pss_cons (ps_set (i := 8) sc_sets_of.nd rfl (Or.inl rfl) (pe_callBK (maxd_b g) (by rfl) T.f_max bt_max (pa_cons (pe_lc (own := [("total", 9), ("place", 10)]) (g := (gTup K 2 (gCons (gName 9) (gCons (gName 10) gNil)))) g.calm sc_sets_of.nd (pi_b g (pv 7)) (blkOk_by (by kernel_rfl)) (fun _ _ _ _ _ => (pg_tup rfl (pgs_cons (pg_name (i := 9) sc_sets_of.nd rfl (Or.inl rfl)) (pgs_cons (pg_name (i := 10) sc_sets_of.nd rfl (Or.inl rfl)) pgs_nil)))) (fun _ _ _ _ _ => pts_nil) (fun _ _ _ _ _ => (pv 9))) pa_nil) (pk_cons pe_int pk_nil)))
      (pss_one (ps_expr (pe_bm PySem.F.plainAttrs_list PySem.F.slot_list_append PySem.F.type_list_append (mt_b g) (pv 7) (pa_cons (pe_tup (pa_cons (pe_op (op_b g) (pv 8) (pv 6)) (pa_cons (pv 2) pa_nil))) pa_nil))))))) pss_nil))))
      (pss_one (ps_ret (pv 1))))), ?_⟩
  obtain ⟨v, rfl, r1⟩ := r.one
  obtain ⟨hs, ls⟩ := a
  replace hp : Few ls := hp
  replace r1 : Rp (CB K) H v (bookD (hs, ls)) := r1
  have hsl : (spotsOf ls).length ≤ 60 := by rw [spots_len]; exact hp.tot
  refine q_dnew fun d hd => ?_
  have eD : Ex H (upd H d (.dK [])) := Ex.new hd
  refine qs_for (xs := spotsOf ls) (F := spotD) (ei_new (ev_call (hs, ls) (ea1 (ed_var rfl (r1.ex eD)) ea0) hp)) fun A H1 e1 hA => ?_
  have hdA : d ∉ A := fun h => by
    have := (hA d h).1
    rw [upd_same] at this
    cases this
  refine ⟨fun i σ' H' => (∃ u2 u3 u4 u5 u6 u7 u8 u9 u10, σ' = [some v, some (.ref d), u2, u3, u4, u5, u6, u7, u8, u9, u10]) ∧ Ex H H' ∧ (∀ b o, b ≠ d → H1 b = some o → H' b = some o) ∧ ∃ es, DN (CB K) H' d es ∧ es.length ≤ i ∧ (∀ x ∈ es, H1 x.a = none) ∧ ∀ f : Str, rowOf es (Sum.inr f) = (((spotsOf ls).take i).foldl (stepOf ls f) []).map stepD,
    ⟨⟨_, _, _, _, _, _, _, _, _, rfl⟩, eD.trans e1, fun b o _ h => h, [], ⟨e1 _ _ upd_same, by simp, by simp, fun e h => (nomatch h), fun e h => (nomatch h)⟩, Nat.le_refl _, fun x h => (nomatch h), fun f => rfl⟩, fun i σ' H' hi p => ?_, ?_, ?_⟩
  · obtain ⟨_, _, k2, _⟩ := p
    have hd1 : H1 d = some (.dK []) := e1 _ _ upd_same
    refine ⟨fun b xs hb => k2 b _ (fun z => by subst z; rw [hd1] at hb; cases hb) hb, fun b hb => ?_⟩
    obtain ⟨o, ho⟩ := (hA b hb).2
    rw [ho]
    exact k2 b o (fun z => hdA (z ▸ hb)) ho
  · rintro i s x σ' H' H'' hi ⟨⟨u2, u3, u4, u5, u6, u7, u8, u9, u10, rfl⟩, t1, t2, es, t3, t4, t5, t6⟩ e2 r3
    have rs : Rp (CB K) H'' x (spotD s) := r3 (.inr rfl)
    obtain ⟨row, c, hsp⟩ := mem_spots (List.mem_of_getElem? hi)
    have hil : i < 60 := by have := (List.getElem?_eq_some_iff.mp hi).1; omega
    have rb : Rp (CB K) H'' v (bookD (hs, ls)) := r1.ex (t1.trans e2)
    refine qd_star (Ed.is (ed_call (SpotA.mk hs ls s row c) (ea1 (ed_var rfl rb) (ea1 (ed_var rfl rs) ea0)) hsp) c.hD) (Nat.le_trans c.few (by decide)) fun xw p H3 e3 rw3 rp3 hn3 => ?_
    have e23 := e2.trans e3
    by_cases hset : ∃ f b, c = .set f b
    · obtain ⟨f, b, rfl⟩ := hset
      refine ql_if (b := true) (et_is (et_cmp (ed_op (ed_var rfl rw3) ed_str o_eqs)) (by kernel_rfl)) (fun _ H4 e4 => ?_) fun z => nomatch z
      refine qd_unl2 (ed_var rfl (rp3.ex e4)) fun vf vb H5 e5 rf rb5 => ?_
      have e25 := e23.trans (e4.trans e5)
      have dn5 := t3.ex e25
      refine ev_dsetdN (k := Sum.inr f) dn5 (by omega) (ev_var rfl) (ed_var rfl rf) fun e es6 H6 dn6 he hek k6 hrow hsrc hlen => ?_
      have hst : e.r = (((spotsOf ls).take i).foldl (stepOf ls f) []).map stepD := by
        have h1 := rowOf_mem dn6.kn he
        rw [← h1, hek, hrow, t6 f]
      generalize hSt : ((spotsOf ls).take i).foldl (stepOf ls f) [] = st at hst
      have hstl : st.length ≤ 1000 := by
        have key : ∀ (l : List Sp2) (acc : List (Int × Sp2)), (l.foldl (stepOf ls f) acc).length ≤ acc.length + l.length := by
          intro l
          induction l with
          | nil => intro acc; exact Nat.le_refl _
          | cons x l ih =>
            intro acc
            refine Nat.le_trans (ih _) ?_
            have : (stepOf ls f acc x).length ≤ acc.length + 1 := by
              unfold stepOf
              split
              · split
                · simp
                · omega
              · omega
            rw [List.length_cons]
            omega
        have := key ((spotsOf ls).take i) []
        rw [hSt, List.length_nil, List.length_take] at this
        omega
      obtain ⟨vs, hvs, rvs⟩ := dn6.row e he
      rw [hst] at rvs
      refine qd_asg (ed_maxd (ns := st.map Prod.fst) (Ed.is (ed_map (C := CB K) (xs := st) (F := stepD) (fun p => .int p.1) (ei_lst (ed_var rfl (show Rp (CB K) H6 (.ref e.a) (.lst (st.map stepD)) from ⟨e.a, vs, rfl, hvs, rvs⟩))) (by omega) (fun _ _ => rfl)
        fun n p y H7 hn e7 r7 k q' => g_two r7 fun w1 w2 s1 s2 => q' _ rfl (ed_var rfl s1)) (by rw [List.map_map]; rfl))) fun vm H7 e7 rm => ?_
      have dn7 := dn6.ex e7
      have hvs7 := e7 _ _ hvs
      have rb7 : Rp (CB K) H7 vb (.int b) := rb5
      have rs5 : Rp (CB K) H5 x (spotD s) := rs.ex (e3.trans (e4.trans e5))
      have hd5 := dn5.top
      have tx56 : Tx H5 H6 := fun bb ys hb => k6 bb _ (fun z => by subst z; rw [hd5] at hb; cases hb) hb
      have rs7 : Rp (CB K) H7 x (spotD s) := (rs5.fz tx56 rfl).ex e7
      refine q_append (C := CB K) (d := stepD (maxL 0 (st.map Prod.fst) + b, s)) (ev_var rfl) (ed_tup (ea1 (ed_op (ed_var rfl rm) (ed_var rfl rb7) o_add) (ea1 (ed_var rfl rs7) ea0))) hvs7 (by rw [rvs.length, List.length_map]; omega) fun vv H8 e8 r8 => ?_
      have dn8 := dn7.ex e8
      have hvs8 := e8 _ _ hvs7
      obtain ⟨vs', hvs', rvs'⟩ := dn8.row e he
      rw [hvs8] at hvs'
      cases hvs'
      have dn9 := dn8.app he hvs8 rvs' r8 rfl
      rw [hek] at dn9
      have hea1 : H1 e.a = none := by
        rcases hsrc e he with h | h
        · exact t5 e h
        · cases hq : H1 e.a with
          | none => rfl
          | some o =>
            have hne : e.a ≠ d := fun z => (List.nodup_cons.mp dn6.nd).1 (z ▸ List.mem_map.mpr ⟨e, he, rfl⟩)
            have := e25 _ _ (t2 _ _ hne hq)
            rw [h] at this
            cases this
      have hdH : ∀ bb, bb ≠ d → H bb ≠ none → H1 bb ≠ none := fun bb hb h h' => h (fresh_back (eD.trans e1) h')
      have heaH : H e.a = none := fresh_back (eD.trans e1) hea1
      have hH6 : Ex H H6 := fun bb o hb => k6 bb o (fun z => by subst z; rw [hd] at hb; cases hb) (e25 _ _ (t1 _ _ hb))
      refine ⟨⟨_, _, _, _, _, _, _, _, _, rfl⟩, Ex.mut (hH6.trans (e7.trans e8)) heaH, fun bb o hb hbo => ?_, entApp es6 (Sum.inr f) (stepD (maxL 0 (st.map Prod.fst) + b, s)), dn9, ?_, fun y hy => ?_, fun f2 => ?_⟩
      · rw [upd_ne (fun z => by subst z; rw [hea1] at hbo; cases hbo)]
        exact (e7.trans e8) _ _ (k6 bb o hb (e25 _ _ (t2 bb o hb hbo)))
      · unfold entApp
        rw [List.length_map]
        omega
      · have hy2 : y.a ∈ (entApp es6 (Sum.inr f) (stepD (maxL 0 (st.map Prod.fst) + b, s))).map Ent.a := List.mem_map.mpr ⟨y, hy, rfl⟩
        rw [entApp_a] at hy2
        obtain ⟨z, hz, ez⟩ := List.mem_map.mp hy2
        rw [← ez]
        rcases hsrc z hz with h | h
        · exact t5 z h
        · cases hq : H1 z.a with
          | none => rfl
          | some o =>
            have hne : z.a ≠ d := fun q => (List.nodup_cons.mp dn6.nd).1 (q ▸ List.mem_map.mpr ⟨z, hz, rfl⟩)
            have := e25 _ _ (t2 _ _ hne hq)
            rw [h] at this
            cases this
      · rw [rowOf_app ⟨e, he, hek⟩, take_item hi, List.foldl_append]
        show _ = (stepOf ls f2 (((spotsOf ls).take i).foldl (stepOf ls f2) []) s).map stepD
        unfold stepOf
        rw [hsp.at_]
        by_cases ef : f = f2
        · subst ef
          show _ = (if f = f then _ else _ : List (Int × Sp2)).map stepD
          rw [if_pos rfl, if_pos rfl]
          have : (((spotsOf ls).take i).foldl (stepOf ls f) []) = st := hSt
          unfold stepOf at this
          rw [this, List.map_append, hrow, t6 f, hSt]
          rfl
        · show _ = (if f = f2 then _ else _ : List (Int × Sp2)).map stepD
          rw [if_neg (fun z => ef (Sum.inr.inj z).symm), if_neg ef, hrow, t6 f2]
          rfl
    · refine ql_if (b := false) (et_is (et_cmp (ed_op (ed_var rfl rw3) ed_str o_eqs)) ?_) (fun z => nomatch z) fun _ H4 e4 => ?_
      · cases c <;> first | exact absurd ⟨_, _, rfl⟩ hset | kernel_rfl
      · have e24 := e23.trans e4
        refine ⟨⟨_, _, _, _, _, _, _, _, _, rfl⟩, t1.trans e24, fun bb o hb hbo => e24 _ _ (t2 bb o hb hbo), es, t3.ex e24, by omega, t5, fun f2 => ?_⟩
        rw [t6 f2, take_item hi, List.foldl_append]
        show _ = (stepOf ls f2 (((spotsOf ls).take i).foldl (stepOf ls f2) []) s).map stepD
        generalize ((spotsOf ls).take i).foldl (stepOf ls f2) [] = acc
        unfold stepOf
        rw [hsp.at_]
        cases c <;> first | exact absurd ⟨_, _, rfl⟩ hset | rfl
  · rintro σ' H' ⟨⟨u2, u3, u4, u5, u6, u7, u8, u9, u10, rfl⟩, t1, t2, es, t3, t4, t5, t6⟩
    refine ⟨_, rfl, q _ (.ref d) H' ⟨_, rfl, fun f => ?_⟩ t1 t3.rp fun _ b eb => by
      cases eb
      exact hd⟩
    rw [rowOf_rp, t6 f, List.take_length]
    rfl
def hgOf (ls : List (List Cmd)) (s : Sp2) : Option Sp2 := match cmdAt ls s with
  | some (.wait f v) => firstW (setsL ls f) v
  | _ => none
theorem q_dnewT {σ : L2.St} {H : Hp} {tz : TS} {E : Ends} {i : Nat} (k : ∀ a, H a = none → tz E (σ.set i (some (.ref a))) (upd H a (.dT []))) : tSeq (tAsg tDNewT (gName i)) tz E σ H := fun a ha => k a ha
abbrev spHangs (C : Addr) : Sp := spA C (fun p : List Hall × List (List Cmd) => [bookD p]) (fun p => Few p.2) fun p d => ∃ kvs, d = .dt kvs ∧ HungK (hgOf p.2) kvs
theorem c_hangs (T : TF w K mg) (c_sets_of : Callee P w K mg base "sets_of" 2 ["book"] (spSets (CB K))) (c_all_spots : Callee P w K mg base "all_spots" 1 ["book"] (spAllSp (CB K))) (c_command_at : Callee P w K mg base "command_at" 1 ["book", "spot"] (spComm (CB K)))
    (c_first_with : Callee P w K mg base "first_with" 1 ["steps", "value"] (spFirst (CB K))) : Callee P w K mg base "hangs" 3 ["book"] (spHangs (CB K)) := by
  obtain ⟨fd, F⟩ := T.d_hangs
  refine callee_of F (F.ok sc_hangs (spA_len fun _ => rfl) fun cdv A outer s H vs Q E hr h => ?_) T.g_hangs fun _ _ _ _ _ _ us hl => match us, hl with | [_], _ => rfl
  obtain ⟨a, r, hp, q⟩ := h
  have g : Good P w K (L2.Cx.nox (cxOf CX0 P w K mg base ["book", "steps", "found", "spot", "word", "parts", "fence", "value"] "hangs" (defScope s_hangs) (He.ga K "hangs") cdv A outer s H E)) := ⟨rfl, rfl, rfl, rfl, hu_un hr⟩
  have hu := hu_of hr
  refine ⟨_, PSs.nox (pss_cons (ps_set (i := 1) sc_hangs.nd rfl (Or.inl rfl) (pe_c c_sets_of (hr.mono (by decide)) (by rfl) pass0 (pa_cons (pv 0) pa_nil)))
      (pss_cons (ps_set (i := 2) sc_hangs.nd rfl (Or.inl rfl) pe_dnewT)
      (pss_cons (ps_for PassesOwn.never g.calm (pi_b g (pe_c c_all_spots (hr.mono (by decide)) (by rfl) pass0 (pa_cons (pv 0) pa_nil))) (pg_name (i := 3) sc_hangs.nd rfl (Or.inl rfl)) (pss_cons (ps_asg (pe_c c_command_at (hr.mono (by decide)) (by rfl) pass0 (pa_cons (pv 0) (pa_cons (pv 3) pa_nil))) (pg_star (pg_name (i := 4) sc_hangs.nd rfl (Or.inl rfl)) (pg_name (i := 5) sc_hangs.nd rfl (Or.inl rfl))))
      (pss_one (ps_if (pt_cmpR (op_b g) (pv 4) pe_str (nomark _)) (pss_cons (ps_asg (pv 5) (pg_unl rfl (pgs_cons (pg_name (i := 6) sc_hangs.nd rfl (Or.inl rfl)) (pgs_cons (pg_name (i := 7) sc_hangs.nd rfl (Or.inl rfl)) pgs_nil))))
      (pss_one (ps_asg (pe_c c_first_with (hr.mono (by decide)) (by rfl) pass0 (pa_cons (pe_dget2 hu (pv 1) (pv 6) (pe_lst pa_nil) ⟨rfl, rfl, rfl, rfl⟩) (pa_cons (pv 7) pa_nil))) (pg_sub (pv 2) (pv 3) (set_b g))))) pss_nil))))
      (pss_one (ps_ret (pv 2)))))), ?_⟩
  obtain ⟨v, rfl, r1⟩ := r.one
  obtain ⟨hs, ls⟩ := a
  replace hp : Few ls := hp
  replace r1 : Rp (CB K) H v (bookD (hs, ls)) := r1
  have hsl : (spotsOf ls).length ≤ 60 := by rw [spots_len]; exact hp.tot
  refine qd_asgP (edx_call (hs, ls) (ea1 (ed_var rfl r1) ea0) hp) fun vs H0 e0 ⟨ds, ⟨kvS, eds, hS⟩, rS⟩ => ?_
  subst eds
  refine q_dnewT fun d hd => ?_
  have eD : Ex H0 (upd H0 d (.dT [])) := Ex.new hd
  refine qs_for (xs := spotsOf ls) (F := spotD) (ei_new (ev_call (hs, ls) (ea1 (ed_var rfl (r1.ex (e0.trans eD))) ea0) hp)) fun A H1 e1 hA => ?_
  have hdA : d ∉ A := fun h => by
    have := (hA d h).1
    rw [upd_same] at this
    cases this
  have hd1 : H1 d = some (.dT []) := e1 _ _ upd_same
  refine ⟨fun i σ' H' => (∃ u3 u4 u5 u6 u7, σ' = [some v, some vs, some (.ref d), u3, u4, u5, u6, u7]) ∧ Ex H0 H' ∧ (∀ b o, b ≠ d → H1 b = some o → H' b = some o) ∧ ∃ ks kvs, H' d = some (.dT ks) ∧ RK (Rp (CB K) H') ks kvs ∧ kvs.length ≤ i ∧ (∀ p ∈ kvs, p.2.fz = true) ∧ ∀ s, (lookD kvs (sk s)).getD .non = optS (if s ∈ (spotsOf ls).take i then hgOf ls s else none),
    ⟨⟨_, _, _, _, _, rfl⟩, eD.trans e1, fun b o _ h => h, [], [], hd1, True.intro, Nat.le_refl _, fun p h => (nomatch h), fun s => rfl⟩, fun i σ' H' hi p => ?_, ?_, ?_⟩
  · obtain ⟨_, _, k2, _⟩ := p
    refine ⟨fun b xs hb => k2 b _ (fun z => by subst z; rw [hd1] at hb; cases hb) hb, fun b hb => ?_⟩
    obtain ⟨o, ho⟩ := (hA b hb).2
    rw [ho]
    exact k2 b o (fun z => hdA (z ▸ hb)) ho
  · rintro i s x σ' H' H'' hi ⟨⟨u3, u4, u5, u6, u7, rfl⟩, t1, t2, ks, kvs, t3, t4, t5, t6, t7⟩ e2 r3
    have rs : Rp (CB K) H'' x (spotD s) := r3 (.inr rfl)
    obtain ⟨row, c, hsp⟩ := mem_spots (List.mem_of_getElem? hi)
    have hil : i < 60 := by have := (List.getElem?_eq_some_iff.mp hi).1; omega
    have rb : Rp (CB K) H'' v (bookD (hs, ls)) := r1.ex (e0.trans (t1.trans e2))
    refine qd_star (Ed.is (ed_call (SpotA.mk hs ls s row c) (ea1 (ed_var rfl rb) (ea1 (ed_var rfl rs) ea0)) hsp) c.hD) (Nat.le_trans c.few (by decide)) fun xw p H3 e3 rw3 rp3 hn3 => ?_
    have e23 := e2.trans e3
    by_cases hset : ∃ f b, c = .wait f b
    · obtain ⟨f, b, rfl⟩ := hset
      refine ql_if (b := true) (et_is (et_cmp (ed_op (ed_var rfl rw3) ed_str o_eqs)) (by kernel_rfl)) (fun _ H4 e4 => ?_) fun z => nomatch z
      refine qd_unl2 (ed_var rfl (rp3.ex e4)) fun vf vb H5 e5 rf rb5 => ?_
      have e25 := e23.trans (e4.trans e5)
      have hd5 := e25 _ _ t3
      have rS5 : Rp (CB K) H5 vs (.dk kvS) := rS.ex (t1.trans e25)
      have hg : hgOf ls s = firstW (setsL ls f) b := by unfold hgOf; rw [hsp.at_]
      refine q_putT (k := sk s) (ed_call (setsL ls f, b) (ea1 (Ed.is (ed_get2 (k := Sum.inr f) (ed_var rfl rS5) (ed_var rfl rf) (ed_lst ea0)) (hS f)) (ea1 (ed_var rfl rb5) ea0)) trivial) (ev_var rfl) (ed_var rfl (show Rp (CB K) H5 x (tD (sk s)) from rs.ex (e3.trans (e4.trans e5)))) hd5 (by rw [t4.length]; omega) fun vo H6 e6 ro => ?_
      have e26 := e25.trans e6
      have hd6 := e26 _ _ t3
      have t6' : Tx H6 (upd H6 d (.dT (putK ks (sk s) vo))) := Tx.dt hd6
      refine ⟨⟨_, _, _, _, _, rfl⟩, Ex.mut (t1.trans e26) hd, fun bb o hb hbo => by rw [upd_ne hb]; exact e26 _ _ (t2 bb o hb hbo), _, putD kvs (sk s) (optS (firstW (setsL ls f) b)), upd_same, RK.put (RK.fz t6' t6 (t4.imp fun _ _ r => r.ex e26)) (ro.fz t6' (optS_fz _)), ?_, fun y hy => (putD_mem hy).elim (t6 y) fun e => by rw [e]; exact optS_fz _, fun s2 => ?_⟩
      · have := putD_length (m := kvs) (k := sk s) (d := optS (firstW (setsL ls f) b))
        omega
      · rw [lookD_put, take_item hi]
        by_cases es : s2 = s
        · subst es
          rw [if_pos rfl, if_pos (by simp), hg]
          rfl
        · rw [if_neg (fun z => es (sk_inj z)), t7 s2]
          congr 1
          by_cases hm : s2 ∈ (spotsOf ls).take i
          · rw [if_pos hm, if_pos (List.mem_append.mpr (.inl hm))]
          · rw [if_neg hm, if_neg (by simp [hm, es])]
    · refine ql_if (b := false) (et_is (et_cmp (ed_op (ed_var rfl rw3) ed_str o_eqs)) ?_) (fun z => nomatch z) fun _ H4 e4 => ?_
      · cases c <;> first | exact absurd ⟨_, _, rfl⟩ hset | kernel_rfl
      · have e24 := e23.trans e4
        have hg : hgOf ls s = none := by
          unfold hgOf
          rw [hsp.at_]
          cases c <;> first | exact absurd ⟨_, _, rfl⟩ hset | rfl
        refine ⟨⟨_, _, _, _, _, rfl⟩, t1.trans e24, fun bb o hb hbo => e24 _ _ (t2 bb o hb hbo), ks, kvs, e24 _ _ t3, t4.imp fun _ _ r => r.ex e24, by omega, t6, fun s2 => ?_⟩
        rw [t7 s2, take_item hi]
        congr 1
        by_cases es : s2 = s
        · subst es
          rw [hg]
          split <;> split <;> rfl
        · by_cases hm : s2 ∈ (spotsOf ls).take i
          · rw [if_pos hm, if_pos (List.mem_append.mpr (.inl hm))]
          · rw [if_neg hm, if_neg (by simp [hm, es])]
  · rintro σ' H' ⟨⟨u3, u4, u5, u6, u7, rfl⟩, t1, t2, ks, kvs, t3, t4, t5, t6, t7⟩
    refine ⟨_, rfl, q _ (.ref d) H' ⟨kvs, rfl, fun s => ?_⟩ (e0.trans t1) ⟨d, ks, rfl, t3, rpT_iff.mpr t4⟩ fun _ b eb => by
      cases eb
      exact fresh_back e0 hd⟩
    rw [t7 s, List.take_length]
    congr 1
    by_cases hm : s ∈ spotsOf ls
    · rw [if_pos hm]
    · rw [if_neg hm]
      unfold hgOf cmdAt
      cases h1 : ls[s.1]? with
      | none => rfl
      | some row =>
        cases h2 : row[s.2]? with
        | none => simp [h2]
        | some c => exact absurd (spots_of ⟨h1, h2⟩) hm
end
end Fl
set_option maxHeartbeats 2000000
namespace Fl
abbrev gt (a : List Nat) (l : Nat) : Nat := a[l]?.getD 0
def upM (a b : List Nat) : List Nat := (a.zip b).map fun p => max p.1 p.2
def upE (a b : List Nat) (e : Nat × Nat) : List Nat := (upM a b).set e.1 (max (gt (upM a b) e.1) (e.2 + 1))
theorem upM_len {a b : List Nat} (h : a.length = b.length) : (upM a b).length = a.length := by
  unfold upM
  rw [List.length_map, List.length_zip, h, Nat.min_self]
theorem upE_len {a b : List Nat} {e : Nat × Nat} (h : a.length = b.length) : (upE a b e).length = a.length := by
  unfold upE
  rw [List.length_set, upM_len h]
theorem upM_get : ∀ {a b : List Nat}, a.length = b.length → ∀ l, gt (upM a b) l = max (gt a l) (gt b l)
  | [], [], _, l => by simp [upM, gt]
  | x :: a, y :: b, h, 0 => by simp [upM, gt]
  | x :: a, y :: b, h, l + 1 => by
    have := upM_get (a := a) (b := b) (by simpa using h) l
    simpa [upM, gt] using this
theorem upE_get {a b : List Nat} {e : Nat × Nat} (h : a.length = b.length) (he : e.1 < a.length) (l : Nat) : gt (upE a b e) l = max (max (gt a l) (gt b l)) (if l = e.1 then e.2 + 1 else 0) := by
  unfold upE
  by_cases q : l = e.1
  · subst q
    rw [if_pos rfl, ← upM_get h]
    show ((upM a b).set e.1 _)[e.1]?.getD 0 = _
    rw [List.getElem?_set_self (by rw [upM_len h]; exact he)]
    rfl
  · rw [if_neg q, ← upM_get h]
    show ((upM a b).set e.1 _)[l]?.getD 0 = _
    rw [List.getElem?_set_ne (fun z => q z.symm)]
    show gt (upM a b) l = _
    omega
theorem sum_le : ∀ {a b : List Nat}, a.length = b.length → (∀ l, gt a l ≤ gt b l) → a.sum ≤ b.sum ∧ (a ≠ b → a.sum < b.sum)
  | [], [], _, _ => ⟨Nat.le_refl _, fun h => absurd rfl h⟩
  | x :: a, y :: b, h, p => by
    obtain ⟨h1, h2⟩ := sum_le (a := a) (b := b) (by simpa using h) fun l => by simpa [gt] using p (l + 1)
    have h0 : x ≤ y := by simpa [gt] using p 0
    rw [List.sum_cons, List.sum_cons]
    refine ⟨by omega, fun ne => ?_⟩
    by_cases q : a = b
    · subst q
      have : x ≠ y := fun z => ne (by rw [z])
      omega
    · have := h2 q
      omega
theorem ext_gt : ∀ {a b : List Nat}, a.length = b.length → (∀ l, gt a l = gt b l) → a = b
  | [], [], _, _ => rfl
  | x :: a, y :: b, h, p => by
    have h0 : x = y := by simpa [gt] using p 0
    rw [h0, ext_gt (a := a) (b := b) (by simpa using h) fun l => by simpa [gt] using p (l + 1)]
abbrev Tm := Nat × Nat → List Nat
def putT (t : Tm) (s : Nat × Nat) (a : List Nat) : Tm := fun x => if x = s then a else t x
section
variable {S : List (Nat × Nat)} {el : Nat × Nat → List (Nat × Nat)} {n : Nat}
def ShapeT (S : List (Nat × Nat)) (n : Nat) (t : Tm) : Prop := ∀ s ∈ S, (t s).length = n
def ClosedT (S : List (Nat × Nat)) (el : Nat × Nat → List (Nat × Nat)) (t : Tm) : Prop := ∀ s ∈ S, ∀ e ∈ el s, upE (t s) (t e) e = t s
def LeT (S : List (Nat × Nat)) (t u : Tm) : Prop := ∀ s ∈ S, ∀ l, gt (t s) l ≤ gt (u s) l
def LowT (S : List (Nat × Nat)) (el : Nat × Nat → List (Nat × Nat)) (n : Nat) (t : Tm) : Prop := ShapeT S n t ∧ ∀ u, ShapeT S n u → ClosedT S el u → LeT S t u
def ElIn (S : List (Nat × Nat)) (el : Nat × Nat → List (Nat × Nat)) (n : Nat) : Prop := ∀ s ∈ S, ∀ e ∈ el s, e ∈ S ∧ e.1 < n
theorem LowT.step {t : Tm} {s e : Nat × Nat} (hE : ElIn S el n) (h : LowT S el n t) (hs : s ∈ S) (he : e ∈ el s) : LowT S el n (putT t s (upE (t s) (t e) e)) := by
  obtain ⟨h1, h2⟩ := h
  obtain ⟨he1, he2⟩ := hE s hs e he
  have hl : (t s).length = (t e).length := (h1 s hs).trans (h1 e he1).symm
  refine ⟨fun x hx => ?_, fun u hu hc x hx l => ?_⟩
  · unfold putT
    split
    · rw [upE_len hl, h1 s hs]
    · exact h1 x hx
  · unfold putT
    split
    · rename_i q
      subst q
      have k := hc x hs e he
      have hlu : (u x).length = (u e).length := (hu x hs).trans (hu e he1).symm
      rw [← k, upE_get hl (by rw [h1 x hs]; exact he2), upE_get hlu (by rw [hu x hs]; exact he2)]
      have a1 := h2 u hu hc x hs l
      have a2 := h2 u hu hc e he1 l
      omega
    · exact h2 u hu hc x hx l
def restT (S : List (Nat × Nat)) (top : List Nat) (t : Tm) : Nat := (S.map fun s => top.sum - (t s).sum).sum
theorem rest_lt {top : List Nat} {t : Tm} {s : Nat × Nat} {a : List Nat} (ha : (t s).sum < a.sum) (hb : a.sum ≤ top.sum) : ∀ {S : List (Nat × Nat)}, restT S top (putT t s a) ≤ restT S top t ∧ (s ∈ S → restT S top (putT t s a) < restT S top t)
  | [] => ⟨Nat.le_refl _, fun h => nomatch h⟩
  | x :: S => by
    obtain ⟨h1, h2⟩ := rest_lt ha hb (S := S) (top := top)
    unfold restT at h1 h2 ⊢
    rw [List.map_cons, List.map_cons, List.sum_cons, List.sum_cons]
    by_cases q : x = s
    · subst q
      have : putT t x a x = a := if_pos rfl
      rw [this]
      exact ⟨by omega, fun _ => by omega⟩
    · have : putT t s a x = t x := if_neg q
      rw [this]
      refine ⟨by omega, fun hm => ?_⟩
      have := h2 ((List.mem_cons.mp hm).resolve_left fun z => q z.symm)
      omega
theorem LowT.grow {t : Tm} {s e : Nat × Nat} {top : List Nat} (hE : ElIn S el n) (h : LowT S el n t) (hs : s ∈ S) (he : e ∈ el s) (ht : top.length = n) (hc : ClosedT S el fun _ => top) (ne : upE (t s) (t e) e ≠ t s) : restT S top (putT t s (upE (t s) (t e) e)) < restT S top t := by
  have hst := h.step hE hs he
  obtain ⟨h1, h2⟩ := h
  obtain ⟨he1, he2⟩ := hE s hs e he
  have hl : (t s).length = (t e).length := (h1 s hs).trans (h1 e he1).symm
  have q : putT t s (upE (t s) (t e) e) s = upE (t s) (t e) e := if_pos rfl
  refine (rest_lt ((sum_le (upE_len hl).symm fun l => ?_).2 fun z => ne z.symm) ((sum_le ?_ fun l => ?_).1)).2 hs
  · rw [upE_get hl (by rw [h1 s hs]; exact he2)]
    omega
  · rw [upE_len hl, h1 s hs, ht]
  · have := hst.2 (fun _ => top) (fun _ _ => ht) hc s hs l
    rw [q] at this
    exact this
end
end Fl
namespace Fl
open PySem L2 Evl
theorem fold_in {ls : List (List Cmd)} {f : Str} {S : List (Nat × Nat)} : ∀ {xs : List (Nat × Nat)} {acc : List (Int × (Nat × Nat))}, (∀ p ∈ acc, p.2 ∈ S) → (∀ s ∈ xs, s ∈ S) → ∀ p ∈ xs.foldl (stepOf ls f) acc, p.2 ∈ S
  | [], acc, ha, _ => ha
  | s :: xs, acc, ha, hx => by
    rw [List.foldl_cons]
    refine fold_in (fun p hp => ?_) fun t ht => hx t (List.mem_cons_of_mem _ ht)
    unfold stepOf at hp
    split at hp
    · split at hp
      · rcases List.mem_append.mp hp with h | h
        · exact ha p h
        · rw [List.mem_singleton.mp h]
          exact hx s List.mem_cons_self
      · exact ha p hp
    · exact ha p hp
theorem hg_in {ls : List (List Cmd)} {s e : Nat × Nat} (h : hgOf ls s = some e) : e ∈ spotsOf ls := by
  unfold hgOf at h
  split at h
  · unfold firstW at h
    obtain ⟨p, hp, rfl⟩ := Option.map_eq_some_iff.mp h
    exact fold_in (acc := []) (fun p hp => nomatch hp) (fun s hs => hs) p (List.mem_of_find?_eq_some hp)
  · cases h
theorem spot_lt {ls : List (List Cmd)} {s : Nat × Nat} (h : s ∈ spotsOf ls) : s.1 < ls.length ∧ s.2 + 1 ≤ gt (ls.map List.length) s.1 := by
  obtain ⟨row, c, hs⟩ := mem_spots h
  have h1 := hs.atR
  have h2 := hs.l2
  refine ⟨(List.getElem?_eq_some_iff.mp h1).1, ?_⟩
  show _ ≤ (ls.map List.length)[s.1]?.getD 0
  rw [List.getElem?_map, h1]
  exact h2
theorem spot_prev {ls : List (List Cmd)} {s e : Nat × Nat} (h : s ∈ spotsOf ls) (he : e ∈ prevS s) : e ∈ spotsOf ls := by
  obtain ⟨row, c, hs⟩ := mem_spots h
  have h1 := hs.atR
  have h2 := hs.l2
  unfold prevS at he
  split at he
  · rw [List.mem_singleton.mp he]
    unfold spotsOf
    refine List.mem_flatMap.mpr ⟨(row, s.1), ?_, List.mem_map.mpr ⟨s.2 - 1, List.mem_range.mpr (by show s.2 - 1 < row.length; omega), rfl⟩⟩
    refine List.mem_of_getElem? (i := s.1) ?_
    rw [List.getElem?_zipIdx, h1]
    simp
  · cases he
abbrev elL (ls : List (List Cmd)) : Nat × Nat → List (Nat × Nat) := eldersL (hgOf ls)
theorem el_in {ls : List (List Cmd)} : ElIn (spotsOf ls) (elL ls) ls.length := fun s hs e he => by
  have : e ∈ spotsOf ls := by
    rcases List.mem_append.mp he with h | h
    · exact spot_prev hs h
    · refine hg_in (s := s) ?_
      cases q : hgOf ls s with
      | none => rw [q] at h; cases h
      | some x =>
        rw [q] at h
        rw [List.mem_singleton.mp (show e ∈ [x] from h)]
  exact ⟨this, (spot_lt this).1⟩
theorem top_closed {ls : List (List Cmd)} : ClosedT (spotsOf ls) (elL ls) fun _ => ls.map List.length := fun s hs e he => by
  obtain ⟨h1, h2⟩ := el_in s hs e he
  refine ext_gt (upE_len rfl) fun l => ?_
  rw [upE_get rfl (by rw [List.length_map]; exact h2)]
  have := (spot_lt h1).2
  show max (max (gt (ls.map List.length) l) (gt (ls.map List.length) l)) _ = gt (ls.map List.length) l
  split
  · rename_i q
    subst q
    omega
  · omega
theorem low_zero {ls : List (List Cmd)} : LowT (spotsOf ls) (elL ls) ls.length fun _ => List.replicate ls.length 0 := ⟨fun _ _ => List.length_replicate, fun u _ _ s _ l => by
  have : gt (List.replicate ls.length 0) l = 0 := by
    unfold gt
    rw [List.getElem?_replicate]
    split <;> rfl
  rw [this]
  exact Nat.zero_le _⟩
def tabD (ls : List (List Cmd)) (t : Tm) : List (List Key × D) := (spotsOf ls).map fun s => (sk s, D.lst ((t s).map fun n => D.int (n : Nat)))
theorem putD_map {ls : List (List Cmd)} {t : Tm} {s : Nat × Nat} {a : List Nat} (hs : s ∈ spotsOf ls) : putD (tabD ls t) (sk s) (.lst (a.map fun n => D.int (n : Nat))) = tabD ls (putT t s a) := by
  unfold putD tabD
  have h : (((spotsOf ls).map fun s => (sk s, D.lst ((t s).map fun n => D.int (n : Nat)))).any fun kv => decide (kv.1 = sk s)) = true := by
    refine List.any_eq_true.mpr ⟨_, List.mem_map.mpr ⟨s, hs, rfl⟩, ?_⟩
    simp
  rw [if_pos h, List.map_map]
  refine List.map_congr_left fun x _ => ?_
  show (if sk x = sk s then _ else _) = _
  unfold putT
  by_cases q : x = s
  · subst q
    rw [if_pos rfl, if_pos rfl]
  · rw [if_neg (fun z => q (sk_inj z)), if_neg q]
theorem tab_look {t : Tm} : ∀ {S : List (Nat × Nat)} {s : Nat × Nat}, s ∈ S → lookD (S.map fun s => (sk s, D.lst ((t s).map fun n => D.int (n : Nat)))) (sk s) = some (.lst ((t s).map fun n => D.int (n : Nat)))
  | [], _, h => nomatch h
  | x :: S, s, h => by
    rw [List.map_cons]
    unfold lookD
    by_cases q : x = s
    · subst q
      simp
    · have ne : ¬ sk x = sk s := fun z => q (sk_inj z)
      have := tab_look (t := t) ((List.mem_cons.mp h).resolve_left fun z => q z.symm)
      unfold lookD at this
      simpa [ne] using this
end Fl
set_option maxHeartbeats 2000000
namespace Fl
inductive Rch (ls : List (List Cmd)) (a : Nat × Nat) : Nat × Nat → Prop
  | one {s : Nat × Nat} (h : a ∈ elL ls s) : Rch ls a s
  | more {e s : Nat × Nat} (h : Rch ls a e) (g : e ∈ elL ls s) : Rch ls a s
theorem Rch.trans {ls : List (List Cmd)} {a b s : Nat × Nat} (h : Rch ls a b) (g : Rch ls b s) : Rch ls a s := by
  induction g with
  | one q => exact .more h q
  | more _ q ih => exact .more ih q
theorem Rch.prev {ls : List (List Cmd)} {l n : Nat} : ∀ {k : Nat}, n < k → Rch ls (l, n) (l, k)
  | 0, h => absurd h (Nat.not_lt_zero _)
  | k + 1, h => by
    have hm : (l, k) ∈ elL ls (l, k + 1) := by
      refine List.mem_append.mpr (.inl ?_)
      unfold prevS
      rw [if_pos (Nat.succ_pos k)]
      exact List.mem_singleton.mpr rfl
    by_cases q : n = k
    · subst q
      exact .one hm
    · exact .more (Rch.prev (k := k) (by omega)) hm
noncomputable def rchB (ls : List (List Cmd)) (a s : Nat × Nat) : Bool := @decide (Rch ls a s) (Classical.propDecidable _)
theorem rchB_iff {ls : List (List Cmd)} {a s : Nat × Nat} : rchB ls a s = true ↔ Rch ls a s := @decide_eq_true_iff _ (Classical.propDecidable _)
def cntP (p : Nat → Bool) : Nat → Nat
  | 0 => 0
  | m + 1 => if p m = true then m + 1 else cntP p m
theorem cntP_le {p : Nat → Bool} : ∀ {m : Nat}, cntP p m ≤ m
  | 0 => Nat.le_refl _
  | m + 1 => by
    unfold cntP
    split
    · exact Nat.le_refl _
    · exact Nat.le_succ_of_le cntP_le
theorem cntP_lt {p : Nat → Bool} {n : Nat} : ∀ {m : Nat}, n < cntP p m → ∃ k, n ≤ k ∧ k < m ∧ p k = true
  | 0, h => absurd h (Nat.not_lt_zero _)
  | m + 1, h => by
    unfold cntP at h
    split at h
    · rename_i q
      exact ⟨m, by omega, Nat.lt_succ_self m, q⟩
    · obtain ⟨k, h1, h2, h3⟩ := cntP_lt h
      exact ⟨k, h1, by omega, h3⟩
theorem lt_cntP {p : Nat → Bool} {k : Nat} (hp : p k = true) : ∀ {m : Nat}, k < m → k < cntP p m
  | 0, h => absurd h (Nat.not_lt_zero _)
  | m + 1, h => by
    unfold cntP
    split
    · exact h
    · rename_i q
      refine lt_cntP hp ?_
      have : k ≠ m := fun e => q (e ▸ hp)
      omega
noncomputable def rchT (ls : List (List Cmd)) : Tm := fun s => (List.range ls.length).map fun l => cntP (fun n => rchB ls (l, n) s) (gt (ls.map List.length) l)
theorem rchT_get {ls : List (List Cmd)} {s : Nat × Nat} {l : Nat} (h : l < ls.length) : gt (rchT ls s) l = cntP (fun n => rchB ls (l, n) s) (gt (ls.map List.length) l) := by
  unfold gt rchT
  rw [List.getElem?_map, List.getElem?_range h]
  rfl
theorem rchT_off {ls : List (List Cmd)} {s : Nat × Nat} {l : Nat} (h : ¬ l < ls.length) : gt (rchT ls s) l = 0 := by
  unfold gt rchT
  rw [List.getElem?_eq_none (by rw [List.length_map, List.length_range]; omega)]
  rfl
theorem rchT_shape {ls : List (List Cmd)} : ShapeT (spotsOf ls) ls.length (rchT ls) := fun s _ => by
  unfold rchT
  rw [List.length_map, List.length_range]
theorem rchT_closed {ls : List (List Cmd)} : ClosedT (spotsOf ls) (elL ls) (rchT ls) := fun s hs e he => by
  obtain ⟨h1, h2⟩ := el_in s hs e he
  have hl : (rchT ls s).length = (rchT ls e).length := (rchT_shape s hs).trans (rchT_shape e h1).symm
  have he1 : e.1 < (rchT ls s).length := by rw [rchT_shape s hs]; exact h2
  refine ext_gt (upE_len hl) fun l => ?_
  rw [upE_get hl he1]
  by_cases hlt : l < ls.length
  · rw [rchT_get hlt, rchT_get hlt]
    have hmono : cntP (fun n => rchB ls (l, n) e) (gt (ls.map List.length) l) ≤ cntP (fun n => rchB ls (l, n) s) (gt (ls.map List.length) l) := by
      refine Nat.le_of_not_lt fun hc => ?_
      obtain ⟨k, k1, k2, k3⟩ := cntP_lt hc
      have := lt_cntP (p := fun n => rchB ls (l, n) s) (rchB_iff.mpr (.more (rchB_iff.mp k3) he)) k2
      omega
    have hone : l = e.1 → e.2 + 1 ≤ cntP (fun n => rchB ls (l, n) s) (gt (ls.map List.length) l) := fun q => by
      subst q
      have h3 := (spot_lt h1).2
      exact lt_cntP (p := fun n => rchB ls (e.1, n) s) (k := e.2) (rchB_iff.mpr (.one he)) (by omega)
    split
    · rename_i q
      have := hone q
      omega
    · omega
  · rw [rchT_off hlt, rchT_off hlt, if_neg (fun q : l = e.1 => hlt (by rw [q]; exact h2))]
    rfl
def ClkT (ls : List (List Cmd)) (t : Tm) : Prop := LowT (spotsOf ls) (elL ls) ls.length t ∧ ClosedT (spotsOf ls) (elL ls) t
theorem clk_of {ls : List (List Cmd)} {t : Tm} (h : ClkT ls t) {a s : Nat × Nat} (r : Rch ls a s) : s ∈ spotsOf ls → a.2 < gt (t s) a.1 := by
  have step : ∀ {e s : Nat × Nat}, s ∈ spotsOf ls → e ∈ elL ls s → ∀ l, gt (t s) l = max (max (gt (t s) l) (gt (t e) l)) (if l = e.1 then e.2 + 1 else 0) := fun {e s} hs he l => by
    obtain ⟨h1, h2⟩ := el_in s hs e he
    rw [← upE_get ((h.1.1 s hs).trans (h.1.1 e h1).symm) (by rw [h.1.1 s hs]; exact h2), h.2 s hs e he]
  induction r with
  | one q =>
    intro hs
    have := step hs q a.1
    rw [if_pos rfl] at this
    omega
  | more _ q ih =>
    intro hs
    have h1 := ih (el_in _ hs _ q).1
    have := step hs q a.1
    omega
theorem clk_iff {ls : List (List Cmd)} {t : Tm} (h : ClkT ls t) {a s : Nat × Nat} (ha : a ∈ spotsOf ls) (hs : s ∈ spotsOf ls) : decide (a.2 < gt (t s) a.1) = rchB ls a s := by
  rw [Bool.eq_iff_iff, decide_eq_true_iff, rchB_iff]
  constructor
  · intro hlt
    have h1 := h.1.2 (rchT ls) rchT_shape rchT_closed s hs a.1
    rw [rchT_get (spot_lt ha).1] at h1
    obtain ⟨k, k1, _, k3⟩ := cntP_lt (Nat.lt_of_lt_of_le hlt h1)
    have k3 := rchB_iff.mp k3
    by_cases q : a.2 = k
    · subst q
      exact k3
    · exact (Rch.prev (l := a.1) (n := a.2) (k := k) (by omega)).trans k3
  · exact fun r => clk_of h r hs
end Fl
set_option maxHeartbeats 4000000
namespace Fl
open PySem PySem.Spec PyProof.Rows L2 Evl
theorem d_dictSetT {X : Cx} {pins : List (Addr × Obj)} {σ : L2.St} {H : Hp} {s : Shared} {E : Value → Shared → Prop} {D b : Addr} {kvs : List (List Key × V)} {k : List Key} {v : V} {u r : Value} {Q : Unit → Shared → Prop} (hu : X.A.units + 1 < cLine) (I : Inv X pins σ H s) (hD : H D = some (.dT kvs))
    (eb : H b = some (.tup (k.map kV))) (hz : kvs.length < sizeLine) (ry : RelV (.ref b) u) (rv : RelV v r) (h : ∀ s', Inv X pins σ (upd H D (.dT (putK kvs k v))) s' → Q () s') : wpAny (model X.prog X.w) X.A (dictSet D u r) Q E s := by
  cases (show u = Value.ref b from ry)
  obtain ⟨z, hd, xs, rel, dd⟩ := dt_of I.hok hD
  have hzx : xs.length ≤ sizeLine := by rw [← Paired.length rel]; exact z
  have hl : (putK kvs k v).length ≤ sizeLine := by have := length_putK kvs k v; omega
  refine wpAny_dictSet_heap (hsz := hzx) (knd := tupleKind (mixKind X.prog X.w)) (show X.A.units < cLine by omega) (key_of I.hok eb) dd (fun h' dd' hs => h _ ?_)
  obtain ⟨q, es, ep, hq, h2, h3, h4, _, h5⟩ := dd'
  refine d_write I (by rw [hD]; exact True.intro) hs ⟨q, hq⟩ ⟨hl, hd, _, (rel.put k eb rv).keeps fun c ys ec => ?_, q, es, ep, hq, h2, h3, h4, h5⟩
  rw [upd_ne (ne_of ec hD (fun z => nomatch z))]
  exact ec
section
variable {X : Cx}
def tDct (wi : TI) (g : TG) (tt : TT) (tk tv : TE) (vs : List Nat) : TE := fun σ H Q => wi σ H fun J H1 => ∀ D, H1 D = none → ∃ W : Nat → Nat → Hp → Prop, (∃ m, W 0 m (upd H1 D (.dT []))) ∧ ∀ i m H, W i m H →
  (J.stop i H ∧ Q (.ref D) H) ∨ (J.go i H ∧ ∃ Nx : Hp → Prop, (∀ H', Nx H' → ∃ m', m' < m ∧ W (i + 1) m' H') ∧ ∀ x H', J.yld i H x H' → g x (wipe σ vs) H' fun σ2 H2 => wipe σ2 vs = wipe σ vs ∧ tt σ2 H2 fun b H3 =>
    if b = true then tk σ2 H3 fun y H4 => tv σ2 H4 fun z H5 => ∃ kvs k b, y = .ref b ∧ H5 b = some (.tup (k.map kV)) ∧ H5 D = some (.dT kvs) ∧ kvs.length < sizeLine ∧ Nx (upd H5 D (.dT (putK kvs k z))) else Nx H3)
theorem dct_core {pins : List (Addr × Obj)} {s : Shared} {σ : L2.St} {H : Hp} {Q : VK} {kx vx tg iter : Expr} {ifs : List Expr} {scope : Scope} {own : List (Str × Nat)} {pos pos' : Pos} {wi : TI} {g : TG} {tt : TT} {tk tv : TE} {use : Option (Value → Sem Unit)} {Qf : Value → Shared → Prop}
    (hc : X.calm = true) (hu : X.A.units + 1 < cLine) (hN : X.N.Nodup) (I : Inv X pins σ H s) (hi : PI X tg iter wi) (ok : BlkOk X.N X.env.scope scope own)
    (hg : ∀ (s : Shared) (H : Hp) (C : Addr) (cl : List (Str × Addr)) (fp : List Addr), PG (X.blk s H scope (compEnvC scope cl C X.env) fp) tg g) (ht : ∀ (s : Shared) (H : Hp) (C : Addr) (cl : List (Str × Addr)) (fp : List Addr), PTs (X.blk s H scope (compEnvC scope cl C X.env) fp) ifs tt)
    (hk : ∀ (s : Shared) (H : Hp) (C : Addr) (cl : List (Str × Addr)) (fp : List Addr), PE (X.blk s H scope (compEnvC scope cl C X.env) fp) kx tk)
    (he : ∀ (s : Shared) (H : Hp) (C : Addr) (cl : List (Str × Addr)) (fp : List Addr), PE (X.blk s H scope (compEnvC scope cl C X.env) fp) vx tv) (hs : ∀ x, foldedSetIterable iter X.env x = pure x)
    (h : tDct wi g tt tk tv (own.map (·.2)) σ H Q)
    (hRR : ∀ D C s' m H', Inv X pins σ H' s' → Q (.ref D) H' → s'.heap.Ns C m → FpOk X pins H' C → compPost (model X.prog X.w) X.A X.xe use Qf (.ref D) C (.ok .next) s') :
    wpAny (model X.prog X.w) X.A (comprehension (.DictComp kx vx [⟨tg, iter, ifs, 0⟩] scope pos) scope X.env pos' newDict false (eval iter X.env) use) Qf X.xe s := by
  have hfree : ∀ y ∈ scope.names, y.2 = .free → ∃ c, X.env.cells.lookup y.1 = some c := fun y hy e => by
    rcases ok.free y hy e with k | k
    · exact I.ok.has _ (.inl k)
    · exact I.ok.has _ (.inr k)
  refine wpAny_comprehension_free (use := use) rfl hs (closure_ok hfree) ok.kind (fun y hy e => by rw [ok.uniq y hy, e])
    (thn (hi.run pins s σ H _ I h) fun xv s1 hx => thn hx fun itv s2 h2 => ?_)
  obtain ⟨it, fp, tn, J, H2, e, I2, T, st2, f2, q⟩ := h2
  subst e
  refine wpAny_newObj_type (newEnv_comp ?_)
  generalize hD : s2.heap.objs.size = D
  have hDn : H2 D = none := I2.hok.fresh (Nat.le_of_eq hD)
  obtain ⟨W, ⟨m0, w0⟩, turn⟩ := q D hDn
  generalize hs3 : ({ s2 with heap := s2.heap.push { cls := .type "dict", data := .dict #[] } } : Shared) = s3
  have I3 : Inv X pins σ (upd H2 D (.dT [])) s3 := by
    rw [← hs3]
    refine I2.laid (t' := s2.toks) (fun b o e => Heap.get?_push_of_some _ e) (Nat.le_of_eq hD) ?_
    rw [← hD]
    exact dt_empty s2.heap I2.big
  have h3 : s3.heap = s2.heap.push { cls := .type "dict", data := .dict #[] } := by rw [← hs3]
  have sz : ∀ b ∈ fp, b < s2.heap.objs.size := fun b hb => by
    obtain ⟨o, e, _⟩ := T.obj _ _ st2 b hb
    exact Heap.lt_size e
  have f3 : ∀ b ∈ fp, FpOk X pins (upd H2 D (.dT [])) b ∧ b < s3.heap.objs.size := fun b hb => by
    have hlt := sz b hb
    refine ⟨⟨?_, (f2 b hb).2⟩, by rw [h3, Heap.size_push]; exact Nat.lt_succ_of_lt hlt⟩
    rw [upd_ne (by rw [← hD]; exact Nat.ne_of_lt hlt)]
    exact (f2 b hb).1
  have st3 : tn 0 s3.heap := T.keep _ _ _ st2 fun b _ o e => by rw [h3]; exact Heap.get?_push_of_some _ e
  have I4 := block_start I3 ok hN f3
  have pg := hg s3 (upd H2 D (.dT [])) s3.heap.objs.size (cellsFrom (s3.heap.objs.size + 1) scope.names (cloFrom X.env.cells scope.names [])) fp
  have pt := ht s3 (upd H2 D (.dT [])) s3.heap.objs.size (cellsFrom (s3.heap.objs.size + 1) scope.names (cloFrom X.env.cells scope.names [])) fp
  have pk := hk s3 (upd H2 D (.dT [])) s3.heap.objs.size (cellsFrom (s3.heap.objs.size + 1) scope.names (cloFrom X.env.cells scope.names [])) fp
  have pe := he s3 (upd H2 D (.dT [])) s3.heap.objs.size (cellsFrom (s3.heap.objs.size + 1) scope.names (cloFrom X.env.cells scope.names [])) fp
  show codeAny _ _ (.compStart (.DictComp kx vx [⟨tg, iter, ifs, 0⟩] scope pos) 0 (.ref it) (.ref D) (compEnvC scope (cellsFrom (s3.heap.objs.size + 1) scope.names (cloFrom X.env.cells scope.names [])) s3.heap.objs.size X.env)) (compPost (model X.prog X.w) X.A X.xe use Qf (.ref D) s3.heap.objs.size) { s3 with heap := pushCells (s3.heap.push { cls := .type "dict", data := .dict #[] }) scope.names }
  have nfp : ∀ b ∈ fp, (upd H2 D (.dT [])) b = none := fun b hb => (f3 b hb).1.1
  generalize hce : compEnvC scope (cellsFrom (s3.heap.objs.size + 1) scope.names (cloFrom X.env.cells scope.names [])) s3.heap.objs.size X.env = ce at I4 pg pt pk pe ⊢
  have cL : ce.locals = s3.heap.objs.size := by subst hce; rfl
  generalize hH3 : upd H2 D (.dT []) = H3 at I3 I4 pg pt pk pe w0 nfp f3
  generalize hs4 : ({ s3 with heap := pushCells (s3.heap.push { cls := .type "dict", data := .dict #[] }) scope.names } : Shared) = s4 at I4 ⊢
  have st4 : tn 0 s4.heap := T.keep _ _ _ st3 fun b _ o e => by rw [← hs4]; exact pushCells_keeps _ _ _ _ (Heap.get?_push_of_some _ e)
  have stat : ∀ {σ' : L2.St} {H' : Hp} {s' : Shared}, Inv (X.blk s3 H3 scope ce fp) [] σ' H' s' → (∀ b ∈ fp, H' b = none) → ∀ b ∈ fp, FpOk (X.blk s3 H3 scope ce fp) [] H' b := fun {σ' H' s'} I' hn b hb =>
    ⟨hn b hb, (I'.ok.exf b hb).1, I'.ok.exfs b hb, .inl hb, fun x c e => (I'.ok.exf b hb).2 x c e, fun p hp => absurd (show p ∈ ([] : List (Addr × Obj)) ++ [] from hp) (by simp)⟩
  have loop : codeAny (model X.prog X.w) X.A (.compLoop (.DictComp kx vx [⟨tg, iter, ifs, 0⟩] scope pos) 0 (.ref it) (.ref D) ce) (compPost (model X.prog X.w) X.A X.xe use Qf (.ref D) s3.heap.objs.size) s4 := by
    refine compLoop_anyD (fun n s' => ∃ i H', Inv (X.blk s3 H3 scope ce fp) [] (wipe σ (own.map (·.2))) H' s' ∧ tn i s'.heap ∧ (∀ b ∈ fp, H' b = none) ∧ W i n H') ?_ m0 ⟨0, H3, I4, st4, nfp, w0⟩
    rintro n s5 ⟨i, H5, I5, st5, n5, w5⟩
    rcases turn i n H5 w5 with ⟨stop, qq⟩ | ⟨go, Nx, hNx, step⟩
    · have td := T.done (X.blk s3 H3 scope ce fp) rfl rfl rfl hc i [] s5 _ H5 (fun _ _ => False) I5 (stat I5 n5) st5 stop
      refine thnF td fun r s6 ⟨hr, I6⟩ => ?_
      subst hr
      have I7 : Inv X pins σ H5 s6 := I3.call' (ch := fp) I6.os I6.base I6.hok I6.bare fun b hb => ⟨(f3 b hb).1.2.2.2.1, (f3 b hb).1.2.1, (f3 b hb).1.2.2.2.2.1, (f3 b hb).1.2.2.2.2.2⟩
      have nC : H5 s3.heap.objs.size = none := by
        have z : H5 ce.locals = none := I6.free
        rw [cL] at z
        exact z
      obtain ⟨m, hn, _⟩ := I6.loc
      have hn : s6.heap.Ns ce.locals m := hn
      rw [cL] at hn
      exact hRR D s3.heap.objs.size s6 m H5 I7 qq hn (I3.fpOk (Nat.le_refl _) nC)
    · have ti := T.item (X.blk s3 H3 scope ce fp) rfl rfl rfl hc i [] s5 _ H5 (fun _ _ => False) I5 (stat I5 n5) st5 go
      refine thnF ti fun r s6 ⟨u, hr, h6⟩ => ?_
      subst hr
      refine thnF h6 fun _ s7 ⟨x, H7, I7, r7, y7, st7, n7⟩ => ?_
      have I7' := I7.pinned (stat I7 n7) (T.obj _ _ st7)
      refine thnF (pg.run _ s7 _ H7 x u _ I7' r7 (step x H7 y7)) fun _ s8 ⟨σ8, H8, I8, hw8, q8⟩ => ?_
      refine thnF (pt.run _ s8 σ8 H8 _ I8 q8) fun b s9 ⟨H9, I9, q9⟩ => ?_
      have fin : ∀ {s' : Shared} {H' : Hp}, Inv (X.blk s3 H3 scope ce fp) ([] ++ pinsAt fp s7.heap) σ8 H' s' → Nx H' → ∃ m, m < n ∧ ∃ i H', Inv (X.blk s3 H3 scope ce fp) [] (wipe σ (own.map (·.2))) H' s' ∧ tn i s'.heap ∧ (∀ b ∈ fp, H' b = none) ∧ W i m H' := fun {s' H'} I' nx => by
        obtain ⟨m', hm, w'⟩ := hNx H' nx
        have pin' : ∀ b ∈ fp, ∀ o, s7.heap.get? b = some o → s'.heap.get? b = some o ∧ H' b = none := fun b hb o e =>
          let z := I'.pin (b, o) (List.mem_append_right _ (List.mem_append_right _ (mem_pinsAt hb e)))
          ⟨z.1, z.2.1⟩
        have hl : (wipe σ (own.map (·.2))).length = σ8.length := by rw [← hw8, wipe_length]
        refine ⟨m', hm, i + 1, H', (I'.unpinned (pins := [])).weak hl (fun j v e => ?_), T.keep _ _ _ st7 fun b hb o e => (pin' b hb o e).1, fun b hb => ?_, w'⟩
        · rw [← hw8] at e
          exact (wipe_some e).1
        · obtain ⟨o, e, _⟩ := T.obj _ _ st7 b hb
          exact (pin' b hb o e).2
      cases b with
      | false =>
        simp only [Bool.false_eq_true, if_false] at q9 ⊢
        exact fin I9 q9
      | true =>
        simp only [if_true] at q9 ⊢
        refine thnF (pk.run _ s9 σ8 H9 _ I9 q9) fun z s10 ⟨yk, H10, I10, r10, q10⟩ => ?_
        refine thnF (pe.run _ s10 σ8 H10 _ I10 q10) fun z2 s11 ⟨yv, H11, I11, r11, kvs, k, bk, ek, hbk, hD11, hz11, nx⟩ => ?_
        subst ek
        exact d_dictSetT hu (X := X.blk s3 H3 scope ce fp) I11 hD11 hbk hz11 r10 r11 fun s12 I12 => fin I12 nx
  exact codeAny_compStart_dict loop (T.self X.A 0 _ _ _ st4 loop)
theorem pe_dct {kx vx tg iter : Expr} {ifs : List Expr} {scope : Scope} {own : List (Str × Nat)} {pos : Pos} {wi : TI} {g : TG} {tt : TT} {tk tv : TE} (hc : X.calm = true) (hu : X.A.units + 1 < cLine) (hN : X.N.Nodup) (hi : PI X tg iter wi) (ok : BlkOk X.N X.env.scope scope own)
    (hg : ∀ (s : Shared) (H : Hp) (C : Addr) (cl : List (Str × Addr)) (fp : List Addr), PG (X.blk s H scope (compEnvC scope cl C X.env) fp) tg g) (ht : ∀ (s : Shared) (H : Hp) (C : Addr) (cl : List (Str × Addr)) (fp : List Addr), PTs (X.blk s H scope (compEnvC scope cl C X.env) fp) ifs tt)
    (hk : ∀ (s : Shared) (H : Hp) (C : Addr) (cl : List (Str × Addr)) (fp : List Addr), PE (X.blk s H scope (compEnvC scope cl C X.env) fp) kx tk)
    (he : ∀ (s : Shared) (H : Hp) (C : Addr) (cl : List (Str × Addr)) (fp : List Addr), PE (X.blk s H scope (compEnvC scope cl C X.env) fp) vx tv) (hs : ∀ x, foldedSetIterable iter X.env x = pure x := by intro _; rfl) :
    PE X (.DictComp kx vx [⟨tg, iter, ifs, 0⟩] scope pos) (tDct wi g tt tk tv (own.map (·.2))) := by
  refine ⟨fun pins s σ H Q I h => ?_⟩
  rw [arm_eval_DictComp]
  refine dct_core hc hu hN I hi ok hg ht hk he hs h fun D C s' m H' I' q hn f => ⟨m, hn, fun h'' sb => ?_⟩
  obtain ⟨f0, f1, f2, f3, f4, f5⟩ := f
  exact ⟨.ref D, H', I'.turned (t' := s'.toks) (fun b o hb e => (sb.2 b hb).trans e) f0 f1 f3 f4 f5, rfl, q⟩
theorem ps_setDct {i : Nat} {y : Str} {py : Pos} {kx vx tg iter : Expr} {ifs : List Expr} {scope : Scope} {own : List (Str × Nat)} {pos spos : Pos} {wi : TI} {g : TG} {tt : TT} {tk tv : TE} (hc : X.calm = true) (hu : X.A.units + 1 < cLine) (hN : X.N.Nodup) (hy : X.N[i]? = some y) (hyl : X.env.scope.names.lookup y = some .local)
    (hsw : swapsWith (.DictComp kx vx [⟨tg, iter, ifs, 0⟩] scope pos) (some (.Name y py)) spos.line X.env = pure true) (hi : PI X tg iter wi) (ok : BlkOk X.N X.env.scope scope own)
    (hg : ∀ (s : Shared) (H : Hp) (C : Addr) (cl : List (Str × Addr)) (fp : List Addr), PG (X.blk s H scope (compEnvC scope cl C X.env) fp) tg g) (ht : ∀ (s : Shared) (H : Hp) (C : Addr) (cl : List (Str × Addr)) (fp : List Addr), PTs (X.blk s H scope (compEnvC scope cl C X.env) fp) ifs tt)
    (hk : ∀ (s : Shared) (H : Hp) (C : Addr) (cl : List (Str × Addr)) (fp : List Addr), PE (X.blk s H scope (compEnvC scope cl C X.env) fp) kx tk) (he : ∀ (s : Shared) (H : Hp) (C : Addr) (cl : List (Str × Addr)) (fp : List Addr), PE (X.blk s H scope (compEnvC scope cl C X.env) fp) vx tv) (hs : ∀ x, foldedSetIterable iter X.env x = pure x := by intro _; rfl) :
    PS X (.Assign [.Name y py] (.DictComp kx vx [⟨tg, iter, ifs, 0⟩] scope pos) spos) (tAsg (tDct wi g tt tk tv (own.map (·.2))) (gName i)) := by
  refine ⟨fun pins s σ H D I h => ?_⟩
  rw [exec_Assign_Name_used _ _ _ _ hsw]
  refine wpAny_bind (wpAny_standAt (wpAny_bind ?_))
  show wpAny _ X.A (do let _ ← comprehension (.DictComp kx vx [⟨tg, iter, ifs, 0⟩] scope pos) scope X.env (firstIterPos [⟨tg, iter, ifs, 0⟩] pos) (newDict) false (eval iter X.env) (some (assign (.Name y py) X.env))) _ _ s
  have h : tDct wi g tt tk tv (own.map (·.2)) σ H (fun x H1 => gName i x σ H1 D.nx) := h
  refine wpAny_bind (thn (dct_core (Qf := fun _ s' => SP X pins D .next s') hc hu hN I hi ok hg ht hk he hs h fun L C s' m H' I' q hn f => ?_) fun _ s' hq => wpAny_pure (wpAny_pure hq))
  show wpAny _ _ (assign (.Name y py) X.env (.ref L)) _ _ _
  refine wpAny_assign_Name (store_ok2 (v := V.ref L) I' hN hy (.inl hyl) rfl (fun s2 I2 ⟨a, sb, ha⟩ => ?_) (.inr hyl))
  obtain ⟨f0, f1, f2, f3, f4, f5⟩ := f
  have haC : C ≠ a := by
    rcases ha with z | z
    · rw [z]; exact f1
    · exact fun e => f4 y a z e.symm
  refine ⟨m, hn.sameBut sb haC, fun h3 sb3 => ?_⟩
  exact ⟨_, H', I2.turned (t' := s2.toks) (fun b o hb e => (sb3.2 b hb).trans e) f0 f1 f3 f4 f5, q⟩
theorem sw_trueD {kx vx : Expr} {gs : List Comprehension} {scope : Scope} {pos py : Pos} {y : Str} {l : Nat} {env : Env} (hk : env.scope.kind = .function) (hy : env.scope.names.lookup y = some .local) (hl : (py.line == pos.line) = true)
    (ha : (scope.names.any fun (n, k) => n == y && (k == .local || k == .cell)) = false) : swapsWith (.DictComp kx vx gs scope pos) (some (.Name y py)) l env = pure true := by
  have ky : env.kindOf y = some .local := hy
  have hb : env.blockKind = .function := by unfold Env.blockKind; rw [hk]; rfl
  unfold swapsWith
  simp only [hb, ky, ha, Expr.pos, hl]
  rfl
end
section
variable {X : Cx} {pins : List (Addr × Obj)} {σ : L2.St} {H : Hp} {s : Shared} {d : Addr} {o : Obj}
theorem frzT2 {kvs : List (List Key × V)} (I : Inv X pins σ H s) (h : H d = some (.frz o (.dT kvs))) :
    (d == sysModules) = false ∧ s.heap.get? d = some o ∧ o.ExactDict ∧ ∃ (es : Array DictEntry) (ep : Nat), o.data = .dict es ep ∧ es.size = kvs.length ∧
      ∀ (i : Nat) (k : List Key) (v : V), kvs[i]? = some (k, v) → ∃ (en : DictEntry) (q : Addr), es[i]? = some en ∧ en.key = .ref q ∧ H q = some (.tup (k.map kV)) ∧ RelV v en.val := by
  obtain ⟨hd, z, hs, xs, pr, o', es, ep, ho, hx, hdt, he, _⟩ := I.hok d _ h
  rw [hd] at ho
  cases ho
  refine ⟨hs, hd, hx, es, ep, hdt, ?_, fun i k v e => ?_⟩
  · have l1 : es.size = xs.length := size_of_entries he
    have l2 : kvs.length = xs.length := Paired.length pr
    omega
  · obtain ⟨b, hb, e1, e2, e3⟩ := paired_get pr e
    have q := entry_at he i
    rw [hb] at q
    exact ⟨_, b.2.1, q, rfl, e2, e3⟩
end
def ItiT (d : Addr) (o : Obj) (kvs : List (List Key × V)) : It :=
  ⟨fun i H => H d = some (.frz o (.dT kvs)) ∧ i < kvs.length, fun i H x H' => ∃ T q k v, kvs[i]? = some (k, v) ∧ H q = some (.tup (k.map kV)) ∧ x = .ref T ∧ H T = none ∧ H' = upd H T (.tup [.ref q, v]), fun i H => H d = some (.frz o (.dT kvs)) ∧ kvs.length ≤ i⟩
section
variable {P : Program} {w : World} {K : PySem.W.Frag} {tg : Expr} {d : Addr} {o : Obj} {es : Array DictEntry} {ep : Nat}
theorem turn_itemsT {kvs : List (List Key × V)} {elts : List Expr} {kk : Nat} {tpos : Pos} (it : Addr) (hod : o.data = .dict es ep) :
    Turn P w K (.Tuple elts kk tpos) (ItiT d o kvs) [it] it (fun i h => ∃ ok ov, IsItemIter h it d i kvs.length ep ok ov) where
  mem := by simp
  obj := fun i h st b hb => by
    have e : b = it := by simpa using hb
    subst e
    obtain ⟨ok, ov, e⟩ := st
    exact ⟨_, e, fun v z => nomatch z⟩
  keep := fun i h h' st k => let ⟨ok, ov, e⟩ := st; ⟨ok, ov, k it (by simp) _ e⟩
  item := by
    intro X hP hw hK hc i pins s σ H E I hf st hg
    subst hP hw hK
    obtain ⟨hd, hi⟩ := hg
    obtain ⟨hs, hgd, hx, es', ep', hdt, hsz, ent⟩ := frzT2 I hd
    obtain ⟨rfl, rfl⟩ := dict_ep hod hdt
    obtain ⟨⟨k, v⟩, hkv⟩ : ∃ p, kvs[i]? = some p := ⟨kvs[i], List.getElem?_eq_getElem hi⟩
    obtain ⟨en, q, hen, hkey, hq, rv⟩ := ent i k v hkv
    obtain ⟨ok, ov, he⟩ := st
    rw [← hsz] at he
    have hlt : it < s.heap.objs.size := Heap.lt_size he
    have hie : i < es'.size := by omega
    have hei : es'[i] = en := by
      have := Array.getElem?_eq_getElem hie
      rw [this] at hen
      exact Option.some.inj hen
    refine DT.nextI he ⟨_, hgd, hx, hdt⟩ hie fun h' ho hT hz hk => ?_
    rw [hei, hkey] at hT
    refine ⟨_, rfl, wpAny_letOwnedTupleGo_items (s := { s with heap := h' }) ho fun h'' he' sb => ?_⟩
    have hT2 : h''.get? s.heap.objs.size = some { cls := .type "tuple", data := .seq #[.ref q, en.val] } := (sb.2 _ (Nat.ne_of_gt hlt)).trans hT
    have new : ObjOk X.prog X.w (upd H s.heap.objs.size (.tup [.ref q, v])) h'' s.heap.objs.size (.tup [.ref q, v]) :=
      ⟨by show 2 ≤ sizeLine; decide, [.ref q, en.val], .cons rfl (.cons rv .nil), ⟨_, hT2, rfl, _, rfl⟩⟩
    have I1 : Inv X pins σ (upd H s.heap.objs.size (.tup [.ref q, v])) { s with heap := h'' } :=
      I.turnedNew (t' := s.toks) (ch := [it]) (fun b ob hb e => (sb.2 b (by simpa using hb)).trans (hk b ob (by simpa using hb) e)) hf (Nat.le_refl _) new
    refine ⟨.ref s.heap.objs.size, _, I1, rfl, ⟨_, q, k, v, hkv, hq, rfl, I.hok.fresh (Nat.le_refl _), rfl⟩, ⟨es'[i].key, es'[i].val, ?_⟩, fun b hb => ?_⟩
    · rw [← hsz]; exact he'
    · have e : b = it := by simpa using hb
      rw [e, upd_ne (Nat.ne_of_lt hlt)]
      exact (hf it (by simp)).1
  done := by
    intro X hP hw hK hc i pins s σ H E I hf st hg
    subst hP hw hK
    obtain ⟨hd, hi⟩ := hg
    obtain ⟨f0, f1, f2, f3, f4, f5⟩ := hf it (by simp)
    obtain ⟨hs, hgd, hx, es', ep', hdt, hsz, ent⟩ := frzT2 I hd
    obtain ⟨rfl, rfl⟩ := dict_ep hod hdt
    obtain ⟨ok, ov, he⟩ := st
    rw [← hsz] at he
    exact DT.endI (I.ok.hd hc) he ⟨_, hgd, hx, hdt⟩ (by omega) fun h' eb => ⟨rfl, I.turned (t' := s.toks) (fun b ob hb e => eb b ob hb e) f0 f1 f3 f4 f5⟩
  self := fun A i s Q E st h => let ⟨_, _, e⟩ := st; PySem.W.kcp_self e h
end
def iItemsT (td : TE) : TI := fun σ H R => td σ H fun x H1 => ∃ d o kvs, x = .ref d ∧ H1 d = some (.frz o (.dT kvs)) ∧ R (ItiT d o kvs) H1
section
variable {X : Cx} {tg e : Expr} {td : TE} {apos cpos : Pos}
theorem pi_itemsT {elts : List Expr} {kk : Nat} {tpos : Pos} (he : PE X e td) (hbase : attributeBase e "items" X.env (eval e X.env) = eval e X.env := by rfl) (hline : (apos.endLine == cpos.line) = true := by rfl) :
    PI X (.Tuple elts kk tpos) (.Call (.Attribute e "items" apos) [] [] cpos) (iItemsT td) := by
  refine ⟨fun pins s σ H R I h => ?_⟩
  refine wpAny_Call_method (T := "dict") (id := "dict.items") hbase rfl hline F.plainAttrs_dict F.slot_dict_items F.type_dict_items (thn (he.run pins s σ H _ I h) fun u s1 ⟨x, H1, I1, rx, d, o, kvs, ex, hd, q⟩ => ?_)
  subst ex
  obtain rfl : u = Value.ref d := rx
  obtain ⟨hs, hgd, hx, es, ep, hdt, hsz, ent⟩ := frzT2 I1 hd
  have hm : DT.Raw s1.heap d es ep := ⟨_, hgd, hx, hdt⟩
  refine ⟨hm.typeIs, fun a ea => by cases ea; exact ⟨o, hgd, hx.2.1⟩, ?_⟩
  have I2 : Inv X pins σ H1 { s1 with heap := s1.heap.push { cls := .type "dict_items", data := .fields #[.ref d] } } := I1.kept (t' := s1.toks) fun b ob q => Heap.get?_push_of_some _ q
  have fin : wpAny (model X.prog X.w) X.A (pyIter (.ref s1.heap.objs.size)) (PIE X pins σ (.Tuple elts kk tpos) R) X.xe { s1 with heap := s1.heap.push { cls := .type "dict_items", data := .fields #[.ref d] } } := by
    refine DT.iterI (d := d) ⟨_, Heap.get?_push_size _ rfl, rfl, rfl⟩ (hm.push _) (pi_one (tk := s1.toks) I2 _ (turn_itemsT _ hdt) ⟨.none, .none, ?_⟩ q)
    rw [← hsz]
    exact Heap.get?_push_size _ rfl
  show wpAny _ _ (callWith cpos (.builtin "dict.items") [.ref d] [] []) _ X.xe s1
  exact method_meetsIn F.slot_dict_items F.entry_dict_items rfl (PySem.evalArgs_none ⟨rfl, hm.typeIs, F.args_dict_items_1 _, _, DT.meetsItems (es := es) (ep := ep) hs, hm, fin⟩)
end
end Fl
set_option maxHeartbeats 2000000
namespace Fl
open PySem PySem.Spec PyProof.Rows L2 Evl
def StD (C : Addr) (x : D) : Prop := ∀ (H : Hp) (v : V) (d : Addr) (u : HO), (∀ xs, H d ≠ some (.lst xs)) → (∀ xs, H d ≠ some (.tup xs)) → Rp C H v x → Rp C (upd H d u) v x
theorem StD.fz {C : Addr} {x : D} (h : x.fz = true) : StD C x := fun H v d u _ ht r => r.fz (Tx.put ht) h
theorem StD.lst {C : Addr} {ds : List D} (h : fzL ds = true) : StD C (.lst ds) := fun H v d u hl ht r => by
  obtain ⟨a, vs, e1, e2, e3⟩ := r
  exact ⟨a, vs, e1, by rw [upd_ne (fun z => by subst z; exact hl _ e2)]; exact e2, RpL.fz (Tx.put ht) h e3⟩
theorem rk_st {κ : Type} {C : Addr} {H : Hp} {d : Addr} {u : HO} {ks : List (κ × V)} {kvs : List (κ × D)} [DecidableEq κ] (hl : ∀ xs, H d ≠ some (.lst xs)) (ht : ∀ xs, H d ≠ some (.tup xs)) (hz : ∀ p ∈ kvs, StD C p.2) (h : RK (Rp C H) ks kvs) : RK (Rp C (upd H d u)) ks kvs :=
  h.impM fun v x ⟨k, hk⟩ r => hz _ hk H v d u hl ht r
theorem dcD_st {α κ : Type} [DecidableEq κ] {C : Addr} {kf : α → κ} {f : α → D} : ∀ {xs : List α} {m : List (κ × D)}, (∀ p ∈ m, StD C p.2) → (∀ a ∈ xs, StD C (f a)) → ∀ p ∈ xs.foldl (fun m a => putD m (kf a) (f a)) m, StD C p.2
  | [], m, hm, _ => hm
  | a :: xs, m, hm, hf => by
    rw [List.foldl_cons]
    exact dcD_st (fun p hp => (putD_mem hp).elim (hm p) fun e => by rw [e]; exact hf a List.mem_cons_self) fun b hb => hf b (List.mem_cons_of_mem _ hb)
section
variable {P : Program} {w : World} {K : PySem.W.Frag} {C : Addr} {σ : L2.St} {H : Hp} {td te to : TE} {E : Ends} {tz : TS}
theorem ev_dct {α : Type} {wi : TI} {g : TG} {tk tv : TE} {vs : List Nat} {B : Hp → Addr → Prop} {xs : List α} {F : α → D} (kf : α → List Key) (f : α → D) (h : EvI C wi σ H (xs.map F) B) (hl : xs.length ≤ 10000) (hz : ∀ a ∈ xs, StD C (f a))
    (hs : ∀ (a : α) (x : V) (H1 : Hp), a ∈ xs → Ex H H1 → Rp C H1 x (F a) → ∀ k : L2.St → Hp → Prop, (∀ σ2, wipe σ2 vs = wipe σ vs → Ed C tk σ2 H1 (tD (kf a)) → Ed C tv σ2 H1 (f a) → k σ2 H1) → g x (wipe σ vs) H1 k) :
    EvP (tDct wi g tYes tk tv vs) σ H fun v H2 => Rp C H2 v (.dt (dcD xs kf f)) ∧ Nw H v (.dt (dcD xs kf f)) := fun H0 e Q q => h H0 e _ fun J A H1 e1 dw hA Dl hD => by
  obtain ⟨G, Y, wk, hG, hY⟩ := dw.ex
  refine w_it wk (fun i H' => Ex H1 H' ∧ ∃ ks, H' Dl = some (.dT ks) ∧ RK (Rp C H') ks (dcD (xs.take i) kf f)) ⟨Ex.new hD, [], upd_same, True.intro⟩ (fun i H' _ p => hG H' (fun a ha => by
      obtain ⟨_, o, ho⟩ := hA a ha
      rw [ho]
      exact p.1 a _ ho) (Tx.ex p.1)) (fun i x H2 H3 hi p y => ?_) fun H' p => ?_
  · obtain ⟨p1, ks, p2, p3⟩ := p
    obtain ⟨e3, d, hd, hr⟩ := hY i H2 x H3 hi (fun a ha => by
      obtain ⟨_, o, ho⟩ := hA a ha
      rw [ho]
      exact p1 a _ ho) (Tx.ex p1) y
    have eH : Ex H1 H3 := p1.trans e3
    have hr := hr (.inl p1)
    obtain ⟨a, ha, rfl⟩ := item_of hd
    have ham : a ∈ xs := List.mem_of_getElem? ha
    refine hs a x H3 ham ((e.trans e1).trans eH) hr _ fun σ2 hw hk hv => ⟨hw, ?_⟩
    show tk σ2 H3 _
    refine hk H3 (Ex.refl _) _ fun y H4 e4 ⟨b, ys, r4, r5, r6⟩ => hv H4 e4 _ fun z H5 e5 r7 => ?_
    have hD5 := e5 _ _ (e4 _ _ (e3 _ _ p2))
    have eR := (e3.trans e4).trans e5
    rw [rpl_keys.mp r6] at r5
    rw [take_item ha, dcD_snoc]
    have nl : ∀ xs, H5 Dl ≠ some (.lst xs) := fun xs z => by rw [hD5] at z; cases z
    have nt : ∀ xs, H5 Dl ≠ some (.tup xs) := fun xs z => by rw [hD5] at z; cases z
    refine ⟨ks, kf a, b, r4, e5 _ _ r5, hD5, ?_, Ex.mut ((eH.trans e4).trans e5) hD, _, upd_same, ?_⟩
    · rw [p3.length]
      refine Nat.lt_of_le_of_lt (Nat.le_trans dcD_length (Nat.le_trans ?_ hl)) (by decide)
      rw [List.length_take]
      omega
    · refine RK.put ?_ (hz a ham _ _ _ _ nl nt r7)
      exact rk_st nl nt (dcD_st (fun p hp => nomatch hp) fun b hb => hz b (List.mem_of_mem_take hb)) (p3.imp fun v d r => r.ex eR)
  · obtain ⟨p1, ks, p2, p3⟩ := p
    rw [show (xs.map F).length = xs.length from List.length_map _, List.take_length] at p3
    exact q (.ref Dl) H' (e1.trans p1) ⟨⟨Dl, ks, rfl, p2, rpT_iff.mpr p3⟩, fun _ a ea => by
      cases ea
      exact fresh_back (e.trans e1) hD⟩
theorem walk_itemsT {d : Addr} {o : Obj} {kvs : List (List Key × V)} : Walk (ItiT d o kvs) kvs.length (fun H => H d = some (.frz o (.dT kvs))) (fun i H x H' => ∃ T q k v, kvs[i]? = some (k, v) ∧ H q = some (.tup (k.map kV)) ∧ x = .ref T ∧ H T = none ∧ H' = upd H T (.tup [.ref q, v])) :=
  ⟨fun _ _ hi q => ⟨q, hi⟩, fun _ q => ⟨q, Nat.le_refl _⟩, fun _ _ _ _ _ _ y => y⟩
theorem rk_at {κ : Type} {R : V → D → Prop} : ∀ {ks : List (κ × V)} {kvs : List (κ × D)} {i : Nat} {k : κ} {v : V}, RK R ks kvs → ks[i]? = some (k, v) → ∃ d, kvs[i]? = some (k, d) ∧ R v d
  | [], [], _, _, _, _, h => by simp at h
  | x :: xs, y :: ys, 0, k, v, r, h => by
    simp only [List.getElem?_cons_zero, Option.some.injEq] at h
    subst h
    exact ⟨y.2, by rw [List.getElem?_cons_zero]; exact congrArg some (Prod.ext r.1.1.symm rfl), r.1.2⟩
  | x :: xs, y :: ys, i + 1, k, v, r, h => by
    simp only [List.getElem?_cons_succ] at h ⊢
    exact rk_at r.2 h
theorem ev_dctItems {α : Type} {a : Addr} {i j : Nat} {xs : List α} {kf : α → List Key} {F f : α → D} {ks : List (List Key × V)} {tv : TE} {Q : VK} (hd : H a = some (.dT ks)) (hr : RK (Rp C H) ks (xs.map fun x => (kf x, F x))) (hl : xs.length ≤ 10000) (hi : i < σ.length) (hj : j < σ.length) (hij : i ≠ j)
    (hF : ∀ x ∈ xs, StD C (F x)) (hf : ∀ x ∈ xs, (f x).fz = true) (htd : ∀ od, EvP td σ (upd H a (.frz od (.dT ks))) fun v _ => v = .ref a)
    (htv : ∀ x ∈ xs, ∀ (σ2 : L2.St) (H2 : Hp) (v : V), σ2[j]? = some (some v) → Rp C H2 v (F x) → Ed C tv σ2 H2 (f x))
    (q : ∀ Dl ks' H', Ex H H' → H Dl = none → H' Dl = some (.dT ks') → RK (Rp C H') ks' (dcD xs kf f) → Q (.ref Dl) H') : tLockE (tDct (iItemsT td) (gTup K 2 (gCons (gName i) (gCons (gName j) gNil))) tYes (tVar i) tv [i, j]) σ H Q := by
  refine ⟨a, .dT ks, hd, True.intro, fun od => ?_⟩
  show iItemsT td σ (upd H a (.frz od (.dT ks))) _
  refine htd od _ (Ex.refl _) _ fun v H1 e1 ev => ?_
  have ha1 : H1 a = some (.frz od (.dT ks)) := e1 _ _ upd_same
  refine ⟨a, od, ks, ev, ha1, fun Dl hD => ?_⟩
  have hne : Dl ≠ a := fun z => by subst z; rw [ha1] at hD; cases hD
  have hr1 : RK (Rp C H1) ks (xs.map fun x => (kf x, F x)) := (rk_st (fun xs z => by rw [hd] at z; cases z) (fun xs z => by rw [hd] at z; cases z) (fun p hp => by
    obtain ⟨x, hx, rfl⟩ := List.mem_map.mp hp
    exact hF x hx) hr).imp fun v d r => r.ex e1
  have hlen : ks.length = xs.length := by rw [hr.length, List.length_map]
  refine w_it (walk_itemsT (d := a) (o := od) (kvs := ks)) (fun j H' => Ex H1 H' ∧ ∃ ks', H' Dl = some (.dT ks') ∧ RK (Rp C H') ks' (dcD (xs.take j) kf f)) ⟨Ex.new hD, [], upd_same, True.intro⟩ (fun j H' _ p => p.1 _ _ ha1) (fun n x H2 H3 hn p y => ?_) fun H' p => ?_
  · obtain ⟨p1, ks', p2, p3⟩ := p
    obtain ⟨T, kq, k, vv, hk, hq, rfl, hT, rfl⟩ := y
    obtain ⟨dd, hkd, rv⟩ := rk_at hr1 hk
    rw [List.getElem?_map] at hkd
    obtain ⟨ax, hax, hpe⟩ := Option.map_eq_some_iff.mp hkd
    cases hpe
    have ham : ax ∈ xs := List.mem_of_getElem? hax
    have eT : Ex H2 (upd H2 T (.tup [.ref kq, vv])) := Ex.new hT
    have rT : Rp C (upd H2 T (.tup [.ref kq, vv])) (.ref T) (.tup [tD (kf ax), F ax]) := ⟨T, _, rfl, upd_same, (show Rp C H2 (.ref kq) (tD (kf ax)) from ⟨kq, _, rfl, hq, rpl_keys.mpr rfl⟩).ex eT, (rv.ex p1).ex eT, True.intro⟩
    refine g_two rT fun v1 v2 r1 r2 => ⟨?_, ?_⟩
    · show wipe (((wipe σ [i, j]).set i _).set j _) [i, j] = wipe σ [i, j]
      simp only [wipe, List.set_set]
      rw [List.set_comm _ _ (Ne.symm hij), List.set_set, List.set_comm _ _ hij, List.set_set, List.set_comm _ _ (Ne.symm hij)]
    dsimp only [tYes]
    rw [if_pos rfl]
    refine ⟨v1, ?_, ?_⟩
    · rw [List.getElem?_set_ne (Ne.symm hij)]
      exact List.getElem?_set_self (by simp [wipe, hi])
    refine htv ax ham _ _ v2 (List.getElem?_set_self (by simp [wipe, hj])) r2 _ (Ex.refl _) _ fun z H5 e5 r7 => ?_
    obtain ⟨b, ys, f1, f2, f3⟩ := r1
    rw [rpl_keys.mp f3] at f2
    have hD5 := e5 _ _ (eT _ _ p2)
    have eR := eT.trans e5
    refine ⟨ks', kf ax, b, f1, e5 _ _ f2, hD5, ?_, Ex.mut (p1.trans eR) hD, _, upd_same, ?_⟩
    · rw [p3.length]
      refine Nat.lt_of_le_of_lt (Nat.le_trans dcD_length ?_) (show 10000 < sizeLine by decide)
      rw [List.length_take]
      omega
    · rw [take_item hax, dcD_snoc]
      have t5 : Tx H5 (upd H5 Dl (.dT (putK ks' (kf ax) z))) := Tx.dt hD5
      exact RK.put (RK.fz t5 (dcD_fz (fun p hp => nomatch hp) fun b hb => hf b (List.mem_of_mem_take hb)) (p3.imp fun v d r => r.ex eR)) (r7.fz t5 (hf ax ham))
  · obtain ⟨p1, ks', p2, p3⟩ := p
    rw [hlen, List.take_length] at p3
    have haF := p1 _ _ ha1
    refine ⟨haF, q Dl ks' _ (fun b o hb => ?_) ?_ ?_ ?_⟩
    · by_cases e : b = a
      · subst e
        rw [hd] at hb
        cases hb
        exact upd_same
      · rw [upd_ne e]
        exact p1 _ _ (e1 _ _ (by rw [upd_ne e]; exact hb))
    · have := fresh_back e1 hD
      rw [upd_ne hne] at this
      exact this
    · rw [upd_ne hne]
      exact p2
    · refine RK.fz (Tx.put fun xs z => ?_) (dcD_fz (fun p hp => nomatch hp) hf) p3
      rw [haF] at z
      cases z
end
end Fl
set_option maxHeartbeats 4000000
namespace Fl
open PySem PySem.Spec PyProof.Rows L2 Evl
section
variable {P : Program} {w : World} {K : PySem.W.Frag} {C : Addr} {σ : L2.St} {H : Hp} {te to ti : TE} {E : Ends} {tz : TS} {d : D}
theorem q_putL {a : Addr} {l : Nat} {xs : List V} (he : Ed C te σ H d) (ho : EvP to σ H fun v _ => v = V.ref a) (hi : Ed C ti σ H (.int (l : Nat))) (ha : H a = some (.lst xs)) (hl : l < xs.length)
    (q : ∀ v H1, Ex H H1 → Rp C H1 v d → E.nx σ (upd H1 a (.lst (xs.set l v)))) : tAsg te (gSub to ti (rSet P w K)) E σ H :=
  he H (Ex.refl H) _ fun v H1 e1 r1 => ho H1 e1 _ fun u H2 e2 r2 => hi H2 (e1.trans e2) _ fun y H3 e3 r3 => by
    have e : Ex H H3 := (e1.trans e2).trans e3
    exact ⟨rSetL, fun X g => set_list, a, xs, (l : Int), l, r2, r3, e a _ ha, ixN_nat hl, q v H3 e (r1.ex (e2.trans e3))⟩
theorem qs_putL {a : Addr} {l : Nat} {xs : List V} (he : Ed C te σ H d) (ho : EvP to σ H fun v _ => v = V.ref a) (hi : Ed C ti σ H (.int (l : Nat))) (ha : H a = some (.lst xs)) (hl : l < xs.length)
    (q : ∀ v H1, Ex H H1 → Rp C H1 v d → tz E σ (upd H1 a (.lst (xs.set l v)))) : tSeq (tAsg te (gSub to ti (rSet P w K))) tz E σ H := q_putL (E := { E with nx := tz E }) he ho hi ha hl q
end
theorem pe_fldG {P : Program} {w : World} {K : PySem.W.Frag} {X : Cx} {e : Expr} {f : Str} {pos : Pos} {ta : TE} (g : Good P w K X) (he : PE X e ta) (hb : attributeBase e f X.env (eval e X.env) = eval e X.env) : PE X (.Attribute e f pos) (tFld K ta f) := by
  have h := pe_fld (pos := pos) he hb
  rw [g.K] at h
  exact h
theorem putD_new {κ : Type} [DecidableEq κ] {m : List (κ × D)} {k : κ} {d : D} (h : k ∉ m.map (·.1)) : putD m k d = m ++ [(k, d)] := by
  unfold putD
  have : (m.any fun kv => decide (kv.1 = k)) = false := by
    rw [List.any_eq_false]
    intro x hx
    simp only [decide_eq_true_eq]
    exact fun e => h (List.mem_map.mpr ⟨x, hx, e⟩)
  rw [this]
  rfl
theorem fold_nodup {α κ : Type} [DecidableEq κ] {kf : α → κ} {f : α → D} (inj : ∀ {a b}, kf a = kf b → a = b) : ∀ {xs : List α} {m : List (κ × D)}, xs.Nodup → (∀ a ∈ xs, kf a ∉ m.map (·.1)) → xs.foldl (fun m a => putD m (kf a) (f a)) m = m ++ xs.map fun a => (kf a, f a)
  | [], m, _, _ => by simp
  | a :: xs, m, hn, h => by
    obtain ⟨h1, h2⟩ := List.nodup_cons.mp hn
    rw [List.foldl_cons, putD_new (h a List.mem_cons_self), fold_nodup inj h2 (fun b hb => ?_), List.append_assoc]
    · rfl
    · rw [List.map_append]
      intro z
      rcases List.mem_append.mp z with z | z
      · exact h b (List.mem_cons_of_mem _ hb) z
      · have : kf b = kf a := by simpa using z
        exact h1 (inj this ▸ hb)
theorem dcD_nodup {α κ : Type} [DecidableEq κ] {kf : α → κ} {f : α → D} {xs : List α} (inj : ∀ {a b}, kf a = kf b → a = b) (h : xs.Nodup) : dcD xs kf f = xs.map fun a => (kf a, f a) := by
  unfold dcD
  rw [fold_nodup inj h (fun a _ => by simp), List.nil_append]
theorem spots_nodup {ls : List (List Cmd)} : (spotsOf ls).Nodup := by
  unfold spotsOf
  show List.Pairwise _ _
  rw [List.pairwise_flatMap]
  refine ⟨fun p _ => ?_, ?_⟩
  · refine List.pairwise_map.mpr (List.Pairwise.imp (fun h e => ?_) (List.nodup_range (n := p.1.length)))
    exact h (Prod.mk.inj e).2
  · have hz : (ls.zipIdx.map Prod.snd).Nodup := by
      rw [List.zipIdx_map_snd]
      exact List.nodup_range'
    refine (List.pairwise_map.mp hz).imp fun {a b} hab => ?_
    intro x hx y hy e
    obtain ⟨n, _, rfl⟩ := List.mem_map.mp hx
    obtain ⟨m, _, rfl⟩ := List.mem_map.mp hy
    exact hab (Prod.mk.inj e).1
theorem intsN_inj : ∀ {a b : List Nat}, (a.map fun n : Nat => D.int (n : Nat)) = b.map (fun n : Nat => D.int (n : Nat)) → a = b
  | [], [], _ => rfl
  | x :: a, y :: b, h => by
    rw [List.map_cons, List.map_cons, List.cons.injEq] at h
    rw [intsN_inj h.2, Int.ofNat.inj (D.int.inj h.1)]
  | [], y :: b, h => by cases h
  | x :: a, [], h => by cases h
theorem sc_clocks : FnScope ["book", "hung", "found", "growing", "spot", "elder", "due", "here", "own", "more"] ["book"] (defScope s_clocks) := ⟨rfl, rfl, rfl, by decide +kernel, rfl, by decide +kernel, by decide +kernel⟩
section
variable {P : Program} {w : World} {K : PySem.W.Frag} {mg : Str → Option Value} {base : Heap}
def CS (C : Addr) (ls : List (List Cmd)) (v vh : V) (d : Addr) (H0 : Hp) (t : Tm) (gr : Bool) (σ' : L2.St) (H' : Hp) : Prop :=
  (∃ u4 u5 u6 u7 u8 u9, σ' = [some v, some vh, some (.ref d), some (.bl gr), u4, u5, u6, u7, u8, u9]) ∧ Ex H0 H' ∧ (∃ ks, H' d = some (.dT ks) ∧ RK (Rp C H') ks (tabD ls t)) ∧ LowT (spotsOf ls) (elL ls) ls.length t
abbrev tmD (ls : List (List Cmd)) (t : Tm) : D := .dt (dcD (spotsOf ls) sk fun s => .tup ((t s).map fun n => .int (n : Nat)))
abbrev spClocks (C : Addr) : Sp := spA C (fun p : List Hall × List (List Cmd) => [bookD p]) (fun p => Few p.2) fun p d => ∃ t, ClkT p.2 t ∧ d = tmD p.2 t
theorem c_clocks (T : TF w K mg) (c_hangs : Callee P w K mg base "hangs" 3 ["book"] (spHangs (CB K))) (c_all_spots : Callee P w K mg base "all_spots" 1 ["book"] (spAllSp (CB K)))
    (c_elders_of : Callee P w K mg base "elders_of" 1 ["hung", "spot"] (spElders (CB K))) : Callee P w K mg base "clocks" 4 ["book"] (spClocks (CB K)) := by
  obtain ⟨fd, F⟩ := T.d_clocks
  refine callee_of F (F.ok sc_clocks (spA_len fun _ => rfl) fun cdv A outer s H vs Q E hr h => ?_) T.g_clocks fun _ _ _ _ _ _ us hl => match us, hl with | [_], _ => rfl
  obtain ⟨a, r, hp, q⟩ := h
  have g : Good P w K (L2.Cx.nox (cxOf CX0 P w K mg base ["book", "hung", "found", "growing", "spot", "elder", "due", "here", "own", "more"] "clocks" (defScope s_clocks) (He.ga K "clocks") cdv A outer s H E)) := ⟨rfl, rfl, rfl, rfl, hu_un hr⟩
  have hu := hu_of hr
  refine ⟨_, PSs.nox (pss_cons (ps_set (i := 1) sc_clocks.nd rfl (Or.inl rfl) (pe_c c_hangs (hr.mono (by decide)) (by rfl) pass0 (pa_cons (pv 0) pa_nil)))
      (pss_cons (ps_setDct (i := 2) (own := [("spot", 4)]) g.calm g.u1 sc_clocks.nd rfl rfl (sw_trueD rfl rfl rfl (by decide +kernel)) (pi_b g (pe_c c_all_spots (hr.mono (by decide)) (by rfl) pass0 (pa_cons (pv 0) pa_nil))) (blkOk_by (by kernel_rfl)) (fun _ _ _ _ _ => (pg_name (i := 4) sc_clocks.nd rfl (Or.inl rfl))) (fun _ _ _ _ _ => pts_nil) (fun _ _ _ _ _ => (pv 4)) (fun _ _ _ _ _ => (pe_op (op_b g.b) (pe_lst (pa_cons pe_int pa_nil)) (pe_callB (c_b g.b) (by rfl) T.f_len bt_len (pa_cons (pe_fldG g.b (pv 0) (by rfl)) pa_nil)))))
      (pss_cons (ps_set (i := 3) sc_clocks.nd rfl (Or.inl rfl) pe_bl)
      (pss_cons (ps_while PassesOwn.never (pt_val (pv 3)) (pss_cons (ps_set (i := 3) sc_clocks.nd rfl (Or.inl rfl) pe_bl)
      (pss_one (ps_for PassesOwn.never g.calm (pi_b g (pe_c c_all_spots (hr.mono (by decide)) (by rfl) pass0 (pa_cons (pv 0) pa_nil))) (pg_name (i := 4) sc_clocks.nd rfl (Or.inl rfl)) (pss_one (ps_for PassesOwn.never g.calm (pi_b g (pe_c c_elders_of (hr.mono (by decide)) (by rfl) pass0 (pa_cons (pv 1) (pa_cons (pv 4) pa_nil)))) (pg_name (i := 5) sc_clocks.nd rfl (Or.inl rfl)) (pss_cons (ps_setLc (i := 6) (own := [("own", 8), ("more", 9)]) (g := (gTup K 2 (gCons (gName 8) (gCons (gName 9) gNil)))) g.calm sc_clocks.nd rfl rfl (sw_true rfl rfl rfl (by decide +kernel)) (pi_zipS (by rfl) T.f_zip (pa_cons (pe_ix (ix_b g) (pv 2) (pv 4) (fun _ _ => rfl)) (pa_cons (pe_ix (ix_b g) (pv 2) (pv 5) (fun _ _ => rfl)) pa_nil)) (pk_cons pe_bl pk_nil)) (blkOk_by (by kernel_rfl)) (fun _ _ _ _ _ => (pg_tup rfl (pgs_cons (pg_name (i := 8) sc_clocks.nd rfl (Or.inl rfl)) (pgs_cons (pg_name (i := 9) sc_clocks.nd rfl (Or.inl rfl)) pgs_nil)))) (fun _ _ _ _ _ => pts_nil) (fun _ _ _ _ _ => (pe_callB (c_b g.b) (by rfl) T.f_max bt_max (pa_cons (pv 8) (pa_cons (pv 9) pa_nil)))))
      (pss_cons (ps_asg (pe_callB (c_b g) (by rfl) T.f_max bt_max (pa_cons (pe_ix (ix_b g) (pv 6) (pe_ix (ix_b g) (pv 5) pe_int (fun _ _ => rfl)) (fun _ _ => rfl)) (pa_cons (pe_op (op_b g) (pe_ix (ix_b g) (pv 5) pe_int (fun _ _ => rfl)) pe_int) pa_nil))) (pg_sub (pv 6) (pe_ix (ix_b g) (pv 5) pe_int (fun _ _ => rfl)) (set_b g)))
      (pss_one (ps_if (pt_cmpR (op_b g) (pv 6) (pe_ix (ix_b g) (pv 2) (pv 4) (fun _ _ => rfl)) (nomark _)) (pss_cons (ps_asg (pv 6) (pg_sub (pv 2) (pv 4) (set_b g)))
      (pss_one (ps_set (i := 3) sc_clocks.nd rfl (Or.inl rfl) pe_bl))) pss_nil))))))))))
      (pss_one (ps_ret (pe_lock (pe_dct (own := [("spot", 4), ("here", 7)]) (g := (gTup K 2 (gCons (gName 4) (gCons (gName 7) gNil)))) g.calm g.u1 sc_clocks.nd (pi_itemsT (pv 2)) (blkOk_by (by kernel_rfl)) (fun _ _ _ _ _ => (pg_tup rfl (pgs_cons (pg_name (i := 4) sc_clocks.nd rfl (Or.inl rfl)) (pgs_cons (pg_name (i := 7) sc_clocks.nd rfl (Or.inl rfl)) pgs_nil)))) (fun _ _ _ _ _ => pts_nil) (fun _ _ _ _ _ => (pv 4)) (fun _ _ _ _ _ => (pe_callTy (c_b g.b) (by rfl) T.f_tuple bt_tuple (pa_cons (pv 7) pa_nil))))))))))), ?_⟩
  obtain ⟨v, rfl, r1⟩ := r.one
  obtain ⟨hs, ls⟩ := a
  replace hp : Few ls := hp
  replace r1 : Rp (CB K) H v (bookD (hs, ls)) := r1
  have hsl : (spotsOf ls).length ≤ 60 := by rw [spots_len]; exact hp.tot
  refine qd_asgP (edx_call (hs, ls) (ea1 (ed_var rfl r1) ea0) hp) fun vh H0 e0 ⟨dh, ⟨kvH, edh, hH⟩, rH⟩ => ?_
  subst edh
  have eN : ∀ s : Nat × Nat, (D.lst (List.replicate ((ls.map laneD).length : Int).toNat [D.int 0]).flatten) = D.lst ((List.replicate ls.length 0).map fun n : Nat => D.int (n : Nat)) := fun _ => by
    rw [List.length_map, Int.toNat_natCast]
    congr 1
    generalize ls.length = n
    induction n with
    | zero => rfl
    | succ n ih => rw [List.replicate_succ, List.flatten_cons, ih, List.replicate_succ, List.map_cons]; rfl
  refine qd_asgP (ev_dct (C := CB K) (xs := spotsOf ls) (F := spotD) sk (fun _ => D.lst ((List.replicate ls.length 0).map fun n : Nat => D.int (n : Nat))) (ei_new (ev_call (hs, ls) (ea1 (ed_var rfl (r1.ex e0)) ea0) hp)) (Nat.le_trans hsl (by decide)) (fun _ _ => StD.lst (fzL_map fun _ _ => rfl)) ?_) fun vd H1 e1 ⟨rvd, hnw⟩ => ?_
  · intro s x H2 hm e2 rx k hk
    have rb : Rp (CB K) H2 v (bookD (hs, ls)) := r1.ex (e0.trans e2)
    refine hk _ rfl (ed_var rfl rx) (Ed.is (ed_op (ed_lst (ea1 ed_int ea0)) (ed_cb (ea1 (ed_fld (ed_var rfl rb) T.cls T.n_lanes (.inr ⟨rfl, rfl⟩)) ea0) k_lent) (o_rep ?_ ?_)) (eN s))
    · have := hp.few
      show -(2 ^ 62) ≤ (((ls.map laneD).length : Nat) : Int) ∧ (((ls.map laneD).length : Nat) : Int) < 2 ^ 62
      rw [List.length_map]
      omega
    · have := hp.few
      show 1 * (((ls.map laneD).length : Nat) : Int).toNat ≤ 100000
      rw [List.length_map, Int.toNat_natCast]
      omega
  have etab : dcD (spotsOf ls) sk (fun _ => D.lst ((List.replicate ls.length 0).map fun n : Nat => D.int (n : Nat))) = tabD ls fun _ => List.replicate ls.length 0 := dcD_nodup sk_inj spots_nodup
  rw [etab] at rvd
  obtain ⟨d, ks0, rfl, hd1, hr1⟩ := rvd
  refine qd_asg (C := CB K) ed_bl fun vg H2 e2 rg => ?_
  obtain rfl : vg = V.bl true := rg
  have hd0 : H0 d = none := hnw (by rfl) d rfl
  have e02 : Ex H0 H2 := e1.trans e2
  refine ⟨fun m σ' H' => ∃ t gr, m = 2 * restT (spotsOf ls) (ls.map List.length) t + (if gr = true then 1 else 0) ∧ CS (CB K) ls v vh d H0 t gr σ' H' ∧ (gr = false → ClosedT (spotsOf ls) (elL ls) t),
    ⟨_, _, true, rfl, ⟨⟨_, _, _, _, _, _, rfl⟩, e02, ⟨ks0, e2 _ _ hd1, (rpT_iff.mp hr1).imp fun _ _ r => r.ex e2⟩, low_zero⟩, fun z => nomatch z⟩, ?_⟩
  rintro m σ' H' ⟨t, gr, rfl, ⟨⟨u4, u5, u6, u7, u8, u9, rfl⟩, t1, ⟨ks, t2, t3⟩, t4⟩, t5⟩
  refine et_val (C := CB K) (ed_var rfl (show Rp (CB K) H' (.bl gr) (.bl gr) from rfl)) H' (Ex.refl H') _ fun H3 e3 => ?_
  have hd3 := e3 _ _ t2
  have r3 := t3.imp fun _ _ r => Rp.ex e3 r
  cases gr with
  | false =>
    rw [if_neg (by decide)]
    show tLockE _ _ _ _
    refine ev_dctItems (C := CB K) (xs := spotsOf ls) (kf := sk) (F := fun s => D.lst ((t s).map fun n : Nat => D.int (n : Nat))) (f := fun s => D.tup ((t s).map fun n : Nat => D.int (n : Nat))) hd3 r3 (Nat.le_trans hsl (by decide)) (by simp) (by simp) (by decide) (fun _ _ => StD.lst (fzL_map fun _ _ => rfl)) (fun s _ => ?_) (fun od => ev_var rfl) (fun s hs2 σ2 H4 v4 h4 r4 => ed_cb (ea1 (ed_var h4 r4) ea0) k_tuple) fun Dl ks' H5 e5 hn h5 r5 => ?_
    · exact fzL_map (l := t s) fun _ _ => rfl
    · exact q _ (.ref Dl) H5 ⟨t, ⟨t4, t5 rfl⟩, rfl⟩ ((e0.trans t1).trans (e3.trans e5)) ⟨Dl, ks', rfl, h5, rpT_iff.mpr r5⟩ fun _ a ea => by
        cases ea
        exact fresh_back ((e0.trans t1).trans e3) hn
  | true =>
    rw [if_pos rfl]
    refine ⟨fun σ' H' => ∃ t' gr', CS (CB K) ls v vh d H0 t' gr' σ' H' ∧ (gr' = false → t' = t ∧ ClosedT (spotsOf ls) (elL ls) t) ∧ (gr' = true → restT (spotsOf ls) (ls.map List.length) t' < restT (spotsOf ls) (ls.map List.length) t), ?_, ?_⟩
    · rintro σ'' H'' ⟨t', gr', p1, p2, p3⟩
      cases gr' with
      | false =>
        obtain ⟨rfl, p4⟩ := p2 rfl
        exact ⟨_, by simp, t', false, rfl, p1, fun _ => p4⟩
      | true => exact ⟨_, by have := p3 rfl; simp; omega, t', true, rfl, p1, fun z => nomatch z⟩
    refine qd_asg (C := CB K) ed_bl fun vg3 H4 e4 rg3 => ?_
    obtain rfl : vg3 = V.bl false := rg3
    have e04 : Ex H0 H4 := t1.trans (e3.trans e4)
    refine q_for (C := CB K) (xs := spotsOf ls) (F := spotD) (ei_new (ev_call (hs, ls) (ea1 (ed_var rfl (r1.ex (e0.trans e04))) ea0) hp)) fun A H5 e5 hA => ?_
    have hd5 : H5 d = some (.dT ks) := e5 _ _ (e4 _ _ hd3)
    have hdA : d ∉ A := fun h => by
      have := (hA d h).1
      rw [e4 _ _ hd3] at this
      cases this
    refine ⟨fun i σ' H' => ∃ t' gr', CS (CB K) ls v vh d H0 t' gr' σ' H' ∧ (∀ b o, b ≠ d → H5 b = some o → H' b = some o) ∧ (gr' = false → t' = t ∧ ∀ s ∈ (spotsOf ls).take i, ∀ e ∈ elL ls s, upE (t s) (t e) e = t s) ∧ (gr' = true → restT (spotsOf ls) (ls.map List.length) t' < restT (spotsOf ls) (ls.map List.length) t),
      ⟨t, false, ⟨⟨_, _, _, _, _, _, rfl⟩, e04.trans e5, ⟨ks, hd5, r3.imp fun _ _ r => r.ex (e4.trans e5)⟩, t4⟩, fun b o _ h => h, fun _ => ⟨rfl, fun s hs2 => by simp at hs2⟩, fun z => nomatch z⟩, fun i σ' H' hi p => ?_, ?_, ?_⟩
    · obtain ⟨t', gr', p1, k2, _⟩ := p
      refine ⟨fun b xs hb => k2 b _ (fun z => by subst z; rw [hd5] at hb; cases hb) hb, fun b hb => ?_⟩
      obtain ⟨o, ho⟩ := (hA b hb).2
      rw [ho]
      exact k2 b o (fun z => hdA (z ▸ hb)) ho
    · rintro i s x σ' H' H'' hi ⟨t', gr', ⟨⟨w4, w5, w6, w7, w8, w9, rfl⟩, x1, ⟨ks', x2, x3⟩, x4⟩, y1, y2, y3⟩ e6 r6
      have rs : Rp (CB K) H'' x (spotD s) := r6 (.inr rfl)
      have hsm : s ∈ spotsOf ls := List.mem_of_getElem? hi
      have rh : Rp (CB K) H'' vh (.dt kvH) := rH.ex (x1.trans e6)
      refine q_for (C := CB K) (xs := elL ls s) (F := spotD) (ei_new (ev_call (⟨hgOf ls, kvH, s⟩ : ElA) (ea1 (ed_var rfl rh) (ea1 (ed_var rfl rs) ea0)) hH)) fun B H7 e7 hB => ?_
      have hd7 : H7 d = some (.dT ks') := e7 _ _ (e6 _ _ x2)
      have hdB : d ∉ B := fun h => by
        have := (hB d h).1
        rw [e6 _ _ x2] at this
        cases this
      refine ⟨fun j σ' H' => ∃ t' gr', (∃ u5 u6 u7 u8 u9, σ' = [some v, some vh, some (.ref d), some (.bl gr'), some x, u5, u6, u7, u8, u9]) ∧ Ex H0 H' ∧ (∃ ks, H' d = some (.dT ks) ∧ RK (Rp (CB K) H') ks (tabD ls t')) ∧ LowT (spotsOf ls) (elL ls) ls.length t' ∧ (∀ b o, b ≠ d → H7 b = some o → H' b = some o) ∧
          (gr' = false → t' = t ∧ (∀ s ∈ (spotsOf ls).take i, ∀ e ∈ elL ls s, upE (t s) (t e) e = t s) ∧ ∀ e ∈ (elL ls s).take j, upE (t s) (t e) e = t s) ∧ (gr' = true → restT (spotsOf ls) (ls.map List.length) t' < restT (spotsOf ls) (ls.map List.length) t),
        ⟨t', gr', ⟨_, _, _, _, _, rfl⟩, x1.trans (e6.trans e7), ⟨ks', hd7, x3.imp fun _ _ r => r.ex (e6.trans e7)⟩, x4, fun b o _ h => h, fun z => ⟨(y2 z).1, (y2 z).2, fun e he => by simp at he⟩, y3⟩, fun j σ' H' hj p => ?_, ?_, ?_⟩
      · obtain ⟨t', gr', _, _, _, _, k2, _⟩ := p
        refine ⟨fun b xs hb => k2 b _ (fun z => by subst z; rw [hd7] at hb; cases hb) hb, fun b hb => ?_⟩
        obtain ⟨o, ho⟩ := (hB b hb).2
        rw [ho]
        exact k2 b o (fun z => hdB (z ▸ hb)) ho
      · rintro j e x7 σ' H8 H9 hj ⟨t'', gr'', ⟨u5, u6, u7, u8, u9, rfl⟩, z1, ⟨ks8, z2, z3⟩, z4, z5, z6, z7⟩ e9 r9
        have re : Rp (CB K) H9 x7 (spotD e) := r9 (.inr rfl)
        have hem : e ∈ elL ls s := List.mem_of_getElem? hj
        have rs9 : Rp (CB K) H9 x (tD (sk s)) := (Rp.fz (fun b xs hb => z5 b _ (fun z => by subst z; rw [hd7] at hb; cases hb) hb) rfl (rs.ex e7) : Rp (CB K) H8 x (spotD s)).ex e9
        have rd9 : Rp (CB K) H9 (.ref d) (.dt (tabD ls t'')) := ⟨d, ks8, rfl, e9 _ _ z2, rpT_iff.mpr (z3.imp fun _ _ r => r.ex e9)⟩
        have he1 := (el_in s hsm e hem).1
        have hlen : (t'' s).length = (t'' e).length := (z4.1 s hsm).trans (z4.1 e he1).symm
        have hn := z4.1 s hsm
        have h6 := hp.few
        refine qd_asgP (ev_map (C := CB K) (xs := (t'' s).zip (t'' e)) (F := fun p => D.tup [D.int (p.1 : Nat), D.int (p.2 : Nat)]) (fun p => D.int ((max p.1 p.2 : Nat) : Int)) (ei_zipLLM (F := fun n : Nat => D.int (n : Nat)) (G := fun n : Nat => D.int (n : Nat)) (ea1 (ed_op (ed_var rfl rd9) (ed_var rfl rs9) (o_ixT (tab_look hsm))) (ea1 (ed_op (ed_var rfl rd9) (ed_var rfl (show Rp (CB K) H9 x7 (tD (sk e)) from re)) (o_ixT (tab_look he1))) ea0)) hlen) (by rw [List.length_zip]; omega) (fun _ _ => rfl) ?_) fun vu H10 e10 ⟨ru, nu⟩ => ?_
        · intro n p y H11 hn2 e11 r11 k hk
          exact g_two r11 fun v1 v2 a1 a2 => hk _ rfl (Ed.is (ed_cb (ea1 (ed_var rfl a1) (ea1 (ed_var rfl a2) ea0)) k_max2) (by
            congr 1
            split <;> omega))
        have eU : (((t'' s).zip (t'' e)).map fun p => D.int ((max p.1 p.2 : Nat) : Int)) = (upM (t'' s) (t'' e)).map fun n : Nat => D.int (n : Nat) := by
          unfold upM
          rw [List.map_map]
          rfl
        rw [eU] at ru nu
        obtain ⟨b, ys, rfl, hb10, ry⟩ := ru
        have hb9 : H9 b = none := nu (by rfl) b rfl
        have he2 : e.1 < (t'' s).length := by rw [hn]; exact (el_in s hsm e hem).2
        have hul : (upM (t'' s) (t'' e)).length = (t'' s).length := upM_len hlen
        have gU : (upM (t'' s) (t'' e))[e.1]? = some (gt (upM (t'' s) (t'' e)) e.1) := by
          unfold gt
          rw [List.getElem?_eq_getElem (by omega)]
          rfl
        have re10 : Rp (CB K) H10 x7 (spotD e) := re.ex e10
        have ru2 : Rp (CB K) H10 (.ref b) (.lst ((upM (t'' s) (t'' e)).map fun n : Nat => D.int (n : Nat))) := ⟨b, ys, rfl, hb10, ry⟩
        refine qs_putL (C := CB K) (l := e.1) (ed_cb (ea1 (ed_op (ed_var rfl ru2) (ed_op (ed_var rfl re10) ed_int (o_ixt at0)) (o_ixl (atI_nat (v := D.int ((gt (upM (t'' s) (t'' e)) e.1 : Nat) : Int)) (by rw [List.getElem?_map, gU]; rfl)))) (ea1 (ed_op (ed_op (ed_var rfl re10) ed_int (o_ixt at1)) ed_int o_add) ea0)) k_max2) (ev_var rfl) (ed_op (ed_var rfl re10) ed_int (o_ixt at0)) hb10 (by rw [ry.length, List.length_map, hul]; exact he2) fun vm H11 e11 rm => ?_
        have hb11 : H11 b = some (.lst ys) := e11 _ _ hb10
        have t12 : Tx H11 (upd H11 b (.lst (ys.set e.1 vm))) := Tx.lst hb11
        have rdue : Rp (CB K) (upd H11 b (.lst (ys.set e.1 vm))) (.ref b) (.lst ((upE (t'' s) (t'' e) e).map fun n : Nat => D.int (n : Nat))) := by
          refine ⟨b, _, rfl, upd_same, ?_⟩
          have h := RpL.set e.1 (ry.ex e11) rm
          refine RpL.fz t12 (fzL_map fun _ _ => rfl) ?_
          unfold upE
          rw [List.map_set]
          have eV : ∀ m k : Nat, (if (k : Int) + 1 > (m : Int) then (k : Int) + 1 else (m : Int)) = ((max m (k + 1) : Nat) : Int) := fun m k => by split <;> omega
          rw [eV] at h
          exact h
        have e912 : Ex H9 (upd H11 b (.lst (ys.set e.1 vm))) := Ex.mut (e10.trans e11) hb9
        generalize hH12 : upd H11 b (.lst (ys.set e.1 vm)) = H12 at e912 rdue ⊢
        have rd12 : Rp (CB K) H12 (.ref d) (.dt (tabD ls t'')) := rd9.ex e912
        have rs12 : Rp (CB K) H12 x (tD (sk s)) := rs9.ex e912
        have hd12 : H12 d = some (.dT ks8) := e912 _ _ (e9 _ _ z2)
        have e712 : ∀ b o, b ≠ d → H7 b = some o → H12 b = some o := fun b o hb h => e912 _ _ (e9 _ _ (z5 b o hb h))
        have e012 : Ex H0 H12 := z1.trans (e9.trans e912)
        have z12 := z3.imp fun _ _ r => Rp.ex (e9.trans e912) r
        have okl : ∀ l : List Nat, (D.lst (l.map fun n : Nat => D.int (n : Nat))).okd 60 = true := fun l => okd_lst (n := 59) fun d hd => by
          obtain ⟨n, _, rfl⟩ := List.mem_map.mp hd
          rfl
        have eqv : decide (upE (t'' s) (t'' e) e = t'' s) = true ↔ D.lst ((upE (t'' s) (t'' e) e).map fun n : Nat => D.int (n : Nat)) = D.lst ((t'' s).map fun n : Nat => D.int (n : Nat)) := by
          rw [decide_eq_true_iff]
          exact ⟨fun h => by rw [h], fun h => intsN_inj (D.lst.inj h)⟩
        refine ql_if (et_cmp (ed_op (ed_var rfl rdue) (ed_op (ed_var rfl rd12) (ed_var rfl rs12) (o_ixT (tab_look hsm))) (o_ned eqv (okl _) (okl _)))) (fun hb H13 e13 => ?_) fun hb H13 e13 => ?_
        · have hne : upE (t'' s) (t'' e) e ≠ t'' s := fun h => by rw [decide_eq_true h] at hb; cases hb
          refine qs_putT (C := CB K) (k := sk s) (ed_var rfl (rdue.ex e13)) (ev_var rfl) (ed_var rfl (rs12.ex e13)) (e13 _ _ hd12) (by rw [z3.length]; unfold tabD; rw [List.length_map]; omega) fun v14 H14 e14 r14 => ?_
          refine ql_asg (C := CB K) ed_bl fun vt H15 e15 rt => ?_
          obtain rfl : vt = V.bl true := rt
          have hd14 := e14 _ _ (e13 _ _ hd12)
          have nl : ∀ xs, H14 d ≠ some (.lst xs) := fun xs z => by rw [hd14] at z; cases z
          have nt : ∀ xs, H14 d ≠ some (.tup xs) := fun xs z => by rw [hd14] at z; cases z
          have sT : ∀ a : List Nat, StD (CB K) (.lst (a.map fun n : Nat => D.int (n : Nat))) := fun a => StD.lst (fzL_map fun _ _ => rfl)
          have hlt := z4.grow el_in hsm hem (List.length_map _) top_closed hne
          refine ⟨putT t'' s (upE (t'' s) (t'' e) e), true, ⟨_, _, _, _, _, rfl⟩, (Ex.mut (e012.trans (e13.trans e14)) hd0).trans e15, ⟨_, e15 _ _ upd_same, ?_⟩, z4.step el_in hsm hem, fun b' o hb' h => e15 _ _ (by rw [upd_ne hb']; exact e14 _ _ (e13 _ _ (e712 b' o hb' h))), (fun z => nomatch z), fun _ => ?_⟩
          · rw [← putD_map hsm]
            refine (RK.put (rk_st nl nt (fun p hp => ?_) (z12.imp fun _ _ r => r.ex (e13.trans e14))) (sT _ H14 v14 d _ nl nt r14)).imp fun _ _ r => r.ex e15
            obtain ⟨s', _, rfl⟩ := List.mem_map.mp hp
            exact sT _
          · cases gr'' with
            | false => rw [← (z6 rfl).1]; rw [(z6 rfl).1] at hlt ⊢; exact hlt
            | true => exact Nat.lt_trans hlt (z7 rfl)
        · have heq : upE (t'' s) (t'' e) e = t'' s := by
            by_cases h : upE (t'' s) (t'' e) e = t'' s
            · exact h
            · rw [decide_eq_false h] at hb; cases hb
          refine ⟨t'', gr'', ⟨_, _, _, _, _, rfl⟩, e012.trans e13, ⟨ks8, e13 _ _ hd12, z12.imp fun _ _ r => r.ex e13⟩, z4, fun b' o hb' h => e13 _ _ (e712 b' o hb' h), fun g0 => ?_, z7⟩
          obtain ⟨c1, c2, c3⟩ := z6 g0
          refine ⟨c1, c2, fun e2 he2 => ?_⟩
          rw [take_item hj] at he2
          rcases List.mem_append.mp he2 with h | h
          · exact c3 e2 h
          · rw [List.mem_singleton.mp h, ← c1]
            exact heq
      · rintro σ' H' ⟨t'', gr'', ⟨u5, u6, u7, u8, u9, rfl⟩, z1, z2, z3, z4, z5, z6⟩
        refine ⟨t'', gr'', ⟨⟨_, _, _, _, _, _, rfl⟩, z1, z2, z3⟩, fun b o hb h => z4 b o hb (e7 _ _ (e6 _ _ (y1 b o hb h))), fun g0 => ?_, z6⟩
        obtain ⟨c1, c2, c3⟩ := z5 g0
        refine ⟨c1, fun s2 hs2 => ?_⟩
        rw [take_item hi] at hs2
        rcases List.mem_append.mp hs2 with h | h
        · exact c2 s2 h
        · rw [List.mem_singleton.mp h]
          rw [List.take_length] at c3
          exact c3
    · rintro σ' H' ⟨t', gr', p1, k2, k3, k4⟩
      refine ⟨t', gr', p1, fun z => ?_, k4⟩
      obtain ⟨z1, z2⟩ := k3 z
      rw [List.take_length] at z2
      exact ⟨z1, z2⟩
end
end Fl
set_option maxHeartbeats 4000000
namespace Fl
open PySem PySem.Spec PyProof.Rows L2 Evl
theorem sc_law_cell : FnScope ["_law_script", "_law_k", "_law_mixed", "_law_cell_here"] ["_law_script", "_law_k"] (defScope s_law_cell) := ⟨rfl, rfl, rfl, by decide +kernel, rfl, by decide +kernel, by decide +kernel⟩
theorem sc_law_heap : FnScope ["_law_cell_here"] ["_law_cell_here"] (defScope s_law_heap) := ⟨rfl, rfl, rfl, by decide +kernel, rfl, by decide +kernel, by decide +kernel⟩
theorem sc_law_draw : FnScope ["_law_heap_here", "_law_many", "_law_digit", "_law_state"] ["_law_heap_here", "_law_many"] (defScope s_law_draw) := ⟨rfl, rfl, rfl, by decide +kernel, rfl, by decide +kernel, by decide +kernel⟩
section
variable {P : Program} {w : World} {K : PySem.W.Frag} {mg : Str → Option Value} {base : Heap} {C : Addr}
theorem k_divmod {i j : Int} (h : CDiv i j) : DCall C (rC P w K (.builtin "divmod")) [.int i, .int j] (.tup [.int (i / j), .int (i % j)]) := dcall_of (fun X g => call_divmod) fun H vs rx Q q => by
  obtain ⟨v, u, rfl, r1, r2⟩ := rx.two
  exact ⟨i, j, by rw [show v = V.int i from r1, show u = V.int j from r2], h, fun p hp => q _ _ (Ex.new hp) ⟨p, _, rfl, upd_same, rfl, rfl, True.intro⟩⟩
theorem k_abs {i : Int} : DCall C (rC P w K (.builtin "abs")) [.int i] (.int (if i < 0 then -i else i)) := dcall_of (fun X g => call_abs) fun H vs rx Q q => by
  obtain ⟨v, rfl, r1⟩ := rx.one
  exact ⟨i, by rw [show v = V.int i from r1], q _ H (Ex.refl H) rfl⟩
theorem ret_v {σ : L2.St} {H : Hp} {d : D} {te : TE} {E : Ends} (h : Ed C te σ H d) (k : ∀ v H1, Ex H H1 → Rp C H1 v d → E.rt v H1) : tRet te E σ H := h H (Ex.refl H) _ k
def SqInt (K : PySem.W.Frag) (a : Addr) (ns : List Int) (H : Hp) : Prop := ∀ H', Ex H H' → SqL K H' a (ns.map V.int)
theorem SqInt.of {a : Addr} {ns : List Int} {H : Hp} (h : SqL K H a (ns.map V.int)) : SqInt K a ns H := fun H' e => h.elim (fun r => .inl (ex_rd e r)) .inr
theorem SqInt.ex {a : Addr} {ns : List Int} {H H1 : Hp} (h : SqInt K a ns H) (e : Ex H H1) : SqInt K a ns H1 := fun H' e' => h H' (e.trans e')
theorem ed_lenS {σ : L2.St} {H : Hp} {i : Nat} {a : Addr} {ns : List Int} (h : σ[i]? = some (some (.ref a))) (hS : SqInt K a ns H) : Ed C (tCB (rC P w K (.builtin "len")) (tCons (tVar i) tNil)) σ H (.int (ns.length : Nat)) := fun H1 e Q q =>
  ⟨_, h, fun xs H Q => ∃ p ys, xs = [.ref p] ∧ (SqL K H p ys ∨ SqT K H p ys) ∧ Q (.int ys.length) H, fun X g => g.K ▸ call_len_seq, a, _, rfl, .inl (hS H1 e), q _ H1 (Ex.refl _) (by rw [List.length_map]; rfl)⟩
theorem ed_ixS {σ : L2.St} {H : Hp} {i k : Nat} {a : Addr} {ns : List Int} {n : Int} {ti : TE} (h : σ[i]? = some (some (.ref a))) (hS : SqInt K a ns H) (hi : Ed C ti σ H (.int (k : Nat))) (hk : ns[k]? = some n) : Ed C (tOp (rI_ P w K) (tVar i) ti) σ H (.int n) := fun H1 e Q q =>
  ⟨_, h, hi H1 e _ fun u H2 e2 r2 => ⟨rIxL K, fun X g => g.K ▸ ix_list, a, _, (k : Int), _, rfl, r2, hS H2 (e.trans e2), atI_nat (by rw [List.getElem?_map, hk]; rfl), q _ H2 e2 rfl⟩⟩
theorem ed_slS4 {σ : L2.St} {H : Hp} {i : Nat} {a : Addr} {ns : List Int} (h : σ[i]? = some (some (.ref a))) (hS : SqInt K a ns H) : Ed C (tSl (rS P w K) (tVar i) tNoPart (tPart (tC (.int 4)))) σ H (.lst ((ns.take 4).map D.int)) := fun H1 e Q q =>
  ⟨_, h, (4 : Int), rfl, rSlL K, fun X g => g.K ▸ sl_list, a, _, rfl, hS H1 e, fun p hp => by
    refine q _ _ (Ex.new hp) ⟨p, _, rfl, upd_same, ?_⟩
    have e0 : cutV (ns.map V.int) none (some 4) = (ns.take 4).map V.int := by
      unfold cutV
      show ((ns.map V.int).drop 0).take (HT.sIx (ns.map V.int).length (ns.map V.int).length (some 4) - 0) = _
      have e4 : HT.sIx (ns.map V.int).length (ns.map V.int).length (some (4 : Int)) = min 4 ns.length := by
        rw [List.length_map]
        unfold HT.sIx
        simp
      rw [e4, Nat.sub_zero, List.drop_zero, ← List.map_take, ← List.take_take, List.take_length]
    rw [e0]
    exact RpL.of_ints⟩
def spCell (K : PySem.W.Frag) : Sp := fun vs H Q _ => ∃ (a : Addr) (ns : List Int) (k : Nat), vs = [.ref a, .int (k : Nat)] ∧ SqL K H a (ns.map V.int) ∧ k ≤ 5 ∧ ∀ (i : Int) H', Ex H H' → Q (.int i) H'
theorem c_law_cell (T : TF w K mg) : Callee P w K mg base "_law_cell" 1 ["_law_script", "_law_k"] (spCell K) := by
  obtain ⟨fd, F⟩ := T.d_law_cell
  refine callee_of F (F.ok sc_law_cell (fun vs H Q E ⟨_, _, _, e, _⟩ => by rw [e]; rfl) fun cdv A outer s H vs Q E hr h => ?_) T.g_law_cell fun _ _ _ _ _ _ us hl => match us, hl with | [_, _], _ => rfl
  have g : Good P w K (L2.Cx.nox (cxOf CX0 P w K mg base ["_law_script", "_law_k", "_law_mixed", "_law_cell_here"] "_law_cell" (defScope s_law_cell) (He.ga K "_law_cell") cdv A outer s H E)) := ⟨rfl, rfl, rfl, rfl, hu_un hr⟩
  have hu := hu_of hr
  refine ⟨_, PSs.nox (pss_cons (ps_if (pt_cmpR (op_b g) (pv 1) (pe_callB (c_b g) (by rfl) T.f_len bt_len (pa_cons (pv 0) pa_nil)) (nomark _)) (pss_one (ps_ret (pe_ix (ix_b g) (pv 0) (pv 1) (fun _ _ => rfl)))) pss_nil)
      (pss_cons (ps_set (i := 2) sc_law_cell.nd rfl (Or.inl rfl) (pe_op (op_b g) (pe_op (op_b g) pe_int (pe_op (op_b g) (pe_op (op_b g) (pe_op (op_b g) (pv 1) (pv 1)) (pe_op (op_b g) pe_int (pv 1))) pe_int)) pe_int))
      (pss_cons (ps_for PassesOwn.never g.calm (pi_b g (pe_slice (sl_b g) (pv 0) po_none (po_some pe_int))) (pg_name (i := 3) sc_law_cell.nd rfl (Or.inl rfl)) (pss_one (ps_set (i := 2) sc_law_cell.nd rfl (Or.inl rfl) (pe_op (op_b g) (pe_op (op_b g) (pe_op (op_b g) (pv 2) pe_int) (pv 3)) pe_int))))
      (pss_one (ps_ret (pv 2)))))), ?_⟩
  obtain ⟨a, ns, k, rfl, hS0, p2, q⟩ := h
  have hS : SqInt K a ns H := .of hS0
  have r2 : ∀ H', Rp (CB K) H' (.int (k : Nat)) (.int (k : Nat)) := fun _ => rfl
  refine qd_when (b := decide (((k : Nat) : Int) < ((ns.length : Nat) : Int))) (et_cmp (C := CB K) (ed_op (ed_var rfl (r2 _)) (ed_lenS rfl hS) o_lt)) (fun hb H1 e1 => ?_) fun hb H1 e1 => ?_
  · have hk : k < ns.length := by have := of_decide_eq_true hb; omega
    exact ret_v (C := CB K) (ed_ixS rfl (hS.ex e1) (ed_var rfl (r2 _)) (List.getElem?_eq_getElem hk)) fun v H2 e2 rv => by
      obtain rfl : v = V.int ns[k] := rv
      exact q _ H2 (e1.trans e2)
  · have hkk : ((k : Nat) : Int) * (k : Nat) ≤ 25 := by
      have h1 : ((k : Nat) : Int) * (k : Nat) = ((k * k : Nat) : Int) := by push_cast; rfl
      have h2 : k * k ≤ 5 * 5 := Nat.mul_le_mul p2 p2
      omega
    have hk0 : 0 ≤ ((k : Nat) : Int) * (k : Nat) := Int.mul_nonneg (by omega) (by omega)
    refine qd_asg (ed_op (ed_op ed_int (ed_op (ed_op (ed_op (ed_var rfl (r2 _)) (ed_var rfl (r2 _)) (o_mul (by omega))) (ed_op ed_int (ed_var rfl (r2 _)) (o_mul (by decide))) o_add) ed_int o_add) (o_mul (by decide))) ed_int (o_mod (by decide))) fun vm H2 e2 rm => ?_
    refine qs_for (C := CB K) (xs := ns.take 4) (F := D.int) (ei_lst (ed_slS4 rfl (hS.ex (e1.trans e2)))) fun A H3 e3 hA => ?_
    have e13 := e1.trans (e2.trans e3)
    refine ⟨fun i σ' H' => (∃ m : Int, ∃ u3, (0 ≤ m ∧ m < 1000000087) ∧ σ' = [some (.ref a), some (.int (k : Nat)), some (.int m), u3]) ∧ Ex H3 H', ⟨⟨_, _, ⟨?_, ?_⟩, by rw [show vm = V.int _ from rm]; rfl⟩, Ex.refl _⟩, fun i σ' H' hi p => ⟨Tx.ex p.2, fun b hb => by
      obtain ⟨_, o, ho⟩ := hA b hb
      rw [ho]
      exact p.2 b _ ho⟩, ?_, ?_⟩
    · exact Int.emod_nonneg _ (by decide)
    · exact Int.emod_lt_of_pos _ (by decide)
    · rintro i n x σ' H' H'' hi ⟨⟨m, u3, ⟨m1, m2⟩, rfl⟩, t1⟩ e4 r4
      have r4 := r4 (.inl t1)
      refine ql_asg (C := CB K) (ed_op (ed_op (ed_op (ed_var rfl (show Rp (CB K) H'' (.int m) (.int m) from rfl)) ed_int (o_mul (by omega))) (ed_var rfl r4) o_add) ed_int (o_mod (by decide))) fun vn H5 e5 rn => ?_
      refine ⟨⟨_, _, ⟨?_, ?_⟩, by rw [show vn = V.int _ from rn]; rfl⟩, t1.trans (e4.trans e5)⟩
      · exact Int.emod_nonneg _ (by decide)
      · exact Int.emod_lt_of_pos _ (by decide)
    · rintro σ' H' ⟨⟨m, u3, _, rfl⟩, t1⟩
      exact ret_v (C := CB K) (ed_var rfl (show Rp (CB K) H' (.int m) (.int m) from rfl)) fun v H9 e9 rv => by
        obtain rfl : v = V.int m := rv
        exact q _ H9 (e13.trans (t1.trans e9))
abbrev heapR (d : D) : Prop := ∃ x y z : Int, d = .lst [.int x, .int y, .int z] ∧ 0 ≤ x
abbrev spHeap (C : Addr) : Sp := spA C (fun i : Int => [.int i]) (fun _ => True) fun _ d => heapR d
theorem c_law_heap (T : TF w K mg) : Callee P w K mg base "_law_heap" 1 ["_law_cell_here"] (spHeap (CB K)) := by
  obtain ⟨fd, F⟩ := T.d_law_heap
  refine callee_of F (F.ok sc_law_heap (spA_len fun _ => rfl) fun cdv A outer s H vs Q E hr h => ?_) T.g_law_heap fun _ _ _ _ _ _ us hl => match us, hl with | [_], _ => rfl
  obtain ⟨a, r, hp, q⟩ := h
  have g : Good P w K (L2.Cx.nox (cxOf CX0 P w K mg base ["_law_cell_here"] "_law_heap" (defScope s_law_heap) (He.ga K "_law_heap") cdv A outer s H E)) := ⟨rfl, rfl, rfl, rfl, hu_un hr⟩
  have hu := hu_of hr
  refine ⟨_, PSs.nox (pss_cons (ps_if (PW.pt (pw_or (pt_cmpR (op_b g) (pv 0) pe_int (nomark _)) (pw_or1 (pt_cmpR (op_b g) (pv 0) (pe_op (op_b g) pe_int pe_int) (nomark _))))) (pss_one (ps_ret (pe_lst (pa_cons (pe_callB (c_b g) (by rfl) T.f_abs bt_abs (pa_cons (pv 0) pa_nil)) (pa_cons (pe_op (op_b g) (pe_op (op_b g) (pe_op (op_b g) (pv 0) pe_int) pe_int) pe_int) (pa_cons pe_int pa_nil)))))) pss_nil)
      (pss_one (ps_ret (pe_lst (pa_cons pe_int (pa_cons (pe_op (op_b g) (pe_op (op_b g) (pe_op (op_b g) (pv 0) pe_int) pe_int) pe_int) (pa_cons pe_int pa_nil))))))), ?_⟩
  obtain ⟨v, rfl, r1⟩ := r.one
  replace r1 : Rp (CB K) H v (.int a) := r1
  refine qd_when (et_or (et_cmp (ed_op (ed_var rfl r1) ed_int o_lt)) fun _ => et_cmp (ed_op (ed_var rfl r1) (ed_op ed_int ed_int (o_pow ⟨by decide, by decide, by decide⟩)) o_ge)) (fun hb H1 e1 => ?_) fun hb H1 e1 => ?_
  · refine sd_ret (ev_lst (ea1 (ed_cb (ea1 (ed_var rfl (show Rp (CB K) H1 v (.int a) from r1)) ea0) k_abs) (ea1 (ed_op (ed_op (ed_op (ed_var rfl (show Rp (CB K) H1 v (.int a) from r1)) ed_int (o_mod (by decide))) ed_int (o_mul ?_)) ed_int o_add) (ea1 ed_int ea0)))) fun v' H2 e2 r2 n2 => q_ex e1 q _ v' H2 ⟨_, _, _, rfl, ?_⟩ e2 r2 n2
    · have h1 := Int.emod_nonneg a (b := 1000000087) (by decide)
      have h2 := Int.emod_lt_of_pos a (b := 1000000087) (by decide)
      omega
    · split <;> omega
  · refine sd_ret (ev_lst (ea1 ed_int (ea1 (ed_op (ed_op (ed_op (ed_var rfl (show Rp (CB K) H1 v (.int a) from r1)) ed_int (o_mod (by decide))) ed_int (o_mul ?_)) ed_int o_add) (ea1 ed_int ea0)))) fun v' H2 e2 r2 n2 => q_ex e1 q _ v' H2 ⟨_, _, _, rfl, Int.le_refl 0⟩ e2 r2 n2
    have h1 := Int.emod_nonneg a (b := 1000000087) (by decide)
    have h2 := Int.emod_lt_of_pos a (b := 1000000087) (by decide)
    omega
theorem hp3 {a : Addr} {H : Hp} {x y z : Int} (h : H a = some (.lst [.int x, .int y, .int z])) : Rp C H (.ref a) (.lst [.int x, .int y, .int z]) := ⟨a, _, rfl, h, rfl, rfl, rfl, True.intro⟩
theorem c_law_draw (T : TF w K mg) : Callee P w K mg base "_law_draw" 1 ["_law_heap_here", "_law_many"] (spDraw (CB K)) := by
  obtain ⟨fd, F⟩ := T.d_law_draw
  refine callee_of F (F.ok sc_law_draw (spDr_len fun _ => rfl) fun cdv A outer s H vs Q E hr h => ?_) T.g_law_draw fun _ _ _ _ _ _ us hl => match us, hl with | [_, _], _ => rfl
  have g : Good P w K (L2.Cx.nox (cxOf CX0 P w K mg base ["_law_heap_here", "_law_many", "_law_digit", "_law_state"] "_law_draw" (defScope s_law_draw) (He.ga K "_law_draw") cdv A outer s H E)) := ⟨rfl, rfl, rfl, rfl, hu_un hr⟩
  have hu := hu_of hr
  refine ⟨_, PSs.nox (pss_cons (ps_asg (pe_op (op_b g) (pe_ix (ix_b g) (pv 0) pe_int (fun _ _ => rfl)) pe_int) (pg_sub (pv 0) pe_int (set_b g)))
      (pss_cons (ps_if (pt_cmpR (op_b g) (pe_ix (ix_b g) (pv 0) pe_int (fun _ _ => rfl)) pe_int (nomark _)) (pss_cons (ps_asg (pe_callB (c_b g) (by rfl) T.f_divmod bt_divmod (pa_cons (pe_ix (ix_b g) (pv 0) pe_int (fun _ _ => rfl)) (pa_cons (pv 1) pa_nil))) (pg_tup rfl (pgs_cons (pg_sub (pv 0) pe_int (set_b g)) (pgs_cons (pg_name (i := 2) sc_law_draw.nd rfl (Or.inl rfl)) pgs_nil))))
      (pss_one (ps_ret (pv 2)))) pss_nil)
      (pss_cons (ps_set (i := 3) sc_law_draw.nd rfl (Or.inl rfl) (pe_op (op_b g) (pe_ix (ix_b g) (pv 0) pe_int (fun _ _ => rfl)) pe_int))
      (pss_cons (ps_asg (pe_op (op_b g) (pe_op (op_b g) (pv 3) (pe_op (op_b g) (pe_op (op_b g) (pv 3) pe_int) pe_int)) (pe_op (op_b g) pe_int (pe_ix (ix_b g) (pv 0) pe_int (fun _ _ => rfl)))) (pg_sub (pv 0) pe_int (set_b g)))
      (pss_one (ps_ret (pe_op (op_b g) (pe_op (op_b g) (pe_op (op_b g) (pe_ix (ix_b g) (pv 0) pe_int (fun _ _ => rfl)) pe_int) pe_int) (pv 1)))))))), ?_⟩
  obtain ⟨n, a, us, rfl, ok, ru, ⟨n0, n1⟩, q⟩ := h
  obtain ⟨vn, rfl, rn⟩ := (ru H (.refl ok)).one
  replace rn : vn = V.int (n : Nat) := rn
  subst rn
  obtain ⟨x, y, z, ha, hx⟩ := ok
  have r0 : Rp (CB K) H (.ref a) (.lst [.int x, .int y, .int z]) := hp3 ha
  have rnn : ∀ H', Rp (CB K) H' (.int (n : Nat)) (.int (n : Nat)) := fun _ => rfl
  refine qs_putL (C := CB K) (d := .int (z + 1)) (l := 2) (ed_op (ed_op (ed_var rfl r0) ed_int (o_ixl (d := .int z) (atI_nat (j := 2) rfl))) ed_int o_add) (ev_var rfl) ed_int ha (by show 2 < 3; omega) fun v1 H1 e1 rv1 => ?_
  obtain rfl : v1 = V.int (z + 1) := rv1
  show tSeq _ _ _ _ (upd H1 a (.lst [.int x, .int y, .int (z + 1)]))
  have m1 : Mu a H (upd H1 a (.lst [.int x, .int y, .int (z + 1)])) := (Mu.ex ⟨x, y, z, ha, hx⟩ e1).trans (.put hx)
  have h1 : (upd H1 a (.lst [.int x, .int y, .int (z + 1)])) a = some (.lst [.int x, .int y, .int (z + 1)]) := upd_same
  generalize upd H1 a (.lst [.int x, .int y, .int (z + 1)]) = H2 at m1 h1
  refine qd_when (b := decide (0 < x)) (et_cmp (C := CB K) (ed_op (ed_op (ed_var rfl (hp3 h1)) ed_int (o_ixl (d := .int x) (atI_nat (j := 0) rfl))) ed_int o_gt)) (fun hb H3 e3 => ?_) fun hb H3 e3 => ?_
  · have hn : CDiv x (n : Nat) := ⟨by omega, by omega⟩
    have h3 := e3 _ _ h1
    refine (ed_cb (C := CB K) (ea1 (ed_op (ed_var rfl (hp3 h3)) ed_int (o_ixl (d := .int x) (atI_nat (j := 0) rfl))) (ea1 (ed_var rfl (rnn _)) ea0)) (k_divmod hn)) H3 (Ex.refl _) _ fun vt H4 e4 rt => ?_
    have h4 := e4 _ _ h3
    refine g_tup2 rt fun v1 v2 q1 q2 => ?_
    obtain rfl : v1 = V.int (x / (n : Nat)) := q1
    obtain rfl : v2 = V.int (x % (n : Nat)) := q2
    refine ⟨_, rfl, rSetL, fun X g => set_list, a, _, 0, 0, rfl, rfl, h4, rfl, ?_⟩
    have hd : 0 ≤ x / (n : Nat) := Int.ediv_nonneg hx (by omega)
    have m2 : Mu a H (upd H4 a (.lst [.int (x / (n : Nat)), .int y, .int (z + 1)])) := (m1.trans (.ex m1.ok (e3.trans e4))).trans (.put hd)
    refine ⟨_, rfl, q (.int (x % (n : Nat))) _ _ ⟨(x % (n : Nat)).toNat, ?_, ?_⟩ m2 fun _ _ => rfl⟩
    · have b1 := Int.emod_nonneg x (b := (n : Nat)) (by omega)
      have b2 := Int.emod_lt_of_pos x (b := ((n : Nat) : Int)) (by omega)
      omega
    · have b1 := Int.emod_nonneg x (b := (n : Nat)) (by omega)
      rw [Int.toNat_of_nonneg b1]
  · have h3 := e3 _ _ h1
    have b1 := Int.emod_nonneg y (b := 1000000087) (by decide)
    have b2 := Int.emod_lt_of_pos y (b := 1000000087) (by decide)
    refine qd_asg (C := CB K) (ed_op (ed_op (ed_var rfl (hp3 h3)) ed_int (o_ixl (d := .int y) (atI_nat (j := 1) rfl))) ed_int (o_mod (by decide))) fun vs H4 e4 rs => ?_
    obtain rfl : vs = V.int (y % 1000000087) := rs
    have h4 := e4 _ _ h3
    refine qs_putL (C := CB K) (l := 1) (ed_op (ed_op (ed_var rfl (show Rp (CB K) H4 (.int (y % 1000000087)) (.int (y % 1000000087)) from rfl)) (ed_op (ed_op (ed_var rfl (show Rp (CB K) H4 (.int (y % 1000000087)) (.int (y % 1000000087)) from rfl)) ed_int (o_mod (by decide))) ed_int o_add) (o_mul (by omega))) (ed_op ed_int (ed_op (ed_var rfl (hp3 h4)) ed_int (o_ixl (d := .int (z + 1)) (atI_nat (j := 2) rfl))) (o_mul (by decide))) o_add) (ev_var rfl) ed_int h4 (by show 1 < 3; omega) fun v5 H5 e5 r5 => ?_
    obtain ⟨t5, rfl⟩ : ∃ t5, v5 = V.int t5 := ⟨_, r5⟩
    show tRet _ _ _ (upd H5 a (.lst [.int x, .int t5, .int (z + 1)]))
    have m2 : Mu a H (upd H5 a (.lst [.int x, .int t5, .int (z + 1)])) := (m1.trans (.ex m1.ok (e3.trans (e4.trans e5)))).trans (.put hx)
    have h6 : (upd H5 a (.lst [.int x, .int t5, .int (z + 1)])) a = some (.lst [.int x, .int t5, .int (z + 1)]) := upd_same
    generalize upd H5 a (.lst [.int x, .int t5, .int (z + 1)]) = H6 at m2 h6
    refine ret_v (ed_op (C := CB K) (ed_op (ed_op (ed_op (ed_var rfl (hp3 h6)) ed_int (o_ixl (d := .int t5) (atI_nat (j := 1) rfl))) ed_int (o_mod (by decide))) ed_int (o_fdiv ⟨by omega, by omega⟩)) (ed_var rfl (rnn _)) (o_mod (by omega))) fun v7 H7 e7 r7 => ?_
    obtain rfl : v7 = V.int _ := r7
    refine q (.int _) _ _ ⟨(t5 % 1000000087 / 32 % (n : Nat)).toNat, ?_, ?_⟩ (m2.trans (.ex m2.ok e7)) fun _ _ => rfl
    · have b1 := Int.emod_nonneg (t5 % 1000000087 / 32) (b := (n : Nat)) (by omega)
      have b2 := Int.emod_lt_of_pos (t5 % 1000000087 / 32) (b := ((n : Nat) : Int)) (by omega)
      omega
    · have b1 := Int.emod_nonneg (t5 % 1000000087 / 32) (b := (n : Nat)) (by omega)
      rw [Int.toNat_of_nonneg b1]
end
end Fl
set_option maxHeartbeats 4000000
namespace Fl
open PySem PySem.Spec PyProof.Rows L2 Evl
theorem sc_law_term : FnScope ["_law_heap_here", "_law_known", "_law_menu", "_law_signs", "_law_found", "_law_spare", "_law_sign", "_law_term_here", "_law_k"] ["_law_heap_here", "_law_known"] (defScope s_law_term) := ⟨rfl, rfl, rfl, by decide +kernel, rfl, by decide +kernel, by decide +kernel⟩
theorem sc_law_terms : FnScope ["_law_heap_here", "_law_many", "_law_found", "_law_k"] ["_law_heap_here", "_law_many"] (defScope s_law_terms) := ⟨rfl, rfl, rfl, by decide +kernel, rfl, by decide +kernel, by decide +kernel⟩
theorem nm_of {z : Str} {l : List Nat} (e : z.cps.toList = l) (h1 : 1 ≤ l.length ∧ l.length ≤ 6) (h2 : ∀ c, l[0]? = some c → c ∈ sLET.cps.toList) (h3 : ∀ c ∈ l, c ∈ sSIG.cps.toList) : isNm z := by
  subst e
  exact ⟨by show 1 ≤ z.cps.size ∧ z.cps.size ≤ 6; rw [← Array.length_toList]; exact h1, h2, h3⟩
theorem let_sig : ∀ c ∈ sLET.cps.toList, c ∈ sSIG.cps.toList := by decide +kernel
theorem app_cps (x y : Str) : (x ++ y).cps.toList = x.cps.toList ++ y.cps.toList := Array.toList_append
def sgS (c : Nat) : Str := ⟨#[c]⟩
theorem sg_cps (c : Nat) : (sgS c).cps.toList = [c] := rfl
theorem join_sg : ∀ cs : List Nat, (Str.join Str.empty (cs.map sgS)).cps.toList = cs
  | [] => rfl
  | [c] => rfl
  | c :: d :: r => by
    show (sgS c ++ Str.empty ++ Str.join Str.empty ((d :: r).map sgS)).cps.toList = _
    rw [app_cps, app_cps, join_sg (d :: r)]
    rfl
def cut5 (z : Str) : Str := cutS z none (some 5)
theorem cut5_cps (z : Str) : (cut5 z).cps.toList = z.cps.toList.take 5 := by
  show (((z.cps.toList.drop (HT.sIx z.length 0 none)).take (HT.sIx z.length z.length (some 5) - HT.sIx z.length 0 none)).toArray).toList = _
  rw [List.toList_toArray]
  have e0 : HT.sIx z.length 0 none = 0 := rfl
  have e5 : HT.sIx z.length z.length (some (5 : Int)) = min 5 z.length := by
    unfold HT.sIx
    simp
  rw [e0, e5, List.drop_zero, Nat.sub_zero]
  have hl : z.length = z.cps.toList.length := Array.length_toList.symm
  rw [hl, ← List.take_take, List.take_length]
def spareL (z : Str) : List Str := z :: sSIG.cps.toList.map fun s => cut5 z ++ sgS s
theorem spare_nm {z y : Str} (h : isNm z) (hy : y ∈ spareL z) : isNm y := by
  rcases List.mem_cons.mp hy with e | hy
  · rw [e]; exact h
  · obtain ⟨s, hs, rfl⟩ := List.mem_map.mp hy
    have hl : z.length = z.cps.toList.length := Array.length_toList.symm
    have h1 := h.len
    refine nm_of (l := z.cps.toList.take 5 ++ [s]) (by rw [app_cps, cut5_cps, sg_cps]) ?_ (fun c hc => ?_) fun c hc => ?_
    · rw [List.length_append, List.length_take]
      simp
      omega
    · have hp : 0 < (z.cps.toList.take 5).length := by rw [List.length_take]; omega
      rw [List.getElem?_append_left hp, List.getElem?_take_of_lt (by omega)] at hc
      exact h.one c hc
    · rcases List.mem_append.mp hc with g | g
      · exact h.all c (List.mem_of_mem_take g)
      · rw [List.mem_singleton.mp g]; exact hs
theorem spare_free {z : Str} {ks : List Str} (hk : ks.length ≤ 2) : ∃ y ∈ spareL z, y ∉ ks := by
  have hm : ∀ s ∈ sSIG.cps.toList, cut5 z ++ sgS s ∈ spareL z := fun s hs => List.mem_cons_of_mem _ (List.mem_map.mpr ⟨s, hs, rfl⟩)
  have inj : ∀ s t : Nat, cut5 z ++ sgS s = cut5 z ++ sgS t → s = t := fun s t e => by
    have e2 := congrArg (fun x : Str => x.cps.toList) e
    simp only [app_cps, sg_cps] at e2
    have := List.append_cancel_left e2
    simpa using this
  have three : ∀ a b c : Str, a ≠ b → a ≠ c → b ≠ c → ¬ (a ∈ ks ∧ b ∈ ks ∧ c ∈ ks) := by
    intro a b c h1 h2 h3 ⟨g1, g2, g3⟩
    match ks, hk with
    | [], _ => cases g1
    | [x], _ => exact h1 ((List.mem_singleton.mp g1).trans (List.mem_singleton.mp g2).symm)
    | [x, y], _ =>
      simp only [List.mem_cons, List.not_mem_nil, or_false] at g1 g2 g3
      rcases g1 with e1 | e1 <;> rcases g2 with e2 | e2 <;> rcases g3 with e3 | e3 <;> first | exact h1 (e1.trans e2.symm) | exact h2 (e1.trans e3.symm) | exact h3 (e2.trans e3.symm)
  have a1 := hm 97 (by decide +kernel)
  have a2 := hm 98 (by decide +kernel)
  have a3 := hm 99 (by decide +kernel)
  have t := three (cut5 z ++ sgS 97) (cut5 z ++ sgS 98) (cut5 z ++ sgS 99) (fun e => by have := inj _ _ e; omega) (fun e => by have := inj _ _ e; omega) (fun e => by have := inj _ _ e; omega)
  by_cases h1 : cut5 z ++ sgS 97 ∈ ks
  · by_cases h2 : cut5 z ++ sgS 98 ∈ ks
    · exact ⟨_, a3, fun h3 => t ⟨h1, h2, h3⟩⟩
    · exact ⟨_, a2, h2⟩
  · exact ⟨_, a1, h1⟩
theorem all_form {α : Type} {F : α → D} {p : α → Prop} : ∀ {ds : List D}, (∀ d ∈ ds, ∃ x, p x ∧ d = F x) → ∃ xs : List α, ds = xs.map F ∧ ∀ x ∈ xs, p x
  | [], _ => ⟨[], rfl, fun _ h => nomatch h⟩
  | d :: ds, h => by
    obtain ⟨x, hx, rfl⟩ := h d List.mem_cons_self
    obtain ⟨xs, rfl, h2⟩ := all_form (ds := ds) fun e he => h e (List.mem_cons_of_mem _ he)
    exact ⟨x :: xs, rfl, fun y hy => (List.mem_cons.mp hy).elim (fun e => by rw [e]; exact hx) (h2 y)⟩
abbrev sMENU : List Str := ["put", "copy", "reckon", "look", "show", "wait", "set", "give", "take", "room", "lane", "at", "of", "none"]
abbrev sMEN2 : List Str := ["ok", "begin"]
theorem menu_nm : ∀ z ∈ sMENU ++ sMEN2, isNm z := by
  intro z hz
  have h : (sMENU ++ sMEN2).all (fun z => (decide (1 ≤ z.length) && decide (z.length ≤ 6)) && ((z.cps.toList.head?.all fun c => decide (c ∈ sLET.cps.toList)) && z.cps.toList.all fun c => decide (c ∈ sSIG.cps.toList))) = true := by decide +kernel
  have h := List.all_eq_true.mp h z hz
  obtain ⟨h1, h2⟩ := Bool.and_eq_true_iff.mp h
  obtain ⟨h1, h1'⟩ := Bool.and_eq_true_iff.mp h1
  obtain ⟨h2, h3⟩ := Bool.and_eq_true_iff.mp h2
  exact isNm_of ⟨⟨of_decide_eq_true h1, of_decide_eq_true h1'⟩, h2, h3⟩
section
variable {P : Program} {w : World} {K : PySem.W.Frag} {mg : Str → Option Value} {base : Heap} {a C : Addr} {σ : L2.St} {H : Hp} {to te ti : TE}
theorem em_ixsN {z : Str} {M : Nat} (hl : z.length ≤ 100000) (hM : M ≤ z.cps.toList.length) (ho : EM a C to σ H (fun d => d = .str z)) (hi : EM a C ti σ H (Lt M)) : EM a C (tOp (rI_ P w K) to ti) σ H (fun d => ∃ c, c ∈ z.cps.toList.take M ∧ d = .str (sgS c)) :=
  em_op ho hi fun x y px ⟨m, hm, py⟩ => by
    subst px; subst py
    have hm2 : m < z.cps.toList.length := by omega
    exact ⟨.str ⟨#[z.cps.toList[m]]⟩, o_ixs hl (atI_nat (List.getElem?_eq_getElem hm2)), rfl, _, List.mem_take_iff_getElem.mpr ⟨m, by omega, rfl⟩, rfl⟩
theorem ed_slS {z : Str} {te th : TE} {k : Int} (h : Ed C te σ H (.str z)) (hh : Ed C th σ H (.int k)) (hz : z.length ≤ 100000) : Ed C (tSl (rS P w K) te tNoPart (tPart th)) σ H (.str (cutS z none (some k))) := fun H1 e Q q =>
  h H1 e _ fun v H2 e2 r2 => hh H2 (e.trans e2) _ fun u H3 e3 ru => ⟨k, ru, rSlS, fun X g => sl_str, z, r2, sz_of hz, q _ H3 (e2.trans e3) rfl⟩
theorem em_join (he : EM a C te σ H (fun d => ∃ ds, d = .lst ds ∧ ds.length < 6 ∧ ∀ x ∈ ds, ∃ c, c ∈ sSIG.cps.toList.take 36 ∧ x = .str (sgS c))) :
    EM a C (tM1 (fun x xs H Q => ∃ a p, ∃ ys : List Str, x = .str a ∧ xs = [.ref p] ∧ (SqL K H p (ys.map V.str) ∨ SqT K H p (ys.map V.str)) ∧ (ys.map (·.length)).sum + ys.length * a.length ≤ 16777216 ∧ Q (.str (Txt.join a ys)) H) (tC (.str "")) te) σ H (fun d => ∃ z : Str, d = .str z ∧ z.cps.toList.length < 6 ∧ ∀ c ∈ z.cps.toList, c ∈ sSIG.cps.toList) := fun H1 m Q q =>
  ⟨⟨_, rfl⟩, he H1 m _ fun d v H2 ⟨ds, ed, hl, hd⟩ m2 r => by
    subst ed
    obtain ⟨cs, rfl, hc⟩ := all_form (F := fun c => D.str (sgS c)) (p := fun c => c ∈ sSIG.cps.toList.take 36) hd
    obtain ⟨p, xs, rfl, h1, h2⟩ := r.rp m2.ok
    have e1 : cs.map (fun c => D.str (sgS c)) = (cs.map sgS).map D.str := by rw [List.map_map]; rfl
    rw [e1] at h2
    have e2 := h2.strs
    subst e2
    rw [List.length_map] at hl
    have ej : (Txt.join "" (cs.map sgS)).cps.toList = cs := by
      rw [TL.join_eq]
      exact join_sg cs
    refine ⟨"", p, cs.map sgS, rfl, rfl, .inl (sq_of h1), ?_, q (.str (Txt.join "" (cs.map sgS))) _ H2 ⟨_, rfl, ?_, fun c hc' => ?_⟩ m2 fun _ _ => rfl⟩
    · have : ∀ cs : List Nat, ((cs.map sgS).map (·.length)).sum = cs.length := by
        intro cs
        induction cs with
        | nil => rfl
        | cons c cs ih => rw [List.map_cons, List.map_cons, List.sum_cons, ih, List.length_cons]; show 1 + _ = _; omega
      rw [this, List.length_map]
      have e0 : (("" : Str)).length = 0 := rfl
      rw [e0]
      omega
    · rw [ej]; exact hl
    · rw [ej] at hc'
      exact List.mem_of_mem_take (hc c hc')⟩
abbrev spTerm (C : Addr) : Sp := spDr C (fun ks : List Str => [.lst (ks.map D.str)]) (fun ks => ks.length ≤ 2) fun ks d => ∃ z, d = .str z ∧ isNm z ∧ z ∉ ks
theorem c_law_term (T : TF w K mg) (c_law_draw : Callee P w K mg base "_law_draw" 1 ["_law_heap_here", "_law_many"] (spDraw (CB K))) : Callee P w K mg base "_law_term" 2 ["_law_heap_here", "_law_known"] (spTerm (CB K)) := by
  obtain ⟨fd, F⟩ := T.d_law_term
  refine callee_of F (F.ok sc_law_term (spDr_len fun _ => rfl) fun cdv A outer s H vs Q E hr h => ?_) T.g_law_term fun _ _ _ _ _ _ us hl => match us, hl with | [_, _], _ => rfl
  have g : Good P w K (L2.Cx.nox (cxOf CX0 P w K mg base ["_law_heap_here", "_law_known", "_law_menu", "_law_signs", "_law_found", "_law_spare", "_law_sign", "_law_term_here", "_law_k"] "_law_term" (defScope s_law_term) (He.ga K "_law_term") cdv A outer s H E)) := ⟨rfl, rfl, rfl, rfl, hu_un hr⟩
  have hu := hu_of hr
  refine ⟨_, PSs.nox (pss_cons (ps_set (i := 2) sc_law_term.nd rfl (Or.inl rfl) (pe_lst (pa_cons pe_str (pa_cons pe_str (pa_cons pe_str (pa_cons pe_str (pa_cons pe_str (pa_cons pe_str (pa_cons pe_str (pa_cons pe_str (pa_cons pe_str (pa_cons pe_str (pa_cons pe_str (pa_cons pe_str (pa_cons pe_str (pa_cons pe_str pa_nil))))))))))))))))
      (pss_cons (ps_set (i := 3) sc_law_term.nd rfl (Or.inr rfl) pe_str)
      (pss_cons (ps_set (i := 4) sc_law_term.nd rfl (Or.inr rfl) (pe_ix (ix_b g) (pe_op (op_b g) (pv 2) (pe_lst (pa_cons pe_str (pa_cons pe_str pa_nil)))) (pe_c c_law_draw (hr.mono (by decide)) (by rfl) pass0 (pa_cons (pv 0) (pa_cons pe_int pa_nil))) (fun _ _ => rfl)))
      (pss_cons (ps_if (pt_cmpR (op_b g) (pe_c c_law_draw (hr.mono (by decide)) (by rfl) pass0 (pa_cons (pv 0) (pa_cons pe_int pa_nil))) pe_int (nomark _)) (pss_cons (ps_set (i := 4) sc_law_term.nd rfl (Or.inr rfl) (pe_ix (ix_b g) (pv 3) (pe_c c_law_draw (hr.mono (by decide)) (by rfl) pass0 (pa_cons (pv 0) (pa_cons pe_int pa_nil))) (fun _ _ => rfl)))
      (pss_one (ps_set (i := 4) sc_law_term.nd rfl (Or.inr rfl) (pe_op (op_b g) (pv 4) (pe_join pe_str (pe_lc (own := [("_law_k", 8)]) g.calm sc_law_term.nd (pi_range1 (by rfl) T.f_range (pa_cons (pe_c c_law_draw (hr.mono (by decide)) (by rfl) pass0 (pa_cons (pv 0) (pa_cons pe_int pa_nil))) pa_nil)) (blkOk_by (by kernel_rfl)) (fun _ _ _ _ _ => (pg_name (i := 8) sc_law_term.nd rfl (Or.inl rfl))) (fun _ _ _ _ _ => pts_nil) (fun _ _ _ _ _ => (pe_ix (ix_b g.b) (pv 3) (pe_c c_law_draw (hr.mono (by decide)) (by rfl) pass0 (pa_cons (pv 0) (pa_cons pe_int pa_nil))) (fun _ _ => rfl))))))))) pss_nil)
      (pss_cons (ps_set (i := 5) sc_law_term.nd rfl (Or.inl rfl) (pe_op (op_b g) (pe_lst (pa_cons (pv 4) pa_nil)) (pe_lc (own := [("_law_sign", 6)]) g.calm sc_law_term.nd (pi_b g (pv 3)) (blkOk_by (by kernel_rfl)) (fun _ _ _ _ _ => (pg_name (i := 6) sc_law_term.nd rfl (Or.inl rfl))) (fun _ _ _ _ _ => pts_nil) (fun _ _ _ _ _ => (pe_op (op_b g.b) (pe_slice (sl_b g.b) (pv 4) po_none (po_some pe_int)) (pv 6))))))
      (pss_one (ps_ret (pe_ix (ix_b g) (pe_lc (own := [("_law_term_here", 7)]) g.calm sc_law_term.nd (pi_b g (pv 5)) (blkOk_by (by kernel_rfl)) (fun _ _ _ _ _ => (pg_name (i := 7) sc_law_term.nd rfl (Or.inl rfl))) (fun _ _ _ _ _ => (pts_one (pt_cmpR (op_b g.b) (pv 7) (pv 1) rfl))) (fun _ _ _ _ _ => (pv 7))) pe_int (fun _ _ => rfl))))))))), ?_⟩
  obtain ⟨ks, a, us, rfl, ok, ru, hk, q⟩ := h
  obtain ⟨vk, rfl, _⟩ := (ru H (.refl ok)).one
  have rk : RpS a (CB K) H vk (.lst (ks.map D.str)) := fun H' m => (ru H' m).1
  replace hk : ks.length ≤ 2 := hk
  refine qm_asg (C := CB K) ok (em_lst (ds := sMENU.map D.str) (fun _ _ => ea1 ed_str (ea1 ed_str (ea1 ed_str (ea1 ed_str (ea1 ed_str (ea1 ed_str (ea1 ed_str (ea1 ed_str (ea1 ed_str (ea1 ed_str (ea1 ed_str (ea1 ed_str (ea1 ed_str (ea1 ed_str ea0)))))))))))))) rfl) fun dm vm H1 edm m1 rm => ?_
  subst edm
  refine qm_asg (C := CB K) m1.ok em_str fun ds vs H2 eds m2 rs => ?_
  subst eds
  have m12 := m1.trans m2
  have evs : vs = V.str sSIG := rs.rp m2.ok
  subst evs
  refine qm_asg (C := CB K) m2.ok (em_ixl (ds := (sMENU ++ sMEN2).map D.str) (em_edl (fun H3 m3 => Ed.is (ed_op (ed_var rfl (((rm.mu m2).mu m3).rp m3.ok)) (ed_lst (ds := sMEN2.map D.str) (ea1 ed_str (ea1 ed_str ea0))) (o_addl (by decide))) rfl) (by decide) rfl) (em_drawN (M := 16) rfl (by decide)) rfl) fun df vf H3 pf m3 rf => ?_
  obtain ⟨z0, hz0, edf⟩ := List.mem_map.mp pf
  subst edf
  have nz0 : isNm z0 := menu_nm z0 hz0
  have evf : vf = V.str z0 := rf.rp m3.ok
  subst evf
  have m13 := m12.trans m3
  refine qm_ifM (fun σ' H' => ∃ z, isNm z ∧ Mu a H H' ∧ σ' = [some (.ref a), some vk, some vm, some (.str sSIG), some (.str z), none, none, none, none]) m3.ok (emt_em (C := CB K) (em_op (χ := fun d => ∃ b, d = .bl b) (em_drawN (M := 4) rfl (by decide)) em_int fun x y ⟨m, _, ex⟩ ey => by
    subst ex; subst ey
    exact ⟨_, o_gt, rfl, _, rfl⟩)) (fun nx hnx H4 m4 => ?_) (fun nx hnx H4 m4 => hnx _ _ ⟨z0, nz0, m13.trans m4, rfl⟩) ?_
  · refine qm_asg (C := CB K) m4.ok (em_ixsN (z := sSIG) (M := 26) (by decide +kernel) (by decide +kernel) (em_var rfl fun _ _ => rfl) (em_drawN (M := 26) rfl (by decide))) fun d1 v1 H5 ⟨c, hc, ed1⟩ m5 r1 => ?_
    subst ed1
    have ev1 : v1 = V.str (sgS c) := r1.rp m5.ok
    subst ev1
    refine qlm_asg (C := CB K) m5.ok (em_op (χ := fun d => ∃ z, isNm z ∧ d = .str z) (em_var (d := .str (sgS c)) rfl fun _ _ => rfl) (em_join (em_lcR (N := fun n => n < 6) (by show 8 < 9; omega) (em_drawN (M := 6) rfl (by decide)) (fun m hm => by omega) (fun j H6 m6 => em_ixsN (z := sSIG) (M := 36) (by decide +kernel) (by decide +kernel) (em_var rfl fun _ _ => rfl) (em_drawN (M := 36) rfl (by decide))) fun d ⟨c, _, e⟩ => by rw [e]; rfl)) fun x y ex ⟨y2, ey, hl, hy⟩ => ?_) fun d6 v6 H6 ⟨z, hz, ed6⟩ m6 r6 => ?_
    · subst ex; subst ey
      have hcl : c ∈ sLET.cps.toList := by
        have : sSIG.cps.toList.take 26 = sLET.cps.toList := by decide +kernel
        rw [← this]; exact hc
      refine ⟨_, o_adds ?_, rfl, _, nm_of (l := c :: y2.cps.toList) (by rw [app_cps]; rfl) ⟨?_, ?_⟩ (fun c' hc' => ?_) (fun c' hc' => ?_), rfl⟩
      · have h1 : (sgS c).length = 1 := rfl
        have h2 : y2.length = y2.cps.toList.length := Array.length_toList.symm
        omega
      · simp
      · rw [List.length_cons]; omega
      · have : c = c' := by simpa using hc'
        rw [← this]; exact hcl
      · rcases List.mem_cons.mp hc' with e | e
        · rw [e]; exact let_sig c hcl
        · exact hy c' e
    · subst ed6
      have ev6 : v6 = V.str z := r6.rp m6.ok
      subst ev6
      exact hnx _ _ ⟨z, hz, m13.trans (m4.trans (m5.trans m6)), rfl⟩
  · rintro σ' H4 ⟨z, hz, m4, rfl⟩
    have rk4 : Rp (CB K) H4 vk (.lst (ks.map D.str)) := (rk.mu m4).rp m4.ok
    have hlen : z.length ≤ 100000 := by have := hz.len; omega
    refine qd_asg (C := CB K) (d := .lst ((spareL z).map D.str)) (Ed.is (ed_op (ed_lst (ds := [.str z]) (ea1 (ed_var rfl (show Rp (CB K) H4 (.str z) (.str z) from rfl)) ea0)) (ed_map (C := CB K) (xs := sSIG.cps.toList) (F := fun c => D.str (sgS c)) (fun c => D.str (cut5 z ++ sgS c)) (ei_str (ed_var rfl (show Rp (CB K) H4 (.str sSIG) (.str sSIG) from rfl))) (by decide +kernel) (fun _ _ => rfl) ?_) (o_addl ?_)) ?_) fun vp H5 e5 rp => ?_
    · intro i c x H5 hi e5 r5 k q'
      exact q' _ rfl (ed_op (ed_slS (ed_var rfl (show Rp (CB K) H5 (.str z) (.str z) from rfl)) ed_int hlen) (ed_var rfl r5) (o_adds (by
        have h1 := hz.len
        have h2 := cutS_length z none (some 5)
        have h3 : (sgS c).length = 1 := rfl
        show (cutS z none (some 5)).length + (sgS c).length ≤ 100000
        omega)))
    · rw [List.length_map]
      show 1 + sSIG.cps.toList.length ≤ 100000
      decide +kernel
    · unfold spareL
      rw [List.map_cons, List.map_map]
      rfl
    · obtain ⟨y, hy1, hy2⟩ := spare_free (z := z) hk
      have hf : ∃ y0 rest, (spareL z).filter (fun y => !decide (y ∈ ks)) = y0 :: rest := by
        cases hq : (spareL z).filter (fun y => !decide (y ∈ ks)) with
        | nil => exact absurd (List.filter_eq_nil_iff.mp hq y hy1) (by simp [hy2])
        | cons y0 rest => exact ⟨y0, rest, rfl⟩
      obtain ⟨y0, rest, hf⟩ := hf
      have h0 : y0 ∈ (spareL z).filter (fun y => !decide (y ∈ ks)) := by rw [hf]; exact List.mem_cons_self
      obtain ⟨h0a, h0b⟩ := List.mem_filter.mp h0
      refine ret_v (C := CB K) (d := .str y0) (ed_op (ed_lc (C := CB K) (xs := spareL z) (F := D.str) (fun y => !decide (y ∈ ks)) D.str (ei_lst (ed_var rfl rp)) (by unfold spareL; rw [List.length_cons, List.length_map]; decide +kernel) (fun _ _ _ => rfl) ?_) ed_int (o_ixl (atI_nat (j := 0) (by rw [hf]; rfl)))) fun vr H6 e6 rr => ?_
      · intro i y x H6 hi e6 r6 k q'
        exact q' _ rfl (et_cmp (ed_op (ed_var rfl r6) (ed_var rfl (rk4.ex (e5.trans e6))) o_ninlst)) fun _ => ed_var rfl r6
      · refine q (.str y0) _ _ ⟨y0, rfl, spare_nm hz h0a, by simpa using h0b⟩ (m4.trans (.ex m4.ok (e5.trans e6))) fun _ _ => rr
end
end Fl
set_option maxHeartbeats 4000000
namespace Fl
open PySem PySem.Spec PyProof.Rows L2 Evl
theorem sc_law_halls : FnScope ["_law_heap_here", "_law_many", "_law_ground", "_law_owned", "_law_found", "_law_term_here", "_law_size", "_law_where", "_law_holder"] ["_law_heap_here", "_law_many", "_law_ground", "_law_owned"] (defScope s_law_halls) := ⟨rfl, rfl, rfl, by decide +kernel, rfl, by decide +kernel, by decide +kernel⟩
theorem sc_law_number : FnScope ["_law_heap_here", "_law_much"] ["_law_heap_here"] (defScope s_law_number) := ⟨rfl, rfl, rfl, by decide +kernel, rfl, by decide +kernel, by decide +kernel⟩
theorem sc_law_plain_deed : FnScope ["_law_heap_here", "_law_halls_here", "_law_terms_here", "_law_held", "_law_near_here", "_law_far", "_law_way", "_law_some", "_law_row", "_law_k"] ["_law_heap_here", "_law_halls_here"] (defScope s_law_plain_deed) := ⟨rfl, rfl, rfl, by decide +kernel, rfl, by decide +kernel, by decide +kernel⟩
theorem sc_law_rows : FnScope ["_law_heap_here", "_law_halls_here", "_law_many", "_law_size", "_law_turn"] ["_law_heap_here", "_law_halls_here", "_law_many", "_law_size"] (defScope s_law_rows) := ⟨rfl, rfl, rfl, by decide +kernel, rfl, by decide +kernel, by decide +kernel⟩
section
variable {P : Program} {w : World} {K : PySem.W.Frag} {mg : Str → Option Value} {base : Heap} {a C : Addr} {σ : L2.St} {H : Hp} {to te ti : TE}
abbrev spTerms (C : Addr) : Sp := spDr C (fun n : Nat => [.int (n : Nat)]) (fun n => n ≤ 3) fun n d => ∃ zs : List Str, d = .lst (zs.map D.str) ∧ zs.length = n ∧ zs.Nodup ∧ ∀ z ∈ zs, isNm z
theorem c_law_terms (T : TF w K mg) (c_law_term : Callee P w K mg base "_law_term" 2 ["_law_heap_here", "_law_known"] (spTerm (CB K))) : Callee P w K mg base "_law_terms" 3 ["_law_heap_here", "_law_many"] (spTerms (CB K)) := by
  obtain ⟨fd, F⟩ := T.d_law_terms
  refine callee_of F (F.ok sc_law_terms (spDr_len fun _ => rfl) fun cdv A outer s H vs Q E hr h => ?_) T.g_law_terms fun _ _ _ _ _ _ us hl => match us, hl with | [_, _], _ => rfl
  have g : Good P w K (L2.Cx.nox (cxOf CX0 P w K mg base ["_law_heap_here", "_law_many", "_law_found", "_law_k"] "_law_terms" (defScope s_law_terms) (He.ga K "_law_terms") cdv A outer s H E)) := ⟨rfl, rfl, rfl, rfl, hu_un hr⟩
  have hu := hu_of hr
  refine ⟨_, PSs.nox (pss_cons (ps_set (i := 2) sc_law_terms.nd rfl (Or.inl rfl) (pe_lst pa_nil))
      (pss_cons (ps_for PassesOwn.never g.calm (pi_range1 (by rfl) T.f_range (pa_cons (pv 1) pa_nil)) (pg_name (i := 3) sc_law_terms.nd rfl (Or.inl rfl)) (pss_one (ps_expr (pe_bm PySem.F.plainAttrs_list PySem.F.slot_list_append PySem.F.type_list_append (mt_b g) (pv 2) (pa_cons (pe_c c_law_term (hr.mono (by decide)) (by rfl) pass0 (pa_cons (pv 0) (pa_cons (pv 2) pa_nil))) pa_nil)))))
      (pss_one (ps_ret (pv 2))))), ?_⟩
  obtain ⟨n, a, us, rfl, ok, ru, hn, q⟩ := h
  replace hn : n ≤ 3 := hn
  obtain ⟨vn, rfl, rn⟩ := (ru H (.refl ok)).one
  obtain rfl : vn = V.int (n : Nat) := rn
  refine q_lnew (C := CB K) ea0 fun l vs H1 e1 rv hl => ?_
  obtain rfl := rv.nil
  have hla : l ≠ a := (ok.ex e1).ne hl
  have eL : Ex H1 (upd H1 l (.lst [])) := Ex.new hl
  have hH : H l = none := fresh_back e1 hl
  refine qs_for0 (C := CB K) (xs := List.range n) (F := fun i => D.int (i : Nat)) (ei_rangeN (ea1 (ed_var rfl (show Rp (CB K) _ (.int (n : Nat)) (.int (n : Nat)) from rfl)) ea0) (by omega)) (fun _ _ => rfl) fun H2 e2 => ?_
  have ok2 := (ok.ex (e1.trans eL)).ex e2
  refine ⟨fun j σ' H' => Mu a H H' ∧ Tx H2 H' ∧ ∃ u3 vs, ∃ zs : List Str, σ' = [some (.ref a), some (.int (n : Nat)), some (.ref l), u3] ∧ H' l = some (.lst vs) ∧ RpL (CB K) H' vs (zs.map D.str) ∧ zs.length = j ∧ zs.Nodup ∧ ∀ z ∈ zs, isNm z,
    ⟨.ex ok (e1.trans (eL.trans e2)), Tx.refl _, _, [], [], rfl, e2 _ _ upd_same, True.intro, rfl, List.nodup_nil, (fun _ h => nomatch h)⟩, fun _ _ _ p => p.2.1, ?_, ?_⟩
  · rintro j k x σ' H' H'' hj ⟨m1, t1, u3, vs, zs, rfl, h1, h2, h3, h4, h5⟩ e3 r3
    have hjn : j < n := by have := (List.getElem?_eq_some_iff.mp hj).1; rwa [List.length_range] at this
    have mE : Mu a H' H'' := .ex m1.ok e3
    have hl3 := e3 _ _ h1
    have rl : Rp (CB K) H'' (.ref l) (.lst (zs.map D.str)) := ⟨l, vs, rfl, hl3, h2.ex e3⟩
    have zf : fzL (zs.map D.str) = true := fzL_map fun _ _ => rfl
    refine qm_append (C := CB K) (φ := fun d => ∃ z, d = .str z ∧ isNm z ∧ z ∉ zs) mE.ok rfl hla hl3 (by rw [h2.length, List.length_map]; omega) (em_dr rfl (ema1 (em_var (d := .lst (zs.map D.str)) rfl (.lst mE.ok hla zf rl)) ema0) fun ds ⟨d, ds', e, ed, el⟩ => ⟨zs, by rw [e, ed, el], by omega, fun d h => h⟩) fun d v H4 ⟨z, ed, hz1, hz2⟩ m4 r4 hl4 => ?_
    subst ed
    have ev : v = V.str z := r4.rp m4.ok
    subst ev
    have tl : Tx H4 (upd H4 l (.lst (vs ++ [V.str z]))) := Tx.lst hl4
    have m5 : Mu a H H4 := m1.trans (mE.trans m4)
    refine ⟨⟨fun b o hb h => ?_, ?_⟩, (t1.trans (Tx.ex e3)).trans ((m4.tx mE.ok).trans tl), _, vs ++ [V.str z], zs ++ [z], rfl, upd_same, ?_, by rw [List.length_append, h3]; rfl, ?_, fun y hy => ?_⟩
    · rw [upd_ne (ne_of_none h hH)]
      exact m5.keep b o hb h
    · obtain ⟨x, y, z, h, hx⟩ := m5.ok
      exact ⟨x, y, z, by rw [upd_ne hla.symm]; exact h, hx⟩
    · rw [List.map_append]
      exact RpL.fz tl (fzL_append zf rfl) (RpL.append (h2.fz ((Tx.ex e3).trans (m4.tx mE.ok)) zf) (show RpL (CB K) H4 [V.str z] [D.str z] from ⟨rfl, True.intro⟩))
    · refine List.nodup_append.mpr ⟨h4, by simp, fun y hy y2 hy2 e => ?_⟩
      rw [List.mem_singleton.mp hy2] at e
      exact hz2 (e ▸ hy)
    · rcases List.mem_append.mp hy with h | h
      · exact h5 y h
      · rw [List.mem_singleton.mp h]; exact hz1
  · rintro σ' H' ⟨m1, t1, u3, vs, zs, rfl, h1, h2, h3, h4, h5⟩
    rw [List.length_range] at h3
    exact ⟨_, rfl, q (.lst (zs.map D.str)) (.ref l) H' ⟨zs, rfl, h3, h4, h5⟩ m1 (.lst m1.ok hla (fzL_map fun _ _ => rfl) ⟨l, vs, rfl, h1, h2⟩)⟩
abbrev spHalls (C : Addr) : Sp := spDr C (fun p : Nat × Bool => [.int (p.1 : Nat), .bl p.2, .bl false]) (fun p => 1 ≤ p.1 ∧ p.1 ≤ 3) fun p d => ∃ hs, d = hallsD hs ∧ hs.length = p.1 ∧ HallsOk hs
theorem em_menu {E : XK} {i x y z M : Nat} (ha : σ[i]? = some (some (.ref a))) (hx : 0 < x ∧ x ≤ M) (hy : 0 < y ∧ y ≤ M) (hz : 0 < z ∧ z ≤ M) :
    EM a C (tOp (rI_ P w K) (tLst (tCons (tC (.int (x : Nat))) (tCons (tC (.int (y : Nat))) (tCons (tC (.int (z : Nat))) tNil)))) (tCall (spDraw C) [] E (tCons (tVar i) (tCons (tC (.int ((3 : Nat) : Int))) tNil)))) σ H (Up M) :=
  (em_ixl (ds := [.int (x : Nat), .int (y : Nat), .int (z : Nat)]) (em_lst (fun _ _ => ea1 ed_int (ea1 ed_int (ea1 ed_int ea0))) rfl) (em_drawN (M := 3) ha (by decide)) rfl).imp fun d hd => by
    simp only [List.mem_cons, List.not_mem_nil, or_false] at hd
    rcases hd with rfl | rfl | rfl
    · exact ⟨x, hx.1, hx.2, rfl⟩
    · exact ⟨y, hy.1, hy.2, rfl⟩
    · exact ⟨z, hz.1, hz.2, rfl⟩
theorem c_law_halls (T : TF w K mg) (c_law_terms : Callee P w K mg base "_law_terms" 3 ["_law_heap_here", "_law_many"] (spTerms (CB K))) (c_law_draw : Callee P w K mg base "_law_draw" 1 ["_law_heap_here", "_law_many"] (spDraw (CB K))) : Callee P w K mg base "_law_halls" 4 ["_law_heap_here", "_law_many", "_law_ground", "_law_owned"] (spHalls (CB K)) := by
  obtain ⟨fd, F⟩ := T.d_law_halls
  refine callee_of F (F.ok sc_law_halls (spDr_len fun _ => rfl) fun cdv A outer s H vs Q E hr h => ?_) T.g_law_halls fun _ _ _ _ _ _ us hl => match us, hl with | [_, _, _, _], _ => rfl
  have g : Good P w K (L2.Cx.nox (cxOf CX0 P w K mg base ["_law_heap_here", "_law_many", "_law_ground", "_law_owned", "_law_found", "_law_term_here", "_law_size", "_law_where", "_law_holder"] "_law_halls" (defScope s_law_halls) (He.ga K "_law_halls") cdv A outer s H E)) := ⟨rfl, rfl, rfl, rfl, hu_un hr⟩
  have hu := hu_of hr
  refine ⟨_, PSs.nox (pss_cons (ps_set (i := 4) sc_law_halls.nd rfl (Or.inl rfl) (pe_lst pa_nil))
      (pss_cons (ps_for PassesOwn.never g.calm (pi_b g (pe_c c_law_terms (hr.mono (by decide)) (by rfl) pass0 (pa_cons (pv 0) (pa_cons (pv 1) pa_nil)))) (pg_name (i := 5) sc_law_halls.nd rfl (Or.inl rfl)) (pss_cons (ps_set (i := 6) sc_law_halls.nd rfl (Or.inl rfl) (pe_op (op_b g) pe_int (pe_c c_law_draw (hr.mono (by decide)) (by rfl) pass0 (pa_cons (pv 0) (pa_cons (pe_ix (ix_b g) (pe_lst (pa_cons pe_int (pa_cons pe_int (pa_cons pe_int pa_nil)))) (pe_c c_law_draw (hr.mono (by decide)) (by rfl) pass0 (pa_cons (pv 0) (pa_cons pe_int pa_nil))) (fun _ _ => rfl)) pa_nil)))))
      (pss_cons (ps_asg (pe_tup (pa_cons pe_non (pa_cons pe_non pa_nil))) (pg_tup rfl (pgs_cons (pg_name (i := 7) sc_law_halls.nd rfl (Or.inl rfl)) (pgs_cons (pg_name (i := 8) sc_law_halls.nd rfl (Or.inl rfl)) pgs_nil))))
      (pss_cons (ps_if (PW.pt (pw_and (pt_val (pv 2)) (pw_and1 (pt_cmpR (op_b g) (pe_c c_law_draw (hr.mono (by decide)) (by rfl) pass0 (pa_cons (pv 0) (pa_cons pe_int pa_nil))) pe_int (nomark _))))) (pss_one (ps_set (i := 7) sc_law_halls.nd rfl (Or.inl rfl) (pe_c c_law_draw (hr.mono (by decide)) (by rfl) pass0 (pa_cons (pv 0) (pa_cons (pe_ix (ix_b g) (pe_lst (pa_cons pe_int (pa_cons pe_int (pa_cons pe_int pa_nil)))) (pe_c c_law_draw (hr.mono (by decide)) (by rfl) pass0 (pa_cons (pv 0) (pa_cons pe_int pa_nil))) (fun _ _ => rfl)) pa_nil))))) pss_nil)
      (pss_cons (ps_if (PW.pt (pw_and (pt_val (pv 3)) (pw_and1 (pt_cmpR (op_b g) (pe_c c_law_draw (hr.mono (by decide)) (by rfl) pass0 (pa_cons (pv 0) (pa_cons pe_int pa_nil))) pe_int (nomark _))))) (pss_one (ps_set (i := 8) sc_law_halls.nd rfl (Or.inl rfl) (pe_c c_law_draw (hr.mono (by decide)) (by rfl) pass0 (pa_cons (pv 0) (pa_cons pe_int pa_nil))))) pss_nil)
      (pss_one (ps_expr (pe_bm PySem.F.plainAttrs_list PySem.F.slot_list_append PySem.F.type_list_append (mt_b g) (pv 4) (pa_cons (pe_tup (pa_cons (pv 5) (pa_cons (pv 6) (pa_cons (pv 7) (pa_cons (pv 8) pa_nil))))) pa_nil)))))))))
      (pss_one (ps_ret (pe_callTy (c_b g) (by rfl) T.f_tuple bt_tuple (pa_cons (pv 4) pa_nil)))))), ?_⟩
  obtain ⟨⟨n, gr⟩, a, us, rfl, ok, ru, hn, q⟩ := h
  obtain ⟨hn1, hn⟩ := (show 1 ≤ n ∧ n ≤ 3 from hn)
  obtain ⟨vn, vg, vo, rfl, rn, rg, ro⟩ := (ru H (.refl ok)).three
  obtain rfl : vn = V.int (n : Nat) := rn
  obtain rfl : vg = V.bl gr := rg
  obtain rfl : vo = V.bl false := ro
  refine q_lnew (C := CB K) ea0 fun l vs H1 e1 rv hl => ?_
  obtain rfl := rv.nil
  have hla : l ≠ a := (ok.ex e1).ne hl
  have eL : Ex H1 (upd H1 l (.lst [])) := Ex.new hl
  have hH : H l = none := fresh_back e1 hl
  have okL := (ok.ex e1).ex eL
  refine qsm_forL (C := CB K) (α := Str) (F := D.str) (ψ := fun zs => zs.length = n ∧ zs.Nodup ∧ ∀ z ∈ zs, isNm z) okL (em_dr rfl (ema1 (em_var (d := .int (n : Nat)) rfl fun _ _ => rfl) ema0) fun ds ⟨d, ds', e, ed, el⟩ => ⟨n, by rw [e, ed, el], hn, fun d ⟨zs, h⟩ => ⟨zs, h⟩⟩) (fun _ => rfl) l hla upd_same (fun xs hx e => by rw [e] at hx; have := hx.1; simp at this; omega) fun zs H2 ⟨z1, z2, z3⟩ m2 => ?_
  have mH2 : Mu a H H2 := (Mu.ex ok (e1.trans eL)).trans m2
  refine ⟨fun j σ' H' => ((∀ b o, b ≠ a → b ≠ l → H2 b = some o → H' b = some o) ∧ HpOk a H') ∧ ∃ u5 u6 u7 u8 vs, ∃ hs : List Hall, σ' = [some (.ref a), some (.int (n : Nat)), some (.bl gr), some (.bl false), some (.ref l), u5, u6, u7, u8] ∧ H' l = some (.lst vs) ∧ RpL (CB K) H' vs (hs.map Hall.D) ∧ hs.map Hall.name = zs.take j ∧ ∀ h ∈ hs, h.ok,
    ⟨⟨fun _ _ _ _ h => h, m2.ok⟩, _, _, _, _, [], [], rfl, m2.keep _ _ hla upd_same, True.intro, rfl, fun _ h => nomatch h⟩, fun _ _ _ p => p.1, ?_, ?_⟩
  · rintro j z x σ' H' hj ⟨⟨k1, ok1⟩, u5, u6, u7, u8, vs, hs, rfl, h1, h2, h3, h4⟩ rx
    obtain rfl : x = V.str z := rx.rp ok1
    have hjn : j < zs.length := (List.getElem?_eq_some_iff.mp hj).1
    have hzm : z ∈ zs := List.mem_of_getElem? hj
    refine qm_asg (C := CB K) (φ := fun d => ∃ k : Nat, 1 ≤ k ∧ k ≤ 99 ∧ d = .int (k : Nat)) ok1 (em_op em_int (em_draw rfl (em_menu (x := 3) (y := 9) (z := 99) (M := 99) rfl (by decide) (by decide) (by decide)) (by decide)) fun x y ex ⟨k, hk, ey⟩ => by
      subst ex; subst ey
      exact ⟨_, o_add, rfl, k + 1, by omega, by omega, congrArg D.int (by omega)⟩) fun ds vz H4 ⟨sz, sz1, sz2, eds⟩ m4 r4 => ?_
    subst eds
    obtain rfl : vz = V.int (sz : Nat) := r4.rp m4.ok
    refine qd_two (C := CB K) (ed_tup (ea1 ed_non (ea1 ed_non ea0))) fun w1 w2 H4b e4b q1 q2 => ?_
    obtain rfl : w1 = V.non := q1
    obtain rfl : w2 = V.non := q2
    have m4 := m4.trans (.ex m4.ok e4b)
    clear r4
    refine qm_ifM (fun σ' H5 => Mu a H4b H5 ∧ ∃ o : Option Int, (∀ i, o = some i → 0 ≤ i ∧ i ≤ 1999) ∧ ∃ vp, Rp (CB K) H5 vp (optD o) ∧ σ' = [some (.ref a), some (.int (n : Nat)), some (.bl gr), some (.bl false), some (.ref l), some (.str z), some (.int (sz : Nat)), some vp, some .non]) m4.ok (emt_and (emt_t (b := gr) fun H5 m5 => et_val (C := CB K) (ed_var rfl (show Rp (CB K) H5 (.bl gr) (.bl gr) from rfl))) (emt_em (C := CB K) (em_op (χ := fun d => ∃ b, d = .bl b) (em_drawN (M := 3) rfl (by decide)) em_int fun x y ⟨m, _, ex⟩ ey => by
      subst ex; subst ey
      exact ⟨_, o_gt, rfl, _, rfl⟩))) (fun nx hnx H5 m5 => ?_) (fun nx hnx H5 m5 => hnx _ _ ⟨m5, none, (fun _ h => nomatch h), .non, rfl, rfl⟩) ?_
    · refine qlm_asg (C := CB K) m5.ok (em_draw rfl (em_menu (x := 12) (y := 12) (z := 2000) (M := 2000) rfl (by decide) (by decide) (by decide)) (by decide)) fun dp vp H6 ⟨k, hk, edp⟩ m6 r6 => hnx _ _ ⟨m5.trans m6, some (k : Nat), fun i hi => by cases hi; omega, vp, ?_, rfl⟩
      subst edp
      exact r6.rp m6.ok
    · rintro σ5 H5 ⟨m5, o, ho, vp, rp, rfl⟩
      refine qd_no (et_and0 (et_val (C := CB K) (ed_var rfl (show Rp (CB K) H5 (.bl false) (.bl false) from rfl)))) fun H6 e6 => ?_
      have m6 : Mu a H' H6 := m4.trans (m5.trans (.ex m5.ok e6))
      have hl6 := m6.keep l _ hla h1
      have zf : fzL (hs.map Hall.D) = true := fzL_map fun h _ => h.fz
      have rp6 : Rp (CB K) H6 vp (optD o) := rp.ex e6
      refine q_append (C := CB K) (d := (Hall.mk z (sz : Nat) o).D) (ev_var rfl) (ed_tup (ea1 (ed_var rfl (show Rp (CB K) H6 (.str z) (.str z) from rfl)) (ea1 (ed_var rfl (show Rp (CB K) H6 (.int (sz : Nat)) (.int (sz : Nat)) from rfl)) (ea1 (ed_var rfl rp6) (ea1 (ed_var rfl (show Rp (CB K) H6 .non .non from rfl)) ea0))))) hl6 (by
        have := h2.length
        have h5 := congrArg List.length h3
        rw [List.length_map] at this h5
        rw [List.length_take] at h5
        omega) fun v7 H7 e7 r7 => ?_
      have hl7 := e7 _ _ hl6
      have tl : Tx H7 (upd H7 l (.lst (vs ++ [v7]))) := Tx.lst hl7
      have m7 : Mu a H' H7 := m6.trans (.ex m6.ok e7)
      refine ⟨⟨fun b o hb hbl h => ?_, ?_⟩, _, _, _, _, vs ++ [v7], hs ++ [Hall.mk z (sz : Nat) o], rfl, upd_same, ?_, ?_, fun h hh => ?_⟩
      · rw [upd_ne hbl]
        exact m7.keep b o hb (k1 b o hb hbl h)
      · obtain ⟨x, y, z, h, hx⟩ := m7.ok
        exact ⟨x, y, z, by rw [upd_ne hla.symm]; exact h, hx⟩
      · rw [List.map_append]
        exact RpL.fz tl (fzL_append zf (by show ((Hall.mk z (sz : Nat) o).D.fz && true) = true; rw [Hall.fz]; rfl)) (RpL.append (h2.fz (m7.tx ok1) zf) (show RpL (CB K) H7 [v7] [(Hall.mk z (sz : Nat) o).D] from ⟨r7, True.intro⟩))
      · rw [List.map_append, h3, take_item hj]
        rfl
      · rcases List.mem_append.mp hh with h | h
        · exact h4 _ h
        · rw [List.mem_singleton.mp h]
          exact ⟨z3 z hzm, ⟨by show 1 ≤ ((sz : Nat) : Int); omega, by show ((sz : Nat) : Int) ≤ 99; omega⟩, ho⟩
  · rintro σ' H' ⟨⟨k1, ok1⟩, u5, u6, u7, u8, vs, hs, rfl, h1, h2, h3, h4⟩
    rw [List.take_length] at h3
    have hlen : hs.length = n := by rw [← z1, ← h3, List.length_map]
    have m1 : Mu a H H' := ⟨fun b o hb h => k1 b o hb (ne_of_none h hH) (mH2.keep b o hb h), ok1⟩
    refine ret_v (C := CB K) (d := hallsD hs) (ed_cb (ea1 (ed_var rfl (show Rp (CB K) H' (.ref l) (.lst (hs.map Hall.D)) from ⟨l, vs, rfl, h1, h2⟩)) ea0) k_tuple) fun v H9 e9 r9 => ?_
    exact q _ v H9 ⟨hs, rfl, hlen, ⟨by omega, h4, by rw [h3]; exact z2⟩⟩ (m1.trans (.ex ok1 e9)) (.fz (ok1.ex e9) (hallsD_fz hs) r9)
def numR (d : D) : Prop := ∃ i : Int, (-999999 ≤ i ∧ i ≤ 999999) ∧ d = .int i
abbrev spNumber (C : Addr) : Sp := spDr C (fun _ : Unit => []) (fun _ => True) fun _ d => numR d
theorem c_law_number (T : TF w K mg) (c_law_draw : Callee P w K mg base "_law_draw" 1 ["_law_heap_here", "_law_many"] (spDraw (CB K))) : Callee P w K mg base "_law_number" 2 ["_law_heap_here"] (spNumber (CB K)) := by
  obtain ⟨fd, F⟩ := T.d_law_number
  refine callee_of F (F.ok sc_law_number (spDr_len fun _ => rfl) fun cdv A outer s H vs Q E hr h => ?_) T.g_law_number fun _ _ _ _ _ _ us hl => match us, hl with | [_], _ => rfl
  have g : Good P w K (L2.Cx.nox (cxOf CX0 P w K mg base ["_law_heap_here", "_law_much"] "_law_number" (defScope s_law_number) (He.ga K "_law_number") cdv A outer s H E)) := ⟨rfl, rfl, rfl, rfl, hu_un hr⟩
  have hu := hu_of hr
  refine ⟨_, PSs.nox (pss_cons (ps_set (i := 1) sc_law_number.nd rfl (Or.inl rfl) (pe_c c_law_draw (hr.mono (by decide)) (by rfl) pass0 (pa_cons (pv 0) (pa_cons (pe_ix (ix_b g) (pe_lst (pa_cons pe_int (pa_cons pe_int (pa_cons pe_int pa_nil)))) (pe_c c_law_draw (hr.mono (by decide)) (by rfl) pass0 (pa_cons (pv 0) (pa_cons pe_int pa_nil))) (fun _ _ => rfl)) pa_nil))))
      (pss_one (ps_ret (pe_ix (ix_b g) (pe_lst (pa_cons (pv 1) (pa_cons (pv 1) (pa_cons (pe_op (op_b g) pe_int (pv 1)) pa_nil)))) (pe_c c_law_draw (hr.mono (by decide)) (by rfl) pass0 (pa_cons (pv 0) (pa_cons pe_int pa_nil))) (fun _ _ => rfl))))), ?_⟩
  obtain ⟨_, a, us, rfl, ok, ru, _, q⟩ := h
  obtain rfl := (ru H (.refl ok)).nil
  refine qm_asg (C := CB K) ok (em_draw rfl (em_menu (x := 10) (y := 1000) (z := 1000000) (M := 1000000) rfl (by decide) (by decide) (by decide)) (by decide)) fun dn vn H1 ⟨n, hn, edn⟩ m1 r1 => ?_
  subst edn
  have rv : ∀ H', Rp (CB K) H' vn (.int (n : Nat)) := fun H' => r1.rp m1.ok
  refine ret_m (C := CB K) m1.ok (em_ixl (ds := [.int (n : Nat), .int (n : Nat), .int (0 - (n : Nat))]) (em_lst (fun H2 m2 => ea1 (ed_var rfl (rv H2)) (ea1 (ed_var rfl (rv H2)) (ea1 (ed_op ed_int (ed_var rfl (rv H2)) o_sub) ea0))) rfl) (em_drawN (M := 3) rfl (by decide)) rfl) fun d v H2 hd m2 r2 => ?_
  refine q d v H2 ?_ (m1.trans m2) r2
  simp only [List.mem_cons, List.not_mem_nil, or_false] at hd
  rcases hd with rfl | rfl | rfl
  · exact ⟨_, ⟨by omega, by omega⟩, rfl⟩
  · exact ⟨_, ⟨by omega, by omega⟩, rfl⟩
  · exact ⟨_, ⟨by omega, by omega⟩, rfl⟩
def deedR (hs : List Hall) (d : D) : Prop := ∃ c : Cmd, d = c.D ∧ c.inn hs ∧ c.plain = true
theorem deedR_fz {hs : List Hall} {d : D} (h : deedR hs d) : d.fz = true := by
  obtain ⟨c, rfl, _⟩ := h
  exact c.fz
abbrev spDeed (C : Addr) : Sp := spDr C (fun hs : List Hall => [hallsD hs]) (fun hs => HallsOk hs ∧ 1 ≤ hs.length ∧ hs.length ≤ 3) fun hs d => deedR hs d
theorem nm_mix : ∀ z ∈ (["mix", "sum", "d1"] : List Str), isNm z := by
  intro z hz
  have h : (["mix", "sum", "d1"] : List Str).all (fun z => (decide (1 ≤ z.length) && decide (z.length ≤ 6)) && ((z.cps.toList.head?.all fun c => decide (c ∈ sLET.cps.toList)) && z.cps.toList.all fun c => decide (c ∈ sSIG.cps.toList))) = true := by decide +kernel
  have h := List.all_eq_true.mp h z hz
  obtain ⟨h1, h2⟩ := Bool.and_eq_true_iff.mp h
  obtain ⟨h1, h1'⟩ := Bool.and_eq_true_iff.mp h1
  obtain ⟨h2, h3⟩ := Bool.and_eq_true_iff.mp h2
  exact isNm_of ⟨⟨of_decide_eq_true h1, of_decide_eq_true h1'⟩, h2, h3⟩
theorem c_law_plain_deed (T : TF w K mg) (c_law_draw : Callee P w K mg base "_law_draw" 1 ["_law_heap_here", "_law_many"] (spDraw (CB K))) (c_law_number : Callee P w K mg base "_law_number" 2 ["_law_heap_here"] (spNumber (CB K))) : Callee P w K mg base "_law_plain_deed" 3 ["_law_heap_here", "_law_halls_here"] (spDeed (CB K)) := by
  obtain ⟨fd, F⟩ := T.d_law_plain_deed
  refine callee_of F (F.ok sc_law_plain_deed (spDr_len fun _ => rfl) fun cdv A outer s H vs Q E hr h => ?_) T.g_law_plain_deed fun _ _ _ _ _ _ us hl => match us, hl with | [_, _], _ => rfl
  have g : Good P w K (L2.Cx.nox (cxOf CX0 P w K mg base ["_law_heap_here", "_law_halls_here", "_law_terms_here", "_law_held", "_law_near_here", "_law_far", "_law_way", "_law_some", "_law_row", "_law_k"] "_law_plain_deed" (defScope s_law_plain_deed) (He.ga K "_law_plain_deed") cdv A outer s H E)) := ⟨rfl, rfl, rfl, rfl, hu_un hr⟩
  have hu := hu_of hr
  refine ⟨_, PSs.nox (pss_cons (ps_set (i := 2) sc_law_plain_deed.nd rfl (Or.inr rfl) (pe_lc (own := [("_law_row", 8)]) g.calm sc_law_plain_deed.nd (pi_b g (pv 1)) (blkOk_by (by kernel_rfl)) (fun _ _ _ _ _ => (pg_name (i := 8) sc_law_plain_deed.nd rfl (Or.inl rfl))) (fun _ _ _ _ _ => pts_nil) (fun _ _ _ _ _ => (pe_ix (ix_b g.b) (pv 8) pe_int (fun _ _ => rfl)))))
      (pss_cons (ps_setLc (i := 3) (own := [("_law_row", 8)]) g.calm sc_law_plain_deed.nd rfl rfl (sw_true rfl rfl rfl (by decide +kernel)) (pi_b g (pv 1)) (blkOk_by (by kernel_rfl)) (fun _ _ _ _ _ => (pg_name (i := 8) sc_law_plain_deed.nd rfl (Or.inl rfl))) (fun _ _ _ _ _ => (pts_one (pt_cmpR (op_b g.b) (pe_ix (ix_b g.b) (pv 8) pe_int (fun _ _ => rfl)) pe_non (nomark _)))) (fun _ _ _ _ _ => (pe_ix (ix_b g.b) (pv 8) pe_int (fun _ _ => rfl))))
      (pss_cons (ps_par (i := 4) (j := 5) g.calm sc_law_plain_deed.nd rfl rfl (by decide) rfl rfl (pa_cons (pe_ix (ix_b g) (pv 2) (pe_c c_law_draw (hr.mono (by decide)) (by rfl) pass0 (pa_cons (pv 0) (pa_cons (pe_callB (c_b g) (by rfl) T.f_len bt_len (pa_cons (pv 2) pa_nil)) pa_nil))) (fun _ _ => rfl)) (pa_cons (pe_ix (ix_b g) (pv 2) (pe_c c_law_draw (hr.mono (by decide)) (by rfl) pass0 (pa_cons (pv 0) (pa_cons (pe_callB (c_b g) (by rfl) T.f_len bt_len (pa_cons (pv 2) pa_nil)) pa_nil))) (fun _ _ => rfl)) pa_nil)) rfl)
      (pss_cons (ps_set (i := 6) sc_law_plain_deed.nd rfl (Or.inl rfl) (pe_c c_law_draw (hr.mono (by decide)) (by rfl) pass0 (pa_cons (pv 0) (pa_cons (pe_op (op_b g) pe_int (pe_op (op_b g) pe_int (pe_callTy (c_b g) (by rfl) T.f_int bt_int (pa_cons (pe_cmpR (op_b g) (pv 3) (pe_lst pa_nil) (nomark _)) pa_nil)))) pa_nil))))
      (pss_cons (ps_if (pt_cmpR (op_b g) (pv 6) pe_int (nomark _)) (pss_one (ps_ret (pe_tup (pa_cons pe_str (pa_cons (pv 5) (pa_cons (pe_c c_law_number (hr.mono (by decide)) (by rfl) pass0 (pa_cons (pv 0) pa_nil)) pa_nil)))))) pss_nil)
      (pss_cons (ps_if (pt_cmpR (op_b g) (pv 6) pe_int (nomark _)) (pss_one (ps_ret (pe_tup (pa_cons pe_str (pa_cons (pv 4) (pa_cons (pv 5) pa_nil)))))) pss_nil)
      (pss_cons (ps_if (pt_cmpR (op_b g) (pv 6) pe_int (nomark _)) (pss_cons (ps_set (i := 7) sc_law_plain_deed.nd rfl (Or.inl rfl) (pe_callTy (c_b g) (by rfl) T.f_tuple bt_tuple (pa_cons (pe_lc (own := [("_law_k", 9)]) g.calm sc_law_plain_deed.nd (pi_range1 (by rfl) T.f_range (pa_cons (pe_op (op_b g) pe_int (pe_c c_law_draw (hr.mono (by decide)) (by rfl) pass0 (pa_cons (pv 0) (pa_cons pe_int pa_nil)))) pa_nil)) (blkOk_by (by kernel_rfl)) (fun _ _ _ _ _ => (pg_name (i := 9) sc_law_plain_deed.nd rfl (Or.inl rfl))) (fun _ _ _ _ _ => pts_nil) (fun _ _ _ _ _ => (pe_ix (ix_b g.b) (pv 2) (pe_c c_law_draw (hr.mono (by decide)) (by rfl) pass0 (pa_cons (pv 0) (pa_cons (pe_callB (c_b g.b) (by rfl) T.f_len bt_len (pa_cons (pv 2) pa_nil)) pa_nil))) (fun _ _ => rfl)))) pa_nil)))
      (pss_one (ps_ret (pe_tup (pa_cons pe_str (pa_cons (pe_ix (ix_b g) (pe_lst (pa_cons pe_str (pa_cons pe_str (pa_cons pe_str pa_nil)))) (pe_c c_law_draw (hr.mono (by decide)) (by rfl) pass0 (pa_cons (pv 0) (pa_cons pe_int pa_nil))) (fun _ _ => rfl)) (pa_cons (pv 7) (pa_cons (pv 5) pa_nil)))))))) pss_nil)
      (pss_cons (ps_if (pt_cmpR (op_b g) (pv 6) pe_int (nomark _)) (pss_one (ps_ret (pe_ix (ix_b g) (pe_lst (pa_cons (pe_tup (pa_cons pe_str (pa_cons (pv 4) pa_nil))) (pa_cons (pe_tup (pa_cons pe_str (pa_cons (pv 4) pa_nil))) (pa_cons (pe_tup (pa_cons pe_str (pa_cons (pv 4) pa_nil))) pa_nil)))) (pe_c c_law_draw (hr.mono (by decide)) (by rfl) pass0 (pa_cons (pv 0) (pa_cons pe_int pa_nil))) (fun _ _ => rfl)))) pss_nil)
      (pss_one (ps_ret (pe_ix (ix_b g) (pe_lst (pa_cons (pe_tup (pa_cons pe_str (pa_cons (pe_ix (ix_b g) (pv 3) pe_int (fun _ _ => rfl)) (pa_cons (pe_c c_law_draw (hr.mono (by decide)) (by rfl) pass0 (pa_cons (pv 0) (pa_cons pe_int pa_nil))) pa_nil)))) (pa_cons (pe_tup (pa_cons pe_str (pa_cons (pe_ix (ix_b g) (pv 3) (pe_un un_neg pe_int) (fun _ _ => rfl)) pa_nil))) pa_nil))) (pe_op (op_b g) (pv 6) pe_int) (fun _ _ => rfl)))))))))))), ?_⟩
  obtain ⟨hs, a, us, rfl, ok, ru, hp, q⟩ := h
  obtain ⟨hok, hl1, hl3⟩ := (show HallsOk hs ∧ 1 ≤ hs.length ∧ hs.length ≤ 3 from hp)
  obtain ⟨vh, rfl, rh⟩ := (ru H (.refl ok)).one
  replace rh : RpS a (CB K) H vh (hallsD hs) := .fz ok (hallsD_fz hs) rh
  have hnm : ∀ z ∈ hs.map Hall.name, isNm z := fun z hz => by
    obtain ⟨h, hh, rfl⟩ := List.mem_map.mp hz
    exact (hok.ok h hh).1
  have hlN : (hs.map Hall.name).length = hs.length := List.length_map _
  refine qm_asg (C := CB K) ok (em_new (ds := (hs.map Hall.name).map D.str) (fun H1 m1 => by
    rw [List.map_map]
    exact ev_map (C := CB K) (xs := hs) (F := Hall.D) (fun h => D.str h.name) (ei_tup (ed_var rfl ((rh.mu m1).rp m1.ok))) (by omega) (fun _ _ => rfl) fun i h x H2 hi e2 r2 k q' => q' _ rfl (ed_op (ed_var rfl r2) ed_int (o_ixt (nameAt h)))) (fzL_map fun _ _ => rfl)) fun dt vt H1 edt m1 rt => ?_
  subst edt
  have rh1 := rh.mu m1
  refine qm_asg (C := CB K) m1.ok (em_new (ds := []) (fun H2 m2 => by
    have e0 : ([] : List D) = (hs.filter fun _ => false).map fun h => D.str h.name := by rw [List.filter_eq_nil_iff.mpr (fun _ _ => by decide)]; rfl
    rw [e0]
    exact ev_lc (C := CB K) (xs := hs) (F := Hall.D) (fun _ => false) (fun h => D.str h.name) (ei_tup (ed_var rfl ((rh1.mu m2).rp m2.ok))) (by omega) (fun _ _ _ => rfl) fun i h x H3 hi e3 r3 k q' => q' _ rfl (et_cmp (C := CB K) (ed_op (ed_op (ed_var rfl r3) ed_int (o_ixt (d := .non) (atI_nat (j := 3) rfl))) ed_non o_notN)) fun z => nomatch z) rfl) fun dh vhd H2 edh m2 rhd => ?_
  subst edh
  have rt2 := rt.mu m2
  have pick : ∀ {σ2 : L2.St} {H3 : Hp} {E2 : XK}, σ2[0]? = some (some (.ref a)) → σ2[2]? = some (some vt) → Mu a H2 H3 → EM a (CB K) (tOp (rI_ P w K) (tVar 2) (tCall (spDraw (CB K)) [] E2 (tCons (tVar 0) (tCons (tCB (rC P w K (.builtin "len")) (tCons (tVar 2) tNil)) tNil)))) σ2 H3 (fun d => ∃ z, z ∈ hs.map Hall.name ∧ d = .str z) := fun {σ2 H3 _} h0 h2 m3 =>
    (em_ixl (ds := (hs.map Hall.name).map D.str) (em_var h2 (rt2.mu m3)) (em_draw h0 ((em_ed (d := .int (((hs.map Hall.name).map D.str).length : Nat)) (fun H4 m4 => ed_cb (ea1 (ed_var h2 ((rt2.mu (m3.trans m4)).rp m4.ok)) ea0) k_lenl) rfl).imp fun d e => ⟨_, by rw [List.length_map, hlN]; omega, Nat.le_refl _, e⟩) (by rw [List.length_map, hlN]; omega)) (fzL_map fun _ _ => rfl)).imp fun d hd => by
      obtain ⟨z, hz, rfl⟩ := List.mem_map.mp hd
      exact ⟨z, hz, rfl⟩
  refine qm_par (C := CB K) m2.ok (ema2 (pick rfl rfl (.refl m2.ok)) (pick rfl rfl (.refl m2.ok))) fun d4 d5 v4 v5 H3 ⟨z4, hz4, ed4⟩ ⟨z5, hz5, ed5⟩ m3 r4 r5 => ?_
  subst ed4; subst ed5
  obtain rfl : v4 = V.str z4 := r4.rp m3.ok
  obtain rfl : v5 = V.str z5 := r5.rp m3.ok
  have rh3 := (rhd.mu m3)
  refine qm_asg (C := CB K) m3.ok (em_draw (M := 8) rfl ((em_ed (d := .int (((8 : Nat) : Int))) (fun H4 m4 => Ed.is (ed_op ed_int (ed_op ed_int (ed_cb (ea1 (ed_op (ed_var rfl ((rh3.mu m4).rp m4.ok)) (ed_lst ea0) (o_ned (b := true) ⟨fun _ => rfl, fun _ => rfl⟩)) ea0) k_intb) (o_mul (by decide))) o_add) rfl) rfl).imp fun d e => ⟨8, by decide, Nat.le_refl _, e⟩) (by decide)) fun dw vw H4 ⟨k, hk, edw⟩ m4 rw4 => ?_
  subst edw
  have rw5 : ∀ H', Rp (CB K) H' vw (.int (k : Nat)) := fun H' => rw4.rp m4.ok
  have m04 : Mu a H H4 := m1.trans (m2.trans (m3.trans m4))
  have m24 : Mu a H2 H4 := m3.trans m4
  have n4 := hnm z4 hz4
  have n5 := hnm z5 hz5
  have sv : ∀ {z : Str} {H' : Hp}, RpS a (CB K) H' (.str z) (.str z) := fun {_ _} _ _ => rfl
  refine qd_when (et_cmp (C := CB K) (ed_op (ed_var rfl (rw5 _)) ed_int o_lt)) (fun _ H5 e5 => ?_) fun _ H5 e5 => ?_
  · have m5 := m04.trans (.ex m4.ok e5)
    refine ret_m (C := CB K) m5.ok (em_tup (ema3 em_str (em_var (d := .str z5) rfl sv) (em_dr rfl ema0 fun ds e => ⟨(), e.symm, trivial, fun d h => h⟩)) fun ds ⟨_, _, _, e, _⟩ => by rw [e]; show 3 ≤ _; omega) fun d v H6 hd m6 r6 => q d v H6 ?_ (m5.trans m6) r6
    obtain ⟨ds, rfl, d1, d2, d3, rfl, rfl, rfl, i, hi, rfl⟩ := hd
    refine ⟨.put z5 i, rfl, ⟨⟨n5, hi.1, hi.2⟩, fun z hz => ?_⟩, rfl⟩
    have : z = z5 := by simpa [Cmd.src, Cmd.dst] using hz
    rw [this]; exact hz5
  refine qd_when (et_cmp (C := CB K) (ed_op (ed_var rfl (rw5 _)) ed_int o_eqi)) (fun _ H6 e6 => ?_) fun _ H6 e6 => ?_
  · have m6 := m04.trans (.ex m4.ok (e5.trans e6))
    refine ret_m (C := CB K) m6.ok (em_tup (ema3 em_str (em_var (d := .str z4) rfl sv) (em_var (d := .str z5) rfl sv)) fun ds ⟨_, _, _, e, _⟩ => by rw [e]; show 3 ≤ _; omega) fun d v H7 hd m7 r7 => q d v H7 ?_ (m6.trans m7) r7
    obtain ⟨ds, rfl, d1, d2, d3, rfl, rfl, rfl, rfl⟩ := hd
    refine ⟨.copy z4 z5, rfl, ⟨⟨n4, n5⟩, fun z hz => ?_⟩, rfl⟩
    have : z = z4 ∨ z = z5 := by simpa [Cmd.src, Cmd.dst] using hz
    rcases this with rfl | rfl
    · exact hz4
    · exact hz5
  refine qd_when (et_cmp (C := CB K) (ed_op (ed_var rfl (rw5 _)) ed_int o_lt)) (fun _ H7 e7 => ?_) fun _ H7 e7 => ?_
  · have e57 := e5.trans (e6.trans e7)
    have m7 := m04.trans (.ex m4.ok e57)
    have m27 := m24.trans (.ex m4.ok e57)
    refine qm_asg (C := CB K) m7.ok (em_cb1 (χ := fun d => ∃ zs : List Str, d = .tup (zs.map D.str) ∧ (1 ≤ zs.length ∧ zs.length ≤ 3) ∧ ∀ z ∈ zs, z ∈ hs.map Hall.name) (em_lcR (N := fun n => 1 ≤ n ∧ n ≤ 3) (by show 9 < 10; omega) (em_op (χ := fun d => ∃ m : Nat, (1 ≤ m ∧ m ≤ 3) ∧ d = .int (m : Nat)) em_int (em_drawN (M := 3) rfl (by decide)) fun x y ex ⟨m, hm, ey⟩ => by
      subst ex; subst ey
      exact ⟨_, o_add, rfl, m + 1, ⟨by omega, by omega⟩, congrArg D.int (by omega)⟩) (fun m hm => by omega) (fun j H8 m8 => pick rfl rfl (m27.trans m8)) fun d ⟨z, _, e⟩ => by rw [e]; rfl) ?_) fun ds vs H8 ⟨zs, eds, hzl, hzs⟩ m8 r8 => ?_
    · rintro x ⟨ds, rfl, hn, hd⟩
      obtain ⟨zs, rfl, hz⟩ := all_form (F := D.str) (p := fun z => z ∈ hs.map Hall.name) hd
      rw [List.length_map] at hn
      exact ⟨_, k_tuple, fzL_map fun _ _ => rfl, zs, rfl, hn, hz⟩
    subst eds
    refine ret_m (C := CB K) m8.ok (em_tup (ema1 em_str (ema3 (em_ixl (ds := (["mix", "sum", "d1"] : List Str).map D.str) (em_lst (fun _ _ => ea1 ed_str (ea1 ed_str (ea1 ed_str ea0))) rfl) (em_drawN (M := 3) rfl (by decide)) rfl) (em_var rfl r8) (em_var (d := .str z5) rfl sv))) fun ds ⟨_, _, e, _, _, _, _, e2, _⟩ => by rw [e, e2]; show 4 ≤ _; omega) fun d v H9 hd m9 r9 => q d v H9 ?_ (m7.trans (m8.trans m9)) r9
    obtain ⟨ds, rfl, d1, dl, rfl, rfl, d2, d3, d4, rfl, h2, rfl, rfl⟩ := hd
    obtain ⟨f, hf, rfl⟩ := List.mem_map.mp h2
    refine ⟨.reckon f zs z5, rfl, ⟨⟨nm_mix f hf, ⟨hzl.1, hzl.2, fun z hz => hnm z (hzs z hz)⟩, n5⟩, fun z hz => ?_⟩, rfl⟩
    rcases List.mem_append.mp (show z ∈ zs ++ [z5] from hz) with h | h
    · exact hzs z h
    · rw [List.mem_singleton.mp h]; exact hz5
  refine qd_when (b := true) (et_is (et_cmp (C := CB K) (ed_op (ed_var rfl (rw5 _)) ed_int o_lt)) (decide_eq_true (by omega))) (fun _ H8 e8 => ?_) fun z => nomatch z
  have e58 := e5.trans (e6.trans (e7.trans e8))
  have m8 := m04.trans (.ex m4.ok e58)
  have ez4 : ∀ H', Rp (CB K) H' (.str z4) (.str z4) := fun _ => rfl
  refine ret_m (C := CB K) m8.ok (em_ixl (ds := [.tup [.str "look", .str z4], .tup [.str "look", .str z4], .tup [.str "show", .str z4]]) (em_lst (fun _ _ => ea1 (ed_tup (ea1 ed_str (ea1 (ed_var rfl (ez4 _)) ea0))) (ea1 (ed_tup (ea1 ed_str (ea1 (ed_var rfl (ez4 _)) ea0))) (ea1 (ed_tup (ea1 ed_str (ea1 (ed_var rfl (ez4 _)) ea0))) ea0))) rfl) (em_drawN (M := 3) rfl (by decide)) rfl) fun d v H9 hd m9 r9 => q d v H9 ?_ (m8.trans m9) r9
  simp only [List.mem_cons, List.not_mem_nil, or_false] at hd
  have hin : ∀ z, z ∈ [z4] → z ∈ hs.map Hall.name := fun z hz => by rw [List.mem_singleton.mp hz]; exact hz4
  rcases hd with rfl | rfl | rfl
  · exact ⟨.look z4, rfl, ⟨n4, fun z hz => hin z hz⟩, rfl⟩
  · exact ⟨.look z4, rfl, ⟨n4, fun z hz => hin z hz⟩, rfl⟩
  · exact ⟨.shw z4, rfl, ⟨n4, fun z hz => hin z hz⟩, rfl⟩
structure RwA where
  hs : List Hall
  many : Nat
  size : Nat
abbrev RwA.args (a : RwA) : List D := [hallsD a.hs, .int (a.many : Nat), .int (a.size : Nat)]
structure RwA.ok (a : RwA) : Prop where
  halls : HallsOk a.hs
  n1 : 1 ≤ a.hs.length
  n3 : a.hs.length ≤ 3
  m1 : 1 ≤ a.many
  m3 : a.many ≤ 3
  sz : a.size ≤ 5
def rowsR (a : RwA) (d : D) : Prop := ∃ rs : List Row, d = .lst (rs.map rowD) ∧ rs.length = a.size ∧ ∀ r ∈ rs, r.1 < a.many ∧ r.2.inn a.hs ∧ r.2.plain = true
abbrev spRows (C : Addr) : Sp := spDr C RwA.args RwA.ok rowsR
theorem c_law_rows (T : TF w K mg) (c_law_draw : Callee P w K mg base "_law_draw" 1 ["_law_heap_here", "_law_many"] (spDraw (CB K))) (c_law_plain_deed : Callee P w K mg base "_law_plain_deed" 3 ["_law_heap_here", "_law_halls_here"] (spDeed (CB K))) : Callee P w K mg base "_law_rows" 4 ["_law_heap_here", "_law_halls_here", "_law_many", "_law_size"] (spRows (CB K)) := by
  obtain ⟨fd, F⟩ := T.d_law_rows
  refine callee_of F (F.ok sc_law_rows (spDr_len fun _ => rfl) fun cdv A outer s H vs Q E hr h => ?_) T.g_law_rows fun _ _ _ _ _ _ us hl => match us, hl with | [_, _, _, _], _ => rfl
  have g : Good P w K (L2.Cx.nox (cxOf CX0 P w K mg base ["_law_heap_here", "_law_halls_here", "_law_many", "_law_size", "_law_turn"] "_law_rows" (defScope s_law_rows) (He.ga K "_law_rows") cdv A outer s H E)) := ⟨rfl, rfl, rfl, rfl, hu_un hr⟩
  have hu := hu_of hr
  refine ⟨_, PSs.nox (pss_one (ps_ret (pe_lc (own := [("_law_turn", 4)]) g.calm sc_law_rows.nd (pi_range1 (by rfl) T.f_range (pa_cons (pv 3) pa_nil)) (blkOk_by (by kernel_rfl)) (fun _ _ _ _ _ => (pg_name (i := 4) sc_law_rows.nd rfl (Or.inl rfl))) (fun _ _ _ _ _ => pts_nil) (fun _ _ _ _ _ => (pe_tup (pa_cons (pe_c c_law_draw (hr.mono (by decide)) (by rfl) pass0 (pa_cons (pv 0) (pa_cons (pv 2) pa_nil))) (pa_cons (pe_c c_law_plain_deed (hr.mono (by decide)) (by rfl) pass0 (pa_cons (pv 0) (pa_cons (pv 1) pa_nil))) pa_nil))))))), ?_⟩
  obtain ⟨⟨hs, many, size⟩, a, us, rfl, ok, ru, hp, q⟩ := h
  obtain ⟨h1, h2, h3, h4, h5, h6⟩ := hp
  replace h1 : HallsOk hs := h1
  replace h4 : 1 ≤ many := h4
  replace h5 : many ≤ 3 := h5
  replace h6 : size ≤ 5 := h6
  obtain ⟨vh, vm, vz, rfl, rh, rm, rz⟩ := (ru H (.refl ok)).three
  replace rh : RpS a (CB K) H vh (hallsD hs) := .fz ok (hallsD_fz hs) rh
  obtain rfl : vm = V.int (many : Nat) := rm
  obtain rfl : vz = V.int (size : Nat) := rz
  refine ret_m (C := CB K) ok (em_lcR (N := fun n => n = size) (φ := fun d => ∃ r : Row, (r.1 < many ∧ r.2.inn hs ∧ r.2.plain = true) ∧ d = rowD r) (by show 4 < 5; omega) ((em_var (d := .int (size : Nat)) rfl fun _ _ => rfl).imp fun d e => ⟨size, rfl, e⟩) (fun m hm => by omega) (fun j H1 m1 => (em_tup (ema2 (em_draw (M := many) rfl ((em_var (d := .int (many : Nat)) rfl fun _ _ => rfl).imp fun d e => ⟨many, h4, Nat.le_refl _, e⟩) (by omega)) (em_dr (φ := deedR hs) rfl (ema1 (em_var rfl (rh.mu m1)) ema0) fun ds ⟨d, ds', e, ed, el⟩ => ⟨hs, by rw [e, ed, el], ⟨h1, h2, h3⟩, fun d h => h⟩)) fun ds ⟨_, _, e, _⟩ => by rw [e]; show 2 ≤ _; omega).imp fun d hd => ?_) fun d hd => ?_) fun d v H9 hd m9 r9 => q d v H9 ?_ m9 r9
  · obtain ⟨ds, rfl, d1, d2, rfl, ⟨k, hk, rfl⟩, c, rfl, hc1, hc2⟩ := hd
    exact ⟨(k, c), ⟨hk, hc1, hc2⟩, rfl⟩
  · obtain ⟨r, _, rfl⟩ := hd
    exact rowD_fz r
  · obtain ⟨ds, rfl, hn, hd⟩ := hd
    obtain ⟨rs, rfl, hr2⟩ := all_form (F := rowD) (p := fun r : Row => r.1 < many ∧ r.2.inn hs ∧ r.2.plain = true) hd
    rw [List.length_map] at hn
    exact ⟨rs, rfl, hn, hr2⟩
end
end Fl
set_option maxHeartbeats 2000000
namespace Fl
open PySem L2 Evl
theorem cons_eq {α : Type} {a b : α} {l m : List α} (h : a = b) (g : l = m) : a :: l = b :: m := by rw [h, g]
theorem get_set_app {α : Type} {ls : List (List α)} {k l : Nat} {old b : List α} (h : ls[k]? = some old) : (ls.set k (old ++ b))[l]? = if l = k then some (old ++ b) else ls[l]? := by
  by_cases e : l = k
  · subst e
    rw [if_pos rfl, List.getElem?_set_self (List.getElem?_eq_some_iff.mp h).1]
  · rw [if_neg e, List.getElem?_set_ne (fun z => e z.symm)]
theorem fm_off {α β : Type} {g : α × Nat → List β} {l0 : Nat} : ∀ {ls : List α} {o : Nat}, l0 < o → (∀ p ∈ ls.zipIdx o, p.2 ≠ l0 → g p = []) → (ls.zipIdx o).flatMap g = []
  | [], o, _, _ => rfl
  | x :: ls, o, h, hg => by
    rw [List.zipIdx_cons, List.flatMap_cons, hg (x, o) (by rw [List.zipIdx_cons]; exact List.mem_cons_self) (by show o ≠ l0; omega), List.nil_append]
    exact fm_off (by omega) fun p hp => hg p (by rw [List.zipIdx_cons]; exact List.mem_cons_of_mem _ hp)
theorem fm_one {α β : Type} {g : α × Nat → List β} {l0 : Nat} : ∀ {ls : List α} {o : Nat} {x : α}, o ≤ l0 → ls[l0 - o]? = some x → (∀ p ∈ ls.zipIdx o, p.2 ≠ l0 → g p = []) → (ls.zipIdx o).flatMap g = g (x, l0)
  | [], o, x, _, h, _ => by simp at h
  | y :: ls, o, x, ho, h, hg => by
    have hg' : ∀ p ∈ ls.zipIdx (o + 1), p.2 ≠ l0 → g p = [] := fun p hp => hg p (by rw [List.zipIdx_cons]; exact List.mem_cons_of_mem _ hp)
    rw [List.zipIdx_cons, List.flatMap_cons]
    by_cases e : o = l0
    · subst e
      rw [Nat.sub_self] at h
      have hx : y = x := Option.some.inj (by simpa using h)
      subst hx
      rw [fm_off (Nat.lt_succ_self _) hg', List.append_nil]
    · rw [hg (y, o) (by rw [List.zipIdx_cons]; exact List.mem_cons_self) e, List.nil_append]
      refine fm_one (by omega) ?_ hg'
      have e2 : l0 - o = (l0 - (o + 1)) + 1 := by omega
      rw [e2] at h
      simpa using h
theorem places_map {γ δ : Type} (p : γ → Bool) (h : γ → δ) (d : δ) : ∀ xs : List γ, ((List.range xs.length).filter fun k => (xs[k]?).any p).map (fun k => (xs[k]?.map h).getD d) = (xs.filter p).map h
  | [] => rfl
  | x :: xs => by
    have ih := places_map p h d xs
    rw [List.length_cons, List.range_succ_eq_map, List.filter_cons, List.filter_map]
    have e : (((List.range xs.length).filter ((fun k => ((x :: xs)[k]?).any p) ∘ Nat.succ)).map fun k => (((x :: xs)[Nat.succ k]?.map h).getD d)) = (xs.filter p).map h := by
      rw [← ih]
      rfl
    have e0 : ((x :: xs)[0]?).any p = p x := rfl
    rw [e0]
    cases hp : p x with
    | true =>
      rw [if_pos rfl, List.map_cons, List.map_map, List.filter_cons, if_pos hp, List.map_cons]
      exact cons_eq rfl e
    | false =>
      rw [if_neg (by decide), List.map_map, List.filter_cons, if_neg (by rw [hp]; decide)]
      exact e
def stepsOf (X : List (Nat × Nat)) (o : Nat) : List (Int × (Nat × Nat)) := (X.zipIdx o).map fun p => (((p.2 + 1 : Nat) : Int), p.1)
theorem stepsOf_app (X Y : List (Nat × Nat)) (o : Nat) : stepsOf (X ++ Y) o = stepsOf X o ++ stepsOf Y (o + X.length) := by
  unfold stepsOf
  rw [List.zipIdx_append, List.map_append]
theorem steps_fst (X : List (Nat × Nat)) (o : Nat) : (stepsOf X o).map Prod.fst = (List.range X.length).map fun k => ((o + k + 1 : Nat) : Int) := by
  induction X generalizing o with
  | nil => rfl
  | cons x X ih =>
    have e : stepsOf (x :: X) o = (((o + 1 : Nat) : Int), x) :: stepsOf X (o + 1) := by
      unfold stepsOf
      rw [List.zipIdx_cons, List.map_cons]
    rw [e, List.map_cons, ih, List.length_cons, List.range_succ_eq_map, List.map_cons, List.map_map]
    exact cons_eq rfl (List.map_congr_left fun k _ => by
      show ((o + 1 + k + 1 : Nat) : Int) = ((o + (k + 1) + 1 : Nat) : Int)
      omega)
theorem steps_max (X : List (Nat × Nat)) : maxL 0 ((stepsOf X 0).map Prod.fst) = (X.length : Nat) := by
  rw [steps_fst]
  cases hX : X.length with
  | zero => rfl
  | succ n =>
    have hc : (List.range (n + 1)).map (fun k => ((0 + k + 1 : Nat) : Int)) = ((1 : Nat) : Int) :: (List.range n).map (fun k => ((0 + (k + 1) + 1 : Nat) : Int)) := by
      rw [List.range_succ_eq_map, List.map_cons, List.map_map]
      rfl
    have hm : ∀ z, z ∈ (List.range (n + 1)).map (fun k => ((0 + k + 1 : Nat) : Int)) ↔ ∃ k, k < n + 1 ∧ ((k + 1 : Nat) : Int) = z := fun z => by
      rw [List.mem_map]
      constructor
      · rintro ⟨k, hk, rfl⟩; exact ⟨k, List.mem_range.mp hk, by omega⟩
      · rintro ⟨k, hk, rfl⟩; exact ⟨k, List.mem_range.mpr hk, by omega⟩
    rw [hc] at hm ⊢
    refine (maxL_uniq ((hm _).mpr ⟨n, Nat.lt_succ_self n, rfl⟩) fun z hz => ?_).symm
    obtain ⟨k, hk, rfl⟩ := (hm z).mp hz
    omega
def OneBy (ls : List (List Cmd)) (f : Str) : Prop := ∀ s b, cmdAt ls s = some (.set f b) → b = 1
def isSetOf (ls : List (List Cmd)) (f : Str) (s : Nat × Nat) : Bool := match cmdAt ls s with
  | some (.set f' _) => decide (f' = f)
  | _ => false
theorem fold_steps {ls : List (List Cmd)} {f : Str} (h1 : OneBy ls f) : ∀ (xs X : List (Nat × Nat)), xs.foldl (stepOf ls f) (stepsOf X 0) = stepsOf (X ++ xs.filter (isSetOf ls f)) 0
  | [], X => by simp
  | s :: xs, X => by
    rw [List.foldl_cons, List.filter_cons]
    cases hs : isSetOf ls f s with
    | false =>
      have e : stepOf ls f (stepsOf X 0) s = stepsOf X 0 := by
        unfold stepOf
        unfold isSetOf at hs
        split
        · rename_i f' b hc
          rw [hc] at hs
          rw [if_neg (of_decide_eq_false hs)]
        · rfl
      rw [e, if_neg (by decide)]
      exact fold_steps h1 xs X
    | true =>
      have e : stepOf ls f (stepsOf X 0) s = stepsOf (X ++ [s]) 0 := by
        unfold stepOf
        unfold isSetOf at hs
        split
        · rename_i f' b hc
          rw [hc] at hs
          have ef : f' = f := of_decide_eq_true hs
          subst ef
          rw [if_pos rfl, steps_max, h1 s b hc, stepsOf_app, Nat.zero_add]
          rfl
        · rename_i hn
          split at hs
          · rename_i f' b hc
            exact absurd hc (hn f' b)
          · cases hs
      rw [e, if_pos rfl, fold_steps h1 xs (X ++ [s]), List.append_assoc]
      rfl
theorem first_steps : ∀ (X : List (Nat × Nat)) (o m : Nat), o < m → firstW (stepsOf X o) (m : Nat) = X[m - 1 - o]?
  | [], o, m, _ => rfl
  | x :: X, o, m, h => by
    have e : stepsOf (x :: X) o = (((o + 1 : Nat) : Int), x) :: stepsOf X (o + 1) := by
      unfold stepsOf
      rw [List.zipIdx_cons, List.map_cons]
    rw [e]
    unfold firstW
    rw [List.find?_cons]
    by_cases q : m = o + 1
    · subst q
      rw [decide_eq_true (Int.le_refl _)]
      have : o + 1 - 1 - o = 0 := by omega
      rw [this]
      rfl
    · rw [decide_eq_false (by show ¬ ((m : Nat) : Int) ≤ ((o + 1 : Nat) : Int); omega)]
      have ih := first_steps X (o + 1) m (by omega)
      unfold firstW at ih
      show Option.map Prod.snd (List.find? _ (stepsOf X (o + 1))) = _
      rw [ih]
      have e2 : m - 1 - o = (m - 1 - (o + 1)) + 1 := by omega
      rw [e2]
      rfl
theorem hang_at {ls : List (List Cmd)} {f : Str} {m : Nat} {s : Nat × Nat} (h1 : OneBy ls f) (hm : 0 < m) (hs : cmdAt ls s = some (.wait f (m : Nat))) : hgOf ls s = ((spotsOf ls).filter (isSetOf ls f))[m - 1]? := by
  unfold hgOf
  rw [hs]
  show firstW (setsL ls f) (m : Nat) = _
  unfold setsL
  have := fold_steps h1 (spotsOf ls) []
  have e0 : stepsOf [] 0 = [] := rfl
  rw [e0, List.nil_append] at this
  rw [this, first_steps _ 0 m hm, Nat.sub_zero]
theorem sets_lane {ls : List (List Cmd)} {f : Str} {l : Nat} {row : List Cmd} (hl : ls[l]? = some row) (h : ∀ s b, cmdAt ls s = some (.set f b) → s.1 = l) : (spotsOf ls).filter (isSetOf ls f) = ((List.range row.length).filter fun k => isSetOf ls f (l, k)).map fun k => (l, k) := by
  unfold spotsOf
  rw [List.filter_flatMap]
  rw [fm_one (l0 := l) (x := row) (Nat.zero_le _) (by rw [Nat.sub_zero]; exact hl)]
  · rw [List.filter_map]
    rfl
  · intro p hp hne
    refine List.filter_eq_nil_iff.mpr fun s hs hq => ?_
    obtain ⟨k, _, rfl⟩ := List.mem_map.mp hs
    unfold isSetOf at hq
    split at hq
    · rename_i f' b hc
      have ef : f' = f := of_decide_eq_true hq
      subst ef
      exact hne (h _ _ hc)
    · cases hq
end Fl
set_option maxHeartbeats 2000000
namespace Fl
open PySem L2 Evl
def waitsOf (S : List (Nat × Nat)) (i : Nat) : List Nat := (S.filter fun s => decide (s.2 = i)).map Prod.fst
def stepB (rs : List Row) (S : List (Nat × Nat)) (a : List (List Cmd) × List (Nat × Nat)) (p : Row × Nat) : List (List Cmd) × List (Nat × Nat) :=
  (a.1.set p.1.1 ((a.1[p.1.1]?).getD [] ++ blk "w" rs S (waitsOf S p.2) p.2 p.1.2 p.1.1), a.2 ++ [(p.1.1, ((a.1[p.1.1]?).getD []).length + (waitsOf S p.2).length)])
def bookN (rs : List Row) (S : List (Nat × Nat)) (i : Nat) : List (List Cmd) × List (Nat × Nat) := (rs.zipIdx.take i).foldl (stepB rs S) (List.replicate (lanesN rs) [], [])
theorem bookN_zero {rs : List Row} {S : List (Nat × Nat)} : bookN rs S 0 = (List.replicate (lanesN rs) [], []) := rfl
theorem bookN_succ {rs : List Row} {S : List (Nat × Nat)} {i : Nat} {r : Row} (h : rs[i]? = some r) : bookN rs S (i + 1) = stepB rs S (bookN rs S i) (r, i) := by
  have hz : rs.zipIdx[i]? = some (r, i) := by rw [List.getElem?_zipIdx, h]; simp
  unfold bookN
  rw [take_item hz, List.foldl_append]
  rfl
theorem bookN_len {rs : List Row} {S : List (Nat × Nat)} : ∀ {i : Nat}, i ≤ rs.length → (bookN rs S i).1.length = lanesN rs
  | 0, _ => by rw [bookN_zero]; simp
  | i + 1, h => by
    rw [bookN_succ (List.getElem?_eq_getElem (by omega))]
    show (List.set _ _ _).length = _
    rw [List.length_set]
    exact bookN_len (by omega)
theorem lane_lt {rs : List Row} {r : Row} (h : r ∈ rs) : r.1 < lanesN rs := by
  have := lanesN_ge h
  omega
theorem build_of {rs : List Row} {S : List (Nat × Nat)} : ∀ {i : Nat}, i ≤ rs.length → Build "w" rs S i (bookN rs S i).1
  | 0, _ => by rw [bookN_zero]; exact .nil
  | i + 1, h => by
    have hr : rs[i]? = some rs[i] := List.getElem?_eq_getElem (by omega)
    have ih := build_of (S := S) (i := i) (rs := rs) (by omega)
    rw [bookN_succ hr]
    have hl : rs[i].1 < (bookN rs S i).1.length := by
      rw [bookN_len (by omega)]
      exact lane_lt (List.getElem_mem _)
    have ho : (bookN rs S i).1[rs[i].1]? = some (bookN rs S i).1[rs[i].1] := List.getElem?_eq_getElem hl
    show Build "w" rs S (i + 1) ((bookN rs S i).1.set rs[i].1 (((bookN rs S i).1[rs[i].1]?).getD [] ++ _))
    rw [ho]
    exact .row ih hr ho (List.Perm.refl _)
theorem bookN_few {rs : List Row} {S : List (Nat × Nat)} (hS : S.length ≤ 40) : ∀ {i : Nat}, i ≤ rs.length → ∀ row ∈ (bookN rs S i).1, row.length ≤ 42 * i
  | 0, _ => fun row h => by
    rw [bookN_zero] at h
    rw [List.eq_of_mem_replicate h]
    exact Nat.zero_le _
  | i + 1, h => fun row hrow => by
    rw [bookN_succ (List.getElem?_eq_getElem (by omega))] at hrow
    have ih := bookN_few (S := S) (rs := rs) hS (i := i) (by omega)
    rcases List.mem_or_eq_of_mem_set hrow with g | g
    · have := ih row g
      omega
    · rw [g, List.length_append]
      have h1 := blk_len (pre := "w") (rs := rs) (S := S) (o := waitsOf S i) (i := i) (c := rs[i].2) (lane := rs[i].1)
      have h2 : (waitsOf S i).length ≤ 40 := by
        unfold waitsOf
        rw [List.length_map]
        exact Nat.le_trans (List.length_filter_le _ _) hS
      have h3 : ((bookN rs S i).1[rs[i].1]?.getD []).length ≤ 42 * i := by
        cases q : (bookN rs S i).1[rs[i].1]? with
        | none => exact Nat.zero_le _
        | some old => exact ih old (List.mem_of_getElem? q)
      show ((bookN rs S i).1[rs[i].1]?.getD []).length + (blk "w" rs S (waitsOf S i) i rs[i].2 rs[i].1).length ≤ _
      omega
theorem sites_len {rs : List Row} {S : List (Nat × Nat)} : ∀ {i : Nat}, i ≤ rs.length → (bookN rs S i).2.length = i
  | 0, _ => rfl
  | i + 1, h => by
    rw [bookN_succ (List.getElem?_eq_getElem (by omega))]
    show (List.append _ _).length = _
    rw [List.append_eq, List.length_append, sites_len (by omega)]
    rfl
end Fl
set_option maxHeartbeats 2000000
namespace Fl
open PySem PySem.Spec PyProof.Rows L2 Evl
structure FbH (C : Addr) (c m s L : Addr) (as : List Addr) (H : Hp) (cv mv : List (Key × D)) (st : List (Nat × Nat)) (ls : List (List Cmd)) : Prop where
  hc : ∃ cs, H c = some (.dK cs) ∧ RK (Rp C H) cs cv
  hm : ∃ ms, H m = some (.dK ms) ∧ RK (Rp C H) ms mv
  hs : ∃ ss, H s = some (.lst ss) ∧ RpL C H ss (st.map spotD)
  ln : LN C H L as (ls.map fun row => row.map Cmd.D)
  cz : ∀ p ∈ cv, p.2.fz = true
  mz : ∀ p ∈ mv, p.2.fz = true
  cm : c ≠ m
  sn : s ∉ L :: as
section
variable {C c m s L : Addr} {as : List Addr} {H H' : Hp} {cv mv : List (Key × D)} {st : List (Nat × Nat)} {ls : List (List Cmd)}
theorem FbH.ex (h : FbH C c m s L as H cv mv st ls) (e : Ex H H') : FbH C c m s L as H' cv mv st ls := by
  obtain ⟨⟨cs, c1, c2⟩, ⟨ms, m1, m2⟩, ⟨ss, s1, s2⟩, ln, cz, mz, cm, sn⟩ := h
  exact ⟨⟨cs, e _ _ c1, c2.imp fun _ _ r => r.ex e⟩, ⟨ms, e _ _ m1, m2.imp fun _ _ r => r.ex e⟩, ⟨ss, e _ _ s1, s2.ex e⟩, ln.ex e, cz, mz, cm, sn⟩
theorem FbH.row {k : Nat} {al : Addr} {old cmds : List Cmd} {vs ws : List V} (h : FbH C c m s L as H cv mv st ls) (ha : as[k]? = some al) (hr : ls[k]? = some old) (hv : H al = some (.lst vs)) (rw' : RpL C H ws (cmds.map Cmd.D)) : FbH C c m s L as (upd H al (.lst (vs ++ ws))) cv mv st (ls.set k (old ++ cmds)) := by
  obtain ⟨⟨cs, c1, c2⟩, ⟨ms, m1, m2⟩, ⟨ss, s1, s2⟩, ln, cz, mz, cm, sn⟩ := h
  have t : Tx H (upd H al (.lst (vs ++ ws))) := Tx.lst hv
  have hr' : (ls.map fun row => row.map Cmd.D)[k]? = some (old.map Cmd.D) := by rw [List.getElem?_map, hr]; rfl
  obtain ⟨vs', hv', rv'⟩ := ln.row k al _ ha hr'
  rw [hv] at hv'
  cases hv'
  have hsa : s ≠ al := fun z => sn (z ▸ List.mem_cons_of_mem _ (List.mem_of_getElem? ha))
  refine ⟨⟨cs, by rw [upd_ne (fun z => by subst z; rw [hv] at c1; cases c1)]; exact c1, RK.fz t cz c2⟩, ⟨ms, by rw [upd_ne (fun z => by subst z; rw [hv] at m1; cases m1)]; exact m1, RK.fz t mz m2⟩, ⟨ss, by rw [upd_ne hsa]; exact s1, s2.fz t (fzL_map fun _ _ => rfl)⟩, ?_, cz, mz, cm, sn⟩
  rw [List.map_set, List.map_append]
  exact ln.put ha hr' hv rv' rw' (fzL_map fun c _ => c.fz)
theorem FbH.site {ss : List V} {v : V} {x : Nat × Nat} (h : FbH C c m s L as H cv mv st ls) (hss : H s = some (.lst ss)) (r : Rp C H v (spotD x)) : FbH C c m s L as (upd H s (.lst (ss ++ [v]))) cv mv (st ++ [x]) ls := by
  obtain ⟨⟨cs, c1, c2⟩, ⟨ms, m1, m2⟩, ⟨ss', s1, s2⟩, ln, cz, mz, cm, sn⟩ := h
  rw [hss] at s1
  cases s1
  have t : Tx H (upd H s (.lst (ss ++ [v]))) := Tx.lst hss
  refine ⟨⟨cs, by rw [upd_ne (fun z => by subst z; rw [hss] at c1; cases c1)]; exact c1, RK.fz t cz c2⟩, ⟨ms, by rw [upd_ne (fun z => by subst z; rw [hss] at m1; cases m1)]; exact m1, RK.fz t mz m2⟩, ⟨_, upd_same, ?_⟩, ln.keep t fun b hb => upd_ne fun z => sn (z ▸ hb), cz, mz, cm, sn⟩
  rw [List.map_append]
  exact RpL.fz t (fzL_append (fzL_map fun _ _ => rfl) rfl) (s2.append ⟨r, True.intro⟩)
theorem FbH.cnt {cs : List (Key × V)} {k : Key} {i : Int} (h : FbH C c m s L as H cv mv st ls) (hcs : H c = some (.dK cs)) : FbH C c m s L as (upd H c (.dK (putK cs k (.int i)))) (putD cv k (.int i)) mv st ls := by
  obtain ⟨⟨cs', c1, c2⟩, ⟨ms, m1, m2⟩, ⟨ss, s1, s2⟩, ln, cz, mz, cm, sn⟩ := h
  rw [hcs] at c1
  cases c1
  have t : Tx H (upd H c (.dK (putK cs k (.int i)))) := Tx.dk hcs
  refine ⟨⟨_, upd_same, RK.put (RK.fz t cz c2) rfl⟩, ⟨ms, by rw [upd_ne cm.symm]; exact m1, RK.fz t mz m2⟩, ⟨ss, by rw [upd_ne (fun z => by subst z; rw [hcs] at s1; cases s1)]; exact s1, s2.fz t (fzL_map fun _ _ => rfl)⟩, ln.keep t fun b hb => upd_ne fun z => ?_, fun p hp => (putD_mem hp).elim (cz p) fun e => by rw [e]; rfl, mz, cm, sn⟩
  subst z
  rcases List.mem_cons.mp hb with z | z
  · rw [z, ln.top] at hcs; cases hcs
  · obtain ⟨n, hn⟩ := List.getElem?_of_mem z
    have hl : n < (ls.map fun row => row.map Cmd.D).length := by rw [← ln.len]; exact (List.getElem?_eq_some_iff.mp hn).1
    obtain ⟨us, h1, _⟩ := ln.row n b _ hn (List.getElem?_eq_getElem hl)
    rw [h1] at hcs
    cases hcs
theorem FbH.num {ms : List (Key × V)} {k : Key} {i : Int} (h : FbH C c m s L as H cv mv st ls) (hms : H m = some (.dK ms)) : FbH C c m s L as (upd H m (.dK (putK ms k (.int i)))) cv (putD mv k (.int i)) st ls := by
  obtain ⟨⟨cs, c1, c2⟩, ⟨ms', m1, m2⟩, ⟨ss, s1, s2⟩, ln, cz, mz, cm, sn⟩ := h
  rw [hms] at m1
  cases m1
  have t : Tx H (upd H m (.dK (putK ms k (.int i)))) := Tx.dk hms
  refine ⟨⟨cs, by rw [upd_ne cm]; exact c1, RK.fz t cz c2⟩, ⟨_, upd_same, RK.put (RK.fz t mz m2) rfl⟩, ⟨ss, by rw [upd_ne (fun z => by subst z; rw [hms] at s1; cases s1)]; exact s1, s2.fz t (fzL_map fun _ _ => rfl)⟩, ln.keep t fun b hb => upd_ne fun z => ?_, cz, fun p hp => (putD_mem hp).elim (mz p) fun e => by rw [e]; rfl, cm, sn⟩
  subst z
  rcases List.mem_cons.mp hb with z | z
  · rw [z, ln.top] at hms; cases hms
  · obtain ⟨n, hn⟩ := List.getElem?_of_mem z
    have hl : n < (ls.map fun row => row.map Cmd.D).length := by rw [← ln.len]; exact (List.getElem?_eq_some_iff.mp hn).1
    obtain ⟨us, h1, _⟩ := ln.row n b _ hn (List.getElem?_eq_getElem hl)
    rw [h1] at hms
    cases hms
structure CntK (rs : List Row) (S : List (Nat × Nat)) (i : Nat) (cv : List (Key × D)) : Prop where
  few : cv.length ≤ i
  at_ : ∀ l : Nat, (lookD cv (Sum.inl (l : Int))).getD (.int 0) = .int (((List.range i).filter fun f => fronts S f && decide (laneOf rs f = l)).length : Nat)
structure NmK (rs : List Row) (S : List (Nat × Nat)) (i : Nat) (mv : List (Key × D)) : Prop where
  few : mv.length ≤ i
  at_ : ∀ f, f < i → fronts S f = true → lookD mv (Sum.inl (f : Int)) = some (.int (numOf rs S f : Nat))
theorem CntK.skip {rs : List Row} {S : List (Nat × Nat)} {i : Nat} (h : CntK rs S i cv) (hf : fronts S i = false) : CntK rs S (i + 1) cv := ⟨Nat.le_succ_of_le h.few, fun l => by
  rw [h.at_ l, List.range_succ, List.filter_append, List.filter_cons, hf, Bool.false_and, if_neg (by decide), List.filter_nil, List.append_nil]⟩
theorem NmK.skip {rs : List Row} {S : List (Nat × Nat)} {i : Nat} (h : NmK rs S i mv) (hf : fronts S i = false) : NmK rs S (i + 1) mv := ⟨Nat.le_succ_of_le h.few, fun f hfi hff => by
  rcases Nat.lt_succ_iff_lt_or_eq.mp hfi with g | g
  · exact h.at_ f g hff
  · subst g; rw [hf] at hff; cases hff⟩
theorem num_eq {rs : List Row} {S : List (Nat × Nat)} {i : Nat} (hf : fronts S i = true) : numOf rs S i = ((List.range i).filter fun f => fronts S f && decide (laneOf rs f = laneOf rs i)).length + 1 := by
  unfold numOf
  rw [List.range_succ, List.filter_append, List.length_append, List.filter_cons, hf, decide_eq_true rfl, Bool.true_and, if_pos rfl]
  rfl
theorem CntK.add {rs : List Row} {S : List (Nat × Nat)} {i : Nat} (h : CntK rs S i cv) (hf : fronts S i = true) : CntK rs S (i + 1) (putD cv (Sum.inl (laneOf rs i : Int)) (.int (numOf rs S i : Nat))) := by
  refine ⟨?_, fun l => ?_⟩
  · have := putD_length (m := cv) (k := (Sum.inl (laneOf rs i : Int) : Key)) (d := D.int (numOf rs S i : Nat))
    have := h.few
    omega
  · rw [lookD_put, List.range_succ, List.filter_append, List.length_append, List.filter_cons, hf, Bool.true_and]
    by_cases e : l = laneOf rs i
    · subst e
      rw [if_pos rfl, if_pos (decide_eq_true rfl), num_eq hf]
      rfl
    · rw [if_neg (fun z => e (by have := Sum.inl.inj z; omega)), h.at_ l, if_neg (by simp; exact fun z => e z.symm)]
      rfl
theorem NmK.add {rs : List Row} {S : List (Nat × Nat)} {i : Nat} (h : NmK rs S i mv) : NmK rs S (i + 1) (putD mv (Sum.inl (i : Int)) (.int (numOf rs S i : Nat))) := by
  refine ⟨?_, fun f hfi hff => ?_⟩
  · have := putD_length (m := mv) (k := (Sum.inl (i : Int) : Key)) (d := D.int (numOf rs S i : Nat))
    have := h.few
    omega
  · rw [lookD_put]
    by_cases e : f = i
    · subst e; rw [if_pos rfl]
    · rw [if_neg (fun z => e (by have := Sum.inl.inj z; omega))]
      exact h.at_ f (by omega) hff
end
end Fl
set_option maxHeartbeats 4000000
namespace Fl
open PySem PySem.Spec PyProof.Rows L2 Evl
theorem sc_is_ahead : FnScope ["told", "one", "other"] ["told", "one", "other"] (defScope s_is_ahead) := ⟨rfl, rfl, rfl, by decide +kernel, rfl, by decide +kernel, by decide +kernel⟩
theorem sc_check_two : FnScope ["book", "one", "other"] ["book", "one", "other"] (defScope s_check_two) := ⟨rfl, rfl, rfl, by decide +kernel, rfl, by decide +kernel, by decide +kernel⟩
theorem sc_ahead : FnScope ["book", "one", "other"] ["book", "one", "other"] (defScope s_ahead) := ⟨rfl, rfl, rfl, by decide +kernel, rfl, by decide +kernel, by decide +kernel⟩
structure IaA where
  ls : List (List Cmd)
  t : Tm
  a : Sp2
  s : Sp2
abbrev IaA.args (a : IaA) : List D := [tmD a.ls a.t, spotD a.a, spotD a.s]
abbrev IaA.pre (a : IaA) : Prop := a.s ∈ spotsOf a.ls ∧ a.a.1 < (a.t a.s).length
structure AhA where
  hs : List Hall
  ls : List (List Cmd)
  a : Sp2
  s : Sp2
abbrev AhA.args (a : AhA) : List D := [bookD (a.hs, a.ls), spotD a.a, spotD a.s]
abbrev AhA.pre (a : AhA) : Prop := Few a.ls ∧ a.a ∈ spotsOf a.ls ∧ a.s ∈ spotsOf a.ls
section
variable {P : Program} {w : World} {K : PySem.W.Frag} {mg : Str → Option Value} {base : Heap}
abbrev spIsAhead (C : Addr) : Sp := spF C IaA.args IaA.pre fun a => .bl (decide (a.a.2 < gt (a.t a.s) a.a.1))
theorem c_is_ahead (T : TF w K mg) : Callee P w K mg base "is_ahead" 1 ["told", "one", "other"] (spIsAhead (CB K)) := by
  obtain ⟨fd, F⟩ := T.d_is_ahead
  refine callee_of F (F.ok sc_is_ahead (spA_len fun _ => rfl) fun cdv A outer s H vs Q E hr h => ?_) T.g_is_ahead fun _ _ _ _ _ _ us hl => match us, hl with | [_, _, _], _ => rfl
  obtain ⟨a, r, hp, q⟩ := h
  have g : Good P w K (L2.Cx.nox (cxOf CX0 P w K mg base ["told", "one", "other"] "is_ahead" (defScope s_is_ahead) (He.ga K "is_ahead") cdv A outer s H E)) := ⟨rfl, rfl, rfl, rfl, hu_un hr⟩
  have hu := hu_of hr
  refine ⟨_, PSs.nox (pss_one (ps_ret (pe_cmpR (op_b g) (pe_ix (ix_b g) (pe_ix (ix_b g) (pv 0) (pv 2) (fun _ _ => rfl)) (pe_ix (ix_b g) (pv 1) pe_int (fun _ _ => rfl)) (fun _ _ => rfl)) (pe_ix (ix_b g) (pv 1) pe_int (fun _ _ => rfl)) (nomark _)))), ?_⟩
  obtain ⟨v, u1, u2, rfl, r1, r2, r3⟩ := r.three
  obtain ⟨ls, t, a, s⟩ := a
  obtain ⟨h1, h2⟩ := (show s ∈ spotsOf ls ∧ a.1 < (t s).length from hp)
  replace r1 : Rp (CB K) H v (tmD ls t) := r1
  replace r2 : Rp (CB K) H u1 (spotD a) := r2
  replace r3 : Rp (CB K) H u2 (tD (sk s)) := r3
  have hlk : lookD (dcD (spotsOf ls) sk fun s => D.tup ((t s).map fun n => .int (n : Nat))) (sk s) = some (.tup ((t s).map fun n => .int (n : Nat))) := dcD_look (kf := sk) h1 fun b _ e => by rw [sk_inj e]
  have hg : (t s)[a.1]? = some (gt (t s) a.1) := by
    unfold gt
    rw [List.getElem?_eq_getElem h2]
    rfl
  refine ret_of (ed_op (ed_op (ed_op (ed_var rfl r1) (ed_var rfl r3) (o_ixT hlk)) (ed_op (ed_var rfl r2) ed_int (o_ixt at0)) (o_ixt (d := .int ((gt (t s) a.1 : Nat) : Int)) (atI_nat (j := a.1) (by rw [List.getElem?_map, hg]; rfl)))) (ed_op (ed_var rfl r2) ed_int (o_ixt at1)) o_gt) rfl q ?_
  show D.bl (decide (((a.2 : Nat) : Int) < ((gt (t s) a.1 : Nat) : Int))) = D.bl (decide (a.2 < gt (t s) a.1))
  exact congrArg D.bl (decide_eq_decide.mpr Int.ofNat_lt)
theorem spotA {hs : List Hall} {ls : List (List Cmd)} {s : Sp2} (h : s ∈ spotsOf ls) : ∃ a : SpotA, a.args = [bookD (hs, ls), spotD s] ∧ a.pre := by
  obtain ⟨row, c, hsp⟩ := mem_spots h
  exact ⟨⟨hs, ls, s, row, c⟩, rfl, hsp⟩
abbrev spCkTwo (C : Addr) : Sp := spNone C AhA.args AhA.pre
theorem c_check_two (T : TF w K mg) (c_check_book : Callee P w K mg base "check_book" 1 ["thing"] (spCkBook (CB K))) (c_check_spot : Callee P w K mg base "check_spot" 4 ["book", "thing"] (spCkSpot (CB K))) : Callee P w K mg base "check_two" 5 ["book", "one", "other"] (spCkTwo (CB K)) := by
  obtain ⟨fd, F⟩ := T.d_check_two
  refine callee_of F (F.ok sc_check_two (spA_len fun _ => rfl) fun cdv A outer s H vs Q E hr h => ?_) T.g_check_two fun _ _ _ _ _ _ us hl => match us, hl with | [_, _, _], _ => rfl
  obtain ⟨a, r, hp, q⟩ := h
  have g : Good P w K (L2.Cx.nox (cxOf CX0 P w K mg base ["book", "one", "other"] "check_two" (defScope s_check_two) (He.ga K "check_two") cdv A outer s H E)) := ⟨rfl, rfl, rfl, rfl, hu_un hr⟩
  have hu := hu_of hr
  refine ⟨_, PSs.nox (pss_cons (ps_expr (pe_c c_check_book (hr.mono (by decide)) (by rfl) pass0 (pa_cons (pv 0) pa_nil)))
      (pss_cons (ps_expr (pe_c c_check_spot (hr.mono (by decide)) (by rfl) pass0 (pa_cons (pv 0) (pa_cons (pv 1) pa_nil))))
      (pss_one (ps_expr (pe_c c_check_spot (hr.mono (by decide)) (by rfl) pass0 (pa_cons (pv 0) (pa_cons (pv 2) pa_nil))))))), ?_⟩
  obtain ⟨v, u1, u2, rfl, r1, r2, r3⟩ := r.three
  obtain ⟨hs, ls, a, s⟩ := a
  obtain ⟨h1, h2, h3⟩ := (show Few ls ∧ a ∈ spotsOf ls ∧ s ∈ spotsOf ls from hp)
  replace r1 : Rp (CB K) H v (bookD (hs, ls)) := r1
  replace r2 : Rp (CB K) H u1 (spotD a) := r2
  replace r3 : Rp (CB K) H u2 (spotD s) := r3
  obtain ⟨A, eA, pA⟩ := spotA (hs := hs) h2
  obtain ⟨S, eS, pS⟩ := spotA (hs := hs) h3
  refine q_drop (ed_call (hs, ls) (ea1 (ed_var rfl r1) ea0) trivial) fun H1 e1 => ?_
  refine q_drop (ed_call A (eA ▸ ea1 (ed_var rfl (r1.ex e1)) (ea1 (ed_var rfl (r2.ex e1)) ea0)) pA) fun H2 e2 => ?_
  have e12 := e1.trans e2
  exact (ed_call S (eS ▸ ea1 (ed_var rfl (r1.ex e12)) (ea1 (ed_var rfl (r3.ex e12)) ea0)) pS) H2 (Ex.refl _) _ fun _ H3 e3 _ => q _ _ H3 rfl (e12.trans e3) rfl (.fz rfl)
noncomputable abbrev spAhd (C : Addr) : Sp := spF C AhA.args AhA.pre fun a => .bl (rchB a.ls a.a a.s)
theorem c_ahead (T : TF w K mg) (c_check_two : Callee P w K mg base "check_two" 5 ["book", "one", "other"] (spCkTwo (CB K))) (c_clocks : Callee P w K mg base "clocks" 4 ["book"] (spClocks (CB K))) (c_is_ahead : Callee P w K mg base "is_ahead" 1 ["told", "one", "other"] (spIsAhead (CB K))) :
    Callee P w K mg base "ahead" 6 ["book", "one", "other"] (spAhd (CB K)) := by
  obtain ⟨fd, F⟩ := T.d_ahead
  refine callee_of F (F.ok sc_ahead (spA_len fun _ => rfl) fun cdv A outer s H vs Q E hr h => ?_) T.g_ahead fun _ _ _ _ _ _ us hl => match us, hl with | [_, _, _], _ => rfl
  obtain ⟨a, r, hp, q⟩ := h
  have g : Good P w K (L2.Cx.nox (cxOf CX0 P w K mg base ["book", "one", "other"] "ahead" (defScope s_ahead) (He.ga K "ahead") cdv A outer s H E)) := ⟨rfl, rfl, rfl, rfl, hu_un hr⟩
  have hu := hu_of hr
  refine ⟨_, PSs.nox (pss_cons (ps_expr (pe_c c_check_two (hr.mono (by decide)) (by rfl) pass0 (pa_cons (pv 0) (pa_cons (pv 1) (pa_cons (pv 2) pa_nil)))))
      (pss_one (ps_ret (pe_c c_is_ahead (hr.mono (by decide)) (by rfl) pass0 (pa_cons (pe_c c_clocks (hr.mono (by decide)) (by rfl) pass0 (pa_cons (pv 0) pa_nil)) (pa_cons (pv 1) (pa_cons (pv 2) pa_nil))))))), ?_⟩
  obtain ⟨v, u1, u2, rfl, r1, r2, r3⟩ := r.three
  obtain ⟨hs, ls, a, s⟩ := a
  obtain ⟨h1, h2, h3⟩ := (show Few ls ∧ a ∈ spotsOf ls ∧ s ∈ spotsOf ls from hp)
  replace r1 : Rp (CB K) H v (bookD (hs, ls)) := r1
  replace r2 : Rp (CB K) H u1 (spotD a) := r2
  replace r3 : Rp (CB K) H u2 (spotD s) := r3
  refine q_drop (ed_call (AhA.mk hs ls a s) (ea1 (ed_var rfl r1) (ea1 (ed_var rfl r2) (ea1 (ed_var rfl r3) ea0))) ⟨h1, h2, h3⟩) fun H1 e1 => ?_
  show tCall _ _ _ (tCons (tCall _ _ _ _) _) _ H1 _
  refine edx_call (hs, ls) (ea1 (ed_var rfl (r1.ex e1)) ea0) h1 H1 (Ex.refl _) _ fun vt H2 e2 ⟨dt, ⟨t, ht, edt⟩, rt⟩ => ?_
  subst edt
  have e12 := e1.trans e2
  refine ⟨u1, rfl, u2, rfl, ?_⟩
  refine ⟨IaA.mk ls t a s, ⟨rt, r2.ex e12, r3.ex e12, True.intro⟩, ⟨h3, by rw [ht.1.1 s h3]; exact (spot_lt h2).1⟩, fun d v' H3 ed e3 r4 _ => q d v' H3 ?_ (e12.trans e3) r4 (.fz (by rw [ed]; rfl))⟩
  rw [ed]
  show D.bl _ = D.bl _
  rw [clk_iff ht h2 h3]
end
end Fl
set_option maxHeartbeats 4000000
namespace Fl
open PySem PySem.Spec PyProof.Rows L2 Evl
theorem sc_law_sources : FnScope ["_law_deed"] ["_law_deed"] (defScope s_law_sources) := ⟨rfl, rfl, rfl, by decide +kernel, rfl, by decide +kernel, by decide +kernel⟩
theorem sc_law_target : FnScope ["_law_deed"] ["_law_deed"] (defScope s_law_target) := ⟨rfl, rfl, rfl, by decide +kernel, rfl, by decide +kernel, by decide +kernel⟩
theorem sc_law_written : FnScope ["_law_deed"] ["_law_deed"] (defScope s_law_written) := ⟨rfl, rfl, rfl, by decide +kernel, rfl, by decide +kernel, by decide +kernel⟩
theorem sc_law_near : FnScope ["_law_halls_here", "_law_found", "_law_term_here", "_law_size", "_law_where", "_law_holder", "_law_mate", "_law_wide", "_law_there", "_law_owner", "_law_free"] ["_law_halls_here"] (defScope s_law_near) := ⟨rfl, rfl, rfl, by decide +kernel, rfl, by decide +kernel, by decide +kernel⟩
theorem sc_law_meets : FnScope ["_law_near_here", "_law_here", "_law_there", "_law_words", "_law_front", "_law_hind", "_law_used", "_law_term_here", "_law_mate"] ["_law_near_here", "_law_here", "_law_there"] (defScope s_law_meets) := ⟨rfl, rfl, rfl, by decide +kernel, rfl, by decide +kernel, by decide +kernel⟩
def dstO : Cmd → D
  | .put r _ => .str r
  | .copy _ b => .str b
  | .reckon _ _ t => .str t
  | _ => .non
theorem wd_reckon {c : Cmd} (h : c.word = "reckon") : ∃ f xs t, c = .reckon f xs t := by
  cases c with
  | reckon f xs t => exact ⟨f, xs, t, rfl⟩
  | put _ _ => exact absurd (show ("put" : Str) = "reckon" from h) (by decide +kernel)
  | copy _ _ => exact absurd (show ("copy" : Str) = "reckon" from h) (by decide +kernel)
  | look _ => exact absurd (show ("look" : Str) = "reckon" from h) (by decide +kernel)
  | shw _ => exact absurd (show ("show" : Str) = "reckon" from h) (by decide +kernel)
  | wait _ _ => exact absurd (show ("wait" : Str) = "reckon" from h) (by decide +kernel)
  | set _ _ => exact absurd (show ("set" : Str) = "reckon" from h) (by decide +kernel)
theorem wd_put {c : Cmd} (h : c.word = "put") : ∃ z n, c = .put z n := by
  cases c with
  | put z n => exact ⟨z, n, rfl⟩
  | reckon _ _ _ => exact absurd (show ("reckon" : Str) = "put" from h) (by decide +kernel)
  | copy _ _ => exact absurd (show ("copy" : Str) = "put" from h) (by decide +kernel)
  | look _ => exact absurd (show ("look" : Str) = "put" from h) (by decide +kernel)
  | shw _ => exact absurd (show ("show" : Str) = "put" from h) (by decide +kernel)
  | wait _ _ => exact absurd (show ("wait" : Str) = "put" from h) (by decide +kernel)
  | set _ _ => exact absurd (show ("set" : Str) = "put" from h) (by decide +kernel)
theorem wd_gt (c : Cmd) : c.word ∉ (["give", "take"] : List Str) := by
  cases c with
  | put _ _ => show ("put" : Str) ∉ _; decide +kernel
  | reckon _ _ _ => show ("reckon" : Str) ∉ _; decide +kernel
  | copy _ _ => show ("copy" : Str) ∉ _; decide +kernel
  | look _ => show ("look" : Str) ∉ _; decide +kernel
  | shw _ => show ("show" : Str) ∉ _; decide +kernel
  | wait _ _ => show ("wait" : Str) ∉ _; decide +kernel
  | set _ _ => show ("set" : Str) ∉ _; decide +kernel
section
variable {P : Program} {w : World} {K : PySem.W.Frag} {mg : Str → Option Value} {base : Heap} {C : Addr} {σ : L2.St} {H : Hp} {te to ti : TE} {E : Ends} {tz : TS}
theorem ev_rep1 {ta tb : TE} {d : D} {b : Bool} (ha : Ed C ta σ H d) (hb : Ed C tb σ H (.bl b)) : EvP (tOp (rB P w K (binaryOp .Mult)) (tLst (tCons ta tNil)) (tCB (rC P w K (.type "int")) (tCons tb tNil))) σ H fun v H2 => Rp C H2 v (.lst (if b = true then [d] else [])) ∧ Nw H v (.lst (if b = true then [d] else [])) := fun H1 e Q q =>
  (ed_lst (ea1 ha ea0)) H1 e _ fun v H2 e2 ⟨p, xs, ev, hp, rp⟩ => (ed_cb (ea1 hb ea0) k_intb) H2 (e.trans e2) _ fun u H3 e3 r3 => by
    refine ⟨_, fun _ _ => op_rep, p, (if b = true then 1 else 0), xs, ev, r3, e3 _ _ hp, by split <;> omega, by split <;> omega, ?_, fun l hl => q _ _ ((e2.trans e3).trans (Ex.new hl)) ⟨⟨l, _, rfl, upd_same, ?_⟩, fun _ a ea => ?_⟩⟩
    · rw [rp.length]
      exact sz_of (by cases b with
        | true => show 1 * 1 ≤ 100000; omega
        | false => show 1 * 0 ≤ 100000; omega)
    · cases b with
      | true =>
        have h : ∀ H', Ex H2 H' → RpL C H' (List.replicate 1 xs).flatten (List.replicate 1 [d]).flatten := fun H' e' => RpL.rep (rp.ex e') 1
        exact h _ (e3.trans (Ex.new hl))
      | false => exact True.intro
    · cases ea
      exact fresh_back (e.trans (e2.trans e3)) hl
abbrev spLSrc (C : Addr) : Sp := spF C (fun c : Cmd => [c.D]) (fun c => c.plain = true) fun c => .lst (c.src.map D.str)
theorem c_law_sources (T : TF w K mg) : Callee P w K mg base "_law_sources" 1 ["_law_deed"] (spLSrc (CB K)) := by
  obtain ⟨fd, F⟩ := T.d_law_sources
  refine callee_of F (F.ok sc_law_sources (spA_len fun _ => rfl) fun cdv A outer s H vs Q E hr h => ?_) T.g_law_sources fun _ _ _ _ _ _ us hl => match us, hl with | [_], _ => rfl
  obtain ⟨a, r, hp, q⟩ := h
  have g : Good P w K (L2.Cx.nox (cxOf CX0 P w K mg base ["_law_deed"] "_law_sources" (defScope s_law_sources) (He.ga K "_law_sources") cdv A outer s H E)) := ⟨rfl, rfl, rfl, rfl, hu_un hr⟩
  have hu := hu_of hr
  refine ⟨_, PSs.nox (pss_cons (ps_if (pt_cmpR (op_b g) (pe_ix (ix_b g) (pv 0) pe_int (fun _ _ => rfl)) pe_str (nomark _)) (pss_one (ps_ret (pe_callTy (c_b g) (by rfl) T.f_list bt_list (pa_cons (pe_ix (ix_b g) (pv 0) pe_int (fun _ _ => rfl)) pa_nil)))) pss_nil)
      (pss_one (ps_ret (pe_op (op_b g) (pe_lst (pa_cons (pe_ix (ix_b g) (pv 0) pe_int (fun _ _ => rfl)) pa_nil)) (pe_callTy (c_b g) (by rfl) T.f_int bt_int (pa_cons (pe_cmpR (op_b g) (pe_ix (ix_b g) (pv 0) pe_int (fun _ _ => rfl)) (pe_lst (pa_cons pe_str (pa_cons pe_str (pa_cons pe_str pa_nil)))) rfl) pa_nil)))))), ?_⟩
  obtain ⟨v, rfl, r1⟩ := r.one
  have key : ∀ {H1 : Hp}, Rp (CB K) H1 v a.D → Ed (CB K) (tOp (rI_ P w K) (tVar 0) (tC (.int 0))) [some v] H1 (.str a.word) := fun {H1} r => by
    obtain ⟨ds, e⟩ := a.tup
    rw [e] at r
    exact ed_op (ed_var rfl r) ed_int (o_ixt at0)
  by_cases hw : a.word = "reckon"
  · obtain ⟨f, xs, t, rfl⟩ := wd_reckon hw
    refine qd_yes (et_is (et_cmp (ed_op (key r1) ed_str o_eqs)) (decide_eq_true rfl)) fun H1 e1 => ?_
    refine sd_ret (C := CB K) (d := .lst (xs.map D.str)) (fun H2 e2 Q' q' => ?_) fun v' H2 e2 r2 n2 => q_ex e1 q _ v' H2 rfl e2 r2 n2
    refine (ed_op (C := CB K) (ed_var (σ := [some v]) (i := 0) rfl (show Rp (CB K) H2 v (.tup [.str "reckon", .str f, .tup (xs.map D.str), .str t]) from r1.ex (e1.trans e2))) ed_int (o_ixt (d := .tup (xs.map D.str)) (atI_nat (j := 2) rfl))) H2 (Ex.refl _) _ fun u H3 e3 ⟨p, us, eu, hu3, ru3⟩ => ?_
    subst eu
    exact ⟨_, fun X g => g.K ▸ call_list_of, p, us, rfl, .inr (st_of hu3), fun l hl => q' _ _ (e3.trans (Ex.new hl)) ⟨⟨l, us, rfl, upd_same, ru3.ex (Ex.new hl)⟩, fun _ b eb => by
      cases eb
      exact fresh_back (e2.trans e3) hl⟩⟩
  · refine qd_no (et_is (et_cmp (ed_op (key r1) ed_str o_eqs)) (decide_eq_false hw)) fun H1 e1 => ?_
    have hone : ∃ d, Ed (CB K) (tOp (rI_ P w K) (tVar 0) (tC (.int 1))) [some v] H1 d ∧ (if decide (a.word ∈ (["copy", "look", "show"] : List Str)) = true then [d] else []) = a.src.map D.str := by
      have r1' := r1.ex e1
      cases a with
      | put z n => exact ⟨.str z, ed_op (ed_var rfl (show Rp (CB K) H1 v (.tup [.str "put", .str z, .int n]) from r1')) ed_int (o_ixt at1), rfl⟩
      | copy z n => exact ⟨.str z, ed_op (ed_var rfl (show Rp (CB K) H1 v (.tup [.str "copy", .str z, .str n]) from r1')) ed_int (o_ixt at1), rfl⟩
      | reckon f xs t => exact absurd rfl hw
      | look z => exact ⟨.str z, ed_op (ed_var rfl (show Rp (CB K) H1 v (.tup [.str "look", .str z]) from r1')) ed_int (o_ixt at1), rfl⟩
      | shw z => exact ⟨.str z, ed_op (ed_var rfl (show Rp (CB K) H1 v (.tup [.str "show", .str z]) from r1')) ed_int (o_ixt at1), rfl⟩
      | wait f n => cases hp
      | set f n => cases hp
    obtain ⟨d, hd, hsrc⟩ := hone
    have h := ev_rep1 (P := P) (w := w) (K := K) hd (ed_op (key (r1.ex e1)) (ed_lst (ds := (["copy", "look", "show"] : List Str).map D.str) (ea1 ed_str (ea1 ed_str (ea1 ed_str ea0)))) (o_inlst (P := P) (w := w) (K := K) (zs := ["copy", "look", "show"])))
    rw [hsrc] at h
    exact sd_ret (C := CB K) h fun v' H2 e2 r2 n2 => q_ex e1 q _ v' H2 rfl e2 r2 n2
abbrev spLTgt (C : Addr) : Sp := spF C (fun c : Cmd => [c.D]) (fun c => c.plain = true) dstO
theorem c_law_target (T : TF w K mg) : Callee P w K mg base "_law_target" 1 ["_law_deed"] (spLTgt (CB K)) := by
  obtain ⟨fd, F⟩ := T.d_law_target
  refine callee_of F (F.ok sc_law_target (spA_len fun _ => rfl) fun cdv A outer s H vs Q E hr h => ?_) T.g_law_target fun _ _ _ _ _ _ us hl => match us, hl with | [_], _ => rfl
  obtain ⟨a, r, hp, q⟩ := h
  have g : Good P w K (L2.Cx.nox (cxOf CX0 P w K mg base ["_law_deed"] "_law_target" (defScope s_law_target) (He.ga K "_law_target") cdv A outer s H E)) := ⟨rfl, rfl, rfl, rfl, hu_un hr⟩
  have hu := hu_of hr
  refine ⟨_, PSs.nox (pss_cons (ps_if (pt_cmpR (op_b g) (pe_ix (ix_b g) (pv 0) pe_int (fun _ _ => rfl)) pe_str (nomark _)) (pss_one (ps_ret (pe_ix (ix_b g) (pv 0) pe_int (fun _ _ => rfl)))) pss_nil)
      (pss_one (ps_ret (pe_ifExp (pt_cmpR (op_b g) (pe_ix (ix_b g) (pv 0) pe_int (fun _ _ => rfl)) (pe_lst (pa_cons pe_str (pa_cons pe_str pa_nil))) rfl) (pe_ix (ix_b g) (pv 0) (pe_un un_neg pe_int) (fun _ _ => rfl)) pe_non)))), ?_⟩
  obtain ⟨v, rfl, r1⟩ := r.one
  have key : ∀ {H1 : Hp}, Rp (CB K) H1 v a.D → Ed (CB K) (tOp (rI_ P w K) (tVar 0) (tC (.int 0))) [some v] H1 (.str a.word) := fun {H1} r => by
    obtain ⟨ds, e⟩ := a.tup
    rw [e] at r
    exact ed_op (ed_var rfl r) ed_int (o_ixt at0)
  have rest : ∀ H1, Ex H H1 → a.word ≠ "put" → Ed (CB K) (tIf (tTest (tOp (rB P w K (compareOp .In)) (tOp (rI_ P w K) (tVar 0) (tC (.int 0))) (tLst (tCons (tC (.str "copy")) (tCons (tC (.str "reckon")) tNil))))) (tOp (rI_ P w K) (tVar 0) (tUn (rU fun i => .int (-i)) (tC (.int 1)))) (tC .non)) [some v] H1 (dstO a) := fun H1 e1 hw => by
    have r1' := r1.ex e1
    refine ed_if (et_cmp (ed_op (key r1') (ed_lst (ds := (["copy", "reckon"] : List Str).map D.str) (ea1 ed_str (ea1 ed_str ea0))) (o_inlst (zs := ["copy", "reckon"])))) (fun hb => ?_) fun hb => ?_
    · have hm := of_decide_eq_true hb
      cases a with
      | put z n => exact absurd rfl hw
      | copy z n => exact ed_op (ed_var rfl (show Rp (CB K) H1 v (.tup [.str "copy", .str z, .str n]) from r1')) (ed_un ed_int) (o_ixt rfl)
      | reckon f xs t => exact ed_op (ed_var rfl (show Rp (CB K) H1 v (.tup [.str "reckon", .str f, .tup (xs.map D.str), .str t]) from r1')) (ed_un ed_int) (o_ixt rfl)
      | look z => exact absurd (show ("look" : Str) ∈ (["copy", "reckon"] : List Str) from hm) (by decide +kernel)
      | shw z => exact absurd (show ("show" : Str) ∈ (["copy", "reckon"] : List Str) from hm) (by decide +kernel)
      | wait f n => cases hp
      | set f n => cases hp
    · have hm := of_decide_eq_false hb
      cases a with
      | put z n => exact absurd rfl hw
      | copy z n => exact absurd (show ("copy" : Str) ∈ (["copy", "reckon"] : List Str) by decide +kernel) hm
      | reckon f xs t => exact absurd (show ("reckon" : Str) ∈ (["copy", "reckon"] : List Str) by decide +kernel) hm
      | look z => exact ed_non
      | shw z => exact ed_non
      | wait f n => cases hp
      | set f n => cases hp
  have hz : (dstO a).fz = true := by cases a <;> rfl
  by_cases hw : a.word = "put"
  · obtain ⟨f, n, rfl⟩ := wd_put hw
    refine qd_yes (et_is (et_cmp (ed_op (key r1) ed_str o_eqs)) (decide_eq_true rfl)) fun H1 e1 => ?_
    exact ret_of (ed_op (ed_var rfl (show Rp (CB K) H1 v (.tup [.str "put", .str f, .int n]) from r1.ex e1)) ed_int (o_ixt at1)) rfl (q_ex e1 q) rfl
  · refine qd_no (et_is (et_cmp (ed_op (key r1) ed_str o_eqs)) (decide_eq_false hw)) fun H1 e1 => ?_
    exact ret_of (rest H1 e1 hw) hz (q_ex e1 q) rfl
abbrev spLDst (C : Addr) : Sp := spF C (fun c : Cmd => [c.D]) (fun c => c.plain = true) fun c => .lst (c.dst.map D.str)
theorem c_law_written (T : TF w K mg) (c_law_target : Callee P w K mg base "_law_target" 1 ["_law_deed"] (spLTgt (CB K))) : Callee P w K mg base "_law_written" 2 ["_law_deed"] (spLDst (CB K)) := by
  obtain ⟨fd, F⟩ := T.d_law_written
  refine callee_of F (F.ok sc_law_written (spA_len fun _ => rfl) fun cdv A outer s H vs Q E hr h => ?_) T.g_law_written fun _ _ _ _ _ _ us hl => match us, hl with | [_], _ => rfl
  obtain ⟨a, r, hp, q⟩ := h
  have g : Good P w K (L2.Cx.nox (cxOf CX0 P w K mg base ["_law_deed"] "_law_written" (defScope s_law_written) (He.ga K "_law_written") cdv A outer s H E)) := ⟨rfl, rfl, rfl, rfl, hu_un hr⟩
  have hu := hu_of hr
  refine ⟨_, PSs.nox (pss_cons (ps_if (pt_cmpR (op_b g) (pe_ix (ix_b g) (pv 0) pe_int (fun _ _ => rfl)) (pe_lst (pa_cons pe_str (pa_cons pe_str pa_nil))) rfl) (pss_one (ps_ret (pe_lst (pa_cons (pe_ix (ix_b g) (pv 0) pe_int (fun _ _ => rfl)) pa_nil)))) pss_nil)
      (pss_one (ps_ret (pe_op (op_b g) (pe_lst (pa_cons (pe_c c_law_target (hr.mono (by decide)) (by rfl) pass0 (pa_cons (pv 0) pa_nil)) pa_nil)) (pe_callTy (c_b g) (by rfl) T.f_int bt_int (pa_cons (pe_cmpR (op_b g) (pe_c c_law_target (hr.mono (by decide)) (by rfl) pass0 (pa_cons (pv 0) pa_nil)) pe_non (nomark _)) pa_nil)))))), ?_⟩
  obtain ⟨v, rfl, r1⟩ := r.one
  replace hp : a.plain = true := hp
  have key : Ed (CB K) (tOp (rI_ P w K) (tVar 0) (tC (.int 0))) [some v] H (.str a.word) := by
    obtain ⟨ds, e⟩ := a.tup
    have r := r1
    rw [show (fun c : Cmd => [c.D]) a = [a.D] from rfl] at *
    rw [e] at r
    exact ed_op (ed_var rfl r) ed_int (o_ixt at0)
  refine qd_no (et_is (et_cmp (ed_op key (ed_lst (ds := (["give", "take"] : List Str).map D.str) (ea1 ed_str (ea1 ed_str ea0))) (o_inlst (zs := ["give", "take"])))) (decide_eq_false (wd_gt a))) fun H1 e1 => ?_
  have e : (if (!(dstO a).isN) = true then [dstO a] else []) = a.dst.map D.str := by cases a <;> rfl
  refine sd_ret (C := CB K) (d := .lst (a.dst.map D.str)) (EvP.imp (ev_rep1 (ed_call a (ea1 (ed_var rfl (r1.ex e1)) ea0) hp) (ed_op (ed_call a (ea1 (ed_var rfl (r1.ex e1)) ea0) hp) ed_non o_notN)) fun v H2 _ p => by
    rw [e] at p
    exact p) fun v' H2 e2 r2 n2 => q_ex e1 q _ v' H2 rfl e2 r2 n2
def nearTab (hs : List Hall) : List (Key × D) := hs.map fun h => (Sum.inr h.name, D.lst ((nearL hs h).map D.str))
theorem near_look {hs : List Hall} (ok : HallsOk hs) {z : Str} (hz : z ∈ hs.map Hall.name) : lookD (nearTab hs) (Sum.inr z) = some (.lst ((nearN hs z).map D.str)) := by
  obtain ⟨h, hm, rfl⟩ := List.mem_map.mp hz
  have e : nearN hs h.name = nearL hs h := by
    unfold nearN
    rw [find_name ok.nd hm]
  rw [e]
  have nd := ok.nd
  unfold nearTab lookD
  rw [List.find?_map]
  have e2 : hs.find? ((fun kv : Key × D => decide (kv.1 = Sum.inr h.name)) ∘ fun h => ((Sum.inr h.name : Key), D.lst ((nearL hs h).map D.str))) = hs.find? fun g => decide (g.name = h.name) := by
    congr 1
    funext g
    show decide ((Sum.inr g.name : Key) = Sum.inr h.name) = decide (g.name = h.name)
    exact decide_eq_decide.mpr ⟨fun e => Sum.inr.inj e, fun e => by rw [e]⟩
  rw [e2, find_name nd hm]
  rfl
theorem q_gen {Φ : V → Hp → Prop} {g : TG} (h : EvP te σ H Φ) (k : ∀ v H1, Ex H H1 → Φ v H1 → g v σ H1 (tz E)) : tSeq (tAsg te g) tz E σ H := h H (Ex.refl H) _ k
theorem ev_dnix {d : Addr} {es : List Ent} {k : Key} {e : Ent} (h : DN C H d es) (ho : EvP to σ H fun v _ => v = V.ref d) (hk : Ed C ti σ H (kD k)) (he : e ∈ es) (ek : e.k = k) : EvP (tOp (rI_ P w K) to ti) σ H fun v _ => v = V.ref e.a := fun H1 e1 Q q =>
  ho H1 e1 _ fun v H2 e2 r2 => hk H2 (e1.trans e2) _ fun u H3 e3 r3 => by
    have hv : valV (es.map entV) k = some (V.ref e.a) := by
      rw [ent_val]
      have hf : es.find? (fun x => decide (x.k = k)) = some e := by
        cases q : es.find? (fun x => decide (x.k = k)) with
        | none => exact absurd (decide_eq_true ek) (List.find?_eq_none.mp q e he)
        | some x =>
          have hx := List.mem_of_find?_eq_some q
          have hxk : x.k = k := find_k q
          have hr := rowOf_mem h.kn he
          have kn := h.kn
          obtain ⟨i, hi⟩ := List.getElem?_of_mem he
          obtain ⟨j, hj⟩ := List.getElem?_of_mem hx
          obtain ⟨l1, e1⟩ := List.getElem?_eq_some_iff.mp hi
          obtain ⟨l2, e2⟩ := List.getElem?_eq_some_iff.mp hj
          by_cases qq : i = j
          · subst qq; rw [hi] at hj; exact hj.symm
          · exfalso
            have hp := List.pairwise_iff_getElem.mp kn
            rcases Nat.lt_or_gt_of_ne qq with qq | qq
            · exact hp i j (by simpa using l1) (by simpa using l2) qq (by simp [e1, e2, ek, hxk])
            · exact hp j i (by simpa using l2) (by simpa using l1) qq (by simp [e1, e2, ek, hxk])
      rw [hf]
      rfl
    have hd := ((e1.trans e2).trans e3) _ _ h.top
    refine ⟨rIxDict, fun X g => ix_dict g.u1, d, _, r2, ?_, q _ H3 (e2.trans e3) rfl⟩
    rw [rp_key.mp r3]
    exact hv ▸ DGet.k hd
theorem entApp_last {es : List Ent} {k : Key} {a : Addr} {r : List D} {x : D} (hk : k ∉ es.map Ent.k) : entApp (es ++ [⟨k, a, r⟩]) k x = es ++ [⟨k, a, r ++ [x]⟩] := by
  unfold entApp
  rw [List.map_append]
  congr 1
  · exact (List.map_congr_left fun e he => if_neg (show ¬ e.k = k from fun z => hk (z ▸ List.mem_map.mpr ⟨e, he, rfl⟩))).trans (List.map_id _)
  · show [if k = k then _ else _] = _
    rw [if_pos rfl]
abbrev spLNear (C : Addr) : Sp := spF C (fun hs : List Hall => [hallsD hs]) HallsOk fun hs => .dk (nearTab hs)
theorem c_law_near (T : TF w K mg) : Callee P w K mg base "_law_near" 1 ["_law_halls_here"] (spLNear (CB K)) := by
  obtain ⟨fd, F⟩ := T.d_law_near
  refine callee_of F (F.ok sc_law_near (spA_len fun _ => rfl) fun cdv A outer s H vs Q E hr h => ?_) T.g_law_near fun _ _ _ _ _ _ us hl => match us, hl with | [_], _ => rfl
  obtain ⟨a, r, hp, q⟩ := h
  have g : Good P w K (L2.Cx.nox (cxOf CX0 P w K mg base ["_law_halls_here", "_law_found", "_law_term_here", "_law_size", "_law_where", "_law_holder", "_law_mate", "_law_wide", "_law_there", "_law_owner", "_law_free"] "_law_near" (defScope s_law_near) (He.ga K "_law_near") cdv A outer s H E)) := ⟨rfl, rfl, rfl, rfl, hu_un hr⟩
  have hu := hu_of hr
  refine ⟨_, PSs.nox (pss_cons (ps_set (i := 1) sc_law_near.nd rfl (Or.inl rfl) pe_dnewK)
      (pss_cons (ps_for PassesOwn.never g.calm (pi_b g (pv 0)) (pg_tup rfl (pgs_cons (pg_name (i := 2) sc_law_near.nd rfl (Or.inl rfl)) (pgs_cons (pg_name (i := 3) sc_law_near.nd rfl (Or.inl rfl)) (pgs_cons (pg_name (i := 4) sc_law_near.nd rfl (Or.inl rfl)) (pgs_cons (pg_name (i := 5) sc_law_near.nd rfl (Or.inl rfl)) pgs_nil))))) (pss_cons (ps_asg (pe_lst (pa_cons (pv 2) pa_nil)) (pg_sub (pv 1) (pv 2) (set_b g)))
      (pss_one (ps_for PassesOwn.never g.calm (pi_b g (pv 0)) (pg_tup rfl (pgs_cons (pg_name (i := 6) sc_law_near.nd rfl (Or.inl rfl)) (pgs_cons (pg_name (i := 7) sc_law_near.nd rfl (Or.inl rfl)) (pgs_cons (pg_name (i := 8) sc_law_near.nd rfl (Or.inl rfl)) (pgs_cons (pg_name (i := 9) sc_law_near.nd rfl (Or.inl rfl)) pgs_nil))))) (pss_cons (ps_set (i := 10) sc_law_near.nd rfl (Or.inl rfl) (pe_or (pe_cmpR (op_b g) (pv 6) (pv 2) (nomark _)) (pe_or (pe_cmpR (op_b g) (pv 4) pe_non (nomark _)) (pe_one (pe_cmpR (op_b g) (pv 8) pe_non (nomark _))))))
      (pss_one (ps_if (PW.pt (pw_and (pt_not (pt_val (pv 10))) (pw_and (pt_cmpR (op_b g) (pv 4) (pe_op (op_b g) (pv 8) (pv 7)) (nomark _)) (pw_and1 (pt_cmpR (op_b g) (pv 8) (pe_op (op_b g) (pv 4) (pv 3)) (nomark _)))))) (pss_one (ps_expr (pe_bm PySem.F.plainAttrs_list PySem.F.slot_list_append PySem.F.type_list_append (mt_b g) (pe_ix (ix_b g) (pv 1) (pv 2) (fun _ _ => rfl)) (pa_cons (pv 6) pa_nil)))) pss_nil)))))))
      (pss_one (ps_ret (pv 1))))), ?_⟩
  obtain ⟨v, rfl, r1⟩ := r.one
  replace r1 : Rp (CB K) H v (hallsD a) := r1
  replace hp : HallsOk a := hp
  refine q_dnew fun d hd => ?_
  have eD : Ex H (upd H d (.dK [])) := Ex.new hd
  refine qs_for0 (xs := a) (F := Hall.D) (ei_tup (ed_var rfl (r1.ex eD))) (fun h _ => h.fz) fun H2 e2 => ?_
  refine ⟨fun i σ' H' => (∃ u2 u3 u4 u5 u6 u7 u8 u9 u10, σ' = [some v, some (.ref d), u2, u3, u4, u5, u6, u7, u8, u9, u10]) ∧ Tx H2 H' ∧ Ex H H' ∧ ∃ es, DN (CB K) H' d es ∧ es.map (fun e => (e.k, D.lst e.r)) = (a.take i).map fun h => ((Sum.inr h.name : Key), D.lst ((nearL a h).map D.str)),
    ⟨⟨_, _, _, _, _, _, _, _, _, rfl⟩, Tx.refl _, eD.trans e2, [], ⟨e2 _ _ upd_same, by simp, by simp, (fun e h => nomatch h), fun e h => nomatch h⟩, rfl⟩, fun i σ' H' p => p.2.1, ?_, ?_⟩
  · rintro i h x σ' H' H'' hi ⟨⟨u2, u3, u4, u5, u6, u7, u8, u9, u10, rfl⟩, p1, p2, es, p3, p4⟩ e3 r3
    have hm : h ∈ a := List.mem_of_getElem? hi
    have hil := (List.getElem?_eq_some_iff.mp hi).1
    have hfew := hp.few
    have heslen : es.length = i := by
      have := congrArg List.length p4
      rw [List.length_map, List.length_map, List.length_take] at this
      omega
    have hkn : (Sum.inr h.name : Key) ∉ es.map Ent.k := fun hk => by
      obtain ⟨e, he, ek⟩ := List.mem_map.mp hk
      have h1 : (e.k, D.lst e.r) ∈ es.map fun e => (e.k, D.lst e.r) := List.mem_map.mpr ⟨e, he, rfl⟩
      rw [p4] at h1
      obtain ⟨g, hg, eg⟩ := List.mem_map.mp h1
      have h2 : (Sum.inr g.name : Key) = Sum.inr h.name := ((Prod.mk.inj eg).1).trans ek
      have h3 : h.name ∈ (a.take i).map Hall.name := List.mem_map.mpr ⟨g, hg, Sum.inr.inj h2⟩
      have h4 := not_mem_take hp.nd (k := i) (x := h.name) (by rw [List.getElem?_map, hi]; rfl)
      rw [← List.map_take] at h4
      exact h4 h3
    refine g_four r3 fun v1 v2 v3 v4 q1 q2 q3 q4 => ?_
    refine q_gen (ev_lst (C := CB K) (ea1 (ed_var rfl q1) ea0)) fun vl H3 e4 ⟨rl, nl⟩ => ?_
    obtain ⟨l, vs, rfl, hl, rvs⟩ := rl
    have hl'' : H'' l = none := nl (by rfl) l rfl
    have hlH : H l = none := fresh_back (p2.trans e3) hl''
    have dn3 := p3.ex (e3.trans e4)
    have hes10 : (es.map entV).length ≤ 10000 := by rw [List.length_map]; omega
    have hnl : l ∉ d :: es.map Ent.a := fun hm' => by
      have dn := p3.ex e3
      rcases List.mem_cons.mp hm' with z | z
      · subst z; rw [dn.top] at hl''; cases hl''
      · obtain ⟨y, hy, ey⟩ := List.mem_map.mp z
        obtain ⟨vs', h1, _⟩ := dn.row y hy
        rw [ey, hl''] at h1
        cases h1
    have hf0 : es.find? (fun e => decide (e.k = (Sum.inr h.name : Key))) = none := List.find?_eq_none.mpr fun e he => by
      simp only [decide_eq_true_eq]
      exact fun z => hkn (z ▸ List.mem_map.mpr ⟨e, he, rfl⟩)
    have q1e : ∀ H5, Rp (CB K) H5 v1 (.str h.name) := fun H5 => q1
    have ev1 : v1 = V.str h.name := q1
    refine ⟨_, rfl, _, rfl, rSetDict, fun X g => set_dict g.u1, d, _, rfl, by rw [ev1]; exact DPut.k (k := Sum.inr h.name) dn3.top (Nat.lt_of_le_of_lt hes10 (by decide)), ?_⟩
    have dn4 := dn3.add (k := Sum.inr h.name) hf0 hl rvs rfl hnl
    have t4 : Tx H3 (upd H3 d (.dK (putK (es.map entV) (Sum.inr h.name) (.ref l)))) := Tx.dk dn3.top
    have e04 : Ex H (upd H3 d (.dK (putK (es.map entV) (Sum.inr h.name) (.ref l)))) := Ex.mut (p2.trans (e3.trans e4)) hd
    generalize upd H3 d (.dK (putK (es.map entV) (Sum.inr h.name) (.ref l))) = H4 at dn4 t4 e04
    have rv4 : Rp (CB K) H4 v (hallsD a) := r1.ex e04
    refine q_for0 (xs := a) (F := Hall.D) (ei_tup (ed_var rfl rv4)) (fun h _ => h.fz) fun H5 e5 => ?_
    refine ⟨fun j σ' H6 => (∃ u6 u7 u8 u9 u10, σ' = [some v, some (.ref d), some v1, some v2, some v3, some v4, u6, u7, u8, u9, u10]) ∧ Tx H5 H6 ∧ Ex H H6 ∧ DN (CB K) H6 d (es ++ [⟨Sum.inr h.name, l, (h.name :: ((a.take j).filter (nearB h)).map Hall.name).map D.str⟩]),
      ⟨⟨_, _, _, _, _, rfl⟩, Tx.refl _, e04.trans e5, dn4.ex e5⟩, fun i σ' H' p => p.2.1, ?_, ?_⟩
    · rintro j g x2 σ2 H5' H6 hj ⟨⟨u6, u7, u8, u9, u10, rfl⟩, t1, t2, dn⟩ e6 r6
      have hgm : g ∈ a := List.mem_of_getElem? hj
      refine g_four r6 fun w1 w2 w3 w4 s1 s2 s3 s4 => ?_
      have txA : Tx H'' H6 := (Tx.ex e4).trans (t4.trans ((Tx.ex e5).trans (t1.trans (Tx.ex e6))))
      have q1' : Rp (CB K) H6 v1 (.str h.name) := q1
      have q2' : Rp (CB K) H6 v2 (.int h.size) := q2
      have q3' : Rp (CB K) H6 v3 (optD h.at_) := q3.fz txA (optD_fz _)
      refine qd_asg (ed_or (ed_op (ed_var rfl s1) (ed_var rfl q1') o_eqs) fun _ => ed_or (ed_op (ed_var rfl q3') ed_non o_isN) fun _ => ed_op (ed_var rfl s3) ed_non o_isN) fun va H7 e7 ra => ?_
      by_cases hap : (decide (g.name = h.name) || ((optD h.at_).isN || (optD g.at_).isN)) = true
      · rw [hap] at ra
        refine ql_no (et_is (et_and (b := false) (et_not (et_val (ed_var rfl ra))) fun z => absB z (by kernel_rfl)) (by kernel_rfl)) fun H8 e8 => ?_
        have e68 := e6.trans (e7.trans e8)
        refine ⟨⟨_, _, _, _, _, rfl⟩, t1.trans (Tx.ex e68), t2.trans e68, ?_⟩
        rw [take_item hj, List.filter_append, List.filter_cons, if_neg (by rw [near_off hap]; decide), List.filter_nil, List.append_nil]
        exact dn.ex e68
      · obtain ⟨p, tt, hp1, hp2, hne⟩ := near_at hap
        have hap' := eq_false_of_ne_true hap
        rw [hap'] at ra
        rw [hp1] at q3'
        rw [hp2] at s3
        refine ql_if (et_and (et_not (et_val (ed_var rfl ra))) fun _ => et_and (et_cmp (ed_op (ed_var rfl (q3'.ex e7)) (ed_op (ed_var rfl (s3.ex e7)) (ed_var rfl (s2.ex e7)) o_add) o_lt)) fun _ => et_cmp (ed_op (ed_var rfl (s3.ex e7)) (ed_op (ed_var rfl (q3'.ex e7)) (ed_var rfl (q2'.ex e7)) o_add) o_lt)) (fun hb H8 e8 => ?_) fun hb H8 e8 => ?_
        · have e68 := e6.trans (e7.trans e8)
          have dn8 := dn.ex e68
          have hme : (⟨Sum.inr h.name, l, (h.name :: ((a.take j).filter (nearB h)).map Hall.name).map D.str⟩ : Ent) ∈ es ++ [⟨Sum.inr h.name, l, (h.name :: ((a.take j).filter (nearB h)).map Hall.name).map D.str⟩] := List.mem_append.mpr (.inr List.mem_cons_self)
          obtain ⟨vs8, hv8, rv8⟩ := dn8.row _ hme
          refine q_append (C := CB K) (d := .str g.name) (ev_dnix dn8 (ev_var rfl) (ed_var rfl (show Rp (CB K) H8 v1 (kD (Sum.inr h.name)) from q1)) hme rfl) (ed_var rfl (s1.ex (e7.trans e8))) hv8 ?_ fun v' H9 e9 r9 => ?_
          · rw [rv8.length, List.length_map, List.length_cons, List.length_map]
            have h1 := List.length_filter_le (nearB h) (a.take j)
            rw [List.length_take] at h1
            omega
          · have e69 := e68.trans e9
            have hv9 := e9 _ _ hv8
            have t9 : Tx H9 (upd H9 l (.lst (vs8 ++ [v']))) := Tx.lst hv9
            have dn9 := (dn8.ex e9).app hme hv9 (rv8.ex e9) r9 rfl
            rw [entApp_last hkn] at dn9
            refine ⟨⟨_, _, _, _, _, rfl⟩, t1.trans ((Tx.ex e69).trans t9), Ex.mut (t2.trans e69) hlH, ?_⟩
            rw [take_item hj, List.filter_append, List.filter_cons, if_pos (by rw [near_on hp1 hp2 hne]; exact hb), List.filter_nil, List.map_append, ← List.cons_append, List.map_append]
            exact dn9
        · have e68 := e6.trans (e7.trans e8)
          refine ⟨⟨_, _, _, _, _, rfl⟩, t1.trans (Tx.ex e68), t2.trans e68, ?_⟩
          rw [take_item hj, List.filter_append, List.filter_cons, if_neg (by rw [near_on hp1 hp2 hne]; intro z; rw [z] at hb; cases hb), List.filter_nil, List.append_nil]
          exact dn.ex e68
    · rintro σ2 H6 ⟨⟨u6, u7, u8, u9, u10, rfl⟩, t1, t2, dn⟩
      rw [List.take_length] at dn
      refine ⟨⟨_, _, _, _, _, _, _, _, _, rfl⟩, p1.trans ((Tx.ex (e3.trans e4)).trans (t4.trans ((Tx.ex e5).trans t1))), t2, _, dn, ?_⟩
      rw [take_item hi, List.map_append, List.map_append, p4]
      rfl
  · rintro σ' H' ⟨⟨u2, u3, u4, u5, u6, u7, u8, u9, u10, rfl⟩, p1, p2, es, p3, p4⟩
    rw [List.take_length] at p4
    have rd := p3.rp
    rw [p4] at rd
    exact ⟨_, rfl, q _ (.ref d) H' rfl p2 rd fun _ b eb => by
      cases eb
      exact hd⟩
abbrev lmArgs (p : List Hall × Cmd × Cmd) : List D := [.dk (nearTab p.1), p.2.1.D, p.2.2.D]
abbrev lmPre (p : List Hall × Cmd × Cmd) : Prop := HallsOk p.1 ∧ (p.2.1.inn p.1 ∧ p.2.1.plain = true) ∧ p.2.2.inn p.1 ∧ p.2.2.plain = true
abbrev spMeets (C : Addr) : Sp := spA C lmArgs lmPre fun p d => ∃ s : Str, d = .str s ∧ (!decide (s = "")) = clashB p.1 p.2.1 p.2.2
theorem ev_ap {ta tb : TE} {r : R2} {x y z : D} (ha : Ed C ta σ H x) (hb : EvP tb σ H fun v H2 => Rp C H2 v y ∧ Nw H v y) (ho : DOp C r x y z) : Ed C (tOp r ta tb) σ H z := ed_op ha (hb.imp fun _ _ _ p => p.1) ho
def wdOk (ws : List Str) : Prop := ∀ z ∈ ws, z = "room" ∨ z = "ground"
theorem wdOk.okd {ws : List Str} (h : wdOk ws) : (D.lst (ws.map D.str)).okd 60 = true := okd_lst (n := 59) fun d hd => by
  obtain ⟨z, hz, rfl⟩ := List.mem_map.mp hd
  rcases h z hz with rfl | rfl
  · show PyData.strOk "room" = true; decide +kernel
  · show PyData.strOk "ground" = true; decide +kernel
theorem wdOk.app {ws us : List Str} (h : wdOk ws) (g : wdOk us) : wdOk (ws ++ us) := fun z hz => (List.mem_append.mp hz).elim (h z) (g z)
theorem dst_le (c : Cmd) : c.dst.length ≤ 1 := by cases c <;> simp [Cmd.dst]
def cl1 (hs : List Hall) (p : Cmd × Cmd) : Bool := p.1.dst.any fun z => decide (z ∈ p.2.src ++ p.2.dst) || (nearN hs z).any fun m => decide (m ∈ p.2.src ++ p.2.dst)
theorem cl1_eq {hs : List Hall} {a b : Cmd} : cl1 hs (a, b) = (roomB a b || grdB hs a b) := by
  unfold cl1 roomB grdB
  rw [Bool.eq_iff_iff, Bool.or_eq_true, List.any_eq_true, List.any_eq_true, List.any_eq_true]
  constructor
  · rintro ⟨z, h1, h2⟩
    rcases Bool.or_eq_true_iff.mp h2 with h | h
    · exact .inl ⟨z, h1, h⟩
    · exact .inr ⟨z, h1, h⟩
  · rintro (⟨z, h1, h2⟩ | ⟨z, h1, h2⟩)
    · exact ⟨z, h1, Bool.or_eq_true_iff.mpr (.inl h2)⟩
    · exact ⟨z, h1, Bool.or_eq_true_iff.mpr (.inr h2)⟩
theorem Cmd.wordOk (c : Cmd) : PyData.strOk c.word = true := by
  cases c with
  | put _ _ => show PyData.strOk "put" = true; decide +kernel
  | reckon _ _ _ => show PyData.strOk "reckon" = true; decide +kernel
  | copy _ _ => show PyData.strOk "copy" = true; decide +kernel
  | look _ => show PyData.strOk "look" = true; decide +kernel
  | shw _ => show PyData.strOk "show" = true; decide +kernel
  | wait _ _ => show PyData.strOk "wait" = true; decide +kernel
  | set _ _ => show PyData.strOk "set" = true; decide +kernel
def more1 (z : Str) (b : Bool) : List Str := if b = true then [z] else []
theorem emp_app {ws : List Str} {z : Str} {b : Bool} : (ws ++ more1 z b).isEmpty = (ws.isEmpty && !b) := by
  cases b <;> cases ws <;> rfl
theorem c_law_meets (T : TF w K mg) (c_law_sources : Callee P w K mg base "_law_sources" 1 ["_law_deed"] (spLSrc (CB K))) (c_law_written : Callee P w K mg base "_law_written" 2 ["_law_deed"] (spLDst (CB K))) :
    Callee P w K mg base "_law_meets" 3 ["_law_near_here", "_law_here", "_law_there"] (spMeets (CB K)) := by
  obtain ⟨fd, F⟩ := T.d_law_meets
  refine callee_of F (F.ok sc_law_meets (spA_len fun _ => rfl) fun cdv A outer s H vs Q E hr h => ?_) T.g_law_meets fun _ _ _ _ _ _ us hl => match us, hl with | [_, _, _], _ => rfl
  obtain ⟨a, r, hp, q⟩ := h
  have g : Good P w K (L2.Cx.nox (cxOf CX0 P w K mg base ["_law_near_here", "_law_here", "_law_there", "_law_words", "_law_front", "_law_hind", "_law_used", "_law_term_here", "_law_mate"] "_law_meets" (defScope s_law_meets) (He.ga K "_law_meets") cdv A outer s H E)) := ⟨rfl, rfl, rfl, rfl, hu_un hr⟩
  have hu := hu_of hr
  refine ⟨_, PSs.nox (pss_cons (ps_set (i := 3) sc_law_meets.nd rfl (Or.inl rfl) (pe_lst pa_nil))
      (pss_cons (ps_for PassesOwn.never g.calm (pi_b g (pe_lst (pa_cons (pe_tup (pa_cons (pv 1) (pa_cons (pv 2) pa_nil))) (pa_cons (pe_tup (pa_cons (pv 2) (pa_cons (pv 1) pa_nil))) pa_nil)))) (pg_tup rfl (pgs_cons (pg_name (i := 4) sc_law_meets.nd rfl (Or.inl rfl)) (pgs_cons (pg_name (i := 5) sc_law_meets.nd rfl (Or.inl rfl)) pgs_nil))) (pss_cons (ps_set (i := 6) sc_law_meets.nd rfl (Or.inr rfl) (pe_op (op_b g) (pe_c c_law_sources (hr.mono (by decide)) (by rfl) pass0 (pa_cons (pv 5) pa_nil)) (pe_c c_law_written (hr.mono (by decide)) (by rfl) pass0 (pa_cons (pv 5) pa_nil))))
      (pss_one (ps_for PassesOwn.never g.calm (pi_b g (pe_c c_law_written (hr.mono (by decide)) (by rfl) pass0 (pa_cons (pv 4) pa_nil))) (pg_name (i := 7) sc_law_meets.nd rfl (Or.inl rfl)) (pss_cons (ps_set (i := 3) sc_law_meets.nd rfl (Or.inl rfl) (pe_op (op_b g) (pv 3) (pe_op (op_b g) (pe_lst (pa_cons pe_str pa_nil)) (pe_callTy (c_b g) (by rfl) T.f_int bt_int (pa_cons (pe_cmpR (op_b g) (pv 7) (pv 6) rfl) pa_nil)))))
      (pss_one (ps_set (i := 3) sc_law_meets.nd rfl (Or.inl rfl) (pe_op (op_b g) (pv 3) (pe_op (op_b g) (pe_lst (pa_cons pe_str pa_nil)) (pe_callTy (c_b g) (by rfl) T.f_int bt_int (pa_cons (pe_callB (c_b g) (by rfl) T.f_any bt_any (pa_cons (pe_lc (own := [("_law_mate", 8)]) g.calm sc_law_meets.nd (pi_b g (pe_ix (ix_b g) (pv 0) (pv 7) (fun _ _ => rfl))) (blkOk_by (by kernel_rfl)) (fun _ _ _ _ _ => (pg_name (i := 8) sc_law_meets.nd rfl (Or.inl rfl))) (fun _ _ _ _ _ => pts_nil) (fun _ _ _ _ _ => (pe_cmpR (op_b g.b) (pv 8) (pv 6) rfl))) pa_nil)) pa_nil)))))))))))
      (pss_cons (ps_if (PW.pt (pw_or (pt_cmpR (op_b g) (pe_lst (pa_cons (pe_ix (ix_b g) (pv 1) pe_int (fun _ _ => rfl)) (pa_cons (pe_ix (ix_b g) (pv 2) pe_int (fun _ _ => rfl)) pa_nil))) (pe_lst (pa_cons pe_str (pa_cons pe_str pa_nil))) (nomark _)) (pw_or1 (pt_cmpR (op_b g) pe_str (pv 3) rfl)))) (pss_one (ps_ret pe_str)) pss_nil)
      (pss_one (ps_ret (pe_ifExp (pt_cmpR (op_b g) (pv 3) (pe_lst pa_nil) (nomark _)) pe_str pe_str)))))), ?_⟩
  obtain ⟨v, u1, u2, rfl, r1, r2, r3⟩ := r.three
  obtain ⟨hs, c1, c2⟩ := a
  obtain ⟨h1, ⟨h2, h2'⟩, h3, h3'⟩ := (show HallsOk hs ∧ (c1.inn hs ∧ c1.plain = true) ∧ c2.inn hs ∧ c2.plain = true from hp)
  replace r1 : Rp (CB K) H v (.dk (nearTab hs)) := r1
  replace r2 : Rp (CB K) H u1 c1.D := r2
  replace r3 : Rp (CB K) H u2 c2.D := r3
  refine qd_asg (C := CB K) (d := .lst (([] : List Str).map D.str)) (ed_lst ea0) fun vw H2 e2 rw0 => ?_
  refine qs_for (xs := [(c1, c2), (c2, c1)]) (F := fun p : Cmd × Cmd => D.tup [p.1.D, p.2.D]) (ei_lst (ed_lst (ea1 (ed_tup (ea1 (ed_var rfl (r2.ex e2)) (ea1 (ed_var rfl (r3.ex e2)) ea0))) (ea1 (ed_tup (ea1 (ed_var rfl (r3.ex e2)) (ea1 (ed_var rfl (r2.ex e2)) ea0))) ea0)))) fun A H3 e3 hA => ?_
  have pz : ∀ p : Cmd × Cmd, (D.tup [p.1.D, p.2.D]).fz = true := fun p => by
    show (p.1.D.fz && (p.2.D.fz && true)) = true
    rw [p.1.fz, p.2.fz]
    rfl
  refine ⟨fun i σ' H' => ∃ u4 u5 u6 u7 u8 vw, ∃ ws : List Str, σ' = [some v, some u1, some u2, some vw, u4, u5, u6, u7, u8] ∧ Ex H3 H' ∧ Rp (CB K) H' vw (.lst (ws.map D.str)) ∧ wdOk ws ∧ ws.length ≤ 8 * i ∧ ws.isEmpty = !(([(c1, c2), (c2, c1)].take i).any (cl1 hs)),
    ⟨_, _, _, _, _, vw, [], rfl, Ex.refl _, rw0.ex e3, (fun _ h => nomatch h), Nat.le_refl _, rfl⟩, fun i σ' H' hi ⟨_, _, _, _, _, _, _, _, x1, _⟩ => ⟨Tx.ex x1, fun b hb => by
      obtain ⟨o, ho⟩ := (hA b hb).2
      rw [ho]
      exact x1 b _ ho⟩, ?_, ?_⟩
  · rintro i ⟨a, b⟩ x σ' H' H'' hi ⟨u4, u5, u6, u7, u8, vw, ws, rfl, p1, p2, p3, p4, p5⟩ e4 r4
    have r4 := r4 (.inl p1)
    have hab : (a.inn hs ∧ a.plain = true) ∧ b.inn hs ∧ b.plain = true := by
      have hm := List.mem_of_getElem? hi
      rcases List.mem_cons.mp hm with e | e
      · cases e; exact ⟨⟨h2, h2'⟩, h3, h3'⟩
      · cases List.mem_singleton.mp e; exact ⟨⟨h3, h3'⟩, h2, h2'⟩
    have hi2 : i < 2 := (List.getElem?_eq_some_iff.mp hi).1
    refine g_two r4 fun va vb ra rb => ?_
    have hfs := Cmd.fewS hab.2.1.1
    refine qd_asg (C := CB K) (d := .lst ((b.src ++ b.dst).map D.str)) (Ed.is (ed_op (ed_call b (ea1 (ed_var rfl rb) ea0) hab.2.2) (ed_call b (ea1 (ed_var rfl rb) ea0) hab.2.2) (o_addl (by
      rw [List.length_map, List.length_map]
      rw [List.length_append] at hfs
      omega))) (by rw [List.map_append])) fun vu H5 e5 ru => ?_
    refine q_for (xs := a.dst) (F := D.str) (ei_new (ev_call a (ea1 (ed_var rfl (ra.ex e5)) ea0) hab.1.2)) fun B H6 e6 hB => ?_
    have e36 : Ex H3 H6 := p1.trans (e4.trans (e5.trans e6))
    refine ⟨fun j σ' H' => ∃ u7 u8 vw, ∃ ws : List Str, σ' = [some v, some u1, some u2, some vw, some va, some vb, some vu, u7, u8] ∧ Ex H6 H' ∧ Rp (CB K) H' vw (.lst (ws.map D.str)) ∧ wdOk ws ∧ ws.length ≤ 8 * i + 2 * j ∧ ws.isEmpty = (!(([(c1, c2), (c2, c1)].take i).any (cl1 hs)) && !((a.dst.take j).any fun z => decide (z ∈ b.src ++ b.dst) || (nearN hs z).any fun m => decide (m ∈ b.src ++ b.dst))),
      ⟨_, _, vw, ws, rfl, Ex.refl _, p2.ex (e4.trans (e5.trans e6)), p3, by omega, by rw [p5]; simp⟩, fun i σ' H' hi ⟨_, _, _, _, _, x1, _⟩ => ⟨Tx.ex x1, fun b hb => by
        obtain ⟨o, ho⟩ := (hB b hb).2
        rw [ho]
        exact x1 b _ ho⟩, ?_, ?_⟩
    · rintro j z y σ2 H7 H8 hj ⟨u7, u8, vw, ws, rfl, t1, t2, t3, t4, t5⟩ e8 r8
      have r8 := r8 (.inr rfl)
      have hzm : z ∈ a.dst := List.mem_of_getElem? hj
      have hzn : z ∈ hs.map Hall.name := hab.1.1.2 z (List.mem_append.mpr (.inr hzm))
      have hj1 : j < 1 := by
        have := (List.getElem?_eq_some_iff.mp hj).1
        have := dst_le a
        omega
      have e68 := t1.trans e8
      have ru8 := ru.ex (e6.trans e68)
      have wl : ∀ (b : Bool) (z : Str), ((if b = true then [D.str z] else []) : List D) = (more1 z b).map D.str := fun b z => by cases b <;> rfl
      have ml : ∀ (b : Bool) (z : Str), (more1 z b).length ≤ 1 := fun b z => by
        cases b with
        | true => exact Nat.le_refl 1
        | false => exact Nat.zero_le 1
      have mo : ∀ (b : Bool), wdOk (more1 "room" b) := fun b z hz => by
        cases b with
        | true => exact .inl (List.mem_singleton.mp hz)
        | false => cases hz
      have mg' : ∀ (b : Bool), wdOk (more1 "ground" b) := fun b z hz => by
        cases b with
        | true => exact .inr (List.mem_singleton.mp hz)
        | false => cases hz
      show gName 7 y _ H8 _
      refine qd_asg (C := CB K) (d := .lst ((ws ++ more1 "room" (decide (z ∈ b.src ++ b.dst))).map D.str)) (Ed.is (ev_ap (ed_var rfl (t2.ex e8)) (ev_rep1 ed_str (ed_op (ed_var rfl r8) (ed_var rfl ru8) o_inlst)) (o_addl ?_)) ?_) fun vw2 H9 e9 r9 => ?_
      · rw [wl, List.length_map, List.length_map]
        have := ml (decide (z ∈ b.src ++ b.dst)) "room"
        omega
      · rw [wl, ← List.map_append]
      have hlen1 := ml (decide (z ∈ b.src ++ b.dst)) "room"
      have e39 := e36.trans (e68.trans e9)
      refine ql_asg (C := CB K) (d := .lst ((ws ++ more1 "room" (decide (z ∈ b.src ++ b.dst)) ++ more1 "ground" ((nearN hs z).any fun m => decide (m ∈ b.src ++ b.dst))).map D.str)) (Ed.is (ev_ap (ed_var rfl r9) (ev_rep1 ed_str (ed_cb (ea1 (ed_map (C := CB K) (xs := nearN hs z) (F := D.str) (fun m : Str => .bl (decide (m ∈ b.src ++ b.dst))) (ei_lst (ed_op (ed_var rfl (r1.ex (e2.trans (e3.trans e39)))) (ed_var rfl (show Rp (CB K) H9 y (kD (Sum.inr z)) from r8)) (o_ixK (near_look h1 hzn)))) (Nat.le_trans (nearN_len h1 z) (by decide)) (fun _ _ => rfl) ?_) ea0) k_anyM)) (o_addl ?_)) ?_) fun vw3 H10 e10 r10 => ?_
      · exact fun n m x H10 hi e10 r10 k q' => q' _ rfl (ed_op (ed_var rfl r10) (ed_var rfl (ru8.ex (e9.trans e10))) o_inlst)
      · rw [wl, List.length_map, List.length_map, List.length_append]
        have := ml ((nearN hs z).any fun m => decide (m ∈ b.src ++ b.dst)) "ground"
        omega
      · rw [wl, ← List.map_append]
      have hlen2 := ml ((nearN hs z).any fun m => decide (m ∈ b.src ++ b.dst)) "ground"
      refine ⟨_, _, vw3, _, rfl, e68.trans (e9.trans e10), r10, (t3.app (mo _)).app (mg' _), by rw [List.length_append, List.length_append]; omega, ?_⟩
      rw [emp_app, emp_app, t5, take_item hj, List.any_append, List.any_cons, List.any_nil, Bool.or_false]
      cases ([(c1, c2), (c2, c1)].take i).any (cl1 hs) <;> cases (a.dst.take j).any (fun z => decide (z ∈ b.src ++ b.dst) || (nearN hs z).any fun m => decide (m ∈ b.src ++ b.dst)) <;> cases decide (z ∈ b.src ++ b.dst) <;> cases (nearN hs z).any (fun m => decide (m ∈ b.src ++ b.dst)) <;> rfl
    · rintro σ2 H7 ⟨u7, u8, vw, ws, rfl, t1, t2, t3, t4, t5⟩
      have := dst_le a
      rw [List.take_length] at t5
      refine ⟨_, _, _, _, _, vw, ws, rfl, e36.trans t1, t2, t3, by omega, ?_⟩
      rw [t5, take_item hi, List.any_append, List.any_cons, List.any_nil, Bool.or_false, Bool.not_or]
      rfl
  · rintro σ' H' ⟨u4, u5, u6, u7, u8, vw, ws, rfl, p1, p2, p3, p4, p5⟩
    have eH : Ex H H' := (e2.trans e3).trans p1
    have hcl : (([(c1, c2), (c2, c1)].take 2).any (cl1 hs)) = ((roomB c1 c2 || roomB c2 c1) || (grdB hs c1 c2 || grdB hs c2 c1)) := by
      show (cl1 hs (c1, c2) || (cl1 hs (c2, c1) || false)) = _
      rw [cl1_eq, cl1_eq]
      cases roomB c1 c2 <;> cases roomB c2 c1 <;> cases grdB hs c1 c2 <;> cases grdB hs c2 c1 <;> rfl
    have p5 : ws.isEmpty = !((roomB c1 c2 || roomB c2 c1) || (grdB hs c1 c2 || grdB hs c2 c1)) := hcl ▸ p5
    have hfin : clashB hs c1 c2 = ((decide (c1.word = "show") && decide (c2.word = "show")) || !ws.isEmpty) := by
      unfold clashB
      rw [p5, Bool.not_not]
    have word : ∀ {c : Cmd} {vc : V} {i : Nat} {σ0 : L2.St}, σ0[i]? = some (some vc) → Rp (CB K) H vc c.D → Ed (CB K) (tOp (rI_ P w K) (tVar i) (tC (.int 0))) σ0 H' (.str c.word) := fun {c vc i σ0} h0 r => by
      obtain ⟨ds, e⟩ := c.tup
      have r := r.ex eH
      rw [e] at r
      exact ed_op (ed_var h0 r) ed_int (o_ixt at0)
    have okw : (D.lst [.str c1.word, .str c2.word]).okd 60 = true := okd_lst (n := 59) fun d hd => by
      rcases List.mem_cons.mp hd with e | e
      · rw [e]; exact c1.wordOk
      · rw [List.mem_singleton.mp e]; exact c2.wordOk
    have oks : (D.lst [.str "show", .str "show"]).okd 60 = true := okd_lst (n := 59) fun d hd => by
      have : d = .str "show" := by simpa using hd
      rw [this]
      show PyData.strOk "show" = true
      decide +kernel
    have heq : (decide (c1.word = "show") && decide (c2.word = "show")) = true ↔ D.lst [.str c1.word, .str c2.word] = D.lst [.str "show", .str "show"] := by
      rw [Bool.and_eq_true, decide_eq_true_iff, decide_eq_true_iff]
      constructor
      · rintro ⟨a1, a2⟩; rw [a1, a2]
      · intro e
        injection e with e
        injection e with e1 e2
        injection e2 with e2 _
        exact ⟨D.str.inj e1, D.str.inj e2⟩
    refine qd_when (et_or (et_cmp (C := CB K) (ed_op (ed_lst (ea1 (word rfl r2) (ea1 (word rfl r3) ea0))) (ed_lst (ea1 ed_str (ea1 ed_str ea0))) (o_eqd heq okw oks))) fun _ => et_cmp (ed_op ed_str (ed_var rfl p2) o_inlst)) (fun hb H4 e4 => ?_) fun hb H4 e4 => ?_
    · refine ret_of ed_str rfl (q_ex (eH.trans e4) q) ⟨_, rfl, ?_⟩
      show true = clashB hs c1 c2
      rw [hfin]
      rcases Bool.or_eq_true_iff.mp hb with h | h
      · rw [h]; rfl
      · have hm := of_decide_eq_true h
        cases ws with
        | nil => cases hm
        | cons _ _ => simp
    · obtain ⟨hb1, hb2⟩ := Bool.or_eq_false_iff.mp hb
      have hne : ws.isEmpty = true ↔ D.lst (ws.map D.str) = D.lst [] := by
        cases ws with
        | nil => exact ⟨fun _ => rfl, fun _ => rfl⟩
        | cons _ _ => exact ⟨(fun h => by cases h), fun h => by injection h with h; cases h⟩
      have hd : ∀ b : Bool, (if (!b) = true then ("ground" : Str) else "") = (if b = true then "" else "ground") := fun b => by cases b <;> rfl
      refine ret_of (d := .str (if (!ws.isEmpty) = true then "ground" else "")) (ed_if (et_cmp (C := CB K) (ed_op (ed_var rfl (p2.ex e4)) (ed_lst ea0) (o_ned hne p3.okd rfl))) (fun h => by rw [h, if_pos rfl]; exact ed_str) fun h => by rw [h, if_neg (by decide)]; exact ed_str) rfl (q_ex (eH.trans e4) q) ⟨_, rfl, ?_⟩
      rw [hfin, hb1]
      cases ws.isEmpty <;> rfl
end
end Fl
set_option maxHeartbeats 4000000
namespace Fl
open PySem PySem.Spec PyProof.Rows L2 Evl
theorem sc_law_fenced_by : FnScope ["_law_halls_here", "_law_rows_here", "_law_pairs_here", "_law_many", "_law_counts", "_law_numbers", "_law_sites", "_law_found", "_law_at", "_law_track", "_law_deed", "_law_front", "_law_hind", "_law_k", "_law_row"] ["_law_halls_here", "_law_rows_here", "_law_pairs_here"] (defScope s_law_fenced_by) := ⟨rfl, rfl, rfl, by decide +kernel, rfl, by decide +kernel, by decide +kernel⟩
theorem max_lane {rs : List Row} (h : rs ≠ []) : maxL 0 (rs.map fun r => ((r.1 : Nat) : Int)) + 1 = (lanesN rs : Nat) := by
  obtain ⟨r, rs', rfl⟩ : ∃ r rs', rs = r :: rs' := by
    cases rs with
    | nil => exact absurd rfl h
    | cons r rs' => exact ⟨r, rs', rfl⟩
  obtain ⟨r0, h0, e0⟩ := List.mem_map.mp (maxL_mem (d := 0) (ns := (r :: rs').map fun r => ((r.1 : Nat) : Int)) (by simp))
  obtain ⟨r1, h1, e1⟩ := List.mem_map.mp (lanesN_mem rs' r)
  have g0 := lanesN_ge h0
  have g1 := maxL_ge (d := 0) (ns := (r :: rs').map fun r => ((r.1 : Nat) : Int)) (z := ((r1.1 : Nat) : Int)) (List.mem_map.mpr ⟨r1, h1, rfl⟩)
  omega
theorem wname {l : Nat} : ("w" : Str) ++ (toString ((l : Nat) : Int) : Str) = fname "w" l := rfl
theorem log_le : ∀ l : Nat, l ≤ 5 → ((l : Nat) : Int).natAbs.log2 < 1920 := by
  intro l hl
  match l, hl with
  | 0, _ => decide +kernel
  | 1, _ => decide +kernel
  | 2, _ => decide +kernel
  | 3, _ => decide +kernel
  | 4, _ => decide +kernel
  | 5, _ => decide +kernel
theorem any_fronts {S : List (Nat × Nat)} {k : Nat} : (S.any fun s => decide (((s.1 : Nat) : Int) = ((k : Nat) : Int))) = fronts S k := by
  unfold fronts
  rw [Bool.eq_iff_iff, List.any_eq_true, decide_eq_true_iff, List.mem_map]
  constructor
  · rintro ⟨s, hs, e⟩
    have := of_decide_eq_true e
    exact ⟨s, hs, by omega⟩
  · rintro ⟨s, hs, e⟩
    exact ⟨s, hs, decide_eq_true (by omega)⟩
section
variable {P : Program} {w : World} {K : PySem.W.Frag} {mg : Str → Option Value} {base : Heap} {C : Addr} {σ : L2.St} {H : Hp} {te to ti : TE} {E : Ends} {tz : TS} {ts : TA}
theorem ev_tup {ds : List D} (h : EdA C ts σ H ds) (hl : ds.length ≤ 100000 := by exact Nat.le_of_ble_eq_true rfl) : EvP (tTup ts) σ H fun v H2 => Rp C H2 v (.tup ds) ∧ Nw H v (.tup ds) := fun H1 e Q q =>
  h H1 e _ fun vs H2 e2 r => ⟨by rw [r.length]; exact sz_of hl, fun p hp => q _ _ (e2.trans (Ex.new hp)) ⟨⟨p, vs, rfl, upd_same, r.ex (Ex.new hp)⟩, fun _ a ea => by
    cases ea
    exact fresh_back (e.trans e2) hp⟩⟩
theorem q_fb4 {i1 i2 i3 i4 : Nat} {d : D} (h : Ed C te σ H d) (k : ∀ v c m s H4, Ex H H4 → Rp C H4 v d → H4 c = some (.dK []) → H4 m = some (.dK []) → H4 s = some (.lst []) → c ≠ m → H c = none → H m = none → H s = none → tz E ((((σ.set i1 (some v)).set i2 (some (.ref c))).set i3 (some (.ref m))).set i4 (some (.ref s))) H4) :
    tSeq (tAsg (tTup (tCons te (tCons tDNewK (tCons tDNewK (tCons (tLst tNil) tNil))))) (gTup K 4 (gCons (gName i1) (gCons (gName i2) (gCons (gName i3) (gCons (gName i4) gNil)))))) tz E σ H := h H (Ex.refl H) _ fun v H1 e r c hc m hm => ⟨Nat.zero_le _, fun s hs => ⟨(by show 4 ≤ sizeLine; decide), fun p hp => by
  have e1 : Ex H1 (upd H1 c (.dK [])) := Ex.new hc
  have e2 : Ex (upd H1 c (.dK [])) (upd (upd H1 c (.dK [])) m (.dK [])) := Ex.new hm
  have e3 : Ex (upd (upd H1 c (.dK [])) m (.dK [])) (upd (upd (upd H1 c (.dK [])) m (.dK [])) s (.lst [])) := Ex.new hs
  have e4 : Ex (upd (upd (upd H1 c (.dK [])) m (.dK [])) s (.lst [])) (upd (upd (upd (upd H1 c (.dK [])) m (.dK [])) s (.lst [])) p (.tup [v, .ref c, .ref m, .ref s])) := Ex.new hp
  refine ⟨p, _, rfl, st_of upd_same, rfl, v, _, rfl, .ref c, _, rfl, .ref m, _, rfl, .ref s, _, rfl, rfl, ?_⟩
  refine k v c m s _ (e.trans (e1.trans (e2.trans (e3.trans e4)))) (r.ex (e1.trans (e2.trans (e3.trans e4)))) ((e2.trans (e3.trans e4)) _ _ upd_same) ((e3.trans e4) _ _ upd_same) (e4 _ _ upd_same) (fun z => ?_) (fresh_back e hc) (fresh_back (e.trans e1) hm) (fresh_back (e.trans (e1.trans e2)) hs)
  subst z
  rw [upd_same] at hm
  cases hm⟩⟩
theorem ei_pairs {ds : List D} {tg : Expr} {i : Nat} {v : V} (h : σ[i]? = some (some v)) (r : Rp C H v (.lst ds) ∨ Rp C H v (.tup ds)) : EvI C (iB P w K tg (tVar i)) σ H ds fun _ b => v = .ref b ∧ ∃ o, H b = some o := fun H1 e R q => by
  rcases r with ⟨b, xs, e1, e2, e3⟩ | ⟨b, xs, e1, e2, e3⟩
  · refine ⟨v, h, _, fun X g => g.K ▸ it_list, b, e1, ⟨xs, sq_of (e _ _ e2)⟩, q _ [b] H1 (Ex.refl _) (dw_lst (e _ _ e2) (e3.ex e)) fun b' hb => ?_⟩
    have e' : b' = b := by simpa using hb
    rw [e']
    exact ⟨⟨e1, _, e2⟩, _, e _ _ e2⟩
  · exact ⟨v, h, _, fun X g => g.K ▸ it_tup, b, e1, ⟨xs, st_of (e _ _ e2)⟩, q _ [] H1 (Ex.refl _) (dw_tup (e _ _ e2) (e3.ex e)) fun b' hb => nomatch hb⟩
theorem ed_lnrow {L : Addr} {as : List Addr} {ls : List (List D)} {k : Nat} {a : Addr} {r : List D} (ho : EvP to σ H fun v _ => v = V.ref L) (h : LN C H L as ls) (hi : Ed C ti σ H (.int (k : Nat))) (ha : as[k]? = some a) (hr : ls[k]? = some r) : Ed C (tOp (rI_ P w K) to ti) σ H (.lst r) := EvP.imp (ev_row ho h hi ha) fun v H2 e ev => by
  obtain ⟨vs, h1, h2⟩ := h.row k a r ha hr
  exact ⟨a, vs, ev, e _ _ h1, h2.ex e⟩
structure ByA where
  hs : List Hall
  rs : List Row
  S : List (Nat × Nat)
  pd : D
abbrev ByA.args (a : ByA) : List D := [hallsD a.hs, scriptD a.rs, a.pd]
structure ByA.ok (a : ByA) : Prop where
  rows : RowsOk a.hs a.rs
  ne : a.rs ≠ []
  pairs : PairsOk a.rs a.S
  pd : a.pd = .lst (a.S.map spotD) ∨ a.pd = .tup (a.S.map spotD)
abbrev spBy (C : Addr) : Sp := spF C ByA.args ByA.ok fun a => .tup [bookD (a.hs, (bookN a.rs a.S a.rs.length).1), .lst ((bookN a.rs a.S a.rs.length).2.map spotD)]
theorem c_law_fenced_by (T : TF w K mg) (c_Book_init : CalleeM P w K mg base (He.ma K (CB K) "__init__") 8 ["self", "rooms", "lanes"] (spInit (CB K))) : Callee P w K mg base "_law_fenced_by" 10 ["_law_halls_here", "_law_rows_here", "_law_pairs_here"] (spBy (CB K)) := by
  obtain ⟨fd, F⟩ := T.d_law_fenced_by
  refine callee_of F (F.ok sc_law_fenced_by (spA_len fun _ => rfl) fun cdv A outer s H vs Q E hr h => ?_) T.g_law_fenced_by fun _ _ _ _ _ _ us hl => match us, hl with | [_, _, _], _ => rfl
  obtain ⟨a, r, hp, q⟩ := h
  have g : Good P w K (L2.Cx.nox (cxOf CX0 P w K mg base ["_law_halls_here", "_law_rows_here", "_law_pairs_here", "_law_many", "_law_counts", "_law_numbers", "_law_sites", "_law_found", "_law_at", "_law_track", "_law_deed", "_law_front", "_law_hind", "_law_k", "_law_row"] "_law_fenced_by" (defScope s_law_fenced_by) (He.ga K "_law_fenced_by") cdv A outer s H E)) := ⟨rfl, rfl, rfl, rfl, hu_un hr⟩
  have hu := hu_of hr
  refine ⟨_, PSs.nox (pss_cons (ps_asg (pe_tup (pa_cons (pe_op (op_b g) (pe_callB (c_b g) (by rfl) T.f_max bt_max (pa_cons (pe_lc (own := [("_law_track", 9), ("_law_deed", 10)]) (g := (gTup K 2 (gCons (gName 9) (gCons (gName 10) gNil)))) g.calm sc_law_fenced_by.nd (pi_b g (pv 1)) (blkOk_by (by kernel_rfl)) (fun _ _ _ _ _ => (pg_tup rfl (pgs_cons (pg_name (i := 9) sc_law_fenced_by.nd rfl (Or.inl rfl)) (pgs_cons (pg_name (i := 10) sc_law_fenced_by.nd rfl (Or.inl rfl)) pgs_nil)))) (fun _ _ _ _ _ => pts_nil) (fun _ _ _ _ _ => (pv 9))) pa_nil)) pe_int) (pa_cons pe_dnewK (pa_cons pe_dnewK (pa_cons (pe_lst pa_nil) pa_nil))))) (pg_tup rfl (pgs_cons (pg_name (i := 3) sc_law_fenced_by.nd rfl (Or.inl rfl)) (pgs_cons (pg_name (i := 4) sc_law_fenced_by.nd rfl (Or.inl rfl)) (pgs_cons (pg_name (i := 5) sc_law_fenced_by.nd rfl (Or.inl rfl)) (pgs_cons (pg_name (i := 6) sc_law_fenced_by.nd rfl (Or.inl rfl)) pgs_nil))))))
      (pss_cons (ps_setLc (i := 7) (own := [("_law_k", 13)]) g.calm sc_law_fenced_by.nd rfl rfl (sw_true rfl rfl rfl (by decide +kernel)) (pi_range1 (by rfl) T.f_range (pa_cons (pv 3) pa_nil)) (blkOk_by (by kernel_rfl)) (fun _ _ _ _ _ => (pg_name (i := 13) sc_law_fenced_by.nd rfl (Or.inl rfl))) (fun _ _ _ _ _ => pts_nil) (fun _ _ _ _ _ => (pe_lst pa_nil)))
      (pss_cons (ps_for PassesOwn.never g.calm (pi_enumT (by rfl) T.f_enumerate (pa_cons (pv 1) pa_nil)) (pg_tup rfl (pgs_cons (pg_name (i := 8) sc_law_fenced_by.nd rfl (Or.inr rfl)) (pgs_cons (pg_tup rfl (pgs_cons (pg_name (i := 9) sc_law_fenced_by.nd rfl (Or.inl rfl)) (pgs_cons (pg_name (i := 10) sc_law_fenced_by.nd rfl (Or.inl rfl)) pgs_nil))) pgs_nil))) (pss_cons (ps_for PassesOwn.never g.calm (pi_b g (pv 2)) (pg_tup rfl (pgs_cons (pg_name (i := 11) sc_law_fenced_by.nd rfl (Or.inl rfl)) (pgs_cons (pg_name (i := 12) sc_law_fenced_by.nd rfl (Or.inl rfl)) pgs_nil))) (pss_one (ps_if (pt_cmpR (op_b g) (pv 12) (pv 8) (nomark _)) (pss_one (ps_expr (pe_bm PySem.F.plainAttrs_list PySem.F.slot_list_append PySem.F.type_list_append (mt_b g) (pe_ix (ix_b g) (pv 7) (pv 9) (fun _ _ => rfl)) (pa_cons (pe_tup (pa_cons pe_str (pa_cons (pe_op (op_b g) pe_str (pe_callTy (c_b g) (by rfl) T.f_str bt_str (pa_cons (pe_ix (ix_b g) (pe_ix (ix_b g) (pv 1) (pv 11) (fun _ _ => rfl)) pe_int (fun _ _ => rfl)) pa_nil))) (pa_cons (pe_ix (ix_b g) (pv 5) (pv 11) (fun _ _ => rfl)) pa_nil)))) pa_nil)))) pss_nil)))
      (pss_cons (ps_expr (pe_bm PySem.F.plainAttrs_list PySem.F.slot_list_append PySem.F.type_list_append (mt_b g) (pv 6) (pa_cons (pe_tup (pa_cons (pv 9) (pa_cons (pe_callB (c_b g) (by rfl) T.f_len bt_len (pa_cons (pe_ix (ix_b g) (pv 7) (pv 9) (fun _ _ => rfl)) pa_nil)) pa_nil))) pa_nil)))
      (pss_cons (ps_expr (pe_bm PySem.F.plainAttrs_list PySem.F.slot_list_append PySem.F.type_list_append (mt_b g) (pe_ix (ix_b g) (pv 7) (pv 9) (fun _ _ => rfl)) (pa_cons (pv 10) pa_nil)))
      (pss_one (ps_if (pt_val (pe_callB (c_b g) (by rfl) T.f_any bt_any (pa_cons (pe_lc (own := [("_law_front", 11), ("_law_hind", 12)]) (g := (gTup K 2 (gCons (gName 11) (gCons (gName 12) gNil)))) g.calm sc_law_fenced_by.nd (pi_b g (pv 2)) (blkOk_by (by kernel_rfl)) (fun _ _ _ _ _ => (pg_tup rfl (pgs_cons (pg_name (i := 11) sc_law_fenced_by.nd rfl (Or.inl rfl)) (pgs_cons (pg_name (i := 12) sc_law_fenced_by.nd rfl (Or.inl rfl)) pgs_nil)))) (fun _ _ _ _ _ => pts_nil) (fun _ _ _ _ _ => (pe_cmpR (op_b g.b) (pv 11) (pv 8) (nomark _)))) pa_nil))) (pss_cons (ps_asg (pe_op (op_b g) (pe_dget2 hu (pv 4) (pv 9) pe_int ⟨rfl, rfl, rfl, rfl⟩) pe_int) (pg_sub (pv 4) (pv 9) (set_b g)))
      (pss_cons (ps_asg (pe_ix (ix_b g) (pv 4) (pv 9) (fun _ _ => rfl)) (pg_sub (pv 5) (pv 8) (set_b g)))
      (pss_one (ps_expr (pe_bm PySem.F.plainAttrs_list PySem.F.slot_list_append PySem.F.type_list_append (mt_b g) (pe_ix (ix_b g) (pv 7) (pv 9) (fun _ _ => rfl)) (pa_cons (pe_tup (pa_cons pe_str (pa_cons (pe_op (op_b g) pe_str (pe_callTy (c_b g) (by rfl) T.f_str bt_str (pa_cons (pv 9) pa_nil))) (pa_cons pe_int pa_nil)))) pa_nil)))))) pss_nil))))))
      (pss_one (ps_ret (pe_tup (pa_cons (pe_mk c_Book_init T.mkr (hr.mono (by decide)) (by rfl) T.Book pass0 (pa_cons (pv 0) (pa_cons (pe_callTy (c_b g) (by rfl) T.f_tuple bt_tuple (pa_cons (pe_lc (own := [("_law_row", 14)]) g.calm sc_law_fenced_by.nd (pi_b g (pv 7)) (blkOk_by (by kernel_rfl)) (fun _ _ _ _ _ => (pg_name (i := 14) sc_law_fenced_by.nd rfl (Or.inl rfl))) (fun _ _ _ _ _ => pts_nil) (fun _ _ _ _ _ => (pe_callTy (c_b g.b) (by rfl) T.f_tuple bt_tuple (pa_cons (pv 14) pa_nil)))) pa_nil)) pa_nil))) (pa_cons (pv 6) pa_nil)))))))), ?_⟩
  obtain ⟨v, u, vp, rfl, r1, r2, r3⟩ := r.three
  obtain ⟨hs, rs, S, pd⟩ := a
  obtain ⟨hp1, hp2, hp3, hp4⟩ := hp
  replace hp1 : RowsOk hs rs := hp1
  replace hp2 : rs ≠ [] := hp2
  replace hp3 : PairsOk rs S := hp3
  replace r1 : Rp (CB K) H v (hallsD hs) := r1
  replace r2 : Rp (CB K) H u (scriptD rs) := r2
  have r3 : Rp (CB K) H vp (.lst (S.map spotD)) ∨ Rp (CB K) H vp (.tup (S.map spotD)) := by
    rcases hp4 with e | e
    · have e' : pd = .lst (S.map spotD) := e
      subst e'
      exact .inl r3
    · have e' : pd = .tup (S.map spotD) := e
      subst e'
      exact .inr r3
  have hn5 := hp1.few
  have hlan := lanesN_le hp1.lane
  have hSf := hp3.few
  refine q_fb4 (d := .int (lanesN rs : Nat)) (Ed.is (ed_op (ed_cb (ea1 (Ed.is (ed_map (C := CB K) (xs := rs) (F := rowD) (fun r => .int ((r.1 : Nat) : Int)) (ei_tup (ed_var rfl r2)) (by omega) (fun _ _ => rfl) fun i r x H1 hi e1 r5 k q' => g_two r5 fun w1 w2 s1 s2 => q' _ rfl (ed_var rfl s1)) (congrArg D.lst (List.map_map (f := fun r : Row => ((r.1 : Nat) : Int)) (g := D.int)).symm)) ea0) (k_maxl (by simp; exact hp2))) ed_int o_add) (congrArg D.int (max_lane hp2))) fun vm c m s H4 e4 rm hc4 hm4 hs4 hcm hcH hmH hsH => ?_
  obtain rfl : vm = V.int (lanesN rs : Nat) := rm
  refine qd_asgP (ev_lnew (C := CB K) (xs := List.range (lanesN rs)) (F := fun i => D.int (i : Nat)) (ei_rangeN (ea1 (ed_var rfl (show Rp (CB K) H4 (.int (lanesN rs : Nat)) (.int (lanesN rs : Nat)) from rfl)) ea0) (by omega)) (by rw [List.length_range]; omega) fun i x H2 _ _ _ k q' => q' _ rfl) fun vl H5 e5 ⟨L, as, evl, ln0, hnew⟩ => ?_
  subst evl
  rw [List.length_range] at ln0
  have hsL : s ∉ L :: as := fun h => by
    have := hnew s h
    rw [hs4] at this
    cases this
  have fb0 : FbH (CB K) c m s L as H5 [] [] [] (List.replicate (lanesN rs) []) := ⟨⟨[], e5 _ _ hc4, True.intro⟩, ⟨[], e5 _ _ hm4, True.intro⟩, ⟨[], e5 _ _ hs4, True.intro⟩, by rw [List.map_replicate]; exact ln0, (fun _ h => nomatch h), (fun _ h => nomatch h), hcm, hsL⟩
  have e05 := e4.trans e5
  have hasH : ∀ a ∈ as, H a = none := fun a ha => fresh_back e4 (hnew a (List.mem_cons_of_mem _ ha))
  refine qs_for0 (xs := rs.zipIdx) (F := fun p => D.tup [.int (p.2 : Nat), rowD p.1]) (ei_enumTM (ed_var rfl (r2.ex e05))) (fun p _ => by
    show (true && ((rowD p.1).fz && true)) = true
    rw [rowD_fz]
    rfl) fun H6 e6 => ?_
  refine ⟨fun i σ' H' => (∃ u8 u9 u10 u11 u12 u13 u14, σ' = [some v, some u, some vp, some (.int (lanesN rs : Nat)), some (.ref c), some (.ref m), some (.ref s), some (.ref L), u8, u9, u10, u11, u12, u13, u14]) ∧ Tx H6 H' ∧ Ex H H' ∧ ∃ cv mv, FbH (CB K) c m s L as H' cv mv (bookN rs S i).2 (bookN rs S i).1 ∧ CntK rs S i cv ∧ NmK rs S i mv,
    ⟨⟨_, _, _, _, _, _, _, rfl⟩, Tx.refl _, e05.trans e6, [], [], fb0.ex e6, ⟨Nat.le_refl _, fun l => rfl⟩, ⟨Nat.le_refl _, fun f h => absurd h (Nat.not_lt_zero _)⟩⟩, fun i σ' H' p => p.2.1, ?_, ?_⟩
  · rintro i ⟨⟨lane, cmd⟩, k0⟩ x σ' H' H'' hi ⟨⟨u8, u9, u10, u11, u12, u13, u14, rfl⟩, t1, t2, cv, mv, fb, hcv, hmv⟩ e7 r7
    obtain ⟨hi', rfl⟩ := zipIdx_get hi
    have hm : (lane, cmd) ∈ rs := List.mem_of_getElem? hi'
    have hil : k0 < rs.length := (List.getElem?_eq_some_iff.mp hi').1
    have hl5 : lane ≤ 5 := hp1.lane _ hm
    have hlane : laneOf rs k0 = lane := by unfold laneOf; rw [hi']; rfl
    refine g_nest r7 fun v1 v2 v3 q1 q2 q3 => ?_
    obtain rfl : v1 = V.int (k0 : Nat) := q1
    obtain rfl : v2 = V.int (lane : Nat) := q2
    generalize hB : bookN rs S k0 = B at fb
    obtain ⟨ls, st⟩ := B
    have hlsl : ls.length = lanesN rs := by
      have := bookN_len (S := S) (rs := rs) (i := k0) (by omega)
      rw [hB] at this
      exact this
    have hlL : lane < ls.length := by rw [hlsl]; exact lane_lt hm
    obtain ⟨old, hold⟩ : ∃ old, ls[lane]? = some old := ⟨_, List.getElem?_eq_getElem hlL⟩
    have hasl : as.length = ls.length := by have := fb.ln.len; rw [List.length_map] at this; exact this
    obtain ⟨al, hal⟩ : ∃ al, as[lane]? = some al := ⟨_, List.getElem?_eq_getElem (by omega)⟩
    have halH : H al = none := hasH al (List.mem_of_getElem? hal)
    have holdl : old.length ≤ 42 * k0 := by
      have := bookN_few hSf (rs := rs) (i := k0) (by omega) old (by rw [hB]; exact List.mem_of_getElem? hold)
      exact this
    have e0'' : Ex H H'' := t2.trans e7
    have ri : ∀ (n : Nat) (H8 : Hp), Rp (CB K) H8 (.int (n : Nat)) (.int (n : Nat)) := fun _ _ => rfl
    have q3f : ∀ {H8 : Hp}, Tx H'' H8 → Rp (CB K) H8 v3 cmd.D := fun {H8} t => (show Rp (CB K) H'' v3 cmd.D from q3).fz t cmd.fz
    have setget : ∀ b : List Cmd, (ls.set lane (old ++ b))[lane]? = some (old ++ b) := fun b => by rw [List.getElem?_set_self hlL]
    refine qs_for (C := CB K) (xs := S) (F := spotD) (ei_pairs rfl (r3.imp (fun r => r.ex e0'') fun r => r.ex e0'')) fun A H8 e8 hA => ?_
    refine ⟨fun j σ' H9 => (∃ u11 u12 u13 u14, σ' = [some v, some u, some vp, some (.int (lanesN rs : Nat)), some (.ref c), some (.ref m), some (.ref s), some (.ref L), some (.int (k0 : Nat)), some (.int (lane : Nat)), some v3, u11, u12, u13, u14]) ∧ Tx H8 H9 ∧ Ex H H9 ∧ FbH (CB K) c m s L as H9 cv mv st (ls.set lane (old ++ (((S.take j).filter fun s => decide (s.2 = k0)).map Prod.fst).map fun one => Cmd.wait (fname "w" (laneOf rs one)) (numOf rs S one : Nat))),
      ⟨⟨_, _, _, _, rfl⟩, Tx.refl _, e0''.trans e8, ?_⟩, fun j σ' H9 _ p => ⟨p.2.1, fun b hb => ?_⟩, ?_, ?_⟩
    · rw [List.take_zero, List.filter_nil, List.map_nil, List.map_nil, List.append_nil]
      have : ls.set lane old = ls := List.ext_getElem? fun n => by
        rw [List.getElem?_set]
        by_cases e : lane = n
        · subst e; rw [if_pos rfl, if_pos hlL, hold]
        · rw [if_neg e]
      rw [this]
      exact fb.ex (e7.trans e8)
    · obtain ⟨⟨evb, o, ho⟩, o2, ho2⟩ := hA b hb
      have hb0 : ∃ o0, H b = some o0 := by
        rcases r3 with ⟨b', xs, e1, e2, _⟩ | ⟨b', xs, e1, e2, _⟩
        · rw [evb] at e1; cases e1; exact ⟨_, e2⟩
        · rw [evb] at e1; cases e1; exact ⟨_, e2⟩
      obtain ⟨o0, h0⟩ := hb0
      rw [p.2.2.1 b o0 h0, (e0''.trans e8) b o0 h0]
    · rintro j p y σ' H9 H10 hj ⟨⟨u11, u12, u13, u14, rfl⟩, s1, s2, fb9⟩ e10 r10
      have rp : Rp (CB K) H10 y (spotD p) := r10 (.inr rfl)
      have hpm : p ∈ S := List.mem_of_getElem? hj
      have hpp := hp3.pairs p hpm
      refine g_two rp fun w1 w2 z1 z2 => ?_
      obtain rfl : w1 = V.int (p.1 : Nat) := z1
      obtain rfl : w2 = V.int (p.2 : Nat) := z2
      have fb10 := fb9.ex e10
      refine ql_if (et_cmp (C := CB K) (ed_op (ed_var rfl (ri _ _)) (ed_var rfl (ri _ _)) o_eqi)) (fun hb H11 e11 => ?_) fun hb H11 e11 => ?_
      · have hk : p.2 = k0 := by have := of_decide_eq_true hb; omega
        have fb11 := fb10.ex e11
        have e911 := s2.trans (e10.trans e11)
        obtain ⟨vs, hvs, rvs⟩ := fb11.ln.row lane al _ hal (by rw [List.getElem?_map, setget]; rfl)
        have hlen : vs.length ≤ 300 := by
          rw [rvs.length, List.length_map, List.length_append, List.length_map, List.length_map]
          have h1 := List.length_filter_le (fun s : Nat × Nat => decide (s.2 = k0)) (S.take j)
          rw [List.length_take] at h1
          omega
        obtain ⟨ms, hms, rms⟩ := fb11.hm
        have hfr : fronts S p.1 = true := decide_eq_true (List.mem_map.mpr ⟨p, hpm, rfl⟩)
        have hln : laneOf rs p.1 ≤ 5 := by
          unfold laneOf
          rw [List.getElem?_eq_getElem (by omega)]
          exact hp1.lane _ (List.getElem_mem _)
        refine q_append (C := CB K) (d := (Cmd.wait (fname "w" (laneOf rs p.1)) (numOf rs S p.1 : Nat)).D) (ev_row (ev_var rfl) fb11.ln (ed_var rfl (ri _ _)) hal) (ed_tup (ea1 ed_str (ea1 (Ed.is (ed_op ed_str (ed_cb (ea1 (lane_at (ed_var rfl (r2.ex e911)) (ed_var rfl (ri _ _)) (by omega)) ea0) (k_str (log_le _ hln))) (o_adds (by
          rw [len_digit _ hln]
          show 1 + 1 ≤ 100000
          omega))) rfl) (ea1 (ed_op (ed_var rfl (show Rp (CB K) H11 (.ref m) (.dk mv) from ⟨m, ms, rfl, hms, rpK_iff.mpr rms⟩)) (ed_var rfl (show Rp (CB K) H11 (.int (p.1 : Nat)) (kD (Sum.inl (p.1 : Int))) from rfl)) (o_ixK (hmv.at_ p.1 (by omega) hfr))) ea0)))) hvs (by omega) fun vw H12 e12 r12 => ?_
        have hvs12 := e12 _ _ hvs
        have fb12 := (fb11.ex e12).row (cmds := [Cmd.wait (fname "w" (laneOf rs p.1)) (numOf rs S p.1 : Nat)]) hal (setget _) hvs12 (show RpL (CB K) H12 [vw] _ from ⟨r12, True.intro⟩)
        rw [List.set_set] at fb12
        refine ⟨⟨_, _, _, _, rfl⟩, s1.trans ((Tx.ex (e10.trans (e11.trans e12))).trans (Tx.lst hvs12)), Ex.mut (e911.trans e12) halH, ?_⟩
        rw [take_item hj, List.filter_append, List.filter_cons, if_pos (decide_eq_true hk), List.filter_nil, List.map_append, List.map_append, ← List.append_assoc]
        exact fb12
      · have hk : ¬ p.2 = k0 := fun z => by rw [decide_eq_true (by omega)] at hb; cases hb
        refine ⟨⟨_, _, _, _, rfl⟩, s1.trans (Tx.ex (e10.trans e11)), s2.trans (e10.trans e11), ?_⟩
        rw [take_item hj, List.filter_append, List.filter_cons, if_neg (by simp [hk]), List.filter_nil, List.append_nil]
        exact fb10.ex e11
    · rintro σ' H9 ⟨⟨u11, u12, u13, u14, rfl⟩, s1, s2, fb9⟩
      rw [List.take_length] at fb9
      have hW : ((S.filter fun s => decide (s.2 = k0)).map Prod.fst) = waitsOf S k0 := rfl
      rw [hW] at fb9
      generalize hWW : (waitsOf S k0).map (fun one => Cmd.wait (fname "w" (laneOf rs one)) (numOf rs S one : Nat)) = W at fb9
      have hWl : W.length = (waitsOf S k0).length := by rw [← hWW, List.length_map]
      have hW40 : W.length ≤ 40 := by
        rw [hWl]
        unfold waitsOf
        rw [List.length_map]
        exact Nat.le_trans (List.length_filter_le _ _) hSf
      have tx9 : Tx H'' H9 := (Tx.ex e8).trans s1
      obtain ⟨vs, hvs, rvs⟩ := fb9.ln.row lane al _ hal (by rw [List.getElem?_map, setget]; rfl)
      obtain ⟨ss, hss, rss⟩ := fb9.hs
      have hstl : st.length = k0 := by
        have := sites_len (S := S) (rs := rs) (i := k0) (by omega)
        rw [hB] at this
        exact this
      refine qs_append (C := CB K) (d := spotD (lane, old.length + (waitsOf S k0).length)) (ev_var rfl) (ed_tup (ea1 (ed_var rfl (ri _ _)) (ea1 (Ed.is (ed_cb (ea1 (ed_lnrow (ev_var rfl) fb9.ln (ed_var rfl (ri _ _)) hal (by rw [List.getElem?_map, setget]; rfl)) ea0) k_lenl) (by
        rw [List.length_map, List.length_append, hWl])) ea0))) hss (by rw [rss.length, List.length_map, hstl]; omega) fun vx H10 e10 rx => ?_
      have hss10 := e10 _ _ hss
      have fb10 := (fb9.ex e10).site hss10 rx
      have tx10 : Tx H'' (upd H10 s (.lst (ss ++ [vx]))) := tx9.trans ((Tx.ex e10).trans (Tx.lst hss10))
      have e11 : Ex H (upd H10 s (.lst (ss ++ [vx]))) := Ex.mut (s2.trans e10) hsH
      generalize upd H10 s (.lst (ss ++ [vx])) = H11 at fb10 tx10 e11
      obtain ⟨vs2, hvs2, rvs2⟩ := fb10.ln.row lane al _ hal (by rw [List.getElem?_map, setget]; rfl)
      have hvl2 : vs2.length ≤ 400 := by
        rw [rvs2.length, List.length_map, List.length_append]
        omega
      refine qs_append (C := CB K) (d := cmd.D) (ev_row (ev_var rfl) fb10.ln (ed_var rfl (ri _ _)) hal) (ed_var rfl (q3f tx10)) hvs2 (by omega) fun vc H12 e12 rc => ?_
      have hvs12 := e12 _ _ hvs2
      have fb12 := (fb10.ex e12).row (cmds := [cmd]) hal (setget _) hvs12 (show RpL (CB K) H12 [vc] _ from ⟨rc, True.intro⟩)
      rw [List.set_set] at fb12
      have tx12 : Tx H'' (upd H12 al (.lst (vs2 ++ [vc]))) := tx10.trans ((Tx.ex e12).trans (Tx.lst hvs12))
      have e13 : Ex H (upd H12 al (.lst (vs2 ++ [vc]))) := Ex.mut (e11.trans e12) halH
      generalize upd H12 al (.lst (vs2 ++ [vc])) = H13 at fb12 tx12 e13
      have hbk : bookN rs S (k0 + 1) = (ls.set lane (old ++ blk "w" rs S (waitsOf S k0) k0 cmd lane), st ++ [(lane, old.length + (waitsOf S k0).length)]) := by
        rw [bookN_succ hi', hB]
        unfold stepB
        rw [show (ls, st).1 = ls from rfl, hold]
        rfl
      have hblk : ∀ b, fronts S k0 = b → old ++ blk "w" rs S (waitsOf S k0) k0 cmd lane = old ++ W ++ [cmd] ++ (if b = true then [Cmd.set (fname "w" lane) 1] else []) := fun b hb => by
        unfold blk
        rw [hb, hWW]
        simp [List.append_assoc]
      have setget2 : ∀ b : List Cmd, (ls.set lane b)[lane]? = some b := fun b => by rw [List.getElem?_set_self hlL]
      refine ql_if (et_is (et_val (C := CB K) (ed_cb (ea1 (ed_map (C := CB K) (xs := S) (F := spotD) (fun s => .bl (decide (((s.1 : Nat) : Int) = ((k0 : Nat) : Int)))) (ei_pairs rfl (r3.imp (fun r => r.ex e13) fun r => r.ex e13)) (by omega) (fun _ _ => rfl) fun n p y H14 hn e14 r14 k q' => g_two r14 fun w1 w2 z1 z2 => q' _ rfl (ed_op (ed_var rfl z1) (ed_var rfl (ri _ _)) o_eqi)) ea0) k_anyM)) any_fronts) (fun hb H14 e14 => ?_) fun hb H14 e14 => ?_
      · have fb14 := fb12.ex e14
        obtain ⟨cs, hcs, rcs⟩ := fb14.hc
        have hc10 : cs.length ≤ 10 := by rw [rcs.length]; have := hcv.few; omega
        refine qs_putK (C := CB K) (k := Sum.inl (lane : Int)) (d := .int (numOf rs S k0 : Nat)) (Ed.is (ed_op (Ed.is (ed_get2 (k := Sum.inl (lane : Int)) (ed_var rfl (show Rp (CB K) H14 (.ref c) (.dk cv) from ⟨c, cs, rfl, hcs, rpK_iff.mpr rcs⟩)) (ed_var rfl (show Rp (CB K) H14 (.int (lane : Nat)) (kD (Sum.inl (lane : Int))) from rfl)) ed_int) (hcv.at_ lane)) ed_int o_add) (by rw [num_eq hb, hlane]; rfl)) (ev_var rfl) (ed_var rfl (show Rp (CB K) H14 (.int (lane : Nat)) (kD (Sum.inl (lane : Int))) from rfl)) hcs (by omega) fun vq H15 e15 rq => ?_
        obtain rfl : vq = V.int (numOf rs S k0 : Nat) := rq
        have hcs15 := e15 _ _ hcs
        have fb15 := (fb14.ex e15).cnt (k := Sum.inl (lane : Int)) (i := (numOf rs S k0 : Nat)) hcs15
        have tx15 : Tx H'' (upd H15 c (.dK (putK cs (Sum.inl (lane : Int)) (.int (numOf rs S k0 : Nat))))) := tx12.trans ((Tx.ex (e14.trans e15)).trans (Tx.dk hcs15))
        have e16 : Ex H (upd H15 c (.dK (putK cs (Sum.inl (lane : Int)) (.int (numOf rs S k0 : Nat))))) := Ex.mut (e13.trans (e14.trans e15)) hcH
        generalize upd H15 c (.dK (putK cs (Sum.inl (lane : Int)) (.int (numOf rs S k0 : Nat)))) = H16 at fb15 tx15 e16
        obtain ⟨cs2, hcs2, rcs2⟩ := fb15.hc
        obtain ⟨ms, hms, rms⟩ := fb15.hm
        have hm10 : ms.length ≤ 10 := by rw [rms.length]; have := hmv.few; omega
        refine qs_putK (C := CB K) (k := Sum.inl (k0 : Int)) (d := .int (numOf rs S k0 : Nat)) (ed_op (ed_var rfl (show Rp (CB K) H16 (.ref c) (.dk _) from ⟨c, cs2, rfl, hcs2, rpK_iff.mpr rcs2⟩)) (ed_var rfl (show Rp (CB K) H16 (.int (lane : Nat)) (kD (Sum.inl (lane : Int))) from rfl)) (o_ixK (by rw [lookD_put, if_pos rfl]))) (ev_var rfl) (ed_var rfl (show Rp (CB K) H16 (.int (k0 : Nat)) (kD (Sum.inl (k0 : Int))) from rfl)) hms (by omega) fun vq2 H17 e17 rq2 => ?_
        obtain rfl : vq2 = V.int (numOf rs S k0 : Nat) := rq2
        have hms17 := e17 _ _ hms
        have fb17 := (fb15.ex e17).num (k := Sum.inl (k0 : Int)) (i := (numOf rs S k0 : Nat)) hms17
        have tx17 : Tx H'' (upd H17 m (.dK (putK ms (Sum.inl (k0 : Int)) (.int (numOf rs S k0 : Nat))))) := tx15.trans ((Tx.ex e17).trans (Tx.dk hms17))
        have e18 : Ex H (upd H17 m (.dK (putK ms (Sum.inl (k0 : Int)) (.int (numOf rs S k0 : Nat))))) := Ex.mut (e16.trans e17) hmH
        generalize upd H17 m (.dK (putK ms (Sum.inl (k0 : Int)) (.int (numOf rs S k0 : Nat)))) = H18 at fb17 tx17 e18
        obtain ⟨vs3, hvs3, rvs3⟩ := fb17.ln.row lane al _ hal (by rw [List.getElem?_map, setget2]; rfl)
        have hvl3 : vs3.length ≤ 400 := by
          rw [rvs3.length, List.length_map, List.length_append, List.length_append]
          show _ + 1 ≤ 400
          omega
        refine q_append (C := CB K) (d := (Cmd.set (fname "w" lane) 1).D) (ev_row (ev_var rfl) fb17.ln (ed_var rfl (ri _ _)) hal) (ed_tup (ea1 ed_str (ea1 (Ed.is (ed_op ed_str (ed_cb (ea1 (ed_var rfl (ri _ _)) ea0) (k_str (log_le _ hl5))) (o_adds (by
          rw [len_digit _ hl5]
          show 1 + 1 ≤ 100000
          omega))) rfl) (ea1 ed_int ea0)))) hvs3 (by omega) fun vz H19 e19 rz => ?_
        have hvs19 := e19 _ _ hvs3
        have fb19 := (fb17.ex e19).row (cmds := [Cmd.set (fname "w" lane) 1]) hal (setget2 _) hvs19 (show RpL (CB K) H19 [vz] _ from ⟨rz, True.intro⟩)
        rw [List.set_set] at fb19
        refine ⟨⟨_, _, _, _, _, _, _, rfl⟩, t1.trans ((Tx.ex e7).trans (tx17.trans ((Tx.ex e19).trans (Tx.lst hvs19)))), Ex.mut (e18.trans e19) halH, _, _, ?_, hlane ▸ hcv.add hb, hmv.add⟩
        rw [hbk]
        show FbH _ _ _ _ _ _ _ _ _ _ (ls.set lane (old ++ blk "w" rs S (waitsOf S k0) k0 cmd lane))
        rw [hblk true hb, if_pos rfl]
        exact fb19
      · refine ⟨⟨_, _, _, _, _, _, _, rfl⟩, t1.trans ((Tx.ex e7).trans (tx12.trans (Tx.ex e14))), e13.trans e14, _, _, ?_, hcv.skip hb, hmv.skip hb⟩
        rw [hbk]
        show FbH _ _ _ _ _ _ _ _ _ _ (ls.set lane (old ++ blk "w" rs S (waitsOf S k0) k0 cmd lane))
        rw [hblk false hb, if_neg (by decide), List.append_nil]
        exact fb12.ex e14
  · rintro σ' H' ⟨⟨u8, u9, u10, u11, u12, u13, u14, rfl⟩, t1, t2, cv, mv, fb, hcv, hmv⟩
    rw [List.length_zipIdx] at fb
    have lo : LanesOk hs (bookN rs S rs.length).1 := (build_of (S := S) (rs := rs) (Nat.le_refl _)).ok hp1 hp3 preW
    have rl := fb.ln.rp
    obtain ⟨ss, hss, rss⟩ := fb.hs
    have hlf := lo.few
    refine sd_ret (C := CB K) (ev_tup (ea1 (EvP.imp (ev_mk hs (bookN rs S rs.length).1 (ea1 (ed_var rfl (r1.ex t2)) (ea1 (ed_cb (ea1 (ed_map (C := CB K) (xs := (bookN rs S rs.length).1) (F := fun row => D.lst (row.map Cmd.D)) laneD (ei_lst (ds := (bookN rs S rs.length).1.map fun row => D.lst (row.map Cmd.D)) (ed_var rfl (by
      rw [List.map_map] at rl
      exact rl))) (by omega) (fun row _ => laneD_fz row) fun n row x H1' hn e1' r5 k q' => q' _ rfl (ed_cb (ea1 (ed_var rfl r5) ea0) k_tuple)) ea0) k_tuple) ea0)) hp1.halls lo) fun v H2 _ p => p.1) (ea1 (ed_var rfl (show Rp (CB K) H' (.ref s) (.lst ((bookN rs S rs.length).2.map spotD)) from ⟨s, ss, rfl, hss, rss⟩)) ea0))) fun v' H2 e2 r2' n2 => q_ex t2 q _ v' H2 rfl e2 r2' n2
end
end Fl
set_option maxHeartbeats 4000000
namespace Fl
open PySem L2 Evl
abbrev TC := Cmd × Nat
def Cmd.isSet : Cmd → Bool
  | .set _ _ => true
  | _ => false
abbrev tgB (rs : List Row) (S : List (Nat × Nat)) (i : Nat) (c : Cmd) (lane : Nat) : List TC := (blk "w" rs S (waitsOf S i) i c lane).map fun x => (x, i)
def stepT (rs : List Row) (S : List (Nat × Nat)) (a : List (List TC)) (p : Row × Nat) : List (List TC) := a.set p.1.1 ((a[p.1.1]?).getD [] ++ tgB rs S p.2 p.1.2 p.1.1)
def bookT (rs : List Row) (S : List (Nat × Nat)) (i : Nat) : List (List TC) := (rs.zipIdx.take i).foldl (stepT rs S) (List.replicate (lanesN rs) [])
theorem bookT_succ {rs : List Row} {S : List (Nat × Nat)} {i : Nat} {r : Row} (h : rs[i]? = some r) : bookT rs S (i + 1) = stepT rs S (bookT rs S i) (r, i) := by
  have hz : rs.zipIdx[i]? = some (r, i) := by rw [List.getElem?_zipIdx, h]; simp
  unfold bookT
  rw [take_item hz, List.foldl_append]
  rfl
theorem untag {rs : List Row} {S : List (Nat × Nat)} : ∀ {i : Nat}, i ≤ rs.length → (bookT rs S i).map (fun row => row.map Prod.fst) = (bookN rs S i).1
  | 0, _ => by
    rw [bookN_zero]
    show (List.replicate (lanesN rs) ([] : List TC)).map _ = List.replicate (lanesN rs) []
    rw [List.map_replicate]
    rfl
  | i + 1, h => by
    have hr : rs[i]? = some rs[i] := List.getElem?_eq_getElem (by omega)
    rw [bookT_succ hr, bookN_succ hr]
    have ih := untag (S := S) (rs := rs) (i := i) (by omega)
    show ((bookT rs S i).set _ _).map _ = (bookN rs S i).1.set _ _
    rw [List.map_set, ih, List.map_append]
    congr 1
    congr 1
    · show (((bookT rs S i)[rs[i].1]?).getD []).map Prod.fst = ((bookN rs S i).1[rs[i].1]?).getD []
      rw [← ih, List.getElem?_map]
      cases (bookT rs S i)[rs[i].1]? <;> rfl
    · unfold tgB
      rw [List.map_map]
      exact (List.map_id _)
abbrev siteAt (st : List (Nat × Nat)) (i : Nat) : Nat × Nat := st[i]?.getD (0, 0)
structure TgI (rs : List Row) (S : List (Nat × Nat)) (i : Nat) (tl : List (List TC)) (st : List (Nat × Nat)) : Prop where
  len : tl.length = lanesN rs
  slen : st.length = i
  tag : ∀ (l : Nat) (row : List TC) (k : Nat) (c : Cmd) (t : Nat), tl[l]? = some row → row[k]? = some (c, t) → t < i ∧ laneOf rs t = l
  mono : ∀ (l : Nat) (row : List TC), tl[l]? = some row → row.Pairwise fun x y => x.2 ≤ y.2
  site : ∀ j, j < i → (siteAt st j).1 = laneOf rs j ∧ ∃ (row : List TC) (c : Cmd), tl[laneOf rs j]? = some row ∧ row[(siteAt st j).2]? = some (c, j)
  wait : ∀ u j, (u, j) ∈ S → j < i → ∃ (row : List TC) (k : Nat), tl[laneOf rs j]? = some row ∧ k < (siteAt st j).2 ∧ row[k]? = some (.wait (fname "w" (laneOf rs u)) (numOf rs S u : Nat), j)
  sets : ∀ (l : Nat) (row : List TC) (k : Nat) (f : Str) (b : Int) (t : Nat), tl[l]? = some row → row[k]? = some (.set f b, t) → f = fname "w" l ∧ b = 1 ∧ fronts S t = true ∧ (siteAt st t).2 < k
  from_ : ∀ (l : Nat) (row : List TC) (k : Nat) (f : Str) (v : Int) (t : Nat), tl[l]? = some row → row[k]? = some (.wait f v, t) → ∃ u, (u, t) ∈ S ∧ f = fname "w" (laneOf rs u) ∧ v = (numOf rs S u : Nat)
  all : ∀ (l : Nat) (row : List TC), tl[l]? = some row → (row.filter fun x => x.1.isSet).map Prod.snd = (List.range i).filter fun j => fronts S j && decide (laneOf rs j = l)
theorem blk_get {rs : List Row} {S : List (Nat × Nat)} {i m : Nat} {c x : Cmd} {lane : Nat} (h : (blk "w" rs S (waitsOf S i) i c lane)[m]? = some x) :
    (m < (waitsOf S i).length ∧ ∃ u, (u, i) ∈ S ∧ x = .wait (fname "w" (laneOf rs u)) (numOf rs S u : Nat)) ∨ (m = (waitsOf S i).length ∧ x = c) ∨ (m = (waitsOf S i).length + 1 ∧ x = .set (fname "w" lane) 1 ∧ fronts S i = true) := by
  unfold blk at h
  by_cases hm : m < (waitsOf S i).length
  · left
    rw [List.getElem?_append_left (by rw [List.length_map]; exact hm), List.getElem?_map] at h
    obtain ⟨u, hu, rfl⟩ := Option.map_eq_some_iff.mp h
    have hu' := List.mem_of_getElem? hu
    unfold waitsOf at hu'
    obtain ⟨s, hs, e⟩ := List.mem_map.mp hu'
    obtain ⟨h1, h2⟩ := List.mem_filter.mp hs
    have h2 := of_decide_eq_true h2
    refine ⟨hm, u, ?_, rfl⟩
    rw [← e, ← h2]
    exact h1
  · right
    rw [List.getElem?_append_right (by rw [List.length_map]; omega), List.length_map] at h
    cases hk : m - (waitsOf S i).length with
    | zero =>
      rw [hk, List.getElem?_cons_zero] at h
      exact .inl ⟨by omega, (Option.some.inj h).symm⟩
    | succ n =>
      rw [hk, List.getElem?_cons_succ] at h
      cases hf : fronts S i with
      | false => rw [hf, if_neg (by decide)] at h; cases h
      | true =>
        rw [hf, if_pos rfl] at h
        cases n with
        | zero => exact .inr ⟨by omega, (Option.some.inj h).symm, rfl⟩
        | succ n => cases h
theorem tgB_get {rs : List Row} {S : List (Nat × Nat)} {i m : Nat} {c x : Cmd} {t lane : Nat} (h : (tgB rs S i c lane)[m]? = some (x, t)) : t = i ∧ (blk "w" rs S (waitsOf S i) i c lane)[m]? = some x := by
  unfold tgB at h
  rw [List.getElem?_map] at h
  obtain ⟨y, hy, e⟩ := Option.map_eq_some_iff.mp h
  cases e
  exact ⟨rfl, hy⟩
theorem site_old {st : List (Nat × Nat)} {x : Nat × Nat} {j : Nat} (h : j < st.length) : siteAt (st ++ [x]) j = siteAt st j := by
  unfold siteAt
  rw [List.getElem?_append_left h]
theorem site_new {st : List (Nat × Nat)} {x : Nat × Nat} : siteAt (st ++ [x]) st.length = x := by
  unfold siteAt
  rw [List.getElem?_append_right (Nat.le_refl _), Nat.sub_self]
  rfl
theorem wait_at {rs : List Row} {S : List (Nat × Nat)} {u i : Nat} {c : Cmd} {lane : Nat} (h : (u, i) ∈ S) : ∃ m, m < (waitsOf S i).length ∧ (tgB rs S i c lane)[m]? = some (.wait (fname "w" (laneOf rs u)) (numOf rs S u : Nat), i) := by
  have hm : u ∈ waitsOf S i := List.mem_map.mpr ⟨(u, i), List.mem_filter.mpr ⟨h, decide_eq_true rfl⟩, rfl⟩
  obtain ⟨m, hm⟩ := List.getElem?_of_mem hm
  have hl := (List.getElem?_eq_some_iff.mp hm).1
  refine ⟨m, hl, ?_⟩
  unfold tgB blk
  rw [List.getElem?_map, List.getElem?_append_left (by rw [List.length_map]; exact hl), List.getElem?_map, hm]
  rfl
theorem tgB_sets {rs : List Row} {S : List (Nat × Nat)} {i : Nat} {c : Cmd} {lane : Nat} (hc : c.plain = true) : ((tgB rs S i c lane).filter fun x => x.1.isSet).map Prod.snd = if fronts S i = true then [i] else [] := by
  unfold tgB blk
  rw [List.map_append, List.filter_append, List.map_append, List.map_map]
  have h1 : (((waitsOf S i).map ((fun x => (x, i)) ∘ fun one => Cmd.wait (fname "w" (laneOf rs one)) (numOf rs S one : Nat))).filter fun x : TC => x.1.isSet) = [] := by
    refine List.filter_eq_nil_iff.mpr fun x hx => ?_
    obtain ⟨u, _, rfl⟩ := List.mem_map.mp hx
    show ¬ false = true
    decide
  rw [h1, List.map_nil, List.nil_append, List.map_cons, List.filter_cons]
  have h2 : c.isSet = false := by cases c <;> first | rfl | cases hc
  rw [if_neg (by rw [h2]; decide)]
  cases fronts S i <;> rfl
theorem TgI.zero {rs : List Row} {S : List (Nat × Nat)} : TgI rs S 0 (List.replicate (lanesN rs) []) [] := by
  have hn : ∀ {l : Nat} {row : List TC}, (List.replicate (lanesN rs) ([] : List TC))[l]? = some row → row = [] := fun h => List.eq_of_mem_replicate (List.mem_of_getElem? h)
  refine ⟨by simp, rfl, fun l row k c t h g => ?_, fun l row h => ?_, fun j h => absurd h (Nat.not_lt_zero _), fun u j _ h => absurd h (Nat.not_lt_zero _), fun l row k f b t h g => ?_, fun l row k f v t h g => ?_, fun l row h => ?_⟩
  · rw [hn h] at g; cases g
  · rw [hn h]; exact .nil
  · rw [hn h] at g; cases g
  · rw [hn h] at g; cases g
  · rw [hn h]; rfl
theorem TgI.step {rs : List Row} {S : List (Nat × Nat)} {i : Nat} {tl : List (List TC)} {st : List (Nat × Nat)} {lane : Nat} {c : Cmd} {old : List TC} (h : TgI rs S i tl st) (hr : rs[i]? = some (lane, c)) (hc : c.plain = true) (ho : tl[lane]? = some old) :
    TgI rs S (i + 1) (tl.set lane (old ++ tgB rs S i c lane)) (st ++ [(lane, old.length + (waitsOf S i).length)]) := by
  have hlane : laneOf rs i = lane := by unfold laneOf; rw [hr]; rfl
  have hsi : siteAt (st ++ [(lane, old.length + (waitsOf S i).length)]) i = (lane, old.length + (waitsOf S i).length) := by
    have := site_new (st := st) (x := (lane, old.length + (waitsOf S i).length))
    rw [h.slen] at this
    exact this
  have hso : ∀ j, j < i → siteAt (st ++ [(lane, old.length + (waitsOf S i).length)]) j = siteAt st j := fun j hj => site_old (by rw [h.slen]; exact hj)
  have hg : ∀ l, (tl.set lane (old ++ tgB rs S i c lane))[l]? = if l = lane then some (old ++ tgB rs S i c lane) else tl[l]? := fun l => get_set_app ho
  have split : ∀ {l : Nat} {row : List TC} {k : Nat} {x : TC}, (tl.set lane (old ++ tgB rs S i c lane))[l]? = some row → row[k]? = some x → (∃ row', tl[l]? = some row' ∧ row'[k]? = some x) ∨ (l = lane ∧ old.length ≤ k ∧ (tgB rs S i c lane)[k - old.length]? = some x) := fun {l row k x} h1 h2 => by
    rw [hg l] at h1
    by_cases e : l = lane
    · rw [if_pos e] at h1
      cases h1
      by_cases hk : k < old.length
      · rw [List.getElem?_append_left hk] at h2
        exact .inl ⟨old, by rw [e]; exact ho, h2⟩
      · rw [List.getElem?_append_right (by omega)] at h2
        exact .inr ⟨e, by omega, h2⟩
    · rw [if_neg e] at h1
      exact .inl ⟨row, h1, h2⟩
  have keep : ∀ {l : Nat} {row' : List TC} {k : Nat} {x : TC}, tl[l]? = some row' → row'[k]? = some x → ∃ row, (tl.set lane (old ++ tgB rs S i c lane))[l]? = some row ∧ row[k]? = some x := fun {l row' k x} h1 h2 => by
    rw [hg l]
    by_cases e : l = lane
    · rw [if_pos e]
      rw [e, ho] at h1
      cases h1
      exact ⟨_, rfl, by rw [List.getElem?_append_left (List.getElem?_eq_some_iff.mp h2).1]; exact h2⟩
    · rw [if_neg e]
      exact ⟨row', h1, h2⟩
  have new : ∀ {m : Nat} {x : TC}, (tgB rs S i c lane)[m]? = some x → (old ++ tgB rs S i c lane)[old.length + m]? = some x := fun {m x} h1 => by
    rw [List.getElem?_append_right (by omega), Nat.add_sub_cancel_left]
    exact h1
  have hcmd : (tgB rs S i c lane)[(waitsOf S i).length]? = some (c, i) := by
    unfold tgB blk
    rw [List.getElem?_map, List.getElem?_append_right (by rw [List.length_map]; exact Nat.le_refl _), List.length_map, Nat.sub_self]
    rfl
  refine ⟨by rw [List.length_set]; exact h.len, by rw [List.length_append, h.slen]; rfl, fun l row k x t h1 h2 => ?_, fun l row h1 => ?_, fun j hj => ?_, fun u j hu hj => ?_, fun l row k f b t h1 h2 => ?_, fun l row k f v t h1 h2 => ?_, fun l row h1 => ?_⟩
  · rcases split h1 h2 with ⟨row', g1, g2⟩ | ⟨e, g1, g2⟩
    · obtain ⟨a1, a2⟩ := h.tag l row' k x t g1 g2
      exact ⟨by omega, a2⟩
    · obtain ⟨e2, _⟩ := tgB_get g2
      subst e2
      exact ⟨Nat.lt_succ_self _, hlane.trans e.symm⟩
  · rw [hg l] at h1
    by_cases e : l = lane
    · rw [if_pos e] at h1
      cases h1
      refine List.pairwise_append.mpr ⟨h.mono lane old ho, ?_, fun x hx y hy => ?_⟩
      · unfold tgB
        exact List.pairwise_map.mpr (List.pairwise_of_forall fun _ _ => Nat.le_refl _)
      · obtain ⟨k, hk⟩ := List.getElem?_of_mem hx
        obtain ⟨m, hm⟩ := List.getElem?_of_mem hy
        have a1 := (h.tag lane old k x.1 x.2 ho hk).1
        have a2 := (tgB_get (x := y.1) (t := y.2) hm).1
        omega
    · rw [if_neg e] at h1
      exact h.mono l row h1
  · rcases Nat.lt_succ_iff_lt_or_eq.mp hj with g | g
    · rw [hso j g]
      obtain ⟨a1, row', x, a2, a3⟩ := h.site j g
      obtain ⟨row, b1, b2⟩ := keep a2 a3
      exact ⟨a1, row, x, b1, b2⟩
    · subst g
      rw [hsi, hlane]
      refine ⟨rfl, old ++ tgB rs S j c lane, c, by rw [hg lane, if_pos rfl], new hcmd⟩
  · rcases Nat.lt_succ_iff_lt_or_eq.mp hj with g | g
    · rw [hso j g]
      obtain ⟨row', k, a2, a3, a4⟩ := h.wait u j hu g
      obtain ⟨row, b1, b2⟩ := keep a2 a4
      exact ⟨row, k, b1, a3, b2⟩
    · subst g
      rw [hsi, hlane]
      obtain ⟨m, m1, m2⟩ := wait_at (rs := rs) (c := c) (lane := lane) hu
      exact ⟨_, old.length + m, by rw [hg lane, if_pos rfl], by show old.length + m < old.length + (waitsOf S j).length; omega, new m2⟩
  · rcases split h1 h2 with ⟨row', g1, g2⟩ | ⟨e, g1, g2⟩
    · have ht := (h.tag l row' k _ t g1 g2).1
      rw [hso t ht]
      exact h.sets l row' k f b t g1 g2
    · obtain ⟨e2, g3⟩ := tgB_get g2
      subst e2
      rcases blk_get g3 with ⟨_, u, _, z⟩ | ⟨_, z⟩ | ⟨m1, z, z2⟩
      · cases z
      · rw [← z] at hc; cases hc
      · cases z
        rw [hsi, e]
        exact ⟨rfl, rfl, z2, by show old.length + (waitsOf S t).length < k; omega⟩
  · rcases split h1 h2 with ⟨row', g1, g2⟩ | ⟨e, g1, g2⟩
    · exact h.from_ l row' k f v t g1 g2
    · obtain ⟨e2, g3⟩ := tgB_get g2
      subst e2
      rcases blk_get g3 with ⟨_, u, hu, z⟩ | ⟨_, z⟩ | ⟨m1, z, z2⟩
      · cases z
        exact ⟨u, hu, rfl, rfl⟩
      · rw [← z] at hc; cases hc
      · cases z
  · rw [hg l] at h1
    rw [List.range_succ, List.filter_append, List.filter_cons, List.filter_nil]
    by_cases e : l = lane
    · rw [if_pos e] at h1
      cases h1
      rw [List.filter_append, List.map_append, h.all lane old ho, tgB_sets hc, e, hlane, decide_eq_true rfl, Bool.and_true]
    · rw [if_neg e] at h1
      have e' : decide (laneOf rs i = l) = false := decide_eq_false (by rw [hlane]; exact fun z => e z.symm)
      rw [h.all l row h1, e', Bool.and_false, if_neg (by decide), List.append_nil]
theorem ti_of {rs : List Row} {S : List (Nat × Nat)} (hp : ∀ r ∈ rs, r.2.plain = true) : ∀ {i : Nat}, i ≤ rs.length → TgI rs S i (bookT rs S i) (bookN rs S i).2
  | 0, _ => TgI.zero
  | i + 1, h => by
    have hr : rs[i]? = some rs[i] := List.getElem?_eq_getElem (by omega)
    have ih := ti_of (S := S) hp (i := i) (by omega)
    have hl : rs[i].1 < (bookT rs S i).length := by rw [ih.len]; exact lane_lt (List.getElem_mem _)
    have ho : (bookT rs S i)[rs[i].1]? = some (bookT rs S i)[rs[i].1] := List.getElem?_eq_getElem hl
    have hon : (bookN rs S i).1[rs[i].1]? = some ((bookT rs S i)[rs[i].1].map Prod.fst) := by
      rw [← untag (S := S) (rs := rs) (i := i) (by omega), List.getElem?_map, ho]
      rfl
    have := ih.step (lane := rs[i].1) (c := rs[i].2) hr (hp _ (List.getElem_mem _)) ho
    rw [bookT_succ hr, bookN_succ hr]
    show TgI rs S (i + 1) ((bookT rs S i).set rs[i].1 (((bookT rs S i)[rs[i].1]?).getD [] ++ _)) ((bookN rs S i).2 ++ [(rs[i].1, (((bookN rs S i).1[rs[i].1]?).getD []).length + _)])
    rw [ho, hon]
    show TgI rs S (i + 1) _ ((bookN rs S i).2 ++ [(rs[i].1, (((bookT rs S i)[rs[i].1].map Prod.fst)).length + _)])
    rw [List.length_map]
    exact this
end Fl
set_option maxHeartbeats 4000000
namespace Fl
open PySem L2 Evl
theorem nth_filter {g : Nat → Bool} {n u : Nat} (hu : u < n) (hg : g u = true) : ((List.range n).filter g)[((List.range (u + 1)).filter g).length - 1]? = some u := by
  obtain ⟨m, rfl⟩ : ∃ m, n = u + 1 + m := ⟨n - (u + 1), by omega⟩
  rw [List.range_add, List.filter_append, List.range_succ, List.filter_append, List.filter_cons, if_pos hg, List.filter_nil, List.length_append]
  show ((((List.range u).filter g) ++ [u]) ++ _)[((List.range u).filter g).length + 1 - 1]? = some u
  rw [Nat.add_sub_cancel, List.getElem?_append_left (by rw [List.length_append]; exact Nat.lt_succ_self _), List.getElem?_append_right (Nat.le_refl _), Nat.sub_self]
  rfl
def dirS (rs : List Row) (S : List (Nat × Nat)) (f h : Nat) : Bool := decide (laneOf rs f = laneOf rs h) || decide ((f, h) ∈ S)
def tagAt (tl : List (List TC)) (s : Nat × Nat) : Nat := (((tl[s.1]?).bind fun row => row[s.2]?).map Prod.snd).getD 0
structure Sb (rs : List Row) (S : List (Nat × Nat)) : Prop where
  pl : ∀ r ∈ rs, r.2.plain = true
  lane : ∀ r ∈ rs, r.1 ≤ 5
  pairs : ∀ s ∈ S, s.1 < s.2 ∧ s.2 < rs.length
section
variable {rs : List Row} {S : List (Nat × Nat)}
abbrev lsB (rs : List Row) (S : List (Nat × Nat)) : List (List Cmd) := (bookN rs S rs.length).1
abbrev stB (rs : List Row) (S : List (Nat × Nat)) : List (Nat × Nat) := (bookN rs S rs.length).2
abbrev tlB (rs : List Row) (S : List (Nat × Nat)) : List (List TC) := bookT rs S rs.length
theorem Sb.ti (h : Sb rs S) : TgI rs S rs.length (tlB rs S) (stB rs S) := ti_of h.pl (Nat.le_refl _)
theorem ls_tl : lsB rs S = (tlB rs S).map fun row => row.map Prod.fst := (untag (Nat.le_refl _)).symm
theorem cmd_tl {s : Nat × Nat} : cmdAt (lsB rs S) s = ((((tlB rs S)[s.1]?).bind fun row => row[s.2]?).map Prod.fst) := by
  unfold cmdAt
  rw [ls_tl, List.getElem?_map]
  cases (tlB rs S)[s.1]? with
  | none => rfl
  | some row =>
    show (row.map Prod.fst)[s.2]? = (row[s.2]?).map Prod.fst
    rw [List.getElem?_map]
theorem cmd_in {l k : Nat} {row : List TC} {c : Cmd} {t : Nat} (h1 : (tlB rs S)[l]? = some row) (h2 : row[k]? = some (c, t)) : cmdAt (lsB rs S) (l, k) = some c := by
  rw [cmd_tl]
  show ((((tlB rs S)[l]?).bind fun row => row[k]?).map Prod.fst) = _
  rw [h1]
  show (row[k]?).map Prod.fst = _
  rw [h2]
  rfl
theorem cmd_out {s : Nat × Nat} {c : Cmd} (h : cmdAt (lsB rs S) s = some c) : ∃ (row : List TC) (t : Nat), (tlB rs S)[s.1]? = some row ∧ row[s.2]? = some (c, t) := by
  rw [cmd_tl] at h
  obtain ⟨x, hx, rfl⟩ := Option.map_eq_some_iff.mp h
  obtain ⟨row, h1, h2⟩ := Option.bind_eq_some_iff.mp hx
  exact ⟨row, x.2, h1, h2⟩
theorem tag_in {l k : Nat} {row : List TC} {c : Cmd} {t : Nat} (h1 : (tlB rs S)[l]? = some row) (h2 : row[k]? = some (c, t)) : tagAt (tlB rs S) (l, k) = t := by
  unfold tagAt
  show ((((tlB rs S)[l]?).bind fun row => row[k]?).map Prod.snd).getD 0 = t
  rw [h1]
  show ((row[k]?).map Prod.snd).getD 0 = t
  rw [h2]
  rfl
theorem spot_in {s : Nat × Nat} (h : s ∈ spotsOf (lsB rs S)) : ∃ (row : List TC) (c : Cmd) (t : Nat), (tlB rs S)[s.1]? = some row ∧ row[s.2]? = some (c, t) := by
  obtain ⟨row, c, hs⟩ := mem_spots h
  obtain ⟨row, t, h1, h2⟩ := cmd_out hs.at_
  exact ⟨row, c, t, h1, h2⟩
theorem in_spot {l k : Nat} {row : List TC} {x : TC} (h1 : (tlB rs S)[l]? = some row) (h2 : row[k]? = some x) : (l, k) ∈ spotsOf (lsB rs S) := by
  refine spots_of (row := row.map Prod.fst) (c := x.1) ⟨?_, ?_⟩
  · rw [ls_tl, List.getElem?_map]
    show ((tlB rs S)[l]?).map _ = _
    rw [h1]
    rfl
  · show (row.map Prod.fst)[k]? = _
    rw [List.getElem?_map, h2]
    rfl
theorem laneOf_le (h : Sb rs S) {j : Nat} (hj : j < rs.length) : laneOf rs j ≤ 5 := by
  unfold laneOf
  rw [List.getElem?_eq_getElem hj]
  exact h.lane _ (List.getElem_mem _)
theorem site_spot (h : Sb rs S) {j : Nat} (hj : j < rs.length) : siteAt (stB rs S) j ∈ spotsOf (lsB rs S) ∧ tagAt (tlB rs S) (siteAt (stB rs S) j) = j ∧ (siteAt (stB rs S) j).1 = laneOf rs j := by
  obtain ⟨e, row, c, h1, h2⟩ := h.ti.site j hj
  have es : siteAt (stB rs S) j = (laneOf rs j, (siteAt (stB rs S) j).2) := Prod.ext e rfl
  rw [es]
  exact ⟨in_spot h1 h2, tag_in h1 h2, rfl⟩
theorem hang_on (h : Sb rs S) {u : Nat} {s : Nat × Nat} (hu : u < rs.length) (hf : fronts S u = true) (hs : cmdAt (lsB rs S) s = some (.wait (fname "w" (laneOf rs u)) (numOf rs S u : Nat))) :
    ∃ (k : Nat) (row : List TC) (f : Str) (b : Int), hgOf (lsB rs S) s = some (laneOf rs u, k) ∧ (tlB rs S)[laneOf rs u]? = some row ∧ row[k]? = some (.set f b, u) := by
  have T := h.ti
  have hl0 := laneOf_le h hu
  have hlt : laneOf rs u < (tlB rs S).length := by
    rw [T.len]
    unfold laneOf
    rw [List.getElem?_eq_getElem hu]
    exact lane_lt (List.getElem_mem _)
  obtain ⟨row0, hrow0⟩ : ∃ row0, (tlB rs S)[laneOf rs u]? = some row0 := ⟨_, List.getElem?_eq_getElem hlt⟩
  have one : OneBy (lsB rs S) (fname "w" (laneOf rs u)) := fun s b hb => by
    obtain ⟨row, t, h1, h2⟩ := cmd_out hb
    exact (T.sets _ _ _ _ _ _ h1 h2).2.1
  have uni : ∀ s b, cmdAt (lsB rs S) s = some (.set (fname "w" (laneOf rs u)) b) → s.1 = laneOf rs u := fun s b hb => by
    obtain ⟨row, t, h1, h2⟩ := cmd_out hb
    have h3 := (T.sets _ _ _ _ _ _ h1 h2).1
    obtain ⟨ht, h4⟩ := T.tag _ _ _ _ _ h1 h2
    have h5 : s.1 ≤ 5 := by rw [← h4]; exact laneOf_le h ht
    exact (preW.inj _ _ hl0 h5 h3).symm
  have hfm : u ∈ S.map Prod.fst := of_decide_eq_true hf
  have hg := hang_at one (numOf_pos (rs := rs) hfm) hs
  have hls : (lsB rs S)[laneOf rs u]? = some (row0.map Prod.fst) := by rw [ls_tl, List.getElem?_map, hrow0]; rfl
  rw [sets_lane hls uni, List.length_map] at hg
  have hcg : ((List.range row0.length).filter fun k => isSetOf (lsB rs S) (fname "w" (laneOf rs u)) (laneOf rs u, k)) = (List.range row0.length).filter fun k => (row0[k]?).any fun x => x.1.isSet := by
    refine List.filter_congr fun k _ => ?_
    unfold isSetOf
    rw [cmd_tl]
    show (match ((((tlB rs S)[laneOf rs u]?).bind fun row => row[k]?).map Prod.fst) with | some (.set f' _) => decide (f' = fname "w" (laneOf rs u)) | _ => false) = _
    rw [hrow0]
    show (match ((row0[k]?).map Prod.fst) with | some (.set f' _) => decide (f' = fname "w" (laneOf rs u)) | _ => false) = _
    cases hk : row0[k]? with
    | none => rfl
    | some x =>
      obtain ⟨c, t⟩ := x
      cases c with
      | set f b =>
        have := (T.sets _ _ _ _ _ _ hrow0 hk).1
        subst this
        exact decide_eq_true rfl
      | _ => rfl
  rw [hcg] at hg
  have hpm := places_map (fun x : TC => x.1.isSet) Prod.snd 0 row0
  rw [T.all _ _ hrow0] at hpm
  have hnth := nth_filter (g := fun j => fronts S j && decide (laneOf rs j = laneOf rs u)) hu (by rw [hf, decide_eq_true rfl]; rfl)
  rw [← hpm, List.getElem?_map] at hnth
  obtain ⟨k, hk, hkt⟩ := Option.map_eq_some_iff.mp hnth
  have hidx : ((List.range (u + 1)).filter fun j => fronts S j && decide (laneOf rs j = laneOf rs u)).length = numOf rs S u := rfl
  rw [hidx] at hk
  rw [List.getElem?_map, hk] at hg
  obtain ⟨_, hany⟩ := List.mem_filter.mp (List.mem_of_getElem? hk)
  cases hx : row0[k]? with
  | none => rw [hx] at hany; cases hany
  | some x =>
    rw [hx] at hany hkt
    obtain ⟨c, t⟩ := x
    have ht : t = u := hkt
    subst ht
    have hc : c.isSet = true := hany
    cases c with
    | set f b => exact ⟨k, row0, f, b, hg, hrow0, hx⟩
    | _ => cases hc
theorem edge (h : Sb rs S) {e s : Nat × Nat} (hs : s ∈ spotsOf (lsB rs S)) (he : e ∈ elL (lsB rs S) s) : tagAt (tlB rs S) e = tagAt (tlB rs S) s ∨ (tagAt (tlB rs S) e < tagAt (tlB rs S) s ∧ dirS rs S (tagAt (tlB rs S) e) (tagAt (tlB rs S) s) = true) := by
  have T := h.ti
  obtain ⟨l, k⟩ := s
  obtain ⟨row, c, t, h1, h2⟩ := spot_in hs
  have h1 : (tlB rs S)[l]? = some row := h1
  have h2 : row[k]? = some (c, t) := h2
  rw [tag_in h1 h2]
  rcases List.mem_append.mp he with hp | hp
  · unfold prevS at hp
    by_cases hk : 0 < k
    · rw [if_pos hk] at hp
      obtain rfl := List.mem_singleton.mp hp
      have hkl := (List.getElem?_eq_some_iff.mp h2).1
      have h3 : row[k - 1]? = some row[k - 1] := List.getElem?_eq_getElem (by omega)
      obtain ⟨c1, t1, hct⟩ : ∃ c1 t1, row[k - 1] = (c1, t1) := ⟨_, _, rfl⟩
      rw [hct] at h3
      show tagAt (tlB rs S) (l, k - 1) = t ∨ (tagAt (tlB rs S) (l, k - 1) < t ∧ dirS rs S (tagAt (tlB rs S) (l, k - 1)) t = true)
      rw [tag_in h1 h3]
      have hle : t1 ≤ t := by
        have := List.pairwise_iff_getElem.mp (T.mono l row h1) (k - 1) k (by omega) hkl (by omega)
        rw [hct, (List.getElem?_eq_some_iff.mp h2).2] at this
        exact this
      rcases Nat.lt_or_eq_of_le hle with g | g
      · right
        refine ⟨g, ?_⟩
        unfold dirS
        rw [(T.tag l row _ _ _ h1 h3).2, (T.tag l row _ _ _ h1 h2).2, decide_eq_true rfl]
        rfl
      · exact .inl g
    · rw [if_neg hk] at hp; cases hp
  · cases hh : hgOf (lsB rs S) (l, k) with
    | none => rw [hh] at hp; cases hp
    | some e' =>
      rw [hh] at hp
      obtain rfl := List.mem_singleton.mp (show e ∈ [e'] from hp)
      obtain ⟨f, v, hc⟩ : ∃ f v, c = .wait f v := by
        unfold hgOf at hh
        rw [cmd_in h1 h2] at hh
        cases c with
        | wait f v => exact ⟨f, v, rfl⟩
        | _ => cases hh
      subst hc
      obtain ⟨u, hu, rfl, rfl⟩ := T.from_ l row k f v t h1 h2
      have hp' := h.pairs _ hu
      have hp1 : u < t := hp'.1
      have hp2 : t < rs.length := hp'.2
      obtain ⟨k', row', f', b', g1, g2, g3⟩ := hang_on h (u := u) (by omega) (decide_eq_true (List.mem_map.mpr ⟨_, hu, rfl⟩)) (cmd_in h1 h2)
      rw [hh] at g1
      obtain rfl := Option.some.inj g1
      rw [tag_in g2 g3]
      right
      refine ⟨hp1, ?_⟩
      unfold dirS
      rw [decide_eq_true hu, Bool.or_true]
theorem rch_tag (h : Sb rs S) {a s : Nat × Nat} (r : Rch (lsB rs S) a s) : s ∈ spotsOf (lsB rs S) → tagAt (tlB rs S) s = tagAt (tlB rs S) a ∨ Ah (dirS rs S) (tagAt (tlB rs S) a) (tagAt (tlB rs S) s) := by
  induction r with
  | one q =>
    intro hs
    rcases edge h hs q with e | ⟨e1, e2⟩
    · exact .inl e.symm
    · exact .inr (.base e1 e2)
  | more _ q ih =>
    intro hs
    rcases edge h hs q with e | ⟨e1, e2⟩
    · rw [← e]; exact ih (el_in _ hs _ q).1
    · rcases ih (el_in _ hs _ q).1 with g | g
      · rw [← g]; exact .inr (.base e1 e2)
      · exact .inr (.step g e1 e2)
theorem dir_rch (h : Sb rs S) {k j : Nat} (hkj : k < j) (hj : j < rs.length) (hd : dirS rs S k j = true) : Rch (lsB rs S) (siteAt (stB rs S) k) (siteAt (stB rs S) j) := by
  have T := h.ti
  obtain ⟨e1, row1, c1, a1, a2⟩ := T.site k (by omega)
  obtain ⟨e2, row2, c2, b1, b2⟩ := T.site j hj
  have s1 : siteAt (stB rs S) k = (laneOf rs k, (siteAt (stB rs S) k).2) := Prod.ext e1 rfl
  have s2 : siteAt (stB rs S) j = (laneOf rs j, (siteAt (stB rs S) j).2) := Prod.ext e2 rfl
  unfold dirS at hd
  by_cases hl : laneOf rs k = laneOf rs j
  · rw [s1, s2, hl]
    refine Rch.prev ?_
    rw [hl, b1] at a1
    cases a1
    refine Nat.lt_of_not_le fun hle => ?_
    obtain ⟨l1, g1⟩ := List.getElem?_eq_some_iff.mp a2
    obtain ⟨l2, g2⟩ := List.getElem?_eq_some_iff.mp b2
    rcases Nat.lt_or_eq_of_le hle with q | q
    · have := List.pairwise_iff_getElem.mp (T.mono _ _ b1) _ _ l2 l1 q
      rw [g1, g2] at this
      have : j ≤ k := this
      omega
    · rw [q, a2] at b2
      have := (Prod.mk.inj (Option.some.inj b2)).2
      omega
  · rw [decide_eq_false hl, Bool.false_or] at hd
    have hS : (k, j) ∈ S := of_decide_eq_true hd
    obtain ⟨row, kw, w1, w2, w3⟩ := T.wait k j hS hj
    obtain ⟨ke, row', f, b, g1, g2, g3⟩ := hang_on h (u := k) (by omega) (decide_eq_true (List.mem_map.mpr ⟨_, hS, rfl⟩)) (cmd_in w1 w3)
    have hke := (T.sets _ _ _ _ _ _ g2 g3).2.2.2
    have r1 : Rch (lsB rs S) (siteAt (stB rs S) k) (laneOf rs k, ke) := by
      rw [s1]
      exact Rch.prev hke
    have r2 : Rch (lsB rs S) (laneOf rs k, ke) (laneOf rs j, kw) := .one (List.mem_append.mpr (.inr (by rw [g1]; exact List.mem_singleton.mpr rfl)))
    have r3 : Rch (lsB rs S) (laneOf rs j, kw) (siteAt (stB rs S) j) := by
      rw [s2]
      exact Rch.prev w2
    exact (r1.trans r2).trans r3
theorem ah_rch (h : Sb rs S) {f j : Nat} (r : Ah (dirS rs S) f j) : j < rs.length → Rch (lsB rs S) (siteAt (stB rs S) f) (siteAt (stB rs S) j) := by
  induction r with
  | base g d => exact fun hj => dir_rch h g hj d
  | step _ g d ih => exact fun hj => (ih (by omega)).trans (dir_rch h g hj d)
theorem rch_eq (h : Sb rs S) {f j : Nat} (hf : f < rs.length) (hj : j < rs.length) (ne : f ≠ j) : rchB (lsB rs S) (siteAt (stB rs S) f) (siteAt (stB rs S) j) = ahB (dirS rs S) f j := by
  rw [Bool.eq_iff_iff, rchB_iff, ahB_iff]
  constructor
  · intro r
    have := rch_tag h r (site_spot h hj).1
    rw [(site_spot h hf).2.1, (site_spot h hj).2.1] at this
    rcases this with e | e
    · exact absurd e.symm ne
    · exact e
  · exact fun r => ah_rch h r hj
end
def wordAt (ls : List (List Cmd)) (s : Nat × Nat) : Str := ((cmdAt ls s).map Cmd.word).getD ""
def cntW (ls : List (List Cmd)) (z : Str) : Nat := ((spotsOf ls).map (wordAt ls)).countP fun y => decide (y = z)
def rowW (z : Str) (row : List Cmd) : Nat := row.countP fun c => decide (c.word = z)
theorem map_places (row : List Cmd) : (List.range row.length).map (fun k => (row[k]?.map Cmd.word).getD "") = row.map Cmd.word := by
  have h := places_map (fun _ => true) Cmd.word "" row
  rw [List.filter_eq_self.mpr (fun _ _ => rfl)] at h
  rw [← h, List.filter_eq_self.mpr]
  intro k hk
  rw [List.getElem?_eq_getElem (List.mem_range.mp hk)]
  rfl
theorem cntW_sum (ls : List (List Cmd)) (z : Str) : cntW ls z = (ls.map (rowW z)).sum := by
  unfold cntW spotsOf
  rw [List.countP_map, List.countP_flatMap]
  have e : ls.zipIdx.map ((List.countP ((fun y => decide (y = z)) ∘ wordAt ls)) ∘ fun p : List Cmd × Nat => (List.range p.1.length).map fun n => (p.2, n)) = (ls.zipIdx.map Prod.fst).map (rowW z) := by
    rw [List.map_map]
    refine List.map_congr_left fun p hp => ?_
    obtain ⟨i, hi⟩ := List.getElem?_of_mem hp
    obtain ⟨row, l⟩ := p
    obtain ⟨h1, rfl⟩ := zipIdx_get hi
    show List.countP _ ((List.range row.length).map fun n => (l, n)) = rowW z row
    rw [List.countP_map]
    have e2 : List.countP (((fun y => decide (y = z)) ∘ wordAt ls) ∘ fun n => (l, n)) (List.range row.length) = List.countP (fun y => decide (y = z)) ((List.range row.length).map fun k => (row[k]?.map Cmd.word).getD "") := by
      rw [List.countP_map]
      congr 1
      funext k
      show decide (wordAt ls (l, k) = z) = decide ((row[k]?.map Cmd.word).getD "" = z)
      unfold wordAt cmdAt
      rw [h1]
      rfl
    rw [e2, map_places, List.countP_map]
    rfl
  rw [e, List.zipIdx_map_fst]
theorem sum_setM {m : List Cmd → Nat} (hm : ∀ a b, m (a ++ b) = m a + m b) : ∀ {ls : List (List Cmd)} {k : Nat} {old b : List Cmd}, ls[k]? = some old → ((ls.set k (old ++ b)).map m).sum = (ls.map m).sum + m b
  | [], k, old, b, h => by simp at h
  | r :: ls, 0, old, b, h => by
    have e : r = old := Option.some.inj (by simpa using h)
    subst e
    simp only [List.set_cons_zero, List.map_cons, List.sum_cons, hm]
    omega
  | r :: ls, k + 1, old, b, h => by
    have := sum_setM hm (ls := ls) (k := k) (old := old) (b := b) (by simpa using h)
    simp only [List.set_cons_succ, List.map_cons, List.sum_cons, this]
    omega
theorem rowW_app (z : Str) (a b : List Cmd) : rowW z (a ++ b) = rowW z a + rowW z b := List.countP_append
theorem plain_word {c : Cmd} (h : c.plain = true) : c.word ≠ "wait" ∧ c.word ≠ "set" := by
  cases c with
  | put _ _ => exact ⟨show ("put" : Str) ≠ "wait" by decide +kernel, show ("put" : Str) ≠ "set" by decide +kernel⟩
  | copy _ _ => exact ⟨show ("copy" : Str) ≠ "wait" by decide +kernel, show ("copy" : Str) ≠ "set" by decide +kernel⟩
  | reckon _ _ _ => exact ⟨show ("reckon" : Str) ≠ "wait" by decide +kernel, show ("reckon" : Str) ≠ "set" by decide +kernel⟩
  | look _ => exact ⟨show ("look" : Str) ≠ "wait" by decide +kernel, show ("look" : Str) ≠ "set" by decide +kernel⟩
  | shw _ => exact ⟨show ("show" : Str) ≠ "wait" by decide +kernel, show ("show" : Str) ≠ "set" by decide +kernel⟩
  | wait _ _ => cases h
  | set _ _ => cases h
theorem blkW {pre : Str} {rs : List Row} {S : List (Nat × Nat)} {o : List Nat} {i lane : Nat} {c : Cmd} (hc : c.plain = true) : rowW "wait" (blk pre rs S o i c lane) = o.length ∧ rowW "set" (blk pre rs S o i c lane) = if fronts S i = true then 1 else 0 := by
  obtain ⟨h1, h2⟩ := plain_word hc
  have a1 : rowW "wait" (o.map fun one => Cmd.wait (fname pre (laneOf rs one)) (numOf rs S one : Nat)) = o.length := by
    unfold rowW
    rw [List.countP_eq_length.mpr, List.length_map]
    intro x hx
    obtain ⟨u, _, rfl⟩ := List.mem_map.mp hx
    exact decide_eq_true rfl
  have a2 : rowW "set" (o.map fun one => Cmd.wait (fname pre (laneOf rs one)) (numOf rs S one : Nat)) = 0 := by
    unfold rowW
    refine List.countP_eq_zero.mpr fun x hx => ?_
    obtain ⟨u, _, rfl⟩ := List.mem_map.mp hx
    exact fun z => absurd (show ("wait" : Str) = "set" from of_decide_eq_true z) (by decide +kernel)
  unfold blk
  rw [rowW_app, rowW_app, a1, a2]
  cases hf : fronts S i with
  | true =>
    rw [if_pos rfl, if_pos rfl]
    unfold rowW
    rw [List.countP_cons, List.countP_cons, List.countP_cons, List.countP_cons, decide_eq_false h1, decide_eq_false h2, List.countP_nil, List.countP_nil, decide_eq_false (show ¬ (Cmd.set (fname pre lane) 1).word = "wait" from show ¬ ("set" : Str) = "wait" by decide +kernel), decide_eq_true (show (Cmd.set (fname pre lane) 1).word = "set" from rfl)]
    exact ⟨rfl, rfl⟩
  | false =>
    rw [if_neg (by decide), if_neg (by decide)]
    unfold rowW
    rw [List.countP_cons, List.countP_cons, decide_eq_false h1, decide_eq_false h2, List.countP_nil, List.countP_nil]
    exact ⟨rfl, rfl⟩
theorem build_cnt {pre : Str} {rs : List Row} {S : List (Nat × Nat)} {i : Nat} {ls : List (List Cmd)} (hp : ∀ r ∈ rs, r.2.plain = true) (h : Build pre rs S i ls) :
    (ls.map (rowW "wait")).sum = (S.filter fun s => decide (s.2 < i)).length ∧ (ls.map (rowW "set")).sum = ((List.range i).filter (fronts S)).length := by
  induction h with
  | nil =>
    have z : ∀ w n, ((List.replicate n ([] : List Cmd)).map (rowW w)).sum = 0 := fun w n => by
      induction n with
      | zero => rfl
      | succ n ih => rw [List.replicate_succ, List.map_cons, List.sum_cons, ih]; rfl
    refine ⟨?_, by rw [z]; rfl⟩
    rw [z, List.filter_eq_nil_iff.mpr (fun s _ => by simp)]
    rfl
  | @row i ls r o old b hr ho hperm ih =>
    obtain ⟨b1, b2⟩ := blkW (pre := pre) (rs := rs) (S := S) (o := o) (i := i) (lane := r.1) (hp r (List.mem_of_getElem? hr))
    rw [sum_setM (rowW_app "wait") ho, sum_setM (rowW_app "set") ho, ih.1, ih.2, b1, b2]
    have hl := hperm.length_eq
    rw [List.length_map] at hl
    refine ⟨by rw [cnt_succ, hl], ?_⟩
    rw [List.range_succ, List.filter_append, List.length_append, List.filter_cons, List.filter_nil]
    congr 1
    split <;> rfl
theorem counts {pre : Str} {rs : List Row} {S : List (Nat × Nat)} {ls : List (List Cmd)} (hp : ∀ r ∈ rs, r.2.plain = true) (hs : ∀ s ∈ S, s.1 < s.2 ∧ s.2 < rs.length) (h : Build pre rs S rs.length ls) :
    cntW ls "wait" = S.length ∧ cntW ls "set" = ((List.range rs.length).filter (fronts S)).length := by
  obtain ⟨h1, h2⟩ := build_cnt hp h
  rw [cntW_sum, cntW_sum, h1, h2]
  refine ⟨?_, rfl⟩
  rw [List.filter_eq_self.mpr]
  exact fun s hs' => decide_eq_true (hs s hs').2
end Fl
set_option maxHeartbeats 4000000
namespace Fl
open PySem PySem.Spec PyProof.Rows L2 Evl
theorem sc_law_order : FnScope ["_law_made", "_law_sites", "_law_found", "_law_hind", "_law_some", "_law_front"] ["_law_made", "_law_sites"] (defScope s_law_order) := ⟨rfl, rfl, rfl, by decide +kernel, rfl, by decide +kernel, by decide +kernel⟩
theorem sc_law_counted : FnScope ["_law_made", "_law_words", "_law_where"] ["_law_made"] (defScope s_law_counted) := ⟨rfl, rfl, rfl, by decide +kernel, rfl, by decide +kernel, by decide +kernel⟩
theorem sc_law_gone_through : FnScope ["_law_halls_here", "_law_rows_here", "_law_pairs_here", "_law_found", "_law_mask", "_law_some", "_law_made", "_law_sites", "_law_k"] ["_law_halls_here", "_law_rows_here", "_law_pairs_here"] (defScope s_law_gone_through) := ⟨rfl, rfl, rfl, by decide +kernel, rfl, by decide +kernel, by decide +kernel⟩
noncomputable def ordL (ls : List (List Cmd)) (st : List Sp2) : List (Nat × Nat) := (List.range st.length).flatMap fun h => (((List.range h).filter fun f => !decide ((siteAt st f).1 = (siteAt st h).1)).filter fun f => rchB ls (siteAt st f) (siteAt st h)).map fun f => (f, h)
abbrev cntD (ls : List (List Cmd)) : D := .tup [.int (cntW ls "wait" : Nat), .int (cntW ls "set" : Nat)]
section
variable {X : Cx}
theorem count_eqU {z : Str} : ∀ {ys : List Str} {us : List Value}, Vals (ys.map V.str) us → us.countP (eqU (.str z)) = ys.countP fun y => decide (y = z)
  | [], _, .nil => rfl
  | y :: ys, u :: us, .cons r t => by
    rw [List.countP_cons, List.countP_cons, count_eqU t, eqU_of r rfl]
    have e : eqV (V.str y) (V.str z) = decide (y = z) := by
      have e1 : eqV (V.str y) (V.str z) = (y == z) := rfl
      rw [e1, Bool.eq_iff_iff, beq_iff_eq, decide_eq_true_iff]
    rw [e]
theorem mt_lcountS : MtR X "list.count" (fun x xs H Q => ∃ (p : Addr) (ys : List Str) (z : Str), x = .ref p ∧ xs = [.str z] ∧ SqL X.K H p (ys.map V.str) ∧ Q (.int ((ys.countP fun y => decide (y = z) : Nat) : Int)) H) := by
  intro pins s σ H x xs v us Q I rx rxs h
  obtain ⟨p, ys, z, rfl, rfl, hs, q⟩ := h
  cases rx
  obtain ⟨u, rfl, ru⟩ := rxs.one
  have ru0 := ru
  obtain ⟨t, rfl⟩ := ru
  obtain ⟨its, rv, ⟨⟨cls, dd, data, sl⟩, n, ho, hc, hdn, hd⟩, hlen⟩ := I.list hs
  simp only at hc hd
  subst hc hd
  refine call_meets PySem.F.slot_list_count ⟨_, ho, rfl⟩ PySem.F.entry_list_count (PySem.F.args_list_count_2 _ _)
    (SeqAt.list_countAt p its.toArray n dd sl (.str z t) (eqU (.str z))) ⟨ho, fun y hy => mem_eqAt ru0 rfl rv flat_strs y (by simpa using hy), ?_⟩
  have ec : its.toArray.toList.countP (eqU (.str z)) = ys.countP fun y => decide (y = z) := count_eqU rv
  refine ⟨.int ((ys.countP fun y => decide (y = z) : Nat) : Int), H, I.tok _, ⟨s.toks, ?_⟩, q⟩
  show Value.int ((its.toArray.toList.countP (eqU (.str z)) : Nat) : Int) s.toks = Value.int ((ys.countP fun y => decide (y = z) : Nat) : Int) s.toks
  rw [ec]
end
section
variable {P : Program} {w : World} {K : PySem.W.Frag} {mg : Str → Option Value} {base : Heap} {C : Addr} {σ : L2.St} {H : Hp} {te to ti : TE} {E : Ends} {tz : TS} {ts : TA}
theorem ed_count {ys : List Str} {z : Str} (ho : Ed C to σ H (.lst (ys.map D.str))) (hz : Ed C te σ H (.str z)) : Ed C (tBM K "list" (rM P w K "list.count") to (tCons te tNil)) σ H (.int ((ys.countP fun y => decide (y = z) : Nat) : Int)) := fun H1 e Q q =>
  ho H1 e _ fun v H2 e2 ⟨p, xs, ev, hp, rx⟩ => by
    have ex := rx.strs
    subst ex
    subst ev
    exact ⟨.inl ⟨rfl, _, sq_of hp⟩, hz H2 (e.trans e2) _ fun u H3 e3 r3 => ⟨_, fun X g => g.K ▸ mt_lcountS, p, ys, z, rfl, by rw [show u = V.str z from r3], sq_of (e3 _ _ hp), q _ H3 (e2.trans e3) rfl⟩⟩
structure OrA where
  hs : List Hall
  ls : List (List Cmd)
  st : List Sp2
abbrev OrA.args (a : OrA) : List D := [bookD (a.hs, a.ls), .lst (a.st.map spotD)]
structure OrA.ok (a : OrA) : Prop where
  few : Few a.ls
  n5 : a.st.length ≤ 5
  at_ : ∀ s ∈ a.st, s ∈ spotsOf a.ls
noncomputable abbrev spOrder (C : Addr) : Sp := spF C OrA.args OrA.ok fun a => .lst ((ordL a.ls a.st).map spotD)
theorem site_at {st : List Sp2} {i : Nat} {t1 t2 : TE} (h1 : Ed C t1 σ H (.lst (st.map spotD))) (h2 : Ed C t2 σ H (.int (i : Nat))) (hi : i < st.length) : Ed C (tOp (rI_ P w K) t1 t2) σ H (spotD (siteAt st i)) := by
  refine ed_op h1 h2 (o_ixl (atI_nat (j := i) ?_))
  rw [List.getElem?_map, List.getElem?_eq_getElem hi]
  show some (spotD st[i]) = some (spotD (st[i]?.getD (0, 0)))
  rw [List.getElem?_eq_getElem hi]
  rfl
theorem c_law_order (T : TF w K mg) (c_ahead : Callee P w K mg base "ahead" 6 ["book", "one", "other"] (spAhd (CB K))) : Callee P w K mg base "_law_order" 7 ["_law_made", "_law_sites"] (spOrder (CB K)) := by
  obtain ⟨fd, F⟩ := T.d_law_order
  refine callee_of F (F.ok sc_law_order (spA_len fun _ => rfl) fun cdv A outer s H vs Q E hr h => ?_) T.g_law_order fun _ _ _ _ _ _ us hl => match us, hl with | [_, _], _ => rfl
  obtain ⟨a, r, hp, q⟩ := h
  have g : Good P w K (L2.Cx.nox (cxOf CX0 P w K mg base ["_law_made", "_law_sites", "_law_found", "_law_hind", "_law_some", "_law_front"] "_law_order" (defScope s_law_order) (He.ga K "_law_order") cdv A outer s H E)) := ⟨rfl, rfl, rfl, rfl, hu_un hr⟩
  have hu := hu_of hr
  refine ⟨_, PSs.nox (pss_cons (ps_set (i := 2) sc_law_order.nd rfl (Or.inl rfl) (pe_lst pa_nil))
      (pss_cons (ps_for PassesOwn.never g.calm (pi_range1 (by rfl) T.f_range (pa_cons (pe_callB (c_b g) (by rfl) T.f_len bt_len (pa_cons (pv 1) pa_nil)) pa_nil)) (pg_name (i := 3) sc_law_order.nd rfl (Or.inr rfl)) (pss_cons (ps_setLc (i := 4) (own := [("_law_front", 5)]) g.calm sc_law_order.nd rfl rfl (sw_true rfl rfl rfl (by decide +kernel)) (pi_range1 (by rfl) T.f_range (pa_cons (pv 3) pa_nil)) (blkOk_by (by kernel_rfl)) (fun _ _ _ _ _ => (pg_name (i := 5) sc_law_order.nd rfl (Or.inl rfl))) (fun _ _ _ _ _ => (pts_one (pt_cmpR (op_b g.b) (pe_ix (ix_b g.b) (pe_ix (ix_b g.b) (pv 1) (pv 5) (fun _ _ => rfl)) pe_int (fun _ _ => rfl)) (pe_ix (ix_b g.b) (pe_ix (ix_b g.b) (pv 1) (pv 3) (fun _ _ => rfl)) pe_int (fun _ _ => rfl)) (nomark _)))) (fun _ _ _ _ _ => (pv 5)))
      (pss_one (ps_expr (pe_bm PySem.F.plainAttrs_list PySem.F.slot_list_extend PySem.F.type_list_extend (mt_b g) (pv 2) (pa_cons (pe_lc (own := [("_law_front", 5)]) g.calm sc_law_order.nd (pi_b g (pv 4)) (blkOk_by (by kernel_rfl)) (fun _ _ _ _ _ => (pg_name (i := 5) sc_law_order.nd rfl (Or.inl rfl))) (fun _ _ _ _ _ => (pts_one (pt_val (pe_c c_ahead (hr.mono (by decide)) (by rfl) pass0 (pa_cons (pv 0) (pa_cons (pe_ix (ix_b g.b) (pv 1) (pv 5) (fun _ _ => rfl)) (pa_cons (pe_ix (ix_b g.b) (pv 1) (pv 3) (fun _ _ => rfl)) pa_nil))))))) (fun _ _ _ _ _ => (pe_tup (pa_cons (pv 5) (pa_cons (pv 3) pa_nil))))) pa_nil))))))
      (pss_one (ps_ret (pv 2))))), ?_⟩
  obtain ⟨v, u, rfl, r1, r2⟩ := r.two
  obtain ⟨hs, ls, st⟩ := a
  obtain ⟨p1, p2, p3⟩ := hp
  replace p1 : Few ls := p1
  replace p2 : st.length ≤ 5 := p2
  replace p3 : ∀ s ∈ st, s ∈ spotsOf ls := p3
  replace r1 : Rp (CB K) H v (bookD (hs, ls)) := r1
  replace r2 : Rp (CB K) H u (.lst (st.map spotD)) := r2
  have hin : ∀ i, i < st.length → siteAt st i ∈ spotsOf ls := fun i hi => by
    unfold siteAt
    rw [List.getElem?_eq_getElem hi]
    exact p3 _ (List.getElem_mem _)
  refine q_lnew (C := CB K) ea0 fun L vs0 H1 e1 rl0 hL => ?_
  obtain rfl := rl0.nil
  have eL : Ex H1 (upd H1 L (.lst [])) := Ex.new hL
  have hLH : H L = none := fresh_back e1 hL
  refine qs_for0 (xs := List.range st.length) (F := fun i => D.int (i : Nat)) (ei_rangeN (ea1 (Ed.is (ed_cb (ea1 (ed_var rfl (r2.ex (e1.trans eL))) ea0) k_lenl) (by rw [List.length_map])) ea0) (by omega)) (fun _ _ => rfl) fun H3 e3 => ?_
  refine ⟨fun i σ' H' => (∃ u3 u4 u5, σ' = [some v, some u, some (.ref L), u3, u4, u5]) ∧ Tx H3 H' ∧ Ex H H' ∧ ∃ vs : List V, H' L = some (.lst vs) ∧ vs.length ≤ 10 * i ∧ RpL (CB K) H' vs ((((List.range st.length).take i).flatMap fun h => (((List.range h).filter fun f => !decide ((siteAt st f).1 = (siteAt st h).1)).filter fun f => rchB ls (siteAt st f) (siteAt st h)).map fun f => (f, h)).map spotD),
    ⟨⟨_, _, _, rfl⟩, Tx.refl _, e1.trans (eL.trans e3), [], e3 _ _ upd_same, Nat.le_refl _, True.intro⟩, fun i σ' H' p => p.2.1, ?_, ?_⟩
  · rintro i h x σ' H' H'' hi ⟨⟨u3, u4, u5, rfl⟩, t1, t2, vs, hLs, hvl, rvs⟩ e4 r4
    have hhi : h = i ∧ h < st.length := by
      have h1 := (List.getElem?_eq_some_iff.mp hi).1
      rw [List.length_range] at h1
      rw [List.getElem?_range h1] at hi
      have : i = h := Option.some.inj hi
      omega
    obtain ⟨rfl, hh⟩ := hhi
    have e04 := t2.trans e4
    have hfl : ((List.range h).filter fun f => !decide ((siteAt st f).1 = (siteAt st h).1)).length ≤ 5 := by
      have := List.length_filter_le (fun f => !decide ((siteAt st f).1 = (siteAt st h).1)) (List.range h)
      rw [List.length_range] at this
      omega
    refine qd_asg (C := CB K) (d := .lst (((List.range h).filter fun f => !decide ((siteAt st f).1 = (siteAt st h).1)).map fun f => .int (f : Nat))) (ed_lc (C := CB K) (xs := List.range h) (F := fun f => D.int (f : Nat)) (fun f => !decide ((siteAt st f).1 = (siteAt st h).1)) (fun f => .int (f : Nat)) (ei_rangeN (ea1 (ed_var rfl r4) ea0) (by omega)) (by rw [List.length_range]; omega) (fun _ _ _ => rfl) ?_) fun vS H5 e5 rS => ?_
    · intro n f y H5 hn e5 r5 k q'
      have hf : f < h := List.mem_range.mp (List.mem_of_getElem? hn)
      refine q' _ rfl (et_is (et_cmp (ed_op (ed_op (site_at (ed_var rfl (r2.ex (e04.trans e5))) (ed_var rfl r5) (by omega)) ed_int (o_ixt at0)) (ed_op (site_at (ed_var rfl (r2.ex (e04.trans e5))) (ed_var rfl (r4.ex e5)) hh) ed_int (o_ixt at0)) o_nei)) ?_) fun _ => ed_var rfl r5
      exact congrArg Bool.not (decide_eq_decide.mpr ⟨fun h => by omega, fun h => by omega⟩)
    have e05 := e04.trans e5
    refine q_extend (C := CB K) (φ := fun ds => ds = ((((List.range h).filter fun f => !decide ((siteAt st f).1 = (siteAt st h).1)).filter fun f => rchB ls (siteAt st f) (siteAt st h)).map fun f => spotD (f, h))) (ev_var rfl) (EvP.imp (ed_lc (C := CB K) (xs := (List.range h).filter fun f => !decide ((siteAt st f).1 = (siteAt st h).1)) (F := fun f => D.int (f : Nat)) (fun f => rchB ls (siteAt st f) (siteAt st h)) (fun f => spotD (f, h)) (ei_lst (ed_var rfl rS)) (by omega) (fun _ _ _ => rfl) ?_) fun v H5 _ r => ⟨_, rfl, r⟩) ((e4.trans e5) _ _ hLs) (by omega) (fun ds hd => by
      rw [hd, List.length_map]
      have := List.length_filter_le (fun f => rchB ls (siteAt st f) (siteAt st h)) ((List.range h).filter fun f => !decide ((siteAt st f).1 = (siteAt st h).1))
      omega) fun us ds H6 hds e6 ru => ?_
    · intro n f y H6 hn e6 r6 k q'
      have hf : f < h := List.mem_range.mp (List.mem_filter.mp (List.mem_of_getElem? hn)).1
      have e06 := e05.trans e6
      have r4' : Rp (CB K) H6 x (.int (h : Nat)) := r4.ex (e5.trans e6)
      exact q' _ rfl (et_val (ed_call (AhA.mk hs ls (siteAt st f) (siteAt st h)) (ea1 (ed_var rfl (r1.ex e06)) (ea1 (site_at (ed_var rfl (r2.ex e06)) (ed_var rfl r6) (by omega)) (ea1 (site_at (ed_var rfl (r2.ex e06)) (ed_var rfl r4') hh) ea0))) ⟨p1, hin f (by omega), hin h hh⟩)) fun _ => ed_tup (ea1 (ed_var rfl r6) (ea1 (ed_var rfl r4') ea0))
    · subst hds
      have hL6 := (e4.trans (e5.trans e6)) _ _ hLs
      have t6 : Tx H6 (upd H6 L (.lst (vs ++ us))) := Tx.lst hL6
      refine ⟨⟨_, _, _, rfl⟩, t1.trans ((Tx.ex (e4.trans (e5.trans e6))).trans t6), Ex.mut (e05.trans e6) hLH, _, upd_same, ?_, ?_⟩
      · have := List.length_filter_le (fun f => rchB ls (siteAt st f) (siteAt st h)) ((List.range h).filter fun f => !decide ((siteAt st f).1 = (siteAt st h).1))
        rw [List.length_append, ru.length, List.length_map]
        omega
      · rw [take_item hi, List.flatMap_append, List.map_append]
        refine RpL.fz t6 (fzL_append (fzL_map fun _ _ => rfl) (fzL_map fun _ _ => rfl)) ((rvs.ex (e4.trans (e5.trans e6))).append ?_)
        rw [List.flatMap_cons, List.flatMap_nil, List.append_nil, List.map_map]
        exact ru
  · rintro σ' H' ⟨⟨u3, u4, u5, rfl⟩, t1, t2, vs, hLs, hvl, rvs⟩
    rw [List.take_length] at rvs
    exact ⟨_, rfl, q (.lst ((ordL ls st).map spotD)) (.ref L) H' rfl t2 ⟨L, vs, rfl, hLs, rvs⟩ fun _ b eb => by
      cases eb
      exact hLH⟩
abbrev spCounted (C : Addr) : Sp := spF C (fun p : List Hall × List (List Cmd) => [bookD p]) (fun p => Few p.2) fun p => cntD p.2
theorem c_law_counted (T : TF w K mg) (c_Book_spots : CalleeM P w K mg base (He.ma K (CB K) "spots") 1 ["self"] (spSpots (CB K))) (c_Book_command : CalleeM P w K mg base (He.ma K (CB K) "command") 5 ["self", "spot"] (spComm (CB K))) : Callee P w K mg base "_law_counted" 6 ["_law_made"] (spCounted (CB K)) := by
  obtain ⟨fd, F⟩ := T.d_law_counted
  refine callee_of F (F.ok sc_law_counted (spA_len fun _ => rfl) fun cdv A outer s H vs Q E hr h => ?_) T.g_law_counted fun _ _ _ _ _ _ us hl => match us, hl with | [_], _ => rfl
  obtain ⟨a, r, hp, q⟩ := h
  have g : Good P w K (L2.Cx.nox (cxOf CX0 P w K mg base ["_law_made", "_law_words", "_law_where"] "_law_counted" (defScope s_law_counted) (He.ga K "_law_counted") cdv A outer s H E)) := ⟨rfl, rfl, rfl, rfl, hu_un hr⟩
  have hu := hu_of hr
  refine ⟨_, PSs.nox (pss_cons (ps_setLc (i := 1) (own := [("_law_where", 2)]) g.calm sc_law_counted.nd rfl rfl (sw_true rfl rfl rfl (by decide +kernel)) (pi_b g (pe_cm0 c_Book_spots T.cls T.m_spots (hr.mono (by decide)) pass0 (pv 0))) (blkOk_by (by kernel_rfl)) (fun _ _ _ _ _ => (pg_name (i := 2) sc_law_counted.nd rfl (Or.inl rfl))) (fun _ _ _ _ _ => pts_nil) (fun _ _ _ _ _ => (pe_ix (ix_b g.b) (pe_cm c_Book_command T.cls T.m_command (hr.mono (by decide)) pass0 (pv 0) (pa_cons (pv 2) pa_nil)) pe_int (fun _ _ => rfl))))
      (pss_one (ps_ret (pe_tup (pa_cons (pe_bm PySem.F.plainAttrs_list PySem.F.slot_list_count PySem.F.type_list_count (mt_b g) (pv 1) (pa_cons pe_str pa_nil)) (pa_cons (pe_bm PySem.F.plainAttrs_list PySem.F.slot_list_count PySem.F.type_list_count (mt_b g) (pv 1) (pa_cons pe_str pa_nil)) pa_nil)))))), ?_⟩
  obtain ⟨v, rfl, r1⟩ := r.one
  obtain ⟨hs, ls⟩ := a
  replace hp : Few ls := hp
  replace r1 : Rp (CB K) H v (bookD (hs, ls)) := r1
  have hsl : (spotsOf ls).length ≤ 60 := by rw [spots_len]; exact hp.tot
  refine qd_asg (C := CB K) (d := .lst (((spotsOf ls).map (wordAt ls)).map D.str)) (Ed.is (ed_map (C := CB K) (xs := spotsOf ls) (F := spotD) (fun s => .str (wordAt ls s)) (ei_tup (ed_meth (hs, ls) (ed_var rfl r1) ea0 rfl hp (by decide))) (by omega) (fun _ _ => rfl) ?_) (by rw [List.map_map]; rfl)) fun vw H1 e1 rw1 => ?_
  · intro i s x H1 hi e1 r5 k q'
    obtain ⟨row, c, hsp⟩ := mem_spots (List.mem_of_getElem? hi)
    have ew : wordAt ls s = c.word := by unfold wordAt; rw [hsp.at_]; rfl
    obtain ⟨ds, ec⟩ := c.tup
    refine q' _ rfl (Ed.is (ed_op (Ed.is (ed_meth (SpotA.mk hs ls s row c) (ed_var rfl (r1.ex e1)) (ea1 (ed_var rfl r5) ea0) rfl hsp (by decide)) ec) ed_int (o_ixt at0)) (congrArg D.str ew.symm))
  · refine ret_of (d := cntD ls) (ed_tup (ea1 (ed_count (ed_var rfl rw1) ed_str) (ea1 (ed_count (ed_var rfl rw1) ed_str) ea0))) rfl (q_ex e1 q) rfl
def selM (PL : List (Nat × Nat)) (m : Nat) : List (Nat × Nat) := ((List.range PL.length).filter fun k => decide (m / 2 ^ k % 2 = 1)).map fun k => PL[k]?.getD (0, 0)
noncomputable def goneL (rs : List Row) (PL : List (Nat × Nat)) : List (List (Nat × Nat)) := ((List.range (2 ^ PL.length)).map (selM PL)).filter fun S => decide (ordL (lsB rs S) (stB rs S) = PL)
theorem sel_mem {PL : List (Nat × Nat)} {m : Nat} : ∀ s ∈ selM PL m, s ∈ PL := fun s hs => by
  obtain ⟨k, hk, rfl⟩ := List.mem_map.mp hs
  have := List.mem_range.mp (List.mem_filter.mp hk).1
  rw [List.getElem?_eq_getElem this]
  exact List.getElem_mem _
theorem sel_len {PL : List (Nat × Nat)} {m : Nat} : (selM PL m).length ≤ PL.length := by
  unfold selM
  rw [List.length_map]
  have := List.length_filter_le (fun k => decide (m / 2 ^ k % 2 = 1)) (List.range PL.length)
  rw [List.length_range] at this
  exact this
theorem spotD_inj {a b : Nat × Nat} (h : spotD a = spotD b) : a = b := by
  injection h with h
  injection h with h1 h2
  injection h2 with h2 _
  have e1 := D.int.inj h1
  have e2 := D.int.inj h2
  exact Prod.ext (by omega) (by omega)
theorem spots_inj : ∀ {a b : List (Nat × Nat)}, a.map spotD = b.map spotD → a = b
  | [], [], _ => rfl
  | x :: a, y :: b, h => by
    rw [List.map_cons, List.map_cons, List.cons.injEq] at h
    rw [spotD_inj h.1, spots_inj h.2]
  | [], y :: b, h => by cases h
  | x :: a, [], h => by cases h
theorem spots_okd (l : List (Nat × Nat)) : (D.lst (l.map spotD)).okd 60 = true := okd_lst (n := 59) fun d hd => by
  obtain ⟨s, _, rfl⟩ := List.mem_map.mp hd
  rfl
structure GoA where
  hs : List Hall
  rs : List Row
  PL : List (Nat × Nat)
abbrev GoA.args (a : GoA) : List D := [hallsD a.hs, scriptD a.rs, .lst (a.PL.map spotD)]
structure GoA.ok (a : GoA) : Prop where
  rows : RowsOk a.hs a.rs
  ne : a.rs ≠ []
  six : a.PL.length ≤ 6
  pairs : ∀ s ∈ a.PL, s.1 < s.2 ∧ s.2 < a.rs.length
theorem sb_of {hs : List Hall} {rs : List Row} {S : List (Nat × Nat)} (h : RowsOk hs rs) (hp : ∀ s ∈ S, s.1 < s.2 ∧ s.2 < rs.length) : Sb rs S := ⟨fun r hr => (h.cmd r hr).2, h.lane, hp⟩
theorem few_of {hs : List Hall} {ls : List (List Cmd)} (h : LanesOk hs ls) : Few ls := ⟨h.few, h.tot⟩
theorem ora_of {hs : List Hall} {rs : List Row} {S : List (Nat × Nat)} (h : RowsOk hs rs) (hp : PairsOk rs S) : OrA.ok ⟨hs, lsB rs S, stB rs S⟩ := by
  refine ⟨few_of ((build_of (S := S) (rs := rs) (Nat.le_refl _)).ok h hp preW), ?_, fun s hs' => ?_⟩
  · show (stB rs S).length ≤ 5
    rw [sites_len (Nat.le_refl _)]
    exact h.few
  · obtain ⟨i, hi⟩ := List.getElem?_of_mem hs'
    have hl := (List.getElem?_eq_some_iff.mp hi).1
    have hl2 : i < rs.length := by rw [← sites_len (S := S) (rs := rs) (Nat.le_refl _)]; exact hl
    have := (site_spot (sb_of h hp.pairs) hl2).1
    unfold siteAt at this
    rw [hi] at this
    exact this
theorem and_one (i : Nat) : Builtin.bitAnd ((i : Nat) : Int) 1 = ((i % 2 : Nat) : Int) := by
  rw [PyProof.Rows.bitAnd_m1]
  push_cast
  rfl
noncomputable abbrev spGone (C : Addr) : Sp := spF C GoA.args GoA.ok fun a => .lst ((goneL a.rs a.PL).map fun S => cntD (lsB a.rs S))
theorem c_law_gone_through (T : TF w K mg) (c_law_fenced_by : Callee P w K mg base "_law_fenced_by" 10 ["_law_halls_here", "_law_rows_here", "_law_pairs_here"] (spBy (CB K))) (c_law_order : Callee P w K mg base "_law_order" 7 ["_law_made", "_law_sites"] (spOrder (CB K))) (c_law_counted : Callee P w K mg base "_law_counted" 6 ["_law_made"] (spCounted (CB K))) :
    Callee P w K mg base "_law_gone_through" 11 ["_law_halls_here", "_law_rows_here", "_law_pairs_here"] (spGone (CB K)) := by
  obtain ⟨fd, F⟩ := T.d_law_gone_through
  refine callee_of F (F.ok sc_law_gone_through (spA_len fun _ => rfl) fun cdv A outer s H vs Q E hr h => ?_) T.g_law_gone_through fun _ _ _ _ _ _ us hl => match us, hl with | [_, _, _], _ => rfl
  obtain ⟨a, r, hp, q⟩ := h
  have g : Good P w K (L2.Cx.nox (cxOf CX0 P w K mg base ["_law_halls_here", "_law_rows_here", "_law_pairs_here", "_law_found", "_law_mask", "_law_some", "_law_made", "_law_sites", "_law_k"] "_law_gone_through" (defScope s_law_gone_through) (He.ga K "_law_gone_through") cdv A outer s H E)) := ⟨rfl, rfl, rfl, rfl, hu_un hr⟩
  have hu := hu_of hr
  refine ⟨_, PSs.nox (pss_cons (ps_set (i := 3) sc_law_gone_through.nd rfl (Or.inl rfl) (pe_lst pa_nil))
      (pss_cons (ps_for PassesOwn.never g.calm (pi_range1 (by rfl) T.f_range (pa_cons (pe_op (op_b g) pe_int (pe_callB (c_b g) (by rfl) T.f_len bt_len (pa_cons (pv 2) pa_nil))) pa_nil)) (pg_name (i := 4) sc_law_gone_through.nd rfl (Or.inr rfl)) (pss_cons (ps_setLc (i := 5) (own := [("_law_k", 8)]) g.calm sc_law_gone_through.nd rfl rfl (sw_true rfl rfl rfl (by decide +kernel)) (pi_range1 (by rfl) T.f_range (pa_cons (pe_callB (c_b g) (by rfl) T.f_len bt_len (pa_cons (pv 2) pa_nil)) pa_nil)) (blkOk_by (by kernel_rfl)) (fun _ _ _ _ _ => (pg_name (i := 8) sc_law_gone_through.nd rfl (Or.inl rfl))) (fun _ _ _ _ _ => (pts_one (pt_cmpR (op_b g.b) (pe_op (op_b g.b) (pe_op (op_b g.b) (pv 4) (pv 8)) pe_int) pe_int (nomark _)))) (fun _ _ _ _ _ => (pe_ix (ix_b g.b) (pv 2) (pv 8) (fun _ _ => rfl))))
      (pss_cons (ps_asg (pe_c c_law_fenced_by (hr.mono (by decide)) (by rfl) pass0 (pa_cons (pv 0) (pa_cons (pv 1) (pa_cons (pv 5) pa_nil)))) (pg_tup rfl (pgs_cons (pg_name (i := 6) sc_law_gone_through.nd rfl (Or.inl rfl)) (pgs_cons (pg_name (i := 7) sc_law_gone_through.nd rfl (Or.inl rfl)) pgs_nil))))
      (pss_one (ps_if (pt_cmpR (op_b g) (pe_c c_law_order (hr.mono (by decide)) (by rfl) pass0 (pa_cons (pv 6) (pa_cons (pv 7) pa_nil))) (pv 2) (nomark _)) (pss_one (ps_expr (pe_bm PySem.F.plainAttrs_list PySem.F.slot_list_append PySem.F.type_list_append (mt_b g) (pv 3) (pa_cons (pe_c c_law_counted (hr.mono (by decide)) (by rfl) pass0 (pa_cons (pv 6) pa_nil)) pa_nil)))) pss_nil)))))
      (pss_one (ps_ret (pv 3))))), ?_⟩
  obtain ⟨v, u, vp, rfl, r1, r2, r3⟩ := r.three
  obtain ⟨hs, rs, PL⟩ := a
  obtain ⟨g1, g2, g3, g4⟩ := hp
  replace g1 : RowsOk hs rs := g1
  replace g2 : rs ≠ [] := g2
  replace g3 : PL.length ≤ 6 := g3
  replace g4 : ∀ s ∈ PL, s.1 < s.2 ∧ s.2 < rs.length := g4
  replace r1 : Rp (CB K) H v (hallsD hs) := r1
  replace r2 : Rp (CB K) H u (scriptD rs) := r2
  replace r3 : Rp (CB K) H vp (.lst (PL.map spotD)) := r3
  have h64 : 2 ^ PL.length ≤ 64 := Nat.le_trans (Nat.pow_le_pow_right (by decide) g3) (by decide)
  have hS : ∀ m, PairsOk rs (selM PL m) := fun m => ⟨Nat.le_trans sel_len (by omega), fun s hs' => g4 s (sel_mem s hs')⟩
  refine q_lnew (C := CB K) ea0 fun L vs0 H1 e1 rl0 hL => ?_
  obtain rfl := rl0.nil
  have eL : Ex H1 (upd H1 L (.lst [])) := Ex.new hL
  have hLH : H L = none := fresh_back e1 hL
  refine qs_for0 (xs := List.range (2 ^ PL.length)) (F := fun i => D.int (i : Nat)) (ei_rangeN (ea1 (Ed.is (ed_op ed_int (ed_cb (ea1 (ed_var rfl (r3.ex (e1.trans eL))) ea0) k_lenl) (o_shl ⟨by omega, by rw [List.length_map]; omega, by decide⟩)) (by
    rw [List.length_map, Int.toNat_natCast, Int.one_mul]
    push_cast
    rfl)) ea0) (by omega)) (fun _ _ => rfl) fun H3 e3 => ?_
  refine ⟨fun i σ' H' => (∃ u4 u5 u6 u7 u8, σ' = [some v, some u, some vp, some (.ref L), u4, u5, u6, u7, u8]) ∧ Tx H3 H' ∧ Ex H H' ∧ ∃ vs : List V, H' L = some (.lst vs) ∧ vs.length ≤ i ∧ RpL (CB K) H' vs (((((List.range (2 ^ PL.length)).take i).map (selM PL)).filter fun S => decide (ordL (lsB rs S) (stB rs S) = PL)).map fun S => cntD (lsB rs S)),
    ⟨⟨_, _, _, _, _, rfl⟩, Tx.refl _, e1.trans (eL.trans e3), [], e3 _ _ upd_same, Nat.le_refl _, True.intro⟩, fun i σ' H' p => p.2.1, ?_, ?_⟩
  · rintro i m x σ' H' H'' hi ⟨⟨u4, u5, u6, u7, u8, rfl⟩, t1, t2, vs, hLs, hvl, rvs⟩ e4 r4
    have hil : i < 64 := by have := (List.getElem?_eq_some_iff.mp hi).1; rw [List.length_range] at this; omega
    obtain rfl : x = V.int (m : Nat) := r4
    have e04 := t2.trans e4
    refine qd_asg (C := CB K) (d := .lst ((selM PL m).map spotD)) (Ed.is (ed_lc (C := CB K) (xs := List.range PL.length) (F := fun i => D.int (i : Nat)) (fun k => decide (m / 2 ^ k % 2 = 1)) (fun k => spotD (PL[k]?.getD (0, 0))) (ei_rangeN (ea1 (Ed.is (ed_cb (ea1 (ed_var rfl (r3.ex e04)) ea0) k_lenl) (by rw [List.length_map])) ea0) (by omega)) (by rw [List.length_range]; omega) (fun _ _ _ => rfl) ?_) (by unfold selM; rw [List.map_map]; rfl)) fun vS H5 e5 rS => ?_
    · intro n k y H5 hn e5 r5 kk q'
      have hk : k < PL.length := List.mem_range.mp (List.mem_of_getElem? hn)
      refine q' _ rfl (et_is (et_cmp (ed_op (Ed.is (ed_op (Ed.is (ed_op (ed_var rfl (show Rp (CB K) H5 (.int (m : Nat)) (.int (m : Nat)) from rfl)) (ed_var rfl r5) (o_shr (by omega))) (congrArg D.int (show ((m : Nat) : Int) / 2 ^ ((k : Nat) : Int).toNat = ((m / 2 ^ k : Nat) : Int) by rw [Int.toNat_natCast]; push_cast; rfl))) ed_int o_and) (congrArg D.int (and_one _))) ed_int o_eqi)) ?_) fun _ => ?_
      · exact decide_eq_decide.mpr ⟨fun h => by omega, fun h => by omega⟩
      · refine ed_op (ed_var rfl (r3.ex (e04.trans e5))) (ed_var rfl r5) (o_ixl (atI_nat (j := k) ?_))
        rw [List.getElem?_map, List.getElem?_eq_getElem hk]
        rfl
    have e05 := e04.trans e5
    refine qd_two (C := CB K) (ed_call (ByA.mk hs rs (selM PL m) (.lst ((selM PL m).map spotD))) (ea1 (ed_var rfl (r1.ex e05)) (ea1 (ed_var rfl (r2.ex e05)) (ea1 (ed_var rfl rS) ea0))) ⟨g1, g2, hS m, .inl rfl⟩) fun vm vs' H6 e6 rm rs' => ?_
    have e06 := e05.trans e6
    have oo := ora_of g1 (hS m)
    refine ql_if (et_cmp (C := CB K) (ed_op (ed_call (OrA.mk hs (lsB rs (selM PL m)) (stB rs (selM PL m))) (ea1 (ed_var rfl rm) (ea1 (ed_var rfl rs') ea0)) oo) (ed_var rfl (r3.ex e06)) (o_eqd (b := decide (ordL (lsB rs (selM PL m)) (stB rs (selM PL m)) = PL)) (by
      rw [decide_eq_true_iff]
      exact ⟨fun h => congrArg (fun l => D.lst (l.map spotD)) h, fun h => spots_inj (D.lst.inj h)⟩) (spots_okd _) (spots_okd _)))) (fun hb H7 e7 => ?_) fun hb H7 e7 => ?_
    · have e07 := e06.trans e7
      have eAll := e4.trans (e5.trans (e6.trans e7))
      refine q_append (C := CB K) (d := cntD (lsB rs (selM PL m))) (ev_var rfl) (ed_call (hs, lsB rs (selM PL m)) (ea1 (ed_var rfl (rm.ex e7)) ea0) oo.few) (eAll _ _ hLs) (by omega) fun vc H8 e8 rc => ?_
      have hL8 := (eAll.trans e8) _ _ hLs
      have t8 : Tx H8 (upd H8 L (.lst (vs ++ [vc]))) := Tx.lst hL8
      refine ⟨⟨_, _, _, _, _, rfl⟩, t1.trans ((Tx.ex (eAll.trans e8)).trans t8), Ex.mut (e07.trans e8) hLH, _, upd_same, by rw [List.length_append]; show vs.length + 1 ≤ i + 1; omega, ?_⟩
      rw [take_item hi, List.map_append, List.filter_append, List.map_append]
      refine RpL.fz t8 (fzL_append (fzL_map fun _ _ => rfl) (fzL_map fun _ _ => rfl)) ((rvs.ex (eAll.trans e8)).append ?_)
      rw [List.map_cons, List.map_nil, List.filter_cons, if_pos hb]
      exact ⟨rc, True.intro⟩
    · have eAll := e4.trans (e5.trans (e6.trans e7))
      refine ⟨⟨_, _, _, _, _, rfl⟩, t1.trans (Tx.ex eAll), e06.trans e7, vs, eAll _ _ hLs, by omega, ?_⟩
      rw [take_item hi, List.map_append, List.filter_append, List.map_append, List.map_cons, List.map_nil, List.filter_cons, if_neg (by rw [hb]; decide), List.filter_nil, List.map_nil, List.append_nil]
      exact rvs.ex eAll
  · rintro σ' H' ⟨⟨u4, u5, u6, u7, u8, rfl⟩, t1, t2, vs, hLs, hvl, rvs⟩
    rw [List.take_length] at rvs
    exact ⟨_, rfl, q (.lst ((goneL rs PL).map fun S => cntD (lsB rs S))) (.ref L) H' rfl t2 ⟨L, vs, rfl, hLs, rvs⟩ fun _ b eb => by
      cases eb
      exact hLH⟩
end
end Fl
set_option maxHeartbeats 4000000
namespace Fl
open PySem PySem.Spec PyProof.Rows L2 Evl
theorem sc_law_rows_ahead : FnScope ["_law_near_here", "_law_rows_here", "_law_found", "_law_at", "_law_track", "_law_deed", "_law_some", "_law_elder_at", "_law_mate", "_law_elder", "_law_older"] ["_law_near_here", "_law_rows_here"] (defScope s_law_rows_ahead) := ⟨rfl, rfl, rfl, by decide +kernel, rfl, by decide +kernel, by decide +kernel⟩
theorem sc_law_pairs : FnScope ["_law_near_here", "_law_rows_here", "_law_early", "_law_found", "_law_hind", "_law_front"] ["_law_near_here", "_law_rows_here"] (defScope s_law_pairs) := ⟨rfl, rfl, rfl, by decide +kernel, rfl, by decide +kernel, by decide +kernel⟩
def keysD (m : List (Key × D)) (ks : List Key) : List (Key × D) := ks.foldl (fun m k => putD m (id k) (D.bl true)) m
theorem keysD_vals : ∀ (ks : List Key) (m : List (Key × D)), (∀ p ∈ m, p.2 = .bl true) → ∀ p ∈ keysD m ks, p.2 = .bl true
  | [], m, hm => hm
  | k :: ks, m, hm => keysD_vals ks _ fun p hp => (putD_mem hp).elim (hm p) id
theorem keysD_snoc {m : List (Key × D)} {ks : List Key} {k : Key} : keysD m (ks ++ [k]) = putD (keysD m ks) k (.bl true) := by
  unfold keysD
  rw [List.foldl_append]
  rfl
theorem lookD_iff {κ : Type} [DecidableEq κ] {m : List (κ × D)} {k : κ} : (lookD m k).isSome = true ↔ k ∈ m.map (·.1) := by rw [lookD_key, decide_eq_true_iff]
structure KN (kvs : List (Key × D)) : Prop where
  nd : (kvs.map (·.1)).Nodup
  nat : ∀ k ∈ kvs.map (·.1), ∃ m : Nat, k = Sum.inl (m : Int)
theorem putD_keys {κ : Type} [DecidableEq κ] {m : List (κ × D)} {k : κ} {d : D} : (putD m k d).map (·.1) = if k ∈ m.map (·.1) then m.map (·.1) else m.map (·.1) ++ [k] := by
  unfold putD
  by_cases h : k ∈ m.map (·.1)
  · have hany : (m.any fun kv => decide (kv.1 = k)) = true := by
      obtain ⟨p, hp, e⟩ := List.mem_map.mp h
      exact List.any_eq_true.mpr ⟨p, hp, decide_eq_true e⟩
    rw [if_pos h, if_pos hany, List.map_map]
    refine List.map_congr_left fun p _ => ?_
    show (if p.1 = k then (k, d) else p).1 = p.1
    split
    · rename_i e; exact e.symm
    · rfl
  · have hany : ¬ (m.any fun kv => decide (kv.1 = k)) = true := fun z => by
      obtain ⟨p, hp, e⟩ := List.any_eq_true.mp z
      exact h (List.mem_map.mpr ⟨p, hp, of_decide_eq_true e⟩)
    rw [if_neg h, if_neg hany, List.map_append]
    rfl
theorem KN.nil : KN [] := ⟨List.nodup_nil, fun _ h => nomatch h⟩
theorem KN.put {kvs : List (Key × D)} {d : D} {k : Key} (h : KN kvs) (hk : ∃ m : Nat, k = Sum.inl (m : Int)) : KN (putD kvs k d) := by
  refine ⟨?_, fun k' hk' => ?_⟩
  · rw [putD_keys]
    split
    · exact h.nd
    · rename_i hn
      exact List.nodup_append.mpr ⟨h.nd, by simp, fun a ha b hb e => hn (by rw [List.mem_singleton.mp hb] at e; exact e ▸ ha)⟩
  · rw [putD_keys] at hk'
    split at hk'
    · exact h.nat k' hk'
    · rcases List.mem_append.mp hk' with g | g
      · exact h.nat k' g
      · rw [List.mem_singleton.mp g]; exact hk
theorem KN.keysD : ∀ {ks : List Key} {m : List (Key × D)}, KN m → (∀ k ∈ ks, ∃ n : Nat, k = Sum.inl (n : Int)) → KN (Fl.keysD m ks)
  | [], m, h, _ => h
  | k :: ks, m, h, g => KN.keysD (ks := ks) (m := putD m (id k) (D.bl true)) (h.put (g k List.mem_cons_self)) fun k' hk' => g k' (List.mem_cons_of_mem _ hk')
theorem KOp.add2 {dir : Nat → Nat → Bool} {i j : Nat} {kvs ks : List (Key × D)} (h : KOp dir i j kvs) (hd : dir j i = true) (g : KO dir j ks) : KOp dir i (j + 1) (keysD (putD kvs (Sum.inl (j : Int)) (.bl true)) (ks.map (·.1))) := by
  refine ⟨keysD_vals _ _ fun p hp => (putD_mem hp).elim (h.vals p) id, fun m => ?_, ?_⟩
  · unfold keysD
    rw [fold_some, lookD_put, List.map_id, Bool.or_eq_true]
    have e2 := g.keys m
    rw [lookD_key] at e2
    rw [e2]
    by_cases e : m = j
    · subst e
      rw [if_pos rfl]
      exact ⟨fun _ => ⟨m, Nat.lt_succ_self m, hd, .inl rfl⟩, fun _ => .inr rfl⟩
    · rw [if_neg (fun z => e (by have := Sum.inl.inj z; omega)), h.keys m]
      constructor
      · rintro (h1 | ⟨k, h1, h2⟩)
        · exact ⟨j, Nat.lt_succ_self j, hd, .inr h1⟩
        · exact ⟨k, Nat.lt_succ_of_lt h1, h2⟩
      · rintro ⟨k, h1, h2, h3⟩
        rcases Nat.lt_succ_iff_lt_or_eq.mp h1 with e' | e'
        · exact .inr ⟨k, e', h2, h3⟩
        · subst e'
          rcases h3 with h3 | h3
          · exact absurd h3 e
          · exact .inl h3
  · have h1 : (keysD (putD kvs (Sum.inl (j : Int)) (.bl true)) (ks.map (·.1))).length ≤ (putD kvs (Sum.inl (j : Int)) (D.bl true)).length + (ks.map (·.1)).length := fold_length
    have h2 := putD_length (m := kvs) (k := (Sum.inl (j : Int) : Key)) (d := D.bl true)
    rw [List.length_map] at h1
    have h4 := h.few
    have h5 := g.few
    rw [Nat.pow_succ]
    omega
theorem q_par2 {σ : L2.St} {H : Hp} {te : TE} {tz : TS} {E : Ends} {i j : Nat} {Φ : V → Hp → Prop} (h : EvP te σ H Φ) (k : ∀ v L H1, Ex H H1 → Φ v H1 → H1 L = none → tz E ((σ.set i (some v)).set j (some (.ref L))) (upd H1 L (.lst []))) :
    tSeq (tPar i j (tCons te (tCons (tLst tNil) tNil))) tz E σ H := h H (Ex.refl H) _ fun v H1 e p => ⟨Nat.zero_le _, fun L hL => ⟨_, _, rfl, k v L H1 e p hL⟩⟩
section
variable {P : Program} {w : World} {K : PySem.W.Frag} {mg : Str → Option Value} {base : Heap}
abbrev rlPre (p : List Hall × List Row) : Prop := HallsOk p.1 ∧ p.2.length ≤ 5 ∧ ∀ r ∈ p.2, r.2.inn p.1 ∧ r.2.plain = true
abbrev rlArgs (p : List Hall × List Row) : List D := [.dk (nearTab p.1), scriptD p.2]
abbrev spLAhead (C : Addr) : Sp := spA C rlArgs rlPre fun p d => ∃ kvss : List (List (Key × D)), d = .lst (kvss.map D.dk) ∧ kvss.length = p.2.length ∧ ∀ k kvs, kvss[k]? = some kvs → KO (dirB p.1 p.2) k kvs ∧ KN kvs
theorem c_law_rows_ahead (T : TF w K mg) (c_law_meets : Callee P w K mg base "_law_meets" 3 ["_law_near_here", "_law_here", "_law_there"] (spMeets (CB K))) : Callee P w K mg base "_law_rows_ahead" 4 ["_law_near_here", "_law_rows_here"] (spLAhead (CB K)) := by
  obtain ⟨fd, F⟩ := T.d_law_rows_ahead
  refine callee_of F (F.ok sc_law_rows_ahead (spA_len fun _ => rfl) fun cdv A outer s H vs Q E hr h => ?_) T.g_law_rows_ahead fun _ _ _ _ _ _ us hl => match us, hl with | [_, _], _ => rfl
  obtain ⟨a, r, hp, q⟩ := h
  have g : Good P w K (L2.Cx.nox (cxOf CX0 P w K mg base ["_law_near_here", "_law_rows_here", "_law_found", "_law_at", "_law_track", "_law_deed", "_law_some", "_law_elder_at", "_law_mate", "_law_elder", "_law_older"] "_law_rows_ahead" (defScope s_law_rows_ahead) (He.ga K "_law_rows_ahead") cdv A outer s H E)) := ⟨rfl, rfl, rfl, rfl, hu_un hr⟩
  have hu := hu_of hr
  refine ⟨_, PSs.nox (pss_cons (ps_set (i := 2) sc_law_rows_ahead.nd rfl (Or.inl rfl) (pe_lst pa_nil))
      (pss_cons (ps_for PassesOwn.never g.calm (pi_enumT (by rfl) T.f_enumerate (pa_cons (pv 1) pa_nil)) (pg_tup rfl (pgs_cons (pg_name (i := 3) sc_law_rows_ahead.nd rfl (Or.inl rfl)) (pgs_cons (pg_tup rfl (pgs_cons (pg_name (i := 4) sc_law_rows_ahead.nd rfl (Or.inl rfl)) (pgs_cons (pg_name (i := 5) sc_law_rows_ahead.nd rfl (Or.inl rfl)) pgs_nil))) pgs_nil))) (pss_cons (ps_set (i := 6) sc_law_rows_ahead.nd rfl (Or.inl rfl) pe_dnewK)
      (pss_cons (ps_for PassesOwn.never g.calm (pi_enumT (by rfl) T.f_enumerate (pa_cons (pe_slice (sl_b g) (pv 1) po_none (po_some (pv 3))) pa_nil)) (pg_tup rfl (pgs_cons (pg_name (i := 7) sc_law_rows_ahead.nd rfl (Or.inl rfl)) (pgs_cons (pg_tup rfl (pgs_cons (pg_name (i := 8) sc_law_rows_ahead.nd rfl (Or.inl rfl)) (pgs_cons (pg_name (i := 9) sc_law_rows_ahead.nd rfl (Or.inl rfl)) pgs_nil))) pgs_nil))) (pss_one (ps_if (PW.pt (pw_or (pt_cmpR (op_b g) (pv 8) (pv 4) (nomark _)) (pw_or1 (pt_cmpR (op_b g) (pe_c c_law_meets (hr.mono (by decide)) (by rfl) pass0 (pa_cons (pv 0) (pa_cons (pv 9) (pa_cons (pv 5) pa_nil)))) pe_str (nomark _))))) (pss_cons (ps_asg pe_bl (pg_sub (pv 6) (pv 7) (set_b g)))
      (pss_one (ps_lock (ps_for PassesOwn.never g.calm (pi_keys (pe_ix (ix_b g) (pv 2) (pv 7) (fun _ _ => rfl))) (pg_name (i := 10) sc_law_rows_ahead.nd rfl (Or.inl rfl)) (pss_one (ps_asg pe_bl (pg_sub (pv 6) (pv 10) (set_b g)))))))) pss_nil)))
      (pss_one (ps_expr (pe_bm PySem.F.plainAttrs_list PySem.F.slot_list_append PySem.F.type_list_append (mt_b g) (pv 2) (pa_cons (pv 6) pa_nil)))))))
      (pss_one (ps_ret (pv 2))))), ?_⟩
  obtain ⟨v, u, rfl, r1, r2⟩ := r.two
  obtain ⟨hs, rs⟩ := a
  obtain ⟨p1, p2, p3⟩ := (show HallsOk hs ∧ rs.length ≤ 5 ∧ ∀ r ∈ rs, r.2.inn hs ∧ r.2.plain = true from hp)
  replace r1 : Rp (CB K) H v (.dk (nearTab hs)) := r1
  replace r2 : Rp (CB K) H u (scriptD rs) := r2
  refine q_lnew (C := CB K) ea0 fun L vs0 H2 e2 rl0 hL => ?_
  have ev0 : vs0 = [] := rl0.nil
  subst ev0
  have eL : Ex H2 (upd H2 L (.lst [])) := Ex.new hL
  refine qs_for0 (xs := rs.zipIdx) (F := fun p => D.tup [.int (p.2 : Nat), rowD p.1]) (ei_enumTM (ed_var rfl (r2.ex (e2.trans eL)))) (fun p _ => by
    show (true && ((rowD p.1).fz && true)) = true
    rw [rowD_fz]
    rfl) fun H3 e3 => ?_
  refine ⟨fun i σ' H' => (∃ u4 u5 u6 u7 u8 u9 u10 u11, σ' = [some v, some u, some (.ref L), u4, u5, u6, u7, u8, u9, u10, u11]) ∧ Tx H3 H' ∧ Ex H2 H' ∧ ∃ (vs : List V) (kvss : List (List (Key × D))), H' L = some (.lst vs) ∧ RpL (CB K) H' vs (kvss.map D.dk) ∧ kvss.length = i ∧ ∀ k kvs, kvss[k]? = some kvs → KO (dirB hs rs) k kvs ∧ KN kvs,
    ⟨⟨_, _, _, _, _, _, _, _, rfl⟩, Tx.refl _, eL.trans e3, [], [], e3 _ _ upd_same, True.intro, rfl, fun k kvs h => (nomatch h)⟩, fun i σ' H' p => p.2.1, ?_, ?_⟩
  · rintro i ⟨⟨lane, cmd⟩, k0⟩ x σ' H' H'' hi ⟨⟨u4, u5, u6, u7, u8, u9, u10, u11, rfl⟩, t1, t2, vs, kvss, hLs, rvs, hlen, hko⟩ e4 r4
    obtain ⟨hi', rfl⟩ := zipIdx_get hi
    have hil : k0 < rs.length := (List.getElem?_eq_some_iff.mp hi').1
    have hm : (lane, cmd) ∈ rs := List.mem_of_getElem? hi'
    refine g_nest r4 fun v1 v2 v3 q1 q2 q3 => ?_
    refine q_dnew fun d hd => ?_
    have hLd : L ≠ d := fun z => by
      subst z
      rw [e4 _ _ hLs] at hd
      cases hd
    have eD : Ex H'' (upd H'' d (.dK [])) := Ex.new hd
    have e2D : Ex H2 (upd H'' d (.dK [])) := (t2.trans e4).trans eD
    have ru : Rp (CB K) (upd H'' d (.dK [])) u (scriptD rs) := r2.ex (e2.trans e2D)
    refine qs_for0 (xs := (rs.take k0).zipIdx) (F := fun p => D.tup [.int (p.2 : Nat), rowD p.1]) (ei_enumTM (ed_slTM (ed_var rfl ru) (ed_var rfl (q1.ex eD)) (Nat.le_of_lt hil))) (fun p _ => by
      show (true && ((rowD p.1).fz && true)) = true
      rw [rowD_fz]
      rfl) fun H5 e5 => ?_
    have eB : Ex H'' H5 := eD.trans e5
    refine ⟨fun j σ' H' => (∃ u8 u9 u10 u11, σ' = [some v, some u, some (.ref L), some v1, some v2, some v3, some (.ref d), u8, u9, u10, u11]) ∧ Tx H5 H' ∧ Ex H'' H' ∧ ∃ ks kvs, H' d = some (.dK ks) ∧ RK (Rp (CB K) H') ks kvs ∧ KOp (dirB hs rs) k0 j kvs ∧ KN kvs,
      ⟨⟨_, _, _, _, rfl⟩, Tx.refl _, eB, [], [], e5 _ _ upd_same, True.intro, KOp.nil, KN.nil⟩, fun i σ' H' p => p.2.1, ?_, ?_⟩
    · rintro j ⟨⟨track, elder⟩, k1⟩ y σ2 H6 H7 hj ⟨⟨u8, u9, u10, u11, rfl⟩, s1, s2, ks, kvs, s3, s4, s5, s6⟩ e7 r7
      obtain ⟨hj', rfl⟩ := zipIdx_get hj
      have hjk : k1 < k0 := by
        have h1 := (List.getElem?_eq_some_iff.mp hj').1
        rw [List.length_take] at h1
        omega
      have hj2 : rs[k1]? = some (track, elder) := by
        rw [List.getElem?_take, if_pos hjk] at hj'
        exact hj'
      have hm2 : (track, elder) ∈ rs := List.mem_of_getElem? hj2
      have hdir : dirB hs rs k1 k0 = (decide ((track : Int) = (lane : Int)) || clashB hs elder cmd) := by
        unfold dirB
        rw [hj2, hi']
        show (decide (track = lane) || clashB hs elder cmd) = _
        congr 1
        exact decide_eq_decide.mpr ⟨fun h => by rw [h], fun h => by omega⟩
      refine g_nest r7 fun w1 w2 w3 z1 z2 z3 => ?_
      have e27 : Ex H2 H7 := (t2.trans e4).trans (s2.trans e7)
      refine ql_if (et_or (et_cmp (ed_op (ed_var rfl z2) (ed_var rfl (q2.ex (s2.trans e7))) o_eqi)) fun _ => et_cmp (EdX.ed (edx_op1 (edx_call (hs, elder, cmd) (ea1 (ed_var rfl (r1.ex (e2.trans e27))) (ea1 (ed_var rfl z3) (ea1 (ed_var rfl (q3.ex (s2.trans e7))) ea0))) ⟨p1, p3 _ hm2, p3 _ hm⟩) ed_str (fun d hd => by
        obtain ⟨s, rfl, hse⟩ := hd
        exact ⟨.bl (!decide (s = "")), o_nes, congrArg D.bl hse⟩)))) (fun hb H8 e8 => ?_) fun hb H8 e8 => ?_
      · rw [← hdir] at hb
        have e78 := e7.trans e8
        have hd8 := e78 _ _ s3
        have h2few : ∀ n, n ≤ 5 → 2 ^ n ≤ 32 := fun n hn => Nat.le_trans (Nat.pow_le_pow_right (by decide) hn) (by decide)
        refine qs_putK (k := Sum.inl (k1 : Int)) (C := CB K) ed_bl (ev_var rfl) (ed_var rfl (z1.ex e8)) hd8 (by
          rw [s4.length]
          have h1 := s5.few
          have h2 := h2few k1 (by omega)
          omega) fun vb H9 e9 rb => ?_
        have evb : vb = V.bl true := rb
        subst evb
        have e89 := e78.trans e9
        have hd9 := e89 _ _ s3
        have eall : Ex H' H9 := e4.trans (s2.trans e89)
        obtain ⟨kvsE, hkE⟩ : ∃ kvsE, kvss[k1]? = some kvsE := ⟨_, List.getElem?_eq_getElem (by omega)⟩
        obtain ⟨ve, hve, aE, ksE, hae, haE, rkE⟩ := rvs.get (i := k1) (d := .dk kvsE) (by rw [List.getElem?_map, hkE]; rfl)
        subst hae
        obtain ⟨hKO, hKN⟩ := hko k1 kvsE hkE
        have hKNa : KN (keysD (putD kvs (Sum.inl (k1 : Int)) (.bl true)) (kvsE.map (·.1))) := KN.keysD (s6.put ⟨k1, rfl⟩) hKN.nat
        have haE'' : H'' aE = some (.dK ksE) := e4 _ _ haE
        have hne : aE ≠ d := fun z => by
          subst z
          rw [haE''] at hd
          cases hd
        have hLe : L ≠ aE := fun z => by
          subst z
          rw [hLs] at haE
          cases haE
        have haE9 := eall _ _ haE
        have hL9 := eall _ _ hLs
        have t9 : Tx H9 (upd H9 d (.dK (putK ks (Sum.inl (k1 : Int)) (V.bl true)))) := Tx.dk hd9
        have haE10 : (upd H9 d (.dK (putK ks (Sum.inl (k1 : Int)) (V.bl true)))) aE = some (.dK ksE) := by rw [upd_ne hne]; exact haE9
        have hL10 : (upd H9 d (.dK (putK ks (Sum.inl (k1 : Int)) (V.bl true)))) L = some (.lst vs) := by rw [upd_ne hLd]; exact hL9
        have hd10 : (upd H9 d (.dK (putK ks (Sum.inl (k1 : Int)) (V.bl true)))) d = some (.dK (putK ks (Sum.inl (k1 : Int)) (V.bl true))) := upd_same
        have e10 : Ex H'' (upd H9 d (.dK (putK ks (Sum.inl (k1 : Int)) (V.bl true)))) := Ex.mut (s2.trans e89) hd
        have rk10 : RK (Rp (CB K) (upd H9 d (.dK (putK ks (Sum.inl (k1 : Int)) (V.bl true))))) (putK ks (Sum.inl (k1 : Int)) (V.bl true)) (putD kvs (Sum.inl (k1 : Int)) (.bl true)) := RK.put (RK.fz t9 (fun p hp => by rw [s5.vals p hp]; rfl) (s4.imp fun _ _ r => r.ex e89)) rfl
        have w1e : w1 = V.int (k1 : Int) := z1
        subst w1e
        generalize upd H9 d (.dK (putK ks (Sum.inl (k1 : Int)) (V.bl true))) = H10 at t9 haE10 hL10 hd10 e10 rk10
        generalize putK ks (Sum.inl (k1 : Int)) (V.bl true) = ks1 at hd10 rk10
        have hp1v : ∀ p ∈ putD kvs (Sum.inl (k1 : Int)) (D.bl true), p.2 = .bl true := fun p hp => (putD_mem hp).elim (s5.vals p) id
        have hadd := s5.add2 hb hKO
        have hp1l : (putD kvs (Sum.inl (k1 : Int)) (D.bl true)).length ≤ 40 := by
          have h1 := putD_length (m := kvs) (k := (Sum.inl (k1 : Int) : Key)) (d := D.bl true)
          have h3 := s5.few
          have h5 := h2few k1 (by omega)
          omega
        have hksE : ksE.length = kvsE.length := (rpK_iff.mp rkE).length
        have hEl : kvsE.length ≤ 32 := by
          have h4 := hKO.few
          have h5 := h2few k1 (by omega)
          omega
        have tA : Tx H6 H10 := (Tx.ex e89).trans t9
        refine ⟨aE, .dK ksE, haE10, True.intro, fun od => ?_⟩
        have hLf : (upd H10 aE (.frz od (.dK ksE))) L = some (.lst vs) := by rw [upd_ne hLe]; exact hL10
        refine ⟨_, rfl, _, rfl, rIxL K, fun X g => g.K ▸ ix_list, L, vs, (k1 : Int), V.ref aE, rfl, rfl, sq_of hLf, atI_nat hve, ?_⟩
        refine ⟨aE, od, rfl, .inl ⟨ksE, upd_same, ?_⟩⟩
        refine for_it (walk_keys (d := aE) (o := od) (kvs := ksE)) (fun n σ3 H11 => (∃ u11, σ3 = [some v, some u, some (.ref L), some v1, some v2, some v3, some (.ref d), some (.int (k1 : Int)), some w2, some w3, u11]) ∧ H11 aE = some (.frz od (.dK ksE)) ∧ (∀ b o, b ≠ d → b ≠ aE → H10 b = some o → H11 b = some o) ∧ ∃ ks2, H11 d = some (.dK ks2) ∧ RK (Rp (CB K) H11) ks2 (keysD (putD kvs (Sum.inl (k1 : Int)) (.bl true)) ((ksE.map (·.1)).take n)))
          ⟨⟨_, rfl⟩, upd_same, fun b o h1 h2 h3 => by rw [upd_ne h2]; exact h3, ks1, by rw [upd_ne hne.symm]; exact hd10, ?_⟩ (fun _ _ _ _ p => p.2.1) (fun n y σ3 H11 H12 hn p yy => ?_) fun σ3 H11 p => ?_
        · exact RK.fz (Tx.put fun xs z => by rw [haE10] at z; cases z) (fun p hp => by rw [hp1v p hp]; rfl) rk10
        · obtain ⟨⟨u11, rfl⟩, c1, c2, ks2, c3, c4⟩ := p
          obtain ⟨rfl, k, vv, hk, rfl⟩ := yy
          have hk' : (ksE.map (·.1))[n]? = some k := by rw [List.getElem?_map, hk]; rfl
          refine q_putK (C := CB K) (d := .bl true) (k := k) ed_bl (ev_var rfl) (ed_var rfl (rp_key.mpr rfl)) c3 ?_ fun vb H13 e13 rb => ?_
          · rw [c4.length]
            have h1 : (keysD (putD kvs (Sum.inl (k1 : Int)) (.bl true)) ((ksE.map (·.1)).take n)).length ≤ (putD kvs (Sum.inl (k1 : Int)) (D.bl true)).length + ((ksE.map (·.1)).take n).length := fold_length
            rw [List.length_take, List.length_map] at h1
            omega
          · obtain rfl : vb = V.bl true := rb
            have hd13 := e13 _ _ c3
            refine ⟨⟨_, rfl⟩, by rw [upd_ne hne]; exact e13 _ _ c1, fun b o g1 g2 g3 => by rw [upd_ne g1]; exact e13 _ _ (c2 b o g1 g2 g3), _, upd_same, ?_⟩
            rw [take_item hk', keysD_snoc]
            exact RK.put (RK.fz (Tx.dk hd13) (fun p hp => by rw [keysD_vals _ _ hp1v p hp]; rfl) (c4.imp fun _ _ r => r.ex e13)) rfl
        · obtain ⟨⟨u11, rfl⟩, c1, c2, ks2, c3, c4⟩ := p
          have hkeys : ksE.map (·.1) = kvsE.map (·.1) := RK.keys (rpK_iff.mp rkE)
          rw [show ksE.length = (ksE.map (·.1)).length from (List.length_map _).symm, List.take_length, hkeys] at c4
          refine ⟨c1, ⟨_, _, _, _, rfl⟩, ?_, ?_, ks2, _, by rw [upd_ne hne.symm]; exact c3, ?_, hadd, hKNa⟩
          · refine s1.trans (tA.trans fun b xs hb => ?_)
            rw [upd_ne (fun z => by subst z; rw [haE10] at hb; cases hb)]
            exact c2 b _ (fun z => by subst z; rw [hd10] at hb; cases hb) (fun z => by subst z; rw [haE10] at hb; cases hb) hb
          · intro b o hb
            by_cases hbe : b = aE
            · subst hbe
              rw [haE''] at hb
              cases hb
              exact upd_same
            · rw [upd_ne hbe]
              exact c2 b o (fun z => by subst z; rw [hd] at hb; cases hb) hbe (e10 _ _ hb)
          · exact RK.fz (Tx.put fun xs z => by rw [c1] at z; cases z) (fun p hp => by rw [keysD_vals _ _ hp1v p hp]; rfl) c4
      · have hb' : dirB hs rs k1 k0 = false := hdir.trans hb
        have e78 := e7.trans e8
        exact ⟨⟨_, _, _, _, rfl⟩, s1.trans (Tx.ex e78), s2.trans e78, ks, kvs, e78 _ _ s3, s4.imp fun _ _ r => r.ex e78, s5.skip hb', s6⟩
    · rintro σ2 H6 ⟨⟨u8, u9, u10, u11, rfl⟩, s1, s2, ks, kvs, s3, s4, s5, s6⟩
      have hl2 : (rs.take k0).zipIdx.length = k0 := by rw [List.length_zipIdx, List.length_take]; omega
      rw [hl2] at s5
      have hL6 := (e4.trans s2) _ _ hLs
      refine q_append (d := .dk kvs) (ev_var rfl) (ed_var rfl (show Rp (CB K) H6 (.ref d) (.dk kvs) from ⟨d, ks, rfl, s3, rpK_iff.mpr s4⟩)) hL6 (by rw [rvs.length, List.length_map]; omega) fun vv H7 e7 r7 => ?_
      have eA := e4.trans (s2.trans e7)
      have hL7 := eA _ _ hLs
      have t7 : Tx H7 (upd H7 L (.lst (vs ++ [vv]))) := Tx.lst hL7
      refine ⟨⟨_, _, _, _, _, _, _, _, rfl⟩, t1.trans ((Tx.ex eA).trans t7), Ex.mut (t2.trans eA) hL, _, kvss ++ [kvs], upd_same, ?_, by rw [List.length_append, hlen]; rfl, fun k kvs' hk => ?_⟩
      · rw [List.map_append]
        have hall : ∀ kv ∈ kvss ++ [kvs], ∀ p ∈ kv, p.2.fz = true := fun kv hkv p hp => by
          rcases List.mem_append.mp hkv with h | h
          · obtain ⟨n, hn⟩ := List.getElem?_of_mem h
            rw [(hko n kv hn).1.vals p hp]; rfl
          · rw [List.mem_singleton.mp h] at hp
            rw [s5.vals p hp]; rfl
        have hrow : RpL (CB K) H7 (vs ++ [vv]) ((kvss ++ [kvs]).map D.dk) := by
          rw [List.map_append]
          exact (rvs.ex eA).append ⟨r7, True.intro⟩
        have := RpL.keep (H' := upd H7 L (.lst (vs ++ [vv]))) hL7 (fun _ z => nomatch z) (fun a u ha h => by rw [upd_ne ha]; exact h) t7 hall hrow
        rw [List.map_append] at this
        exact this
      · by_cases hkl : k < kvss.length
        · rw [List.getElem?_append_left hkl] at hk
          exact hko k kvs' hk
        · rw [List.getElem?_append_right (by omega)] at hk
          have e0 : k - kvss.length = 0 := by
            cases q : k - kvss.length with
            | zero => rfl
            | succ n => rw [q] at hk; cases hk
          rw [e0] at hk
          cases hk
          have ek : k = k0 := by omega
          subst ek
          exact ⟨s5.done, s6⟩
  · rintro σ' H' ⟨⟨u4, u5, u6, u7, u8, u9, u10, u11, rfl⟩, t1, t2, vs, kvss, hLs, rvs, hlen, hko⟩
    rw [List.length_zipIdx] at hlen
    exact ⟨_, rfl, q (.lst (kvss.map D.dk)) (.ref L) H' ⟨kvss, rfl, hlen, hko⟩ (e2.trans t2) ⟨L, vs, rfl, hLs, rvs⟩ fun _ b eb => by
      cases eb
      exact fresh_back e2 hL⟩
noncomputable def pairsL (hs : List Hall) (rs : List Row) : List (Nat × Nat) := (List.range rs.length).flatMap fun h => (((List.range h).filter fun f => ahB (dirB hs rs) f h).filter fun f => !decide (laneOf rs f = laneOf rs h)).map fun f => (f, h)
theorem nat_keys : ∀ {ks : List Key}, (∀ k ∈ ks, ∃ m : Nat, k = Sum.inl (m : Int)) → ∃ ns : List Nat, ks = ns.map fun n : Nat => (Sum.inl (n : Int) : Key)
  | [], _ => ⟨[], rfl⟩
  | k :: ks, h => by
    obtain ⟨m, rfl⟩ := h k List.mem_cons_self
    obtain ⟨ns, rfl⟩ := nat_keys (ks := ks) fun k' hk' => h k' (List.mem_cons_of_mem _ hk')
    exact ⟨m :: ns, rfl⟩
theorem k_sortedD {C : Addr} {dir : Nat → Nat → Bool} {h : Nat} {kvs : List (Key × D)} (ho : KO dir h kvs) (hn : KN kvs) (hh : h ≤ 5) : DCall C (rC P w K (.builtin "sorted")) [.dk kvs] (.lst (((List.range h).filter fun f => ahB dir f h).map fun f => .int (f : Nat))) := dcall_of (fun X g => call_sortedDI g.calm) fun H vs rx Q q => by
  obtain ⟨v, rfl, a, ks, rfl, e2, e3⟩ := rx.one
  obtain ⟨ns, hns⟩ := nat_keys hn.nat
  have hk : ks.map (·.1) = (ns.map fun n : Nat => (n : Int)).map Sum.inl := by
    rw [RK.keys (rpK_iff.mp e3), hns, List.map_map]
    rfl
  have hnd : ns.Nodup := by
    have h1 := hn.nd
    rw [hns] at h1
    exact List.Pairwise.imp (fun h e => h (by rw [e])) (List.pairwise_map.mp h1)
  have hlen : ns.length ≤ 32 := by
    have h1 := congrArg List.length hns
    rw [List.length_map, List.length_map] at h1
    have h2 := ho.few
    have h3 : 2 ^ h ≤ 32 := Nat.le_trans (Nat.pow_le_pow_right (by decide) hh) (by decide)
    omega
  refine ⟨a, ks, ns.map fun n : Nat => (n : Int), rfl, .inl e2, hk, by rw [List.length_map]; omega, fun ys p hp hs hf => ?_⟩
  have hm : ∀ n : Nat, n ∈ ns ↔ n < h ∧ ahB dir n h = true := fun n => by
    have h1 : (Sum.inl (n : Int) : Key) ∈ kvs.map (·.1) ↔ n ∈ ns := by
      rw [hns, List.mem_map]
      constructor
      · rintro ⟨m, hm, e⟩
        have : m = n := by have := Sum.inl.inj e; omega
        exact this ▸ hm
      · exact fun hm => ⟨n, hm, rfl⟩
    have h2 := ho.keys n
    rw [lookD_iff] at h2
    rw [← h1, h2, ahB_iff]
    exact ⟨fun a => ⟨a.lt, a⟩, fun a => a.2⟩
  have hyn : ys.Nodup := hp.nodup_iff.mpr (List.pairwise_map.mpr (hnd.imp fun h e => h (by omega)))
  have hylt : ys.Pairwise (· < ·) := (hs.and hyn).imp fun {a b} ⟨h1, h2⟩ => by
    have h2 : a ≠ b := h2
    omega
  obtain ⟨zs, rfl, hz⟩ := ints_nats (zs := ys) (fun z hz => by
    obtain ⟨n, _, e⟩ := List.mem_map.mp (hp.mem_iff.mp hz)
    exact ⟨n, e.symm⟩) hylt
  have ez : zs = (List.range h).filter fun f => ahB dir f h := sorted_ext hz ((range_sorted _).filter _) fun n => by
    rw [List.mem_filter, List.mem_range, ← hm n]
    have := hp.mem_iff (a := (n : Int))
    rw [List.mem_map, List.mem_map] at this
    constructor
    · intro h
      obtain ⟨m, h1, h2⟩ := this.mp ⟨n, h, rfl⟩
      have : m = n := by omega
      exact this ▸ h1
    · intro h
      obtain ⟨m, h1, h2⟩ := this.mpr ⟨n, h, rfl⟩
      have : m = n := by omega
      exact this ▸ h1
  refine q _ _ (Ex.new hf) ⟨p, _, rfl, upd_same, ?_⟩
  rw [← ez]
  have e1 : (zs.map fun f : Nat => D.int (f : Nat)) = (zs.map fun n : Nat => (n : Int)).map D.int := by rw [List.map_map]; rfl
  rw [e1]
  exact RpL.of_ints
noncomputable abbrev spLPairs (C : Addr) : Sp := spF C rlArgs rlPre fun p => .lst ((pairsL p.1 p.2).map spotD)
theorem c_law_pairs (T : TF w K mg) (c_law_rows_ahead : Callee P w K mg base "_law_rows_ahead" 4 ["_law_near_here", "_law_rows_here"] (spLAhead (CB K))) : Callee P w K mg base "_law_pairs" 5 ["_law_near_here", "_law_rows_here"] (spLPairs (CB K)) := by
  obtain ⟨fd, F⟩ := T.d_law_pairs
  refine callee_of F (F.ok sc_law_pairs (spA_len fun _ => rfl) fun cdv A outer s H vs Q E hr h => ?_) T.g_law_pairs fun _ _ _ _ _ _ us hl => match us, hl with | [_, _], _ => rfl
  obtain ⟨a, r, hp, q⟩ := h
  have g : Good P w K (L2.Cx.nox (cxOf CX0 P w K mg base ["_law_near_here", "_law_rows_here", "_law_early", "_law_found", "_law_hind", "_law_front"] "_law_pairs" (defScope s_law_pairs) (He.ga K "_law_pairs") cdv A outer s H E)) := ⟨rfl, rfl, rfl, rfl, hu_un hr⟩
  have hu := hu_of hr
  refine ⟨_, PSs.nox (pss_cons (ps_par (i := 2) (j := 3) g.calm sc_law_pairs.nd rfl rfl (by decide) rfl rfl (pa_cons (pe_c c_law_rows_ahead (hr.mono (by decide)) (by rfl) pass0 (pa_cons (pv 0) (pa_cons (pv 1) pa_nil))) (pa_cons (pe_lst pa_nil) pa_nil)) rfl)
      (pss_cons (ps_for PassesOwn.never g.calm (pi_range1 (by rfl) T.f_range (pa_cons (pe_callB (c_b g) (by rfl) T.f_len bt_len (pa_cons (pv 1) pa_nil)) pa_nil)) (pg_name (i := 4) sc_law_pairs.nd rfl (Or.inr rfl)) (pss_one (ps_expr (pe_bm PySem.F.plainAttrs_list PySem.F.slot_list_extend PySem.F.type_list_extend (mt_b g) (pv 3) (pa_cons (pe_lc (own := [("_law_front", 5)]) g.calm sc_law_pairs.nd (pi_b g (pe_callB (c_b g) (by rfl) T.f_sorted bt_sorted (pa_cons (pe_ix (ix_b g) (pv 2) (pv 4) (fun _ _ => rfl)) pa_nil))) (blkOk_by (by kernel_rfl)) (fun _ _ _ _ _ => (pg_name (i := 5) sc_law_pairs.nd rfl (Or.inl rfl))) (fun _ _ _ _ _ => (pts_one (pt_cmpR (op_b g.b) (pe_ix (ix_b g.b) (pe_ix (ix_b g.b) (pv 1) (pv 5) (fun _ _ => rfl)) pe_int (fun _ _ => rfl)) (pe_ix (ix_b g.b) (pe_ix (ix_b g.b) (pv 1) (pv 4) (fun _ _ => rfl)) pe_int (fun _ _ => rfl)) (nomark _)))) (fun _ _ _ _ _ => (pe_tup (pa_cons (pv 5) (pa_cons (pv 4) pa_nil))))) pa_nil)))))
      (pss_one (ps_ret (pv 3))))), ?_⟩
  obtain ⟨v, u, rfl, r1, r2⟩ := r.two
  obtain ⟨hs, rs⟩ := a
  obtain ⟨p1, p2, p3⟩ := (show HallsOk hs ∧ rs.length ≤ 5 ∧ ∀ r ∈ rs, r.2.inn hs ∧ r.2.plain = true from hp)
  replace r1 : Rp (CB K) H v (.dk (nearTab hs)) := r1
  replace r2 : Rp (CB K) H u (scriptD rs) := r2
  refine q_par2 (edx_call (hs, rs) (ea1 (ed_var rfl r1) (ea1 (ed_var rfl r2) ea0)) ⟨p1, p2, p3⟩) fun ve L H1 e1 ⟨dd, ⟨kvss, edd, hlen, hko⟩, re⟩ hL => ?_
  subst edd
  replace hlen : kvss.length = rs.length := hlen
  have eL : Ex H1 (upd H1 L (.lst [])) := Ex.new hL
  refine qs_for0 (xs := List.range rs.length) (F := fun i => D.int (i : Nat)) (ei_rangeN (ea1 (Ed.is (ed_cb (ea1 (ed_var rfl (r2.ex (e1.trans eL))) ea0) k_lent) (by rw [List.length_map])) ea0) (by omega)) (fun _ _ => rfl) fun H3 e3 => ?_
  refine ⟨fun i σ' H' => (∃ u4 u5, σ' = [some v, some u, some ve, some (.ref L), u4, u5]) ∧ Tx H3 H' ∧ Ex H1 H' ∧ ∃ vs : List V, H' L = some (.lst vs) ∧ vs.length ≤ 10 * i ∧ RpL (CB K) H' vs ((((List.range rs.length).take i).flatMap fun h => (((List.range h).filter fun f => ahB (dirB hs rs) f h).filter fun f => !decide (laneOf rs f = laneOf rs h)).map fun f => (f, h)).map spotD),
    ⟨⟨_, _, rfl⟩, Tx.refl _, eL.trans e3, [], e3 _ _ upd_same, Nat.le_refl _, True.intro⟩, fun i σ' H' p => p.2.1, ?_, ?_⟩
  · rintro i h x σ' H' H'' hi ⟨⟨u4, u5, rfl⟩, t1, t2, vs, hLs, hvl, rvs⟩ e4 r4
    have hhi : h = i ∧ h < rs.length := by
      have h1 := (List.getElem?_eq_some_iff.mp hi).1
      rw [List.length_range] at h1
      rw [List.getElem?_range h1] at hi
      have : i = h := Option.some.inj hi
      omega
    obtain ⟨rfl, hh⟩ := hhi
    obtain ⟨kvs, hk⟩ : ∃ kvs, kvss[h]? = some kvs := ⟨_, List.getElem?_eq_getElem (by omega)⟩
    obtain ⟨hKO, hKN⟩ := hko h kvs hk
    have e14 := t2.trans e4
    have hfl : ((List.range h).filter fun f => ahB (dirB hs rs) f h).length ≤ 5 := by
      have := List.length_filter_le (fun f => ahB (dirB hs rs) f h) (List.range h)
      rw [List.length_range] at this
      omega
    refine q_extend (C := CB K) (φ := fun ds => ds = ((((List.range h).filter fun f => ahB (dirB hs rs) f h).filter fun f => !decide (laneOf rs f = laneOf rs h)).map fun f => spotD (f, h))) (ev_var rfl) (EvP.imp (ed_lc (C := CB K) (xs := (List.range h).filter fun f => ahB (dirB hs rs) f h) (F := fun f => D.int (f : Nat)) (fun f => !decide (laneOf rs f = laneOf rs h)) (fun f => spotD (f, h)) (ei_lst (ed_cb (ea1 (ed_op (ed_var rfl (re.ex e14)) (ed_var rfl r4) (o_ixl (d := .dk kvs) (atI_nat (j := h) (by rw [List.getElem?_map, hk]; rfl)))) ea0) (k_sortedD hKO hKN (by omega)))) (by omega) (fun _ _ _ => rfl) ?_) fun v H5 _ r => ⟨_, rfl, r⟩) (e4 _ _ hLs) (by omega) (fun ds hd => by
      rw [hd, List.length_map]
      have := List.length_filter_le (fun f => !decide (laneOf rs f = laneOf rs h)) ((List.range h).filter fun f => ahB (dirB hs rs) f h)
      omega) fun us ds H5 hds e5 ru => ?_
    · intro n f x H5 hn e5 r5 k q'
      have hf : f < h := List.mem_range.mp (List.mem_filter.mp (List.mem_of_getElem? hn)).1
      have e15 := e1.trans (e14.trans e5)
      refine q' _ rfl (et_is (et_cmp (ed_op (lane_at (ed_var rfl (r2.ex e15)) (ed_var rfl r5) (by omega)) (lane_at (ed_var rfl (r2.ex e15)) (ed_var rfl (r4.ex e5)) hh) o_nei)) ?_) fun _ => ed_tup (ea1 (ed_var rfl r5) (ea1 (ed_var rfl (r4.ex e5)) ea0))
      exact congrArg Bool.not (decide_eq_decide.mpr ⟨fun h => by omega, fun h => by omega⟩)
    · subst hds
      have hL5 := (e4.trans e5) _ _ hLs
      have t5 : Tx H5 (upd H5 L (.lst (vs ++ us))) := Tx.lst hL5
      refine ⟨⟨_, _, rfl⟩, t1.trans ((Tx.ex (e4.trans e5)).trans t5), Ex.mut (e14.trans e5) hL, _, upd_same, ?_, ?_⟩
      · have := List.length_filter_le (fun f => !decide (laneOf rs f = laneOf rs h)) ((List.range h).filter fun f => ahB (dirB hs rs) f h)
        rw [List.length_append, ru.length, List.length_map]
        omega
      · rw [take_item hi, List.flatMap_append, List.map_append]
        refine RpL.fz t5 (fzL_append (fzL_map fun _ _ => rfl) (fzL_map fun _ _ => rfl)) ((rvs.ex (e4.trans e5)).append ?_)
        rw [List.flatMap_cons, List.flatMap_nil, List.append_nil, List.map_map]
        exact ru
  · rintro σ' H' ⟨⟨u4, u5, rfl⟩, t1, t2, vs, hLs, hvl, rvs⟩
    rw [List.take_length] at rvs
    exact ⟨_, rfl, q (.lst ((pairsL hs rs).map spotD)) (.ref L) H' rfl (e1.trans t2) ⟨L, vs, rfl, hLs, rvs⟩ fun _ b eb => by
      cases eb
      exact fresh_back e1 hL⟩
end
end Fl
set_option maxHeartbeats 4000000
namespace Fl
open PySem L2 Evl
theorem Ah.trans {dir : Nat → Nat → Bool} {i j k : Nat} (h : Ah dir i j) (g : Ah dir j k) : Ah dir i k := by
  induction g with
  | base a d => exact .step h a d
  | step _ a d ih => exact .step ih a d
def ordBy (rs : List Row) (A : Nat → Nat → Bool) : List (Nat × Nat) := (List.range rs.length).flatMap fun h => (((List.range h).filter fun f => !decide (laneOf rs f = laneOf rs h)).filter fun f => A f h).map fun f => (f, h)
theorem mem_ordBy {rs : List Row} {A : Nat → Nat → Bool} {s : Nat × Nat} : s ∈ ordBy rs A ↔ (s.1 < s.2 ∧ s.2 < rs.length) ∧ laneOf rs s.1 ≠ laneOf rs s.2 ∧ A s.1 s.2 = true := by
  unfold ordBy
  rw [List.mem_flatMap]
  constructor
  · rintro ⟨h, hh, hs⟩
    obtain ⟨f, hf, rfl⟩ := List.mem_map.mp hs
    obtain ⟨h1, h2⟩ := List.mem_filter.mp hf
    obtain ⟨h3, h4⟩ := List.mem_filter.mp h1
    refine ⟨⟨List.mem_range.mp h3, List.mem_range.mp hh⟩, fun e => ?_, h2⟩
    rw [decide_eq_true (show laneOf rs f = laneOf rs h from e)] at h4
    cases h4
  · rintro ⟨⟨h1, h2⟩, h3, h4⟩
    refine ⟨s.2, List.mem_range.mpr h2, List.mem_map.mpr ⟨s.1, List.mem_filter.mpr ⟨List.mem_filter.mpr ⟨List.mem_range.mpr h1, ?_⟩, h4⟩, rfl⟩⟩
    rw [decide_eq_false h3]
    rfl
theorem ordBy_congr {rs : List Row} {A B : Nat → Nat → Bool} (h : ∀ f j, f < j → j < rs.length → A f j = B f j) : ordBy rs A = ordBy rs B := by
  unfold ordBy
  have key : ∀ l : List Nat, (∀ j ∈ l, j < rs.length) → l.flatMap (fun h => (((List.range h).filter fun f => !decide (laneOf rs f = laneOf rs h)).filter fun f => A f h).map fun f => (f, h)) = l.flatMap (fun h => (((List.range h).filter fun f => !decide (laneOf rs f = laneOf rs h)).filter fun f => B f h).map fun f => (f, h)) := by
    intro l
    induction l with
    | nil => intro _; rfl
    | cons j l ih =>
      intro hl
      rw [List.flatMap_cons, List.flatMap_cons, ih fun k hk => hl k (List.mem_cons_of_mem _ hk)]
      congr 2
      exact List.filter_congr fun f hf => h f j (List.mem_range.mp (List.mem_filter.mp hf).1) (hl j List.mem_cons_self)
  exact key _ fun j hj => List.mem_range.mp hj
theorem pairs_by {hs : List Hall} {rs : List Row} : pairsL hs rs = ordBy rs (ahB (dirB hs rs)) := by
  unfold pairsL ordBy
  congr 1
  funext h
  rw [List.filter_filter, List.filter_filter]
  congr 2
  funext f
  exact Bool.and_comm _ _
theorem ordBy_nodup {rs : List Row} {A : Nat → Nat → Bool} : (ordBy rs A).Nodup := by
  unfold ordBy
  show List.Pairwise _ _
  rw [List.pairwise_flatMap]
  refine ⟨fun h _ => ?_, ?_⟩
  · refine List.pairwise_map.mpr (List.Pairwise.imp (fun g e => ?_) (((List.nodup_range (n := h)).filter _).filter _))
    exact g (Prod.mk.inj e).1
  · refine (List.nodup_range (n := rs.length)).imp fun {a b} hab x hx y hy e => ?_
    obtain ⟨f, _, rfl⟩ := List.mem_map.mp hx
    obtain ⟨g, _, rfl⟩ := List.mem_map.mp hy
    exact hab (Prod.mk.inj e).2
theorem ord_eq {rs : List Row} {S : List (Nat × Nat)} (h : Sb rs S) : ordL (lsB rs S) (stB rs S) = ordBy rs (ahB (dirS rs S)) := by
  have hsl : (stB rs S).length = rs.length := sites_len (Nat.le_refl _)
  unfold ordL ordBy
  rw [hsl]
  have key : ∀ l : List Nat, (∀ j ∈ l, j < rs.length) → l.flatMap (fun h => (((List.range h).filter fun f => !decide ((siteAt (stB rs S) f).1 = (siteAt (stB rs S) h).1)).filter fun f => rchB (lsB rs S) (siteAt (stB rs S) f) (siteAt (stB rs S) h)).map fun f => (f, h)) = l.flatMap (fun h => (((List.range h).filter fun f => !decide (laneOf rs f = laneOf rs h)).filter fun f => ahB (dirS rs S) f h).map fun f => (f, h)) := by
    intro l
    induction l with
    | nil => intro _; rfl
    | cons j l ih =>
      intro hl
      have hj := hl j List.mem_cons_self
      rw [List.flatMap_cons, List.flatMap_cons, ih fun k hk => hl k (List.mem_cons_of_mem _ hk)]
      congr 2
      have e1 : ((List.range j).filter fun f => !decide ((siteAt (stB rs S) f).1 = (siteAt (stB rs S) j).1)) = (List.range j).filter fun f => !decide (laneOf rs f = laneOf rs j) := List.filter_congr fun f hf => by
        have hfj := List.mem_range.mp hf
        rw [(site_spot h (j := f) (by omega)).2.2, (site_spot h hj).2.2]
      rw [e1]
      refine List.filter_congr fun f hf => ?_
      have hfj := List.mem_range.mp (List.mem_filter.mp hf).1
      exact rch_eq h (by omega) hj (by omega)
  exact key _ fun j hj => List.mem_range.mp hj
section
variable {hs : List Hall} {rs : List Row} {S : List (Nat × Nat)}
theorem mem_links {s : Nat × Nat} : s ∈ linksL hs rs ↔ (s.1 < s.2 ∧ s.2 < rs.length) ∧ laneOf rs s.1 ≠ laneOf rs s.2 ∧ linkB (ahB (dirB hs rs)) s.1 s.2 = true := by
  unfold linksL
  rw [List.mem_filter, List.mem_filter, mem_pairsAll]
  constructor
  · rintro ⟨⟨h1, h2⟩, h3⟩
    refine ⟨h1, fun e => ?_, h3⟩
    rw [decide_eq_true e] at h2
    cases h2
  · rintro ⟨h1, h2, h3⟩
    exact ⟨⟨h1, by rw [decide_eq_false h2]; rfl⟩, h3⟩
theorem link_iff {a : Nat → Nat → Bool} {i j : Nat} : linkB a i j = true ↔ a i j = true ∧ ∀ k, i < k → k < j → ¬ (a i k = true ∧ a k j = true) := by
  unfold linkB
  rw [Bool.and_eq_true]
  constructor
  · rintro ⟨h1, h2⟩
    refine ⟨h1, fun k hk1 hk2 ⟨a1, a2⟩ => ?_⟩
    have : ((List.range (j - (i + 1))).any fun k => a i (i + 1 + k) && a (i + 1 + k) j) = true := List.any_eq_true.mpr ⟨k - (i + 1), List.mem_range.mpr (by omega), by
      have e : i + 1 + (k - (i + 1)) = k := by omega
      rw [e, a1, a2]
      rfl⟩
    rw [this] at h2
    cases h2
  · rintro ⟨h1, h2⟩
    refine ⟨h1, ?_⟩
    have : ((List.range (j - (i + 1))).any fun k => a i (i + 1 + k) && a (i + 1 + k) j) = false := by
      rw [← Bool.not_eq_true]
      intro h
      obtain ⟨k, hk, hh⟩ := List.any_eq_true.mp h
      have hk := List.mem_range.mp hk
      exact h2 (i + 1 + k) (by omega) (by omega) (Bool.and_eq_true_iff.mp hh)
    rw [this]
    rfl
theorem links_sub : ∀ s ∈ linksL hs rs, s ∈ pairsL hs rs := fun s hs' => by
  obtain ⟨h1, h2, h3⟩ := mem_links.mp hs'
  rw [pairs_by]
  exact mem_ordBy.mpr ⟨h1, h2, (link_iff.mp h3).1⟩
theorem dir_same {f j : Nat} (hf : f < rs.length) (hj : j < rs.length) (h : laneOf rs f = laneOf rs j) : dirB hs rs f j = true := by
  unfold dirB
  unfold laneOf at h
  rw [List.getElem?_eq_getElem hf, List.getElem?_eq_getElem hj] at h ⊢
  show (decide (rs[f].1 = rs[j].1) || _) = true
  rw [decide_eq_true (show rs[f].1 = rs[j].1 from h)]
  rfl
theorem ah_down (hS : ∀ s ∈ S, s ∈ pairsL hs rs) {f j : Nat} (h : Ah (dirS rs S) f j) : j < rs.length → Ah (dirB hs rs) f j := by
  have one : ∀ {k j : Nat}, k < j → j < rs.length → dirS rs S k j = true → Ah (dirB hs rs) k j := fun {k j} hk hj hd => by
    unfold dirS at hd
    rcases Bool.or_eq_true_iff.mp hd with e | e
    · exact .base hk (dir_same (by omega) hj (of_decide_eq_true e))
    · have := hS _ (of_decide_eq_true e)
      rw [pairs_by] at this
      exact ahB_iff.mp (mem_ordBy.mp this).2.2
  induction h with
  | base g d => exact fun hj => one g hj d
  | step _ g d ih => exact fun hj => (ih (by omega)).trans (one g hj d)
theorem ah_up (hS : ∀ s ∈ linksL hs rs, s ∈ S) : ∀ (n : Nat) {f j : Nat}, j - f ≤ n → j < rs.length → Ah (dirB hs rs) f j → Ah (dirS rs S) f j
  | 0, f, j, hn, _, h => by have := h.lt; omega
  | n + 1, f, j, hn, hj, h => by
    have hfj := h.lt
    by_cases hl : laneOf rs f = laneOf rs j
    · refine .base hfj ?_
      unfold dirS
      rw [decide_eq_true hl]
      rfl
    · by_cases hk : linkB (ahB (dirB hs rs)) f j = true
      · refine .base hfj ?_
        unfold dirS
        rw [decide_eq_true (hS (f, j) (mem_links.mpr ⟨⟨hfj, hj⟩, hl, hk⟩)), Bool.or_true]
      · obtain ⟨k, k1, k2, k3, k4⟩ : ∃ k, f < k ∧ k < j ∧ Ah (dirB hs rs) f k ∧ Ah (dirB hs rs) k j := by
          refine Classical.byContradiction fun hn => hk (link_iff.mpr ⟨ahB_iff.mpr h, fun k k1 k2 ⟨a1, a2⟩ => hn ⟨k, k1, k2, ahB_iff.mp a1, ahB_iff.mp a2⟩⟩)
        exact (ah_up hS n (by omega) (by omega) k3).trans (ah_up hS n (by omega) hj k4)
theorem keep_order (h1 : ∀ s ∈ S, s ∈ pairsL hs rs) (h2 : ∀ s ∈ linksL hs rs, s ∈ S) : ordBy rs (ahB (dirS rs S)) = pairsL hs rs := by
  rw [pairs_by]
  refine ordBy_congr fun f j hfj hj => ?_
  rw [Bool.eq_iff_iff, ahB_iff, ahB_iff]
  exact ⟨fun h => ah_down h1 h hj, fun h => ah_up h2 _ (Nat.le_refl _) hj h⟩
theorem order_links (h1 : ∀ s ∈ S, s ∈ pairsL hs rs) (h2 : ordBy rs (ahB (dirS rs S)) = pairsL hs rs) : ∀ s ∈ linksL hs rs, s ∈ S := fun s hs' => by
  obtain ⟨⟨l1, l2⟩, l3, l4⟩ := mem_links.mp hs'
  have hp := links_sub s hs'
  rw [← h2] at hp
  have ha := ahB_iff.mp (mem_ordBy.mp hp).2.2
  obtain ⟨_, no⟩ := link_iff.mp l4
  have key : ∀ {i j : Nat}, Ah (dirS rs S) i j → i = s.1 → j = s.2 → dirS rs S s.1 s.2 = true := fun {i j} a => by
    cases a with
    | base g d => exact fun e1 e2 => by rw [← e1, ← e2]; exact d
    | step a g d =>
      rename_i k
      intro e1 e2
      subst e1; subst e2
      exfalso
      have b1 : Ah (dirB hs rs) s.1 k := ah_down h1 a (by omega)
      have b2 : Ah (dirB hs rs) k s.2 := ah_down h1 (.base g d) l2
      exact no k b1.lt g ⟨ahB_iff.mpr b1, ahB_iff.mpr b2⟩
  have hd := key ha rfl rfl
  unfold dirS at hd
  rw [decide_eq_false l3, Bool.false_or] at hd
  exact of_decide_eq_true hd
end
theorem nodup_le {α : Type} [DecidableEq α] : ∀ {l m : List α}, l.Nodup → (∀ x ∈ l, x ∈ m) → l.length ≤ m.length
  | [], m, _, _ => Nat.zero_le _
  | x :: l, m, hn, h => by
    obtain ⟨h1, h2⟩ := List.nodup_cons.mp hn
    have hx := h x List.mem_cons_self
    have := nodup_le (l := l) (m := m.erase x) h2 fun y hy => (List.mem_erase_of_ne (fun e : y = x => h1 (e ▸ hy))).mpr (h y (List.mem_cons_of_mem _ hy))
    rw [List.length_erase_of_mem hx] at this
    have hm := List.length_pos_of_mem hx
    rw [List.length_cons]
    omega
theorem links_nodup {hs : List Hall} {rs : List Row} : (linksL hs rs).Nodup := by
  unfold linksL
  refine (List.Pairwise.filter _ (List.Pairwise.filter _ ?_))
  unfold pairsAll
  show List.Pairwise _ _
  rw [List.pairwise_flatMap]
  refine ⟨fun i _ => ?_, ?_⟩
  · refine List.pairwise_map.mpr (List.pairwise_map.mpr (List.Pairwise.imp (fun g e => ?_) (List.nodup_range (n := rs.length - (i + 1)))))
    have := (Prod.mk.inj e).2
    omega
  · refine (List.nodup_range (n := rs.length)).imp fun {a b} hab x hx y hy e => ?_
    obtain ⟨f, _, rfl⟩ := List.mem_map.mp hx
    obtain ⟨g, _, rfl⟩ := List.mem_map.mp hy
    exact hab (Prod.mk.inj e).1
def nF (rs : List Row) (S : List (Nat × Nat)) : Nat := ((List.range rs.length).filter (fronts S)).length
theorem nF_le {rs : List Row} {S T : List (Nat × Nat)} (h : ∀ s ∈ S, s ∈ T) : nF rs S ≤ nF rs T := by
  unfold nF
  rw [← List.countP_eq_length_filter, ← List.countP_eq_length_filter]
  refine List.countP_mono_left fun f _ hf => ?_
  have := of_decide_eq_true hf
  obtain ⟨s, hs, e⟩ := List.mem_map.mp this
  exact decide_eq_true (List.mem_map.mpr ⟨s, h s hs, e⟩)
theorem mask_of : ∀ l : List Bool, ∃ m, m < 2 ^ l.length ∧ ∀ k, k < l.length → decide (m / 2 ^ k % 2 = 1) = l[k]?.getD false
  | [] => ⟨0, by decide, fun k h => absurd h (Nat.not_lt_zero _)⟩
  | b :: l => by
    obtain ⟨m, h1, h2⟩ := mask_of l
    refine ⟨(if b = true then 1 else 0) + 2 * m, ?_, fun k hk => ?_⟩
    · rw [List.length_cons, Nat.pow_succ]
      split <;> omega
    · cases k with
      | zero =>
        rw [Nat.pow_zero, Nat.div_one]
        cases b with
        | true => exact decide_eq_true (by rw [if_pos rfl]; omega)
        | false => exact decide_eq_false (by rw [if_neg (by decide)]; omega)
      | succ k =>
        have e : ((if b = true then 1 else 0) + 2 * m) / 2 ^ (k + 1) = m / 2 ^ k := by
          rw [Nat.pow_succ', ← Nat.div_div_eq_div_mul]
          have : ((if b = true then 1 else 0) + 2 * m) / 2 = m := by split <;> omega
          rw [this]
        rw [e]
        exact h2 k (by rw [List.length_cons] at hk; omega)
theorem sel_of (PL : List (Nat × Nat)) (p : Nat × Nat → Bool) : ∃ m, m < 2 ^ PL.length ∧ selM PL m = PL.filter p := by
  obtain ⟨m, h1, h2⟩ := mask_of (PL.map p)
  rw [List.length_map] at h1 h2
  refine ⟨m, h1, ?_⟩
  have hp := places_map p id (0, 0) PL
  rw [List.map_id] at hp
  rw [← hp]
  unfold selM
  have e : ((List.range PL.length).filter fun k => decide (m / 2 ^ k % 2 = 1)) = (List.range PL.length).filter fun k => (PL[k]?).any p := List.filter_congr fun k hk => by
    have hk := List.mem_range.mp hk
    rw [h2 k hk, List.getElem?_map, List.getElem?_eq_getElem hk]
    rfl
  rw [e]
  refine List.map_congr_left fun k _ => ?_
  cases PL[k]? <;> rfl
section
variable {hs : List Hall} {rs : List Row}
theorem pair_ok : ∀ s ∈ pairsL hs rs, s.1 < s.2 ∧ s.2 < rs.length := fun s h => by
  rw [pairs_by] at h
  exact (mem_ordBy.mp h).1
theorem cnt_by (ok : RowsOk hs rs) {S : List (Nat × Nat)} (hS : ∀ s ∈ S, s.1 < s.2 ∧ s.2 < rs.length) : cntD (lsB rs S) = .tup [.int (S.length : Nat), .int (nF rs S : Nat)] := by
  obtain ⟨h1, h2⟩ := counts (fun r hr => (ok.cmd r hr).2) hS (build_of (S := S) (rs := rs) (Nat.le_refl _))
  unfold cntD
  rw [h1, h2]
  rfl
theorem cnt_fenced (ok : RowsOk hs rs) {ls : List (List Cmd)} (b : Build "f" rs (linksL hs rs) rs.length ls) : cntD ls = .tup [.int ((linksL hs rs).length : Nat), .int (nF rs (linksL hs rs) : Nat)] := by
  obtain ⟨h1, h2⟩ := counts (fun r hr => (ok.cmd r hr).2) (links_ok ok).pairs b
  unfold cntD
  rw [h1, h2]
  rfl
theorem gone_ge (ok : RowsOk hs rs) {S : List (Nat × Nat)} (h : S ∈ goneL rs (pairsL hs rs)) : (∀ s ∈ S, s.1 < s.2 ∧ s.2 < rs.length) ∧ (linksL hs rs).length ≤ S.length ∧ nF rs (linksL hs rs) ≤ nF rs S := by
  obtain ⟨h1, h2⟩ := List.mem_filter.mp h
  obtain ⟨m, _, rfl⟩ := List.mem_map.mp h1
  have hsub : ∀ s ∈ selM (pairsL hs rs) m, s ∈ pairsL hs rs := sel_mem
  have hp : ∀ s ∈ selM (pairsL hs rs) m, s.1 < s.2 ∧ s.2 < rs.length := fun s hs' => pair_ok s (hsub s hs')
  have h3 := of_decide_eq_true h2
  rw [ord_eq (sb_of ok hp)] at h3
  have h4 := order_links hsub h3
  exact ⟨hp, nodup_le links_nodup h4, nF_le h4⟩
theorem links_order (ok : RowsOk hs rs) : ordL (lsB rs (linksL hs rs)) (stB rs (linksL hs rs)) = pairsL hs rs := by
  rw [ord_eq (sb_of ok (links_ok ok).pairs)]
  exact keep_order links_sub fun _ h => h
theorem links_gone (ok : RowsOk hs rs) : ∃ S ∈ goneL rs (pairsL hs rs), (∀ s ∈ S, s.1 < s.2 ∧ s.2 < rs.length) ∧ S.length = (linksL hs rs).length ∧ nF rs S = nF rs (linksL hs rs) := by
  obtain ⟨m, hm, e⟩ := sel_of (pairsL hs rs) fun s => decide (s ∈ linksL hs rs)
  have hmem : ∀ s, s ∈ selM (pairsL hs rs) m ↔ s ∈ linksL hs rs := fun s => by
    rw [e, List.mem_filter, decide_eq_true_iff]
    exact ⟨fun h => h.2, fun h => ⟨links_sub s h, h⟩⟩
  have hp : ∀ s ∈ selM (pairsL hs rs) m, s.1 < s.2 ∧ s.2 < rs.length := fun s hs' => pair_ok s (sel_mem s hs')
  have hn : (selM (pairsL hs rs) m).Nodup := by
    rw [e, pairs_by]
    exact ordBy_nodup.filter _
  refine ⟨selM (pairsL hs rs) m, List.mem_filter.mpr ⟨List.mem_map.mpr ⟨m, List.mem_range.mpr hm, rfl⟩, decide_eq_true ?_⟩, hp, ?_, ?_⟩
  · rw [ord_eq (sb_of ok hp)]
    exact keep_order (fun s h => sel_mem s h) fun s h => (hmem s).mpr h
  · exact Nat.le_antisymm (nodup_le hn fun s h => (hmem s).mp h) (nodup_le links_nodup fun s h => (hmem s).mpr h)
  · exact Nat.le_antisymm (nF_le fun s h => (hmem s).mp h) (nF_le fun s h => (hmem s).mpr h)
end
end Fl
set_option maxHeartbeats 4000000
namespace Fl
open PySem PySem.Spec PyProof.Rows L2 Evl
theorem sc_law_right : FnScope ["_law_heap_here", "_law_halls_here", "_law_rows_here", "_law_near_here", "_law_pairs_here", "_law_made", "_law_least", "_law_some", "_law_alone", "_law_sites", "_law_waits", "_law_sets"] ["_law_heap_here"] (defScope s_law_right) := ⟨rfl, rfl, rfl, by decide +kernel, rfl, by decide +kernel, by decide +kernel⟩
theorem sc_law : FnScope ["_law_script", "_law_k"] ["_law_script"] (defScope s_law) := ⟨rfl, rfl, rfl, by decide +kernel, rfl, by decide +kernel, by decide +kernel⟩
theorem any_py {x : D} {n m : Nat} (hx : x.okd m = true) : ∀ {ys : List D}, okdL ys n = true → ((pyL ys).any (fun z => PyData.eqv z x.py) = true ↔ x ∈ ys)
  | [], _ => by simp [pyL]
  | y :: ys, h => by
    have h' : (y.okd n && okdL ys n) = true := h
    obtain ⟨h1, h2⟩ := Bool.and_eq_true_iff.mp h'
    have ih := any_py hx (ys := ys) h2
    have e : pyL (y :: ys) = y.py :: pyL ys := by simp [pyL]
    rw [e, List.any_cons, Bool.or_eq_true, ih, eqv_py h1 hx, List.mem_cons]
    exact ⟨fun z => z.elim (fun a => .inl a.symm) .inr, fun z => z.elim (fun a => .inl a.symm) .inr⟩
section
variable {P : Program} {w : World} {K : PySem.W.Frag} {mg : Str → Option Value} {base : Heap} {a C : Addr} {σ : L2.St} {H : Hp} {te to ti ta tb : TE} {E : Ends} {tz : TS} {ts : TA}
theorem o_ninD {x : D} {ys : List D} {b : Bool} (hb : b = true ↔ x ∈ ys) (hx : x.okd 60 = true) (hy : (D.lst ys).okd 60 = true) : DOp C (rB P w K (compareOp .NotIn)) x (.lst ys) (.bl (!b)) := dop_of (r := rNotInD K) (fun X g => g.K ▸ op_notInD g.units) fun H v u rx ry Q q =>
  ⟨_, pyL ys, rx.dp hx, by
    have h := ry.dp (K := K) hy
    have e : (D.lst ys).py = PyData.list (pyL ys) := by simp [D.py]
    rw [e] at h
    exact h, shaped_of hx, by
    have h := shaped_of hy
    have e : (D.lst ys).py = PyData.list (pyL ys) := by simp [D.py]
    rw [e] at h
    exact h, by
    have hy' : okdL ys 59 = true := hy
    have e : ((pyL ys).any fun z => PyData.eqv z x.py) = b := by
      rw [Bool.eq_iff_iff, any_py hx hy']
      exact hb.symm
    rw [e]
    exact q _ H (Ex.refl H) rfl⟩
theorem em_bl {b : Bool} : EM a C (tC (.bl b)) σ H (fun e => e = .bl b) := fun H1 m Q q => q _ _ H1 rfl (.refl m.ok) fun _ _ => rfl
theorem qd_par {i j : Nat} {d : D} {Ψ : V → Hp → Prop} (ha : Ed C ta σ H d) (hb : ∀ H1, Ex H H1 → EvP tb σ H1 Ψ) (k : ∀ v u H1 H2, Ex H H1 → Rp C H1 v d → Ex H1 H2 → Ψ u H2 → tz E ((σ.set i (some v)).set j (some u)) H2) : tSeq (tPar i j (tCons ta (tCons tb tNil))) tz E σ H :=
  ha H (Ex.refl H) _ fun v H1 e1 p1 => hb H1 e1 H1 (Ex.refl H1) _ fun u H2 e2 p2 => ⟨v, u, rfl, k v u H1 H2 e1 p1 e2 p2⟩
theorem pairs_none {hs : List Hall} {rs : List Row} (h : rs.length ≤ 1) : pairsL hs rs = [] := by
  refine List.eq_nil_iff_forall_not_mem.mpr fun s hs' => ?_
  have := pair_ok s hs'
  omega
theorem RowsOk.rl {hs : List Hall} {rs : List Row} (h : RowsOk hs rs) : rlPre (hs, rs) := ⟨h.halls, h.few, h.cmd⟩
theorem RowsOk.drop {hs : List Hall} {rs : List Row} (h : RowsOk hs rs) : RowsOk hs rs.dropLast := ⟨h.halls, by have := h.few; rw [List.length_dropLast]; omega, fun r hr => h.lane r (List.dropLast_subset _ hr), fun r hr => h.cmd r (List.dropLast_subset _ hr)⟩
abbrev spRight (C : Addr) : Sp := spDr C (fun _ : Unit => []) (fun _ => True) fun _ d => d = .bl true
theorem c_law_right (T : TF w K mg) (c_law_draw : Callee P w K mg base "_law_draw" 1 ["_law_heap_here", "_law_many"] (spDraw (CB K))) (c_law_halls : Callee P w K mg base "_law_halls" 4 ["_law_heap_here", "_law_many", "_law_ground", "_law_owned"] (spHalls (CB K))) (c_law_rows : Callee P w K mg base "_law_rows" 4 ["_law_heap_here", "_law_halls_here", "_law_many", "_law_size"] (spRows (CB K)))
    (c_law_near : Callee P w K mg base "_law_near" 1 ["_law_halls_here"] (spLNear (CB K))) (c_law_pairs : Callee P w K mg base "_law_pairs" 5 ["_law_near_here", "_law_rows_here"] (spLPairs (CB K))) (c_fenced : CalleeD P w K mg base "fenced" 10 ["rooms", "script", "prefix"] [V.str "f"] (spFenced (CB K)))
    (c_law_counted : Callee P w K mg base "_law_counted" 6 ["_law_made"] (spCounted (CB K))) (c_law_gone_through : Callee P w K mg base "_law_gone_through" 11 ["_law_halls_here", "_law_rows_here", "_law_pairs_here"] (spGone (CB K))) (c_law_fenced_by : Callee P w K mg base "_law_fenced_by" 10 ["_law_halls_here", "_law_rows_here", "_law_pairs_here"] (spBy (CB K)))
    (c_links : Callee P w K mg base "links" 9 ["rooms", "script"] (spLinks (CB K))) (c_law_order : Callee P w K mg base "_law_order" 7 ["_law_made", "_law_sites"] (spOrder (CB K))) : Callee P w K mg base "_law_right" 12 ["_law_heap_here"] (spRight (CB K)) := by
  obtain ⟨fd, F⟩ := T.d_law_right
  refine callee_of F (F.ok sc_law_right (spDr_len fun _ => rfl) fun cdv A outer s H vs Q E hr h => ?_) T.g_law_right fun _ _ _ _ _ _ us hl => match us, hl with | [_], _ => rfl
  have g : Good P w K (L2.Cx.nox (cxOf CX0 P w K mg base ["_law_heap_here", "_law_halls_here", "_law_rows_here", "_law_near_here", "_law_pairs_here", "_law_made", "_law_least", "_law_some", "_law_alone", "_law_sites", "_law_waits", "_law_sets"] "_law_right" (defScope s_law_right) (He.ga K "_law_right") cdv A outer s H E)) := ⟨rfl, rfl, rfl, rfl, hu_un hr⟩
  have hu := hu_of hr
  refine ⟨_, PSs.nox (pss_cons (ps_set (i := 1) sc_law_right.nd rfl (Or.inl rfl) (pe_c c_law_halls (hr.mono (by decide)) (by rfl) pass0 (pa_cons (pv 0) (pa_cons (pe_op (op_b g) pe_int (pe_c c_law_draw (hr.mono (by decide)) (by rfl) pass0 (pa_cons (pv 0) (pa_cons pe_int pa_nil)))) (pa_cons (pe_cmpR (op_b g) (pe_c c_law_draw (hr.mono (by decide)) (by rfl) pass0 (pa_cons (pv 0) (pa_cons pe_int pa_nil))) pe_int (nomark _)) (pa_cons pe_bl pa_nil))))))
      (pss_cons (ps_set (i := 2) sc_law_right.nd rfl (Or.inl rfl) (pe_callTy (c_b g) (by rfl) T.f_tuple bt_tuple (pa_cons (pe_c c_law_rows (hr.mono (by decide)) (by rfl) pass0 (pa_cons (pv 0) (pa_cons (pv 1) (pa_cons (pe_op (op_b g) pe_int (pe_c c_law_draw (hr.mono (by decide)) (by rfl) pass0 (pa_cons (pv 0) (pa_cons pe_int pa_nil)))) (pa_cons (pe_op (op_b g) pe_int (pe_c c_law_draw (hr.mono (by decide)) (by rfl) pass0 (pa_cons (pv 0) (pa_cons pe_int pa_nil)))) pa_nil))))) pa_nil)))
      (pss_cons (ps_set (i := 3) sc_law_right.nd rfl (Or.inl rfl) (pe_c c_law_near (hr.mono (by decide)) (by rfl) pass0 (pa_cons (pv 1) pa_nil)))
      (pss_cons (ps_while PassesOwn.never (pt_cmpR (op_b g) (pe_callB (c_b g) (by rfl) T.f_len bt_len (pa_cons (pe_c c_law_pairs (hr.mono (by decide)) (by rfl) pass0 (pa_cons (pv 3) (pa_cons (pv 2) pa_nil))) pa_nil)) pe_int (nomark _)) (pss_one (ps_set (i := 2) sc_law_right.nd rfl (Or.inl rfl) (pe_slice (sl_b g) (pv 2) po_none (po_some (pe_un un_neg pe_int))))))
      (pss_cons (ps_par (i := 4) (j := 5) g.calm sc_law_right.nd rfl rfl (by decide) rfl rfl (pa_cons (pe_c c_law_pairs (hr.mono (by decide)) (by rfl) pass0 (pa_cons (pv 3) (pa_cons (pv 2) pa_nil))) (pa_cons (pe_cD c_fenced (hr.mono (by decide)) (by rfl) pass0 (pa_cons (pv 1) (pa_cons (pv 2) pa_nil))) pa_nil)) rfl)
      (pss_cons (ps_asg (pe_tup (pa_cons (pe_c c_law_counted (hr.mono (by decide)) (by rfl) pass0 (pa_cons (pv 5) pa_nil)) (pa_cons (pe_c c_law_gone_through (hr.mono (by decide)) (by rfl) pass0 (pa_cons (pv 1) (pa_cons (pv 2) (pa_cons (pv 4) pa_nil)))) pa_nil))) (pg_tup rfl (pgs_cons (pg_name (i := 6) sc_law_right.nd rfl (Or.inr rfl)) (pgs_cons (pg_name (i := 7) sc_law_right.nd rfl (Or.inl rfl)) pgs_nil))))
      (pss_cons (ps_if (PW.pt (pw_or (pt_cmpR (op_b g) (pv 6) (pv 7) rfl) (pw_or1 (pt_val (pe_callB (c_b g) (by rfl) T.f_any bt_any (pa_cons (pe_lc (own := [("_law_waits", 10), ("_law_sets", 11)]) (g := (gTup K 2 (gCons (gName 10) (gCons (gName 11) gNil)))) g.calm sc_law_right.nd (pi_b g (pv 7)) (blkOk_by (by kernel_rfl)) (fun _ _ _ _ _ => (pg_tup rfl (pgs_cons (pg_name (i := 10) sc_law_right.nd rfl (Or.inl rfl)) (pgs_cons (pg_name (i := 11) sc_law_right.nd rfl (Or.inl rfl)) pgs_nil)))) (fun _ _ _ _ _ => pts_nil) (fun _ _ _ _ _ => (pe_or (pe_cmpR (op_b g.b) (pv 10) (pe_ix (ix_b g.b) (pv 6) pe_int (fun _ _ => rfl)) (nomark _)) (pe_one (pe_cmpR (op_b g.b) (pv 11) (pe_ix (ix_b g.b) (pv 6) pe_int (fun _ _ => rfl)) (nomark _)))))) pa_nil)))))) (pss_one (ps_ret pe_bl)) pss_nil)
      (pss_cons (ps_asg (pe_c c_law_fenced_by (hr.mono (by decide)) (by rfl) pass0 (pa_cons (pv 1) (pa_cons (pv 2) (pa_cons (pe_c c_links (hr.mono (by decide)) (by rfl) pass0 (pa_cons (pv 1) (pa_cons (pv 2) pa_nil))) pa_nil)))) (pg_tup rfl (pgs_cons (pg_name (i := 8) sc_law_right.nd rfl (Or.inl rfl)) (pgs_cons (pg_name (i := 9) sc_law_right.nd rfl (Or.inl rfl)) pgs_nil))))
      (pss_one (ps_ret (pe_and (pe_cmpR (op_b g) (pe_c c_law_counted (hr.mono (by decide)) (by rfl) pass0 (pa_cons (pv 8) pa_nil)) (pv 6) (nomark _)) (pe_one (pe_cmpR (op_b g) (pe_c c_law_order (hr.mono (by decide)) (by rfl) pass0 (pa_cons (pv 8) (pa_cons (pv 9) pa_nil))) (pv 4) (nomark _)))))))))))))), ?_⟩
  obtain ⟨_, a, us, rfl, ok, ru, _, q⟩ := h
  obtain rfl := (ru H (.refl ok)).nil
  refine qm_asg (C := CB K) (φ := fun d => ∃ hs, d = hallsD hs ∧ (1 ≤ hs.length ∧ hs.length ≤ 3) ∧ HallsOk hs) ok (em_dr rfl (ema3 (em_op (χ := fun d => ∃ m : Nat, (1 ≤ m ∧ m ≤ 3) ∧ d = .int (m : Nat)) em_int (em_drawN (M := 3) rfl (by decide)) fun x y ex ⟨m, hm, ey⟩ => by
    subst ex; subst ey
    exact ⟨_, o_add, rfl, m + 1, ⟨by omega, by omega⟩, congrArg D.int (by omega)⟩) (em_op (χ := fun d => ∃ b, d = .bl b) (em_drawN (M := 2) rfl (by decide)) em_int fun x y ⟨m, _, ex⟩ ey => by
    subst ex; subst ey
    exact ⟨_, o_eqi, rfl, _, rfl⟩) em_bl) fun ds ⟨d1, d2, d3, e, ⟨m, hm, e1⟩, ⟨b, e2⟩, e3⟩ => ⟨(m, b), by rw [e, e1, e2, e3], hm, fun d ⟨hs, h1, h2, h3⟩ => ⟨hs, h1, by rw [h2]; exact hm, h3⟩⟩) fun dh vh H1 ⟨hs, edh, hl, hok⟩ m1 rh => ?_
  subst edh
  refine qm_asg (C := CB K) m1.ok (em_cb1 (χ := fun d => ∃ rs : List Row, d = scriptD rs ∧ (2 ≤ rs.length ∧ rs.length ≤ 5) ∧ ∀ r ∈ rs, r.1 ≤ 5 ∧ r.2.inn hs ∧ r.2.plain = true) (em_dr (φ := fun d => ∃ rs : List Row, d = .lst (rs.map rowD) ∧ (2 ≤ rs.length ∧ rs.length ≤ 5) ∧ ∀ r ∈ rs, r.1 ≤ 5 ∧ r.2.inn hs ∧ r.2.plain = true) rfl (ema3 (em_var rfl rh) (em_op (χ := fun d => ∃ m : Nat, (2 ≤ m ∧ m ≤ 3) ∧ d = .int (m : Nat)) em_int (em_drawN (M := 2) rfl (by decide)) fun x y ex ⟨m, hm, ey⟩ => by
    subst ex; subst ey
    exact ⟨_, o_add, rfl, m + 2, ⟨by omega, by omega⟩, congrArg D.int (by omega)⟩) (em_op (χ := fun d => ∃ m : Nat, (2 ≤ m ∧ m ≤ 5) ∧ d = .int (m : Nat)) em_int (em_drawN (M := 4) rfl (by decide)) fun x y ex ⟨m, hm, ey⟩ => by
    subst ex; subst ey
    exact ⟨_, o_add, rfl, m + 2, ⟨by omega, by omega⟩, congrArg D.int (by omega)⟩)) fun ds ⟨d1, d2, d3, e, e1, ⟨m, hm, e2⟩, ⟨z, hz, e3⟩⟩ => ⟨RwA.mk hs m z, by rw [e, e1, e2, e3], ⟨hok, hl.1, hl.2, by show 1 ≤ m; omega, hm.2, hz.2⟩, fun d ⟨rs, h1, h2, h3⟩ => ⟨rs, h1, by rw [h2]; exact hz, fun r hr => by
      obtain ⟨g1, g2⟩ := h3 r hr
      have : r.1 < m := g1
      exact ⟨by omega, g2⟩⟩⟩) fun x ⟨rs, ex, h2, h3⟩ => by
    subst ex
    exact ⟨_, k_tuple, scriptD_fz rs, rs, rfl, h2, h3⟩) fun dr vr0 H2 ⟨rs0, edr, hrl, hrr⟩ m2 rr => ?_
  subst edr
  have m12 := m1.trans m2
  have rh2 : Rp (CB K) H2 vh (hallsD hs) := (rh.mu m2).rp m2.ok
  have rr2 : Rp (CB K) H2 vr0 (scriptD rs0) := rr.rp m2.ok
  have ro0 : RowsOk hs rs0 := ⟨hok, hrl.2, fun r hr => (hrr r hr).1, fun r hr => (hrr r hr).2⟩
  refine qd_asg (C := CB K) (ed_call hs (ea1 (ed_var rfl rh2) ea0) hok) fun vn H3 e3 rn => ?_
  refine ⟨fun m σ' H' => ∃ rs vr, m = rs.length ∧ σ' = [some (.ref a), some vh, some vr, some vn, none, none, none, none, none, none, none, none] ∧ Rp (CB K) H' vr (scriptD rs) ∧ RowsOk hs rs ∧ rs ≠ [] ∧ Ex H3 H', ⟨_, rs0, vr0, rfl, rfl, rr2.ex e3, ro0, fun z => by rw [z] at hrl; have := hrl.1; simp at this, Ex.refl _⟩, ?_⟩
  rintro m σ' H' ⟨rs, vr, rfl, rfl, rv, ro, hne, e4⟩
  refine (et_is (b := decide (6 < (pairsL hs rs).length)) (et_cmp (C := CB K) (ed_op (ed_cb (ea1 (ed_call (hs, rs) (ea1 (ed_var rfl (rn.ex e4)) (ea1 (ed_var rfl rv) ea0)) ro.rl) ea0) k_lenl) ed_int o_gt)) (decide_eq_decide.mpr (by
    show ((6 : Int) < ((((pairsL hs rs).map spotD).length : Nat) : Int)) ↔ 6 < (pairsL hs rs).length
    rw [List.length_map]
    omega))) H' (Ex.refl H') _ fun H4 e5 => ?_
  have e34 : Ex H3 H4 := e4.trans e5
  by_cases hb : 6 < (pairsL hs rs).length
  · rw [decide_eq_true hb, if_pos rfl]
    have h2 : 2 ≤ rs.length := by
      refine Nat.le_of_not_lt fun h => ?_
      rw [pairs_none (by omega)] at hb
      exact absurd hb (Nat.not_lt_zero _)
    refine ⟨fun σ' H' => ∃ rs' vr, rs'.length < rs.length ∧ σ' = [some (.ref a), some vh, some vr, some vn, none, none, none, none, none, none, none, none] ∧ Rp (CB K) H' vr (scriptD rs') ∧ RowsOk hs rs' ∧ rs' ≠ [] ∧ Ex H3 H', fun σ' H' ⟨rs', vr', g1, g2, g3, g4, g5, g6⟩ => ⟨_, g1, rs', vr', rfl, g2, g3, g4, g5, g6⟩, ?_⟩
    refine ql_asg (C := CB K) (d := scriptD rs.dropLast) (Ed.is (ed_slTm (ed_var rfl (rv.ex e5)) (ed_un ed_int)) (by rw [← List.map_dropLast])) fun vd H5 e6 rd => ?_
    refine ⟨rs.dropLast, vd, by rw [List.length_dropLast]; omega, rfl, rd, ro.drop, fun z => ?_, e34.trans e6⟩
    have := congrArg List.length z
    rw [List.length_dropLast, List.length_nil] at this
    omega
  · rw [decide_eq_false hb, if_neg (by decide)]
    have six : (pairsL hs rs).length ≤ 6 := by omega
    have rh4 : Rp (CB K) H4 vh (hallsD hs) := rh2.ex (e3.trans e34)
    have rv4 : Rp (CB K) H4 vr (scriptD rs) := rv.ex e5
    have rn4 : Rp (CB K) H4 vn (.dk (nearTab hs)) := rn.ex e34
    dsimp only
    refine qd_par (C := CB K) (d := .lst ((pairsL hs rs).map spotD)) (Ψ := fun v H5 => ∃ d, (∃ ls, d = bookD (hs, ls) ∧ Build "f" rs (linksL hs rs) rs.length ls) ∧ Rp (CB K) H5 v d) (ed_call (hs, rs) (ea1 (ed_var rfl rn4) (ea1 (ed_var rfl rv4) ea0)) ro.rl) ?_ fun vp vf H5 H6 e6 rp e7 ⟨df, ⟨lsF, edf, hbF⟩, rf⟩ => ?_
    · intro H5 e6
      exact EvP.imp (evD_call (C := CB K) (dvs := [V.str "f"]) (dd := [D.str "f"]) (ds := [hallsD hs, scriptD rs]) (args := fun p : List Hall × List Row => [hallsD p.1, scriptD p.2, .str "f"]) (pre := fun p => RowsOk p.1 p.2) (res := fun p d => ∃ ls, d = bookD (p.1, ls) ∧ Build "f" p.2 (linksL p.1 p.2) p.2.length ls) (hs, rs) (ea1 (ed_var rfl (rh4.ex e6)) (ea1 (ed_var rfl (rv4.ex e6)) ea0)) (fun H => (⟨rfl, True.intro⟩ : RpL (CB K) H [V.str "f"] [D.str "f"])) rfl ro) fun v H6 _ ⟨d, h1, h2, _⟩ => ⟨d, h1, h2⟩
    subst edf
    have e46 := e6.trans e7
    have lkF := links_ok ro
    have fewF : Few lsF := few_of (hbF.ok ro lkF preF)
    have rp6 : Rp (CB K) H6 vp (.lst ((pairsL hs rs).map spotD)) := rp.ex e7
    refine qd_two (C := CB K) (ed_tup (ea1 (ed_call (hs, lsF) (ea1 (ed_var rfl rf) ea0) fewF) (ea1 (ed_call (GoA.mk hs rs (pairsL hs rs)) (ea1 (ed_var rfl (rh4.ex e46)) (ea1 (ed_var rfl (rv4.ex e46)) (ea1 (ed_var rfl rp6) ea0))) ⟨ro, hne, six, pair_ok⟩) ea0))) fun vl vs H7 e8 rl rs' => ?_
    replace rl : Rp (CB K) H7 vl (cntD lsF) := rl
    replace rs' : Rp (CB K) H7 vs (.lst ((goneL rs (pairsL hs rs)).map fun S => cntD (lsB rs S))) := rs'
    have e47 := e46.trans e8
    have plain : ∀ r ∈ rs, r.2.plain = true := fun r hr => (ro.cmd r hr).2
    obtain ⟨cF1, cF2⟩ := counts plain lkF.pairs hbF
    have hgl : (goneL rs (pairsL hs rs)).length ≤ 64 := by
      unfold goneL
      refine Nat.le_trans (List.length_filter_le _ _) ?_
      rw [List.length_map, List.length_range]
      exact Nat.le_trans (Nat.pow_le_pow_right (by decide) six) (by decide)
    have hin : cntD lsF ∈ (goneL rs (pairsL hs rs)).map fun S => cntD (lsB rs S) := by
      obtain ⟨S, hS, hSp, hl1, hl2⟩ := links_gone ro
      refine List.mem_map.mpr ⟨S, hS, ?_⟩
      show cntD (lsB rs S) = cntD lsF
      rw [cnt_by ro hSp, cnt_fenced ro hbF, hl1, hl2]
    have hany : ((goneL rs (pairsL hs rs)).any fun S => decide (((cntW (lsB rs S) "wait" : Nat) : Int) < ((cntW lsF "wait" : Nat) : Int)) || decide (((cntW (lsB rs S) "set" : Nat) : Int) < ((cntW lsF "set" : Nat) : Int))) = false := by
      rw [List.any_eq_false]
      intro S hS
      obtain ⟨hSp, g1, g2⟩ := gone_ge ro hS
      obtain ⟨c1, c2⟩ := counts plain hSp (build_of (S := S) (rs := rs) (Nat.le_refl _))
      have g2' : ((List.range rs.length).filter (fronts (linksL hs rs))).length ≤ ((List.range rs.length).filter (fronts S)).length := g2
      rw [decide_eq_false (by rw [c1, cF1]; omega), decide_eq_false (by rw [c2, cF2]; omega)]
      decide
    have okc : ∀ ls, (cntD ls).okd 60 = true := fun _ => rfl
    have okg : (D.lst ((goneL rs (pairsL hs rs)).map fun S => cntD (lsB rs S))).okd 60 = true := okd_lst (n := 59) fun d hd => by
      obtain ⟨S, _, rfl⟩ := List.mem_map.mp hd
      rfl
    refine qd_no (et_is (et_or (et_cmp (C := CB K) (ed_op (ed_var rfl rl) (ed_var rfl rs') (o_ninD (b := true) ⟨fun _ => hin, fun _ => rfl⟩ (okc _) okg))) fun _ => et_val (ed_cb (ea1 (ed_map (C := CB K) (xs := goneL rs (pairsL hs rs)) (F := fun S => cntD (lsB rs S)) (fun S => .bl (decide (((cntW (lsB rs S) "wait" : Nat) : Int) < ((cntW lsF "wait" : Nat) : Int)) || decide (((cntW (lsB rs S) "set" : Nat) : Int) < ((cntW lsF "set" : Nat) : Int)))) (ei_lst (ed_var rfl rs')) (by omega) (fun _ _ => rfl) (fun i S x H8 hi e9 r9 k q' => g_two r9 fun w1 w2 z1 z2 => q' _ rfl (ed_or (ed_op (ed_var rfl z1) (ed_op (ed_var rfl (rl.ex e9)) ed_int (o_ixt at0)) o_lt) fun _ => ed_op (ed_var rfl z2) (ed_op (ed_var rfl (rl.ex e9)) ed_int (o_ixt at1)) o_lt))) ea0) k_anyM)) (by rw [hany]; rfl)) fun H8 e9 => ?_
    have e48 := e47.trans e9
    have ooL := ora_of ro lkF
    refine qd_two (C := CB K) (ed_call (ByA.mk hs rs (linksL hs rs) (.tup ((linksL hs rs).map spotD))) (ea1 (ed_var rfl (rh4.ex e48)) (ea1 (ed_var rfl (rv4.ex e48)) (ea1 (ed_call (hs, rs) (ea1 (ed_var rfl (rh4.ex e48)) (ea1 (ed_var rfl (rv4.ex e48)) ea0)) ro) ea0))) ⟨ro, hne, lkF, .inr rfl⟩) fun va vt H9 e10 ra rt => ?_
    have e49 := e48.trans e10
    have e89 := e9.trans e10
    refine ret_v (C := CB K) (d := .bl (true && true)) (ed_and (ed_op (ed_call (hs, lsB rs (linksL hs rs)) (ea1 (ed_var rfl ra) ea0) ooL.few) (ed_var rfl (rl.ex e89)) (o_eqd (b := true) ⟨fun _ => by rw [cnt_by ro lkF.pairs, cnt_fenced ro hbF], fun _ => rfl⟩ (okc _) (okc _))) fun _ => ed_op (ed_call (OrA.mk hs (lsB rs (linksL hs rs)) (stB rs (linksL hs rs))) (ea1 (ed_var rfl ra) (ea1 (ed_var rfl rt) ea0)) ooL) (ed_var rfl (rp6.ex (e8.trans e89))) (o_eqd (b := true) ⟨fun _ => by rw [links_order ro], fun _ => rfl⟩ (spots_okd _) (spots_okd _))) fun v H10 e11 rv' => ?_
    exact q (.bl true) v H10 rfl (m12.trans (.ex m12.ok (e3.trans (e34.trans (e49.trans e11))))) fun _ _ => rv'
def spLaw (K : PySem.W.Frag) : Sp := fun vs H Q _ => ∃ (a : Addr) (ns : List Int), vs = [.ref a] ∧ SqL K H a (ns.map V.int) ∧ ns.length ≤ 63 ∧ ∀ H', Q (.bl true) H'
theorem law_ok {fd : FuncData} (T : TF w K mg) (F : FunD K "law" "law" (defArgs s_law) (defBody s_law) (defScope s_law) [] [] (He.ga K "law") fd) (c_law_cell : Callee P w K mg base "_law_cell" 1 ["_law_script", "_law_k"] (spCell K)) (c_law_heap : Callee P w K mg base "_law_heap" 1 ["_law_cell_here"] (spHeap (CB K)))
    (c_law_right : Callee P w K mg base "_law_right" 12 ["_law_heap_here"] (spRight (CB K))) : FnOk P w K mg base CX0 13 (He.ga K "law") fd ["_law_script"] (spLaw K) := by
  refine F.ok sc_law (fun vs H Q E ⟨_, _, e, _⟩ => by rw [e]; rfl) fun cdv A outer s H vs Q E hr h => ?_
  have g : Good P w K (L2.Cx.nox (cxOf CX0 P w K mg base ["_law_script", "_law_k"] "law" (defScope s_law) (He.ga K "law") cdv A outer s H E)) := ⟨rfl, rfl, rfl, rfl, hu_un hr⟩
  have hu := hu_of hr
  refine ⟨_, PSs.nox (pss_one (ps_ret (pe_callB (c_b g) (by rfl) T.f_all bt_all (pa_cons (pe_lc (own := [("_law_k", 1)]) g.calm sc_law.nd (pi_range1 (by rfl) T.f_range (pa_cons (pe_callB (c_b g) (by rfl) T.f_max bt_max (pa_cons pe_int (pa_cons (pe_callB (c_b g) (by rfl) T.f_min bt_min (pa_cons (pe_callB (c_b g) (by rfl) T.f_len bt_len (pa_cons (pv 0) pa_nil)) (pa_cons pe_int pa_nil))) pa_nil))) pa_nil)) (blkOk_by (by kernel_rfl)) (fun _ _ _ _ _ => (pg_name (i := 1) sc_law.nd rfl (Or.inl rfl))) (fun _ _ _ _ _ => pts_nil) (fun _ _ _ _ _ => (pe_c c_law_right (hr.mono (by decide)) (by rfl) pass0 (pa_cons (pe_c c_law_heap (hr.mono (by decide)) (by rfl) pass0 (pa_cons (pe_c c_law_cell (hr.mono (by decide)) (by rfl) pass0 (pa_cons (pv 0) (pa_cons (pv 1) pa_nil))) pa_nil)) pa_nil)))) pa_nil)))), ?_⟩
  obtain ⟨a, ns, rfl, hS0, hn, q⟩ := h
  have hS : SqInt K a ns H := .of hS0
  refine ret_v (C := CB K) (d := .bl ((List.range (max 3 (min ns.length 5))).all fun _ => true)) (ed_cb (ea1 (ed_map (C := CB K) (xs := List.range (max 3 (min ns.length 5))) (F := fun i => D.int (i : Nat)) (fun _ => .bl true) (ei_rangeN (ea1 (Ed.is (ed_cb (ea1 ed_int (ea1 (ed_cb (ea1 (ed_lenS rfl hS) (ea1 ed_int ea0)) k_min2) ea0)) k_max2) (congrArg D.int ?_)) ea0) (by omega)) (by rw [List.length_range]; omega) (fun _ _ => rfl) ?_) ea0) k_allM) fun v H9 e9 rv => ?_
  · have e : (if (5 : Int) < ((ns.length : Nat) : Int) then (5 : Int) else ((ns.length : Nat) : Int)) = ((min ns.length 5 : Nat) : Int) := by split <;> omega
    rw [e]
    split <;> omega
  · intro i k x H1 hi e1 rx kk q'
    have hk : k < max 3 (min ns.length 5) := List.mem_range.mp (List.mem_of_getElem? hi)
    obtain rfl : x = V.int (k : Nat) := rx
    refine q' _ rfl fun H2 e2 Q' q2 => ?_
    refine ⟨_, rfl, _, rfl, a, ns, k, rfl, hS H2 (e1.trans e2), by omega, fun i H3 e3 => ?_⟩
    refine ⟨i, ⟨rfl, True.intro⟩, trivial, fun d v H4 hd e4 r4 n4 => ?_⟩
    obtain ⟨x, y, z, rfl, hx⟩ := hd
    obtain ⟨b, xs, rfl, hb, rxs⟩ := r4
    obtain ⟨v1, v2, v3, rfl, z1, z2, z3⟩ := rxs.three
    obtain rfl : v1 = V.int x := z1
    obtain rfl : v2 = V.int y := z2
    obtain rfl : v3 = V.int z := z3
    have hb3 : H3 b = none := n4 rfl b rfl
    refine ⟨(), b, [], rfl, ⟨x, y, z, hb, hx⟩, fun _ _ => True.intro, trivial, fun d v H5 hd m5 r5 => ?_⟩
    subst hd
    refine q2 v H5 (fun b' o hb' => m5.keep b' o (fun e => ?_) (e4 _ _ (e3 _ _ hb'))) (r5.rp m5.ok)
    subst e
    rw [e3 _ _ hb'] at hb3
    cases hb3
  · have hall : ((List.range (max 3 (min ns.length 5))).all fun _ => true) = true := List.all_eq_true.mpr fun _ _ => rfl
    rw [hall] at rv
    obtain rfl : v = V.bl true := rv
    exact q H9
end
end Fl
set_option maxHeartbeats 4000000
namespace Fl
open PySem PySem.Spec PyProof.Rows L2 Evl
theorem law_all {P : Program} {w : World} {K : PySem.W.Frag} {mg : Str → Option Value} {base : Heap} {fd : FuncData} (T : TF w K mg) (F : FunD K "law" "law" (defArgs s_law) (defBody s_law) (defScope s_law) [] [] (He.ga K "law") fd) : FnOk P w K mg base CX0 13 (He.ga K "law") fd ["_law_script"] (spLaw K) := by
  have h_law_cell := c_law_cell (P := P) (base := base) T
  have h_law_heap := c_law_heap (P := P) (base := base) T
  have h_law_draw := c_law_draw (P := P) (base := base) T
  have h_law_term := c_law_term (P := P) (base := base) T h_law_draw
  have h_law_terms := c_law_terms (P := P) (base := base) T h_law_term
  have h_law_halls := c_law_halls (P := P) (base := base) T h_law_terms h_law_draw
  have h_law_number := c_law_number (P := P) (base := base) T h_law_draw
  have h_law_plain_deed := c_law_plain_deed (P := P) (base := base) T h_law_draw h_law_number
  have h_law_rows := c_law_rows (P := P) (base := base) T h_law_draw h_law_plain_deed
  have h_law_near := c_law_near (P := P) (base := base) T
  have h_law_sources := c_law_sources (P := P) (base := base) T
  have h_law_target := c_law_target (P := P) (base := base) T
  have h_law_written := c_law_written (P := P) (base := base) T h_law_target
  have h_law_meets := c_law_meets (P := P) (base := base) T h_law_sources h_law_written
  have h_law_rows_ahead := c_law_rows_ahead (P := P) (base := base) T h_law_meets
  have h_law_pairs := c_law_pairs (P := P) (base := base) T h_law_rows_ahead
  have h_is_name := c_is_name (P := P) (base := base) T
  have h_is_whole := c_is_whole (P := P) (base := base) T
  have h_is_within := c_is_within (P := P) (base := base) T h_is_whole
  have h_is_lane := c_is_lane (P := P) (base := base) T h_is_within
  have h_is_room := c_is_room (P := P) (base := base) T h_is_name h_is_within h_is_lane
  have h_check_rooms := c_check_rooms (P := P) (base := base) T h_is_room
  have h_are_names := c_are_names (P := P) (base := base) T h_is_name
  have h_is_number := c_is_number (P := P) (base := base) T h_is_within
  have h_is_value := c_is_value (P := P) (base := base) T h_is_within
  have h_is_by := c_is_by (P := P) (base := base) T h_is_within
  have h_is_part := c_is_part (P := P) (base := base) T h_is_name h_are_names h_is_number h_is_value h_is_by
  have h_is_command := c_is_command (P := P) (base := base) T h_is_part
  have h_sources_of := c_sources_of (P := P) (base := base) T
  have h_written_by := c_written_by (P := P) (base := base) T
  have h_rooms_of := c_rooms_of (P := P) (base := base) T h_sources_of h_written_by
  have h_stands_in := c_stands_in (P := P) (base := base) T h_is_command h_rooms_of
  have h_is_script_row := c_is_script_row (P := P) (base := base) T h_is_lane h_stands_in
  have h_check_script := c_check_script (P := P) (base := base) T h_is_script_row
  have h_check_prefix := c_check_prefix (P := P) (base := base) T h_is_name
  have h_numbers_of := c_numbers_of (P := P) (base := base) T
  have h_how_many_lanes := c_how_many_lanes (P := P) (base := base) T
  have h_fenced_rows := c_fenced_rows (P := P) (base := base) T h_numbers_of h_how_many_lanes
  have h_touching := c_touching (P := P) (base := base) T
  have h_shows := c_shows (P := P) (base := base) T
  have h_clash_word := c_clash_word (P := P) (base := base) T h_shows h_rooms_of h_written_by
  have h_clash := c_clash (P := P) (base := base) T h_clash_word
  have h_rows_ahead := c_rows_ahead (P := P) (base := base) T h_touching h_clash
  have h_is_link := c_is_link (P := P) (base := base) T
  have h_links_of := c_links_of (P := P) (base := base) T h_rows_ahead h_is_link
  have h_check_lanes := c_check_lanes (P := P) (base := base) T h_stands_in
  have h_Book_init := c_Book_init (P := P) (base := base) T h_check_rooms h_check_lanes
  have h_fenced := c_fenced (P := P) (base := base) T h_check_rooms h_check_script h_check_prefix h_fenced_rows h_links_of h_Book_init
  have h_Book_spots := c_Book_spots (P := P) (base := base) T
  have h_is_spot := c_is_spot (P := P) (base := base) T h_is_within
  have h_check_spot := c_check_spot (P := P) (base := base) T h_is_spot
  have h_Book_command := c_Book_command (P := P) (base := base) T h_check_spot
  have h_law_counted := c_law_counted (P := P) (base := base) T h_Book_spots h_Book_command
  have h_law_fenced_by := c_law_fenced_by (P := P) (base := base) T h_Book_init
  have h_check_book := c_check_book (P := P) (base := base) T
  have h_check_two := c_check_two (P := P) (base := base) T h_check_book h_check_spot
  have h_all_spots := c_all_spots (P := P) (base := base) T
  have h_command_at := c_command_at (P := P) (base := base) T
  have h_sets_of := c_sets_of (P := P) (base := base) T h_all_spots h_command_at
  have h_first_with := c_first_with (P := P) (base := base) T
  have h_hangs := c_hangs (P := P) (base := base) T h_sets_of h_all_spots h_command_at h_first_with
  have h_elders_of := c_elders_of (P := P) (base := base) T
  have h_clocks := c_clocks (P := P) (base := base) T h_hangs h_all_spots h_elders_of
  have h_is_ahead := c_is_ahead (P := P) (base := base) T
  have h_ahead := c_ahead (P := P) (base := base) T h_check_two h_clocks h_is_ahead
  have h_law_order := c_law_order (P := P) (base := base) T h_ahead
  have h_law_gone_through := c_law_gone_through (P := P) (base := base) T h_law_fenced_by h_law_order h_law_counted
  have h_links := c_links (P := P) (base := base) T h_check_rooms h_check_script h_links_of
  have h_law_right := c_law_right (P := P) (base := base) T h_law_draw h_law_halls h_law_rows h_law_near h_law_pairs h_fenced h_law_counted h_law_gone_through h_law_fenced_by h_links h_law_order
  exact law_ok T F h_law_cell h_law_heap h_law_right
end Fl
set_option maxHeartbeats 0
open PySem PySem.W PySem.Calls PyProof.Rows
theorem PySem.Challenge.cw_fencelanes_k66_whole_no_fewer_waits_holds : PySem.Challenge.rw_fencelanes_k66_whole_no_fewer_waits.Holds := by
  w_on; o_law
  refine HandSHeadRun.head_any (r := OpenLaw.row PySem.Challenge.rw_fencelanes_k66_whole_no_fewer_waits) (q := Fl.qv) (H := Fl.hk) (ob := Fl.ob) (M := 6000) (loose := Fl.loose) (d := HandSHeadRun.topDef (OpenLaw.row PySem.Challenge.rw_fencelanes_k66_whole_no_fewer_waits).prog 106) (kwd := []) Fl.ob_eq
    (by kernel_rfl) (fun s => by kernel_rfl) Fl.run (by kernel_rfl) (by kernel_rfl) (by kernel_rfl) (by rfl) (by first | assumption | decide +kernel) (by decide +kernel) ⟨rfl, rfl, rfl, rfl, rfl, by decide +kernel⟩ ?hw ?hc
  case hw => w_witness2
  case hc =>
    refine L2.walk_ofE (l := PySem.Challenge.rw_fencelanes_k66_whole_no_fewer_waits) (n := 63) (k := 13) (x := "_law_script") (CX := L2.CX0) rfl (by decide) (by kernel_rfl) ⟨rfl, by decide, by decide⟩ ?F (fun _ _ _ _ z => z)
    intro w mg fa h Y G hmg0
    obtain ⟨K, KX, c⟩ := Y
    have hmg : mg ("law" : PySem.Str) = some (.ref fa) := by
      have e : (HandSHeadRun.topDef (OpenLaw.row PySem.Challenge.rw_fencelanes_k66_whole_no_fewer_waits).prog 106).name = ("law" : PySem.Str) := by kernel_rfl
      rw [← e]
      exact hmg0
    have T : Fl.TF w K mg := ⟨⟨h, KX, G⟩, c.t, c.more⟩
    obtain ⟨fd, F⟩ := T.d_law
    have e := hmg.symm.trans T.g_law
    cases e
    have b := L2.FunD.bindsA (ps := ["_law_script"]) F fun _ _ _ _ _ _ us hl => match us, hl with | [_], _ => rfl
    exact ⟨K, fd, Fl.spLaw K, KX, fun s v => b s [v] rfl, fun H a ns hl _ hS => ⟨a, ns, rfl, hS, hl, fun _ => rfl⟩, fun base _ _ => Fl.law_all T F⟩
