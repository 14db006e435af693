import PyProof.Rows.All
import Wide.All
import OpenK.AllK
import Wide.FinOn
import KE.KStateDown
import HandS.ForMost
import HandS.More
import HandS.WordsExc
import HandS.Defaults
import HandS.Head0
import HandS.Head1
import HandS.Head2
import HandS.HeadEnd
import HandS.HeadHook1
import HandS.HeadHook2
import HandS.HeadHook3
import HandS.HeadHook4
import HandS.Walk
import HandS.StrMore
import HandS.TupAny
import HandS.IsInst
import HandS.Evl
import KE.GoesZip
import KE.GoesMore
import HandS.Style
import PyProof.StrBlock2
import HandS.ReplaceLit
import HandS.ReplaceList
import KE.DatumOrd
import HandS.Conv
import HandS.Codes
import HandS.SetFor
import HandS.Zip
import HandS.DictTup
import KE.KSortTupAny
import PySem.Challenge.RW_editheart_k09_whole_notes
set_option Elab.async false
set_option linter.all false
set_option maxRecDepth 100000
set_option maxHeartbeats 0
namespace Cb
end Cb
namespace Ed
end Ed
namespace Ed
open PySem L2 Cb
def lNAMES : List Nat := [97, 98, 99, 100]
end Ed
namespace Ed
open PySem L2 Cb
def cNAMES : Str := ⟨lNAMES.toArray⟩
end Ed
namespace Ed
open PySem L2 Cb
def lOPEN : List Nat := [40, 91, 123]
end Ed
namespace Ed
open PySem L2 Cb
def cOPEN : Str := ⟨lOPEN.toArray⟩
end Ed
namespace Ed
open PySem L2 Cb
def lOTHERS : List Nat := [32, 46, 44, 45, 40, 41, 91, 93, 123, 125]
end Ed
namespace Ed
open PySem L2 Cb
def cOTHERS : Str := ⟨lOTHERS.toArray⟩
end Ed
namespace Ed
open PySem L2 Cb
def lSHUT : List Nat := [41, 93, 125]
end Ed
namespace Ed
open PySem L2 Cb
def cSHUT : Str := ⟨lSHUT.toArray⟩
end Ed
namespace Ed
open PySem L2 Cb
def lWORD : List Nat := [97, 98, 99, 100, 101, 102, 103, 104, 105, 106, 107, 108, 109, 110, 111, 112, 113, 114, 115, 116, 117, 118, 119, 120, 121, 122, 65, 66, 67, 68, 69, 70, 71, 72, 73, 74, 75, 76, 77, 78, 79, 80, 81, 82, 83, 84, 85, 86, 87, 88, 89, 90, 48, 49, 50, 51, 52, 53, 54, 55, 56, 57]
end Ed
namespace Ed
open PySem L2 Cb
def cWORD : Str := ⟨lWORD.toArray⟩
end Ed
namespace Ed
open PySem L2 Cb
def w_left : List Nat := [108, 101, 102, 116]
end Ed
namespace Ed
open PySem L2 Cb
abbrev sv (t : List Nat) : V := .str ⟨t.toArray⟩
end Ed
namespace Ed
open PySem L2 Cb
def w_right : List Nat := [114, 105, 103, 104, 116]
end Ed
namespace Ed
open PySem L2 Cb
def w_up : List Nat := [117, 112]
end Ed
namespace Ed
open PySem L2 Cb
def w_down : List Nat := [100, 111, 119, 110]
end Ed
namespace Ed
open PySem L2 Cb
def w_word : List Nat := [119, 111, 114, 100]
end Ed
namespace Ed
open PySem L2 Cb
def w_back : List Nat := [98, 97, 99, 107]
end Ed
namespace Ed
open PySem L2 Cb
def w_over : List Nat := [111, 118, 101, 114]
end Ed
namespace Ed
open PySem L2 Cb
def w_begin : List Nat := [98, 101, 103, 105, 110]
end Ed
namespace Ed
open PySem L2 Cb
def w_end : List Nat := [101, 110, 100]
end Ed
namespace Ed
open PySem L2 Cb
def w_first : List Nat := [102, 105, 114, 115, 116]
end Ed
namespace Ed
open PySem L2 Cb
def w_top : List Nat := [116, 111, 112]
end Ed
namespace Ed
open PySem L2 Cb
def w_bottom : List Nat := [98, 111, 116, 116, 111, 109]
end Ed
namespace Ed
open PySem L2 Cb
def w_pair : List Nat := [112, 97, 105, 114]
end Ed
namespace Ed
open PySem L2 Cb
def w_row : List Nat := [114, 111, 119]
end Ed
namespace Ed
open PySem L2 Cb
def w_find : List Nat := [102, 105, 110, 100]
end Ed
namespace Ed
open PySem L2 Cb
def w_mark : List Nat := [109, 97, 114, 107]
end Ed
namespace Ed
open PySem L2 Cb
def w_search : List Nat := [115, 101, 97, 114, 99, 104]
end Ed
namespace Ed
open PySem L2 Cb
def w_again : List Nat := [97, 103, 97, 105, 110]
end Ed
namespace Ed
open PySem L2 Cb
def w_before : List Nat := [98, 101, 102, 111, 114, 101]
end Ed
namespace Ed
open PySem L2 Cb
def kSIZES : List (Str × Option V) := [(⟨w_left.toArray⟩, some (sv [110])), (⟨w_right.toArray⟩, some (sv [110])), (⟨w_up.toArray⟩, some (sv [110])), (⟨w_down.toArray⟩, some (sv [110])), (⟨w_word.toArray⟩, some (sv [110])), (⟨w_back.toArray⟩, some (sv [110])), (⟨w_over.toArray⟩, some (sv [110])), (⟨w_begin.toArray⟩, some (sv [])), (⟨w_end.toArray⟩, some (sv [])), (⟨w_first.toArray⟩, some (sv [])), (⟨w_top.toArray⟩, some (sv [])), (⟨w_bottom.toArray⟩, some (sv [])), (⟨w_pair.toArray⟩, some (sv [])), (⟨w_row.toArray⟩, some (sv [114])), (⟨w_find.toArray⟩, some (sv [115, 110])), (⟨w_mark.toArray⟩, some (sv [109])), (⟨w_search.toArray⟩, some (sv [116])), (⟨w_again.toArray⟩, some (sv [])), (⟨w_before.toArray⟩, some (sv []))]
end Ed
namespace Ed
open PySem L2 Cb
abbrev ss (l : List Nat) : Str := ⟨l.toArray⟩
end Ed
namespace Ed
open PySem L2 Cb
def w_go : List Nat := [103, 111]
end Ed
namespace Ed
open PySem L2 Cb
def kn_motion : List Nat := [109, 111, 116, 105, 111, 110]
end Ed
namespace Ed
open PySem L2 Cb
def w_choose : List Nat := [99, 104, 111, 111, 115, 101]
end Ed
namespace Ed
open PySem L2 Cb
def w_cut : List Nat := [99, 117, 116]
end Ed
namespace Ed
open PySem L2 Cb
def kn_area : List Nat := [97, 114, 101, 97]
end Ed
namespace Ed
open PySem L2 Cb
def kn_name : List Nat := [110, 97, 109, 101]
end Ed
namespace Ed
open PySem L2 Cb
def w_copy : List Nat := [99, 111, 112, 121]
end Ed
namespace Ed
open PySem L2 Cb
def w_turn : List Nat := [116, 117, 114, 110]
end Ed
namespace Ed
open PySem L2 Cb
def kn_case : List Nat := [99, 97, 115, 101]
end Ed
namespace Ed
open PySem L2 Cb
def w_shift : List Nat := [115, 104, 105, 102, 116]
end Ed
namespace Ed
open PySem L2 Cb
def kn_side : List Nat := [115, 105, 100, 101]
end Ed
namespace Ed
open PySem L2 Cb
def w_put : List Nat := [112, 117, 116]
end Ed
namespace Ed
open PySem L2 Cb
def kn_times : List Nat := [116, 105, 109, 101, 115]
end Ed
namespace Ed
open PySem L2 Cb
def w_write : List Nat := [119, 114, 105, 116, 101]
end Ed
namespace Ed
open PySem L2 Cb
def kn_signs : List Nat := [115, 105, 103, 110, 115]
end Ed
namespace Ed
open PySem L2 Cb
def w_undo : List Nat := [117, 110, 100, 111]
end Ed
namespace Ed
open PySem L2 Cb
def w_redo : List Nat := [114, 101, 100, 111]
end Ed
namespace Ed
open PySem L2 Cb
def w_to : List Nat := [116, 111]
end Ed
namespace Ed
open PySem L2 Cb
def kn_state : List Nat := [115, 116, 97, 116, 101]
end Ed
namespace Ed
open PySem L2 Cb
def w_record : List Nat := [114, 101, 99, 111, 114, 100]
end Ed
namespace Ed
open PySem L2 Cb
def w_stop : List Nat := [115, 116, 111, 112]
end Ed
namespace Ed
open PySem L2 Cb
def w_play : List Nat := [112, 108, 97, 121]
end Ed
namespace Ed
open PySem L2 Cb
def w_dot : List Nat := [100, 111, 116]
end Ed
namespace Ed
open PySem L2 Cb
def w_open : List Nat := [111, 112, 101, 110]
end Ed
namespace Ed
open PySem L2 Cb
def w_window : List Nat := [119, 105, 110, 100, 111, 119]
end Ed
namespace Ed
open PySem L2 Cb
def kn_window : List Nat := [119, 105, 110, 100, 111, 119]
end Ed
namespace Ed
open PySem L2 Cb
def w_close : List Nat := [99, 108, 111, 115, 101]
end Ed
namespace Ed
open PySem L2 Cb
def kSHAPES : List (Str × List Str) := [(ss w_go, [ss kn_motion]), (ss w_choose, []), (ss w_cut, [ss kn_area, ss kn_name]), (ss w_copy, [ss kn_area, ss kn_name]), (ss w_turn, [ss kn_area, ss kn_case]), (ss w_shift, [ss kn_area, ss kn_side]), (ss w_put, [ss kn_name, ss kn_times]), (ss w_write, [ss kn_signs]), (ss w_mark, [ss kn_name]), (ss w_undo, []), (ss w_redo, []), (ss w_to, [ss kn_state]), (ss w_record, [ss kn_name]), (ss w_stop, []), (ss w_play, [ss kn_name, ss kn_times]), (ss w_dot, []), (ss w_open, []), (ss w_window, [ss kn_window]), (ss w_close, [])]
end Ed
namespace Cb
open PySem L2
def heTab (kvs : List (Str × Option V)) : List (Str × He.Dv) := kvs.filterMap fun q => match q.2 with
  | some (.str z) => some (q.1, .str z)
  | _ => none
end Cb
namespace Cb
open PySem L2
def strsB : List Value → List Str → Bool
  | [], [] => true
  | v :: r, z :: zs => (match v with | .str y _ => decide (y = z) | _ => false) && strsB r zs
  | _, _ => false
end Cb
namespace Cb
open PySem L2
def tupB (K : PySem.W.Frag) (p : Addr) (zs : List Str) : Bool := match K.lookup p with
  | some o => decide (o.cls = .type "tuple") && (match o.data with
    | .seq its _ => decide (its.size ≤ 1000) && strsB its.toList zs
    | _ => false)
  | none => false
end Cb
namespace Cb
open PySem L2
def tabTB (K : PySem.W.Frag) (a : Addr) (kvs : List (Str × List Str)) : Bool := kvs.all fun q => match PySem.W.nsIn K a q.1 with
  | some (some (.ref p)) => tupB K p q.2
  | _ => false
end Cb
namespace Ed
open PySem L2 Cb
def gCHANGES : List Str := [ss w_cut, ss w_turn, ss w_shift, ss w_put, ss w_write]
end Ed
namespace Hd
open PySem L2 Cb Ed
def top (i : Nat) : Stmt := PySem.Challenge.pw_editheart_k09_whole_notes.main.body.getD i (.Pass ⟨0, 0, 0, 0⟩)
def dd (s : Stmt) (p : Str × Option Str) (x q : Str) : He.DefD := ⟨p, x, q, defArgs s, defBody s, defScope s, [], []⟩
def fn0 : List He.DefD := [dd (top 16) ("is_whole", none) "is_whole" "is_whole", dd (top 17) ("are_signs", none) "are_signs" "are_signs", dd (top 18) ("is_text", none) "is_text" "is_text", dd (top 19) ("need_text", none) "need_text" "need_text", dd (top 20) ("need_place", none) "need_place" "need_place", dd (top 21) ("begin_of", none) "begin_of" "begin_of", dd (top 22) ("end_of", none) "end_of" "end_of", dd (top 23) ("row_of", none) "row_of" "row_of", dd (top 24) ("begins", none) "begins" "begins", dd (top 25) ("word_begins", none) "word_begins" "word_begins", dd (top 26) ("word_ends", none) "word_ends" "word_ends", dd (top 31) ("is_named", none) "is_named" "is_named", dd (top 32) ("is_part_motions", none) "is_part" "is_part", dd (top 34) ("is_motion", none) "is_motion" "is_motion", dd (top 35) ("nth_behind", none) "nth_behind" "nth_behind", dd (top 36) ("nth_ahead", none) "nth_ahead" "nth_ahead", dd (top 37) ("to_row", none) "to_row" "to_row", dd (top 38) ("partner", none) "partner" "partner", dd (top 39) ("found_at", none) "found_at" "found_at", dd (top 40) ("search_on", none) "search_on" "search_on"]
def fn1 : List He.DefD := [dd (top 41) ("search_back", none) "search_back" "search_back", dd (top 42) ("within", none) "within" "within", dd (top 43) ("place_by", none) "place_by" "place_by", dd (top 44) ("need_motion", none) "need_motion" "need_motion", dd (top 45) ("goes", none) "goes" "goes", dd (top 48) ("is_area", none) "is_area" "is_area", dd (top 49) ("word_at", none) "word_at" "word_at", dd (top 50) ("inside", none) "inside" "inside", dd (top 51) ("rows_from", none) "rows_from" "rows_from", dd (top 52) ("area_by", none) "area_by" "area_by", dd (top 53) ("area_of", none) "area_of" "area_of", dd (top 63) ("is_part_deeds", none) "is_part" "is_part", dd (top 65) ("is_deed", none) "is_deed" "is_deed", dd (inClass (top 67) 0) ("Window", some "__init__") "__init__" "Window.__init__", dd (inClass (top 74) 0) ("Editor", some "__init__") "__init__" "Editor.__init__", dd (inClass (top 74) 1) ("Editor", some "now") "now" "Editor.now", dd (inClass (top 74) 2) ("Editor", some "cursor") "cursor" "Editor.cursor", dd (inClass (top 74) 3) ("Editor", some "chosen") "chosen" "Editor.chosen", dd (inClass (top 74) 4) ("Editor", some "all_windows") "all_windows" "Editor.all_windows", dd (inClass (top 74) 5) ("Editor", some "all_marks") "all_marks" "Editor.all_marks"]
def fn2 : List He.DefD := [dd (inClass (top 74) 6) ("Editor", some "all_registers") "all_registers" "Editor.all_registers", dd (inClass (top 74) 7) ("Editor", some "all_macros") "all_macros" "Editor.all_macros", dd (inClass (top 74) 8) ("Editor", some "all_states") "all_states" "Editor.all_states", dd (inClass (top 74) 12) ("Editor", some "go") "go" "Editor.go", dd (inClass (top 74) 13) ("Editor", some "area") "area" "Editor.area", dd (inClass (top 74) 14) ("Editor", some "noted") "noted" "Editor.noted", dd (inClass (top 74) 11) ("Editor", some "one") "one" "Editor.one", dd (inClass (top 74) 10) ("Editor", some "do") "do" "Editor.do", dd (top 76) ("_law_rows", none) "_law_rows" "_law_rows", dd (top 77) ("_law_spot", none) "_law_spot" "_law_spot", dd (top 78) ("_law_back", none) "_law_back" "_law_back", dd (top 79) ("_law_new", none) "_law_new" "_law_new", dd (top 80) ("_law_win", none) "_law_win" "_law_win", dd (top 81) ("_law_starts", none) "_law_starts" "_law_starts", dd (top 82) ("_law_goal", none) "_law_goal" "_law_goal", dd (top 83) ("_law_area_in", none) "_law_area_in" "_law_area_in", dd (top 84) ("_law_noted", none) "_law_noted" "_law_noted", dd (top 85) ("_law_go", none) "_law_go" "_law_go", dd (top 86) ("_law_one", none) "_law_one" "_law_one", dd (top 87) ("_law_do", none) "_law_do" "_law_do"]
def fn3 : List He.DefD := [dd (top 88) ("_law_same", none) "_law_same" "_law_same", dd (top 89) ("_law_cell_at", none) "_law_cell_at" "_law_cell_at", dd (top 90) ("_law_mixed", none) "_law_mixed" "_law_mixed", dd (top 91) ("_law_draw", none) "_law_draw" "_law_draw", dd (top 92) ("_law_pick", none) "_law_pick" "_law_pick", dd (top 93) ("_law_piece", none) "_law_piece" "_law_piece", dd (top 94) ("_law_text", none) "_law_text" "_law_text", dd (top 95) ("_law_motion", none) "_law_motion" "_law_motion", dd (top 96) ("_law_area_of", none) "_law_area_of" "_law_area_of", dd (top 97) ("_law_deed", none) "_law_deed" "_law_deed", dd (top 98) ("law", none) "law" "law"]
def fn : List He.DefD := fn0 ++ fn1 ++ fn2 ++ fn3
def fa0 : List He.Fa := [.glo "is_whole", .glo "are_signs", .glo "is_text", .glo "need_text", .glo "need_place", .glo "begin_of", .glo "end_of", .glo "row_of", .glo "begins", .glo "word_begins", .glo "word_ends", .glo "is_named", .glo "is_part_motions", .glo "is_motion", .glo "nth_behind", .glo "nth_ahead", .glo "to_row", .glo "partner", .glo "found_at", .glo "search_on"]
def fa1 : List He.Fa := [.glo "search_back", .glo "within", .glo "place_by", .glo "need_motion", .glo "goes", .glo "is_area", .glo "word_at", .glo "inside", .glo "rows_from", .glo "area_by", .glo "area_of", .glo "is_part_deeds", .glo "is_deed", .glo "_law_rows", .glo "_law_spot", .glo "_law_back", .glo "_law_new", .glo "_law_win", .glo "_law_starts", .glo "_law_goal"]
def fa2 : List He.Fa := [.glo "_law_area_in", .glo "_law_noted", .glo "_law_go", .glo "_law_one", .glo "_law_do", .glo "_law_same", .glo "_law_cell_at", .glo "_law_mixed", .glo "_law_draw", .glo "_law_pick", .glo "_law_piece", .glo "_law_text", .glo "_law_motion", .glo "_law_area_of", .glo "_law_deed", .glo "law", .free "abs", .free "all", .free "bool", .free "enumerate"]
def fa3 : List He.Fa := [.free "int", .free "isinstance", .free "len", .free "list", .free "max", .free "min", .free "range", .free "sorted", .free "str", .free "sum", .free "tuple", .free "zip", .int "LONG" 200, .str "NAMES" cNAMES, .str "OPEN" cOPEN, .str "OTHERS" cOTHERS, .int "ROWS" 99, .str "SHUT" cSHUT, .int "TIMES_areas" 9, .int "TIMES_motions" 9]
def fa4 : List He.Fa := [.str "WORD" cWORD, .glo "SIZES", .glo "SHAPES", .glo "CHANGES", .cls "Editor", .cls "Window", .noat "Editor" "active", .noat "Editor" "deep", .noat "Editor" "last", .noat "Editor" "macros", .noat "Editor" "marks", .noat "Editor" "pattern", .noat "Editor" "played", .noat "Editor" "registers", .noat "Editor" "state", .noat "Editor" "states", .noat "Editor" "taken", .noat "Editor" "taking", .noat "Editor" "text", .noat "Editor" "windows"]
def fa5 : List He.Fa := [.noat "Window" "anchor", .noat "Window" "column", .noat "Window" "spot", .meth "Editor" "all_macros", .meth "Editor" "all_marks", .meth "Editor" "all_registers", .meth "Editor" "all_states", .meth "Editor" "all_windows", .meth "Editor" "area", .meth "Editor" "chosen", .meth "Editor" "cursor", .meth "Editor" "do", .meth "Editor" "go", .meth "Editor" "noted", .meth "Editor" "now", .meth "Editor" "one", .mkr "Editor", .glo "Editor", .mkr "Window", .glo "Window"]
def fa : List He.Fa := fa0 ++ fa1 ++ fa2 ++ fa3 ++ fa4 ++ fa5
def loose0 : List Str := ["_wall", "__name__", "EditError", "NoText", "NoPlace", "NoMotion", "NoArea", "NoDeed", "SMALL", "GREAT", "WORD", "OTHERS", "OPEN", "SHUT", "LONG", "is_whole", "are_signs", "is_text", "need_text", "need_place"]
def loose1 : List Str := ["begin_of", "end_of", "row_of", "begins", "word_begins", "word_ends", "TIMES_motions", "ROWS", "SIZES", "is_named", "is_part", "is_part_motions", "is_motion", "nth_behind", "nth_ahead", "to_row", "partner", "found_at", "search_on", "search_back"]
def loose2 : List Str := ["within", "place_by", "need_motion", "goes", "TIMES_areas", "is_area", "word_at", "inside", "rows_from", "area_by", "area_of", "Change", "cut_rows", "turned", "shifted", "NAMES", "CHANGES", "SHAPES", "is_part_deeds", "is_deed"]
def loose3 : List Str := ["Window", "WINDOWS", "STATES", "TAKEN", "NESTED", "PLAYED", "Editor", "_law_rows", "_law_spot", "_law_back", "_law_new", "_law_win", "_law_starts", "_law_goal", "_law_area_in", "_law_noted", "_law_go", "_law_one", "_law_do", "_law_same"]
def loose4 : List Str := ["_law_cell_at", "_law_mixed", "_law_draw", "_law_pick", "_law_piece", "_law_text", "_law_motion", "_law_area_of", "_law_deed"]
def loose : List Str := loose0 ++ loose1 ++ loose2 ++ loose3 ++ loose4
def ts : List He.Tab := [(fun K => He.ga K "SIZES", kSIZES.map (·.1)), (fun K => He.ga K "SHAPES", kSHAPES.map (·.1))]
def ex (K : PySem.W.Frag) : Bool := He.valsB K (He.ga K "SIZES") (heTab kSIZES) && (tabTB K (He.ga K "SHAPES") kSHAPES && (tupB K (He.ga K "CHANGES") gCHANGES && (true)))
abbrev R : PySem.W.OpenRow := PySem.W.OpenLaw.row PySem.Challenge.rw_editheart_k09_whole_notes
abbrev hk : PySem.W.Hook := He.hookX 4 fa fn ts [] ex
def ob (s : PySem.W.SharedT) : He.AlX := He.obsX 4 fa fn ts [] ex (HandSHeadRun.getT s)
theorem ob_eq (s : PySem.W.SharedT) : ob s = hk.obs s.abs := He.obsX_eq (HandSHeadRun.getT_eq s)
theorem map3 {α β γ δ : Type} {x : Option α} {f : α → β} {g : α → γ} {h : α → δ} {a : β} {b : γ} {c : δ} (h1 : x.map f = some a) (h2 : x.map g = some b) (h3 : x.map h = some c) : x.map (fun s => (f s, g s, h s)) = some (a, b, c) := by
  cases x with
  | none => cases h1
  | some s =>
    have e1 : f s = a := Option.some.inj h1
    have e2 : g s = b := Option.some.inj h2
    have e3 : h s = c := Option.some.inj h3
    show some (f s, g s, h s) = some (a, b, c)
    rw [e1, e2, e3]
noncomputable abbrev endW (w : World) (os : OsState) : Option PySem.W.SharedT := HandSHeadRun.endF (HandSHeadRun.stepQ (HandSHeadRun.denQ HandSHeadRun.tabQ) R.prog w) 8000 R.prog w os
abbrev vw : Program := PySem.W.view R.prog [98]
theorem run_f1 (w : World) (os : OsState) : (endW (w.withFollow "special-get-raises" false) os).map (fun s => HandSHeadRun.looksF R.prog (PySem.W.boot_heap (w.withFollow "special-get-raises" false).params) s.abs) = some true := by kernel_rfl
theorem run_f2 (w : World) (os : OsState) : (endW (w.withFollow "special-get-raises" false) os).map (fun s => HandSHeadRun.seenQ vw loose (PySem.importedModules R.prog.main.body) (fun s => PySem.W.xlAt vw [] s && PySem.W.recOk R.toRowW.records s) s.abs) = some (PySem.W.openGood vw loose) := by kernel_rfl
theorem run_f3 (w : World) (os : OsState) : (endW (w.withFollow "special-get-raises" false) os).map ob = some (hk.val (w.withFollow "special-get-raises" false)) := by kernel_rfl
theorem run_t1 (w : World) (os : OsState) : (endW (w.withFollow "special-get-raises" true) os).map (fun s => HandSHeadRun.looksF R.prog (PySem.W.boot_heap (w.withFollow "special-get-raises" true).params) s.abs) = some true := by kernel_rfl
theorem run_t2 (w : World) (os : OsState) : (endW (w.withFollow "special-get-raises" true) os).map (fun s => HandSHeadRun.seenQ vw loose (PySem.importedModules R.prog.main.body) (fun s => PySem.W.xlAt vw [] s && PySem.W.recOk R.toRowW.records s) s.abs) = some (PySem.W.openGood vw loose) := by kernel_rfl
theorem run_t3 (w : World) (os : OsState) : (endW (w.withFollow "special-get-raises" true) os).map ob = some (hk.val (w.withFollow "special-get-raises" true)) := by kernel_rfl
theorem run (w : World) : HandSHeadRun.RunEq R (PySem.W.view R.prog [98]) hk ob 8000 loose w :=
  PySem.W.byRow2 "special-get-raises" (P := fun w => HandSHeadRun.RunEq R (PySem.W.view R.prog [98]) hk ob 8000 loose w) (fun w os => map3 (run_f1 w os) (run_f2 w os) (run_f3 w os)) (fun w os => map3 (run_t1 w os) (run_t2 w os) (run_t3 w os)) w
end Hd
/-! The combinator layer: a construct of Python as a structure: its reading (t), whether a tree matches it (chk), which promises it asks (has), soundness. -/
namespace Cb
open PySem L2

structure Gam where
  N : List Str
  names : List (Str × NameKind)
  all : Bool

structure Hx where
  P : Program
  w : World
  K : PySem.W.Frag
  mg : Str → Option Value
  base : Heap
  k : Nat

structure Ctx (X : Cx) (Γ : Gam) (h : Hx) : Prop where
  N : X.N = Γ.N
  nd : Γ.N.Nodup
  kind : X.env.scope.kind = .function
  names : X.env.scope.names = Γ.names
  prog : X.prog = h.P
  w : X.w = h.w
  K : X.K = h.K
  mg : X.mg = h.mg
  base : X.base = h.base
  calm : X.calm = true
  room : Room h.k X.A
  own : PassesOwn (model X.prog X.w) X.A X.env X.xe
  fn : Γ.all = true → ∀ x, X.fn x = true

/-! ### small looks at trees -/
def nst : Expr → Bool
  | .Starred _ _ => false
  | _ => true
/-- no comprehension (stores exchanged), no slice, no set display, no starred, no call without arguments of a name (super) -/
def pln : Expr → Bool
  | .Starred _ _ => false
  | .Slice _ _ _ _ => false
  | .Set _ _ _ => false
  | _ => true
def ncomp : Expr → Bool
  | .ListComp _ _ _ _ => false
  | .SetComp _ _ _ _ => false
  | .DictComp _ _ _ _ _ => false
  | _ => true
def nsup : Expr → Bool
  | .Call (.Name _ _) [] [] _ => false
  | _ => true
theorem pln_nst {e : Expr} (h : pln e = true) : nst e = true := by cases e <;> first | rfl | exact absurd h Bool.false_ne_true
theorem star_cons {e : Expr} {es : List Expr} {env : Env} (h : nst e = true) : starEach (e :: es) env = (false, eval e env) :: starEach es env := by
  cases e <;> first | rfl | exact absurd h Bool.false_ne_true
theorem star_any {es : List Expr} {env : Env} {pos : Pos} (h : es.all nst = true) : (backTo pos (starEach es env)).any (·.1) = false := by
  induction es with
  | nil => rfl
  | cons e es ih =>
    rw [List.all_cons, Bool.and_eq_true] at h
    rw [star_cons h.1]
    show (false || (backTo pos (starEach es env)).any (·.1)) = false
    rw [ih h.2]; rfl
theorem star_all {es : List Expr} {env : Env} {pos : Pos} (h : es.all nst = true) : (backTo pos (starEach es env)).all (fun x => !x.1) = true := by
  induction es with
  | nil => rfl
  | cons e es ih =>
    rw [List.all_cons, Bool.and_eq_true] at h
    rw [star_cons h.1]
    show (true && (backTo pos (starEach es env)).all (fun x => !x.1)) = true
    rw [ih h.2]; rfl
theorem base_of {o : Expr} {f : Str} {env : Env} (h : nsup o = true) : attributeBase o f env (eval o env) = eval o env := by
  cases o with
  | Call fn args kws pos =>
    cases fn with
    | Name x p =>
      cases args with
      | nil =>
        cases kws with
        | nil => exact absurd h Bool.false_ne_true
        | cons _ _ => rfl
      | cons _ _ => rfl
    | _ => rfl
  | _ => rfl
theorem noswap {e : Expr} {tg : Option Expr} {l : Nat} {env : Env} (h : ncomp e = true) : swapsWith e tg l env = pure false := by
  cases e <;> first | rfl | exact absurd h Bool.false_ne_true
theorem plainIx {b : Expr} (h : pln b = true) : PlainIx b := by
  intro o i
  cases b <;> first | rfl | exact absurd h Bool.false_ne_true
theorem unmark {b : Expr} {op : CmpOp} (h : pln b = true) : behindInMarks op b = false := by
  cases b <;> first | rfl | exact absurd h Bool.false_ne_true
theorem unfold_set {e : Expr} {env : Env} (h : pln e = true) (x : Value) : foldedSetIterable e env x = pure x := by
  cases e <;> first | rfl | exact absurd h Bool.false_ne_true

def okN (x : Str) : Bool := !(x == ("__debug__" : Str)) && !(x == ("__classdict__" : Str)) && !(x == ("__name__" : Str))
theorem okN_d {x : Str} (h : okN x = true) : (x == ("__debug__" : Str)) = false := by
  unfold okN at h; revert h; cases (x == ("__debug__" : Str)) <;> simp
theorem okN_c {x : Str} (h : okN x = true) : (x == ("__classdict__" : Str)) = false := by
  unfold okN at h; revert h; cases (x == ("__classdict__" : Str)) <;> simp
theorem okN_n {x : Str} (h : okN x = true) : x ≠ "__name__" := by
  unfold okN at h; intro e; subst e; simp at h
def isVis : Option NameKind → Bool
  | some .local => true
  | some .cell => true
  | some .free => true
  | _ => false
def isGl : Option NameKind → Bool
  | some .globalImplicit => true
  | _ => false
def isLoc (all : Bool) : Option NameKind → Bool
  | some .local => true
  | some .cell => all
  | _ => false
theorem vis_of {X : Cx} {Γ : Gam} {h : Hx} {x : Str} (c : Ctx X Γ h) (hv : isVis (Γ.names.lookup x) = true) : Vis X.env.scope x := by
  unfold Vis; rw [c.names]
  revert hv
  cases Γ.names.lookup x with
  | none => intro hv; exact absurd hv Bool.false_ne_true
  | some k => cases k <;> intro hv <;> first | exact .inl rfl | exact .inr (.inl rfl) | exact .inr (.inr rfl) | exact absurd hv Bool.false_ne_true
theorem gl_of {X : Cx} {Γ : Gam} {h : Hx} {x : Str} (c : Ctx X Γ h) (hv : isGl (Γ.names.lookup x) = true) : Gl X x := by
  unfold Gl Env.kindOf; rw [c.names]
  revert hv
  cases Γ.names.lookup x with
  | none => intro hv; exact absurd hv Bool.false_ne_true
  | some k => cases k <;> intro hv <;> first | rfl | exact absurd hv Bool.false_ne_true
theorem loc_of {X : Cx} {Γ : Gam} {h : Hx} {x : Str} (c : Ctx X Γ h) (hv : isLoc Γ.all (Γ.names.lookup x) = true) : L2.Loc X.env.scope x ∧ (X.fn x = true ∨ X.env.scope.names.lookup x = some .local) := by
  unfold L2.Loc; rw [c.names]
  revert hv
  cases Γ.names.lookup x with
  | none => intro hv; exact absurd hv Bool.false_ne_true
  | some k => cases k <;> intro hv <;> first | exact ⟨.inl rfl, .inr rfl⟩ | exact ⟨.inr rfl, .inl (c.fn hv x)⟩ | exact absurd hv Bool.false_ne_true

/-! ### the structures -/
structure Ex (K : PySem.W.Frag) where
  t : TE
  chk : Gam → Expr → Bool
  has : Hx → Prop
  sound : ∀ {X : Cx} {Γ : Gam} {h : Hx} {e : Expr}, Ctx X Γ h → h.K = K → has h → chk Γ e = true → PE X e t
structure Te (K : PySem.W.Frag) where
  t : TT
  chk : Gam → Expr → Bool
  has : Hx → Prop
  sound : ∀ {X : Cx} {Γ : Gam} {h : Hx} {e : Expr}, Ctx X Γ h → h.K = K → has h → chk Γ e = true → PT X e t
structure As (K : PySem.W.Frag) where
  t : TA
  chk : Gam → List Expr → Bool
  has : Hx → Prop
  sound : ∀ {X : Cx} {Γ : Gam} {h : Hx} {es : List Expr}, Ctx X Γ h → h.K = K → has h → chk Γ es = true → PA X es t ∧ es.all nst = true
structure Sm (K : PySem.W.Frag) where
  t : TS
  chk : Gam → Stmt → Bool
  has : Hx → Prop
  sound : ∀ {X : Cx} {Γ : Gam} {h : Hx} {st : Stmt}, Ctx X Γ h → h.K = K → has h → chk Γ st = true → PS X st t
structure Ss (K : PySem.W.Frag) where
  t : TS
  chk : Gam → List Stmt → Bool
  has : Hx → Prop
  sound : ∀ {X : Cx} {Γ : Gam} {h : Hx} {st : List Stmt}, Ctx X Γ h → h.K = K → has h → chk Γ st = true → PSs X st t
structure Tg (K : PySem.W.Frag) where
  t : TG
  chk : Gam → Expr → Bool
  has : Hx → Prop
  sound : ∀ {X : Cx} {Γ : Gam} {h : Hx} {e : Expr}, Ctx X Γ h → h.K = K → has h → chk Γ e = true → PG X e t
structure Tgs (K : PySem.W.Frag) where
  t : TGs
  chk : Gam → List Expr → Bool
  has : Hx → Prop
  n : Nat
  sound : ∀ {X : Cx} {Γ : Gam} {h : Hx} {es : List Expr}, Ctx X Γ h → h.K = K → has h → chk Γ es = true → PGs X es t ∧ (assignEach es X.env).length = n ∧ (assignEach es X.env).findIdx? (·.1) = none
structure Ir (K : PySem.W.Frag) where
  t : TI
  chk : Gam → Expr → Expr → Bool
  has : Hx → Prop
  sound : ∀ {X : Cx} {Γ : Gam} {h : Hx} {tg e : Expr}, Ctx X Γ h → h.K = K → has h → chk Γ tg e = true → PI X tg e t
structure Op (K : PySem.W.Frag) where
  t : TO
  chk : Gam → Option Expr → Bool
  has : Hx → Prop
  sound : ∀ {X : Cx} {Γ : Gam} {h : Hx} {e : Option Expr}, Ctx X Γ h → h.K = K → has h → chk Γ e = true → PO X e t

theorem and2 {a b : Bool} (h : (a && b) = true) : a = true ∧ b = true := Bool.and_eq_true_iff.mp h
theorem and3 {a b c : Bool} (h : (a && b && c) = true) : a = true ∧ b = true ∧ c = true := ⟨(and2 (and2 h).1).1, (and2 (and2 h).1).2, (and2 h).2⟩
theorem and4 {a b c d : Bool} (h : (a && b && c && d) = true) : a = true ∧ b = true ∧ c = true ∧ d = true := ⟨(and3 (and2 h).1).1, (and3 (and2 h).1).2.1, (and3 (and2 h).1).2.2, (and2 h).2⟩

variable {K : PySem.W.Frag}

/-! ### names, constants -/
def rdV (i : Nat) : TE := fun σ H Q => match σ[i]? with
  | some (some v) => Q v H
  | _ => False
theorem rdV_var {i : Nat} {σ : L2.St} {H : Hp} {Q : VK} (h : rdV i σ H Q) : tVar i σ H Q := by
  unfold rdV at h
  split at h
  · rename_i v e; exact ⟨v, e, h⟩
  · exact h.elim
theorem PE.imp {X : Cx} {e : Expr} {t u : TE} (p : PE X e t) (h : ∀ σ H Q, u σ H Q → t σ H Q) : PE X e u := ⟨fun pins s σ H Q I hw => p.run pins s σ H Q I (h σ H Q hw)⟩
theorem PT.imp {X : Cx} {e : Expr} {t u : TT} (p : PT X e t) (h : ∀ σ H Q, u σ H Q → t σ H Q) : PT X e u := ⟨fun pins s σ H Q I hw => p.run pins s σ H Q I (h σ H Q hw)⟩
def Ex.v (i : Nat) : Ex K where
  t := rdV i
  chk := fun Γ e => match e with
    | .Name x _ => decide (Γ.N[i]? = some x) && isVis (Γ.names.lookup x) && okN x
    | _ => false
  has := fun _ => True
  sound := by
    intro X Γ h e c hk hh hc
    cases e <;> try exact absurd hc Bool.false_ne_true
    rename_i x pos
    obtain ⟨h1, h2, h3⟩ := and3 hc
    exact PE.imp (pe_var (i := i) (by rw [c.N]; exact of_decide_eq_true h1) (vis_of c h2) (okN_d h3) (okN_c h3)) fun σ H Q => rdV_var
def Ex.i (n : Int) : Ex K where
  t := tC (.int n)
  chk := fun Γ e => match e with
    | .Constant (.int m) _ _ => decide (m = n)
    | _ => false
  has := fun _ => True
  sound := by
    intro X Γ h e c hk hh hc
    cases e <;> try exact absurd hc Bool.false_ne_true
    rename_i v k pos
    cases v <;> try exact absurd hc Bool.false_ne_true
    rename_i m
    have e : m = n := of_decide_eq_true hc
    subst e; exact pe_int
/-- a negative number -/
def Ex.neg (n : Int) : Ex K where
  t := tC (.int (-n))
  chk := fun Γ e => match e with
    | .UnaryOp .USub (.Constant (.int m) _ _) _ => decide (m = n)
    | _ => false
  has := fun _ => True
  sound := by
    intro X Γ h e c hk hh hc
    cases e <;> try exact absurd hc Bool.false_ne_true
    rename_i op a pos
    cases op <;> try exact absurd hc Bool.false_ne_true
    cases a <;> try exact absurd hc Bool.false_ne_true
    rename_i v k pos
    cases v <;> try exact absurd hc Bool.false_ne_true
    rename_i m
    have e : m = n := of_decide_eq_true hc
    subst e; exact PE.imp (pe_un un_neg pe_int) fun σ H Q q => ⟨m, rfl, q⟩
def Ex.s (z : Str) : Ex K where
  t := tC (.str z)
  chk := fun Γ e => match e with
    | .Constant (.str m) _ _ => decide (m = z)
    | _ => false
  has := fun _ => True
  sound := by
    intro X Γ h e c hk hh hc
    cases e <;> try exact absurd hc Bool.false_ne_true
    rename_i v k pos
    cases v <;> try exact absurd hc Bool.false_ne_true
    rename_i m
    have e : m = z := of_decide_eq_true hc
    subst e; exact pe_str
def Ex.b (z : Bool) : Ex K where
  t := tC (.bl z)
  chk := fun Γ e => match e with
    | .Constant (.bool m) _ _ => decide (m = z)
    | _ => false
  has := fun _ => True
  sound := by
    intro X Γ h e c hk hh hc
    cases e <;> try exact absurd hc Bool.false_ne_true
    rename_i v k pos
    cases v <;> try exact absurd hc Bool.false_ne_true
    rename_i m
    have e : m = z := of_decide_eq_true hc
    subst e; exact pe_bl
def Ex.none : Ex K where
  t := tC .non
  chk := fun Γ e => match e with
    | .Constant .none _ _ => true
    | _ => false
  has := fun _ => True
  sound := by
    intro X Γ h e c hk hh hc
    cases e <;> try exact absurd hc Bool.false_ne_true
    rename_i v k pos
    cases v <;> try exact absurd hc Bool.false_ne_true
    exact pe_non
/-- a constant of the module -/
def HasC (h : Hx) (x : Str) (v : V) : Prop := ∃ u, h.mg x = some u ∧ RelV v u
def Ex.g (x : Str) (v : V) : Ex K where
  t := tC v
  chk := fun Γ e => match e with
    | .Name y _ => decide (y = x) && isGl (Γ.names.lookup y) && okN y
    | _ => false
  has := fun h => HasC h x v
  sound := by
    intro X Γ h e c hk hh hc
    cases e <;> try exact absurd hc Bool.false_ne_true
    rename_i y pos
    obtain ⟨h1, h2, h3⟩ := and3 hc
    have e := of_decide_eq_true h1
    subst e
    obtain ⟨u, hu, r⟩ := hh
    exact pe_glob (gl_of c h2) (by rw [c.mg]; exact hu) r (okN_d h3)

/-! ### operators -/
def Ex.bin (op : Operator) (r : PySem.W.Frag → R2) (ho : ∀ X : Cx, OpR X (binaryOp op) (r X.K)) (a b : Ex K) : Ex K where
  t := tOp (r K) a.t b.t
  chk := fun Γ e => match e with
    | .BinOp x o y _ => decide (o = op) && a.chk Γ x && b.chk Γ y
    | _ => false
  has := fun h => a.has h ∧ b.has h
  sound := by
    intro X Γ h e c hk hh hc
    cases e <;> try exact absurd hc Bool.false_ne_true
    rename_i x o y pos
    obtain ⟨h1, h2, h3⟩ := and3 hc
    have e := of_decide_eq_true h1
    subst e
    have ek : X.K = K := c.K.trans hk
    subst ek
    exact pe_op (ho X) (a.sound c hk hh.1 h2) (b.sound c hk hh.2 h3)
def rAddD (K : PySem.W.Frag) : R2 := fun x y H Q => match x, y with
  | .int i, .int j => Q (.int (i + j)) H
  | .str a, .str b => a.length + b.length ≤ sizeLine ∧ Q (.str (a ++ b)) H
  | .ref a, .ref b => rCat (.ref a) (.ref b) H Q ∨ rCatT K (.ref a) (.ref b) H Q
  | _, _ => False
theorem op_addD (X : Cx) : OpR X (binaryOp .Add) (rAddD X.K) := by
  intro pins s σ H x y v u Q I rx ry h
  unfold rAddD at h
  split at h
  · exact op_add pins s σ H _ _ v u Q I rx ry ⟨_, _, rfl, rfl, h⟩
  · exact op_add_str pins s σ H _ _ v u Q I rx ry ⟨_, _, rfl, rfl, h.1, h.2⟩
  · rcases h with h | h
    · exact op_cat pins s σ H _ _ v u Q I rx ry h
    · exact op_catT pins s σ H _ _ v u Q I rx ry h
  · exact h.elim
abbrev Ex.add (a b : Ex K) : Ex K := Ex.bin .Add rAddD op_addD a b
def rSubD (_ : PySem.W.Frag) : R2 := fun x y H Q => match x, y with
  | .int i, .int j => Q (.int (i - j)) H
  | _, _ => False
theorem op_subD (X : Cx) : OpR X (binaryOp .Sub) (rSubD X.K) := by
  intro pins s σ H x y v u Q I rx ry h
  unfold rSubD at h
  split at h
  · exact op_sub pins s σ H _ _ v u Q I rx ry ⟨_, _, rfl, rfl, h⟩
  · exact h.elim
abbrev Ex.sub (a b : Ex K) : Ex K := Ex.bin .Sub rSubD op_subD a b
def rMulD (_ : PySem.W.Frag) : R2 := fun x y H Q => match x, y with
  | .int i, .int j => CMul i j ∧ Q (.int (i * j)) H
  | .ref a, .int k => rRep (.ref a) (.int k) H Q
  | _, _ => False
theorem op_mulD (X : Cx) : OpR X (binaryOp .Mult) (rMulD X.K) := by
  intro pins s σ H x y v u Q I rx ry h
  unfold rMulD at h
  split at h
  · exact op_mul pins s σ H _ _ v u Q I rx ry ⟨_, _, rfl, rfl, h.1, h.2⟩
  · exact op_rep pins s σ H _ _ v u Q I rx ry h
  · exact h.elim
abbrev Ex.mul (a b : Ex K) : Ex K := Ex.bin .Mult rMulD op_mulD a b
def rModD (_ : PySem.W.Frag) : R2 := fun x y H Q => match x, y with
  | .int i, .int j => 0 < j ∧ Q (.int (i % j)) H
  | _, _ => False
theorem op_modD (X : Cx) : OpR X (binaryOp .Mod) (rModD X.K) := by
  intro pins s σ H x y v u Q I rx ry h
  unfold rModD at h
  split at h
  · exact op_mod pins s σ H _ _ v u Q I rx ry ⟨_, _, rfl, rfl, h.1, h.2⟩
  · exact h.elim
abbrev Ex.mod (a b : Ex K) : Ex K := Ex.bin .Mod rModD op_modD a b
end Cb

namespace Cb
open PySem L2
variable {K : PySem.W.Frag}

/-- two ways -/
def br (c : Bool) (A B : Prop) : Prop := match c with
  | true => A
  | false => B
theorem br_eq (c : Bool) (A B : Prop) : br c A B = (if c = true then A else B) := by cases c <;> rfl
theorem br_i {c : Bool} {A B : Prop} (h1 : c = true → A) (h2 : c = false → B) : br c A B := by
  cases c with
  | true => exact h1 rfl
  | false => exact h2 rfl
theorem br_d {p : Prop} [Decidable p] {A B : Prop} (h1 : p → A) (h2 : ¬ p → B) : br (decide p) A B :=
  br_i (fun h => h1 (of_decide_eq_true h)) (fun h => h2 (of_decide_eq_false h))
theorem br_t {c : Bool} {A B : Prop} (hc : c = true) (h : A) : br c A B := by subst hc; exact h
theorem br_f {c : Bool} {A B : Prop} (hc : c = false) (h : B) : br c A B := by subst hc; exact h
theorem br_same {c : Bool} {A : Prop} (h : A) : br c A A := by cases c <;> exact h

/-- what is a bool -/
def onB (Q : Bool → Hp → Prop) : VK := fun x H => match x with
  | .bl c => Q c H
  | _ => False
theorem onB_eq (Q : Bool → Hp → Prop) : onB Q = fun x H => ∃ c, x = .bl c ∧ Q c H := by
  funext x H
  apply propext
  cases x <;> simp [onB]

/-! ### comparisons -/
def rEqX (K : PySem.W.Frag) : R2 := fun x y H Q => match x, y with
  | .int i, .int j => Q (.bl (decide (i = j))) H
  | .str a, .str b => Q (.bl (decide (a = b))) H
  | .bl a, .bl b => Q (.bl (decide (a = b))) H
  | .non, .non => Q (.bl true) H
  | .non, .int _ => Q (.bl false) H
  | .int _, .non => Q (.bl false) H
  | .non, .str _ => Q (.bl false) H
  | .str _, .non => Q (.bl false) H
  | .non, .bl _ => Q (.bl false) H
  | .bl _, .non => Q (.bl false) H
  | .int _, .str _ => Q (.bl false) H
  | .str _, .int _ => Q (.bl false) H
  | x, y => rEqD K x y H Q
theorem op_eqX (X : Cx) (k : Nat) (hr : Room k X.A) (_ : X.calm = true) : OpR X (compareOp .Eq) (rEqX X.K) := by
  intro pins s σ H x y v u Q I rx ry h
  have sc : ∀ b : Bool, scal x y = true → decide (x = y) = b → Q (.bl b) H → wpAny (model X.prog X.w) X.A (compareOp .Eq v u) (EP X pins σ Q) X.xe s := fun b h1 h2 q => op_eq pins s σ H x y v u Q I rx ry ⟨h1, by rw [h2]; exact q⟩
  unfold rEqX at h
  split at h
  · exact sc _ rfl dec_int (by simpa [Bool.beq_eq_decide_eq] using h)
  · exact sc _ rfl dec_str (by simpa [Bool.beq_eq_decide_eq] using h)
  · exact sc _ rfl dec_bl (by simpa [Bool.beq_eq_decide_eq] using h)
  · exact sc _ rfl (by simp) h
  all_goals first
    | exact sc _ rfl (by simp) h
    | exact op_eqD hr.units pins s σ H _ _ v u Q I rx ry h
def rNeX (K : PySem.W.Frag) : R2 := fun x y H Q => match x, y with
  | .int i, .int j => Q (.bl (!decide (i = j))) H
  | .str a, .str b => Q (.bl (!decide (a = b))) H
  | .bl a, .bl b => Q (.bl (!decide (a = b))) H
  | .non, .non => Q (.bl false) H
  | .non, .int _ => Q (.bl true) H
  | .int _, .non => Q (.bl true) H
  | .non, .str _ => Q (.bl true) H
  | .str _, .non => Q (.bl true) H
  | .non, .bl _ => Q (.bl true) H
  | .bl _, .non => Q (.bl true) H
  | .int _, .str _ => Q (.bl true) H
  | .str _, .int _ => Q (.bl true) H
  | x, y => rNeD K x y H Q
theorem op_neX (X : Cx) (k : Nat) (hr : Room k X.A) (_ : X.calm = true) : OpR X (compareOp .NotEq) (rNeX X.K) := by
  intro pins s σ H x y v u Q I rx ry h
  have sc : ∀ b : Bool, scal x y = true → (!decide (x = y)) = b → Q (.bl b) H → wpAny (model X.prog X.w) X.A (compareOp .NotEq v u) (EP X pins σ Q) X.xe s := fun b h1 h2 q => op_ne pins s σ H x y v u Q I rx ry ⟨h1, by rw [h2]; exact q⟩
  unfold rNeX at h
  split at h
  · exact sc _ rfl (by rw [dec_int]) (by simpa [Bool.beq_eq_decide_eq] using h)
  · exact sc _ rfl (by rw [dec_str]) (by simpa [Bool.beq_eq_decide_eq] using h)
  · exact sc _ rfl (by rw [dec_bl]) (by simpa [Bool.beq_eq_decide_eq] using h)
  · exact sc _ rfl (by simp) h
  all_goals first
    | exact sc _ rfl (by simp) h
    | exact op_neD hr.units pins s σ H _ _ v u Q I rx ry h
def rLtX (_ : PySem.W.Frag) : R2 := fun x y H Q => match x, y with
  | .int i, .int j => Q (.bl (decide (i < j))) H
  | .str a, .str b => Q (.bl (decide (a.cps.toList < b.cps.toList))) H
  | _, _ => False
theorem op_ltX (X : Cx) (k : Nat) (hr : Room k X.A) (_ : X.calm = true) : OpR X (compareOp .Lt) (rLtX X.K) := by
  intro pins s σ H x y v u Q I rx ry h
  unfold rLtX at h
  split at h
  · exact op_lt pins s σ H _ _ v u Q I rx ry ⟨_, _, rfl, rfl, h⟩
  · exact op_lt_str pins s σ H _ _ v u Q I rx ry ⟨_, _, rfl, rfl, h⟩
  · exact h.elim
def rLeX (_ : PySem.W.Frag) : R2 := fun x y H Q => match x, y with
  | .int i, .int j => Q (.bl (decide (i ≤ j))) H
  | .str a, .str b => Q (.bl (!decide (b.cps.toList < a.cps.toList))) H
  | _, _ => False
theorem op_leX (X : Cx) (k : Nat) (hr : Room k X.A) (_ : X.calm = true) : OpR X (compareOp .LtE) (rLeX X.K) := by
  intro pins s σ H x y v u Q I rx ry h
  unfold rLeX at h
  split at h
  · exact op_le pins s σ H _ _ v u Q I rx ry ⟨_, _, rfl, rfl, h⟩
  · exact op_le_str pins s σ H _ _ v u Q I rx ry ⟨_, _, rfl, rfl, h⟩
  · exact h.elim
def rGtX (_ : PySem.W.Frag) : R2 := fun x y H Q => match x, y with
  | .int i, .int j => Q (.bl (decide (j < i))) H
  | _, _ => False
theorem op_gtX (X : Cx) (k : Nat) (hr : Room k X.A) (_ : X.calm = true) : OpR X (compareOp .Gt) (rGtX X.K) := by
  intro pins s σ H x y v u Q I rx ry h
  unfold rGtX at h
  split at h
  · exact op_gt pins s σ H _ _ v u Q I rx ry ⟨_, _, rfl, rfl, h⟩
  · exact h.elim
def rGeX (_ : PySem.W.Frag) : R2 := fun x y H Q => match x, y with
  | .int i, .int j => Q (.bl (decide (j ≤ i))) H
  | _, _ => False
theorem op_geX (X : Cx) (k : Nat) (hr : Room k X.A) (_ : X.calm = true) : OpR X (compareOp .GtE) (rGeX X.K) := by
  intro pins s σ H x y v u Q I rx ry h
  unfold rGeX at h
  split at h
  · exact op_ge pins s σ H _ _ v u Q I rx ry ⟨_, _, rfl, rfl, h⟩
  · exact h.elim
def rIsX (_ : PySem.W.Frag) : R2 := fun x y H Q => match y with
  | .non => (match x with | .non => Q (.bl true) H | _ => Q (.bl false) H)
  | _ => False
theorem op_isX (X : Cx) (k : Nat) (hr : Room k X.A) (_ : X.calm = true) : OpR X (compareOp .Is) (rIsX X.K) := by
  intro pins s σ H x y v u Q I rx ry h
  unfold rIsX at h
  split at h
  · refine op_isN pins s σ H _ _ v u Q I rx ry ⟨rfl, ?_⟩
    cases x <;> exact h
  · exact h.elim
def rIsNotX (_ : PySem.W.Frag) : R2 := fun x y H Q => match y with
  | .non => (match x with | .non => Q (.bl false) H | _ => Q (.bl true) H)
  | _ => False
theorem op_isNotX (X : Cx) (k : Nat) (hr : Room k X.A) (_ : X.calm = true) : OpR X (compareOp .IsNot) (rIsNotX X.K) := by
  intro pins s σ H x y v u Q I rx ry h
  unfold rIsNotX at h
  split at h
  · refine op_notN pins s σ H _ _ v u Q I rx ry ⟨rfl, ?_⟩
    cases x <;> exact h
  · exact h.elim
/-- in: a sign in a text; any text in a text; a flat thing in a list or tuple -/
def rInX (K : PySem.W.Frag) : R2 := fun x y H Q => match x, y with
  | .str a, .str z => (match a.cps.toList with
    | [c] => Q (.bl (decide (c ∈ z.cps.toList))) H
    | _ => Q (.bl (!(Builtin.Str.occurrences z a 0 z.length 1).isEmpty)) H)
  | x, .ref p => rIn K false x (.ref p) H Q
  | _, _ => False
theorem op_inX (X : Cx) (k : Nat) (hr : Room k X.A) (_ : X.calm = true) : OpR X (compareOp .In) (rInX X.K) := by
  intro pins s σ H x y v u Q I rx ry h
  unfold rInX at h
  split at h
  · rename_i a z
    split at h
    · rename_i c e
      have ea : a = ⟨#[c]⟩ := TL.ext_tl e
      subst ea
      exact op_in_sign pins s σ H _ _ v u Q I rx ry ⟨_, _, rfl, rfl, h⟩
    · exact op_in_str pins s σ H _ _ v u Q I rx ry ⟨_, _, rfl, rfl, h⟩
  · exact op_in_seq pins s σ H _ _ v u Q I rx ry h
  · exact h.elim
def rNotInX (K : PySem.W.Frag) : R2 := fun x y H Q => match x, y with
  | .str a, .str z => (match a.cps.toList with
    | [c] => Q (.bl (!decide (c ∈ z.cps.toList))) H
    | _ => Q (.bl (!(!(Builtin.Str.occurrences z a 0 z.length 1).isEmpty))) H)
  | x, .ref p => rIn K true x (.ref p) H Q
  | _, _ => False
theorem op_notInX (X : Cx) (k : Nat) (hr : Room k X.A) (_ : X.calm = true) : OpR X (compareOp .NotIn) (rNotInX X.K) := by
  intro pins s σ H x y v u Q I rx ry h
  unfold rNotInX at h
  split at h
  · rename_i a z
    split at h
    · rename_i c e
      have ea : a = ⟨#[c]⟩ := TL.ext_tl e
      subst ea
      exact op_notIn_sign pins s σ H _ _ v u Q I rx ry ⟨_, _, rfl, rfl, h⟩
    · exact op_notin_str pins s σ H _ _ v u Q I rx ry ⟨_, _, rfl, rfl, h⟩
  · exact op_notIn_seq pins s σ H _ _ v u Q I rx ry h
  · exact h.elim

/-- a comparison's operator with its rule -/
structure Cm where
  op : CmpOp
  r : PySem.W.Frag → R2
  ho : ∀ (X : Cx) (k : Nat), Room k X.A → X.calm = true → OpR X (compareOp op) (r X.K)
def Cm.eq : Cm := ⟨.Eq, rEqX, op_eqX⟩
def Cm.ne : Cm := ⟨.NotEq, rNeX, op_neX⟩
def Cm.lt : Cm := ⟨.Lt, rLtX, op_ltX⟩
def Cm.le : Cm := ⟨.LtE, rLeX, op_leX⟩
def Cm.gt : Cm := ⟨.Gt, rGtX, op_gtX⟩
def Cm.ge : Cm := ⟨.GtE, rGeX, op_geX⟩
def Cm.is : Cm := ⟨.Is, rIsX, op_isX⟩
def Cm.isNot : Cm := ⟨.IsNot, rIsNotX, op_isNotX⟩
def Cm.isin : Cm := ⟨.In, rInX, op_inX⟩
def Cm.notIn : Cm := ⟨.NotIn, rNotInX, op_notInX⟩

def Ex.cmp (m : Cm) (a b : Ex K) : Ex K where
  t := tOp (m.r K) a.t b.t
  chk := fun Γ e => match e with
    | .Compare x [o] [y] _ => decide (o = m.op) && a.chk Γ x && b.chk Γ y && pln y
    | _ => false
  has := fun h => a.has h ∧ b.has h
  sound := by
    intro X Γ h e c hk hh hc
    cases e <;> try exact absurd hc Bool.false_ne_true
    rename_i x os ys pos
    cases os with
    | nil => exact absurd hc Bool.false_ne_true
    | cons o os =>
    cases os with
    | cons _ _ => exact absurd hc Bool.false_ne_true
    | nil =>
    cases ys with
    | nil => exact absurd hc Bool.false_ne_true
    | cons y ys =>
    cases ys with
    | cons _ _ => exact absurd hc Bool.false_ne_true
    | nil =>
    obtain ⟨h1, h2, h3, h4⟩ := and4 hc
    have e := of_decide_eq_true h1
    subst e
    have ek : X.K = K := c.K.trans hk
    subst ek
    exact pe_cmpR (m.ho X h.k c.room c.calm) (a.sound c hk hh.1 h2) (b.sound c hk hh.2 h3) (unmark h4)
/-- a chain of two -/
def tCh (r r' : R2) (ta tb tc : TE) : TE := fun σ H Q => ta σ H fun x H1 => tb σ H1 fun y H2 => r x y H2 (onB fun k H3 => br k (tc σ H3 fun w' H4 => r' y w' H4 Q) (Q (.bl false) H3))
theorem tCh_eq (r r' : R2) (ta tb tc : TE) : tCh r r' ta tb tc = tChain r r' ta tb tc := by
  funext σ H Q
  unfold tCh tChain
  simp only [onB_eq, br_eq]
def Ex.chain (m m' : Cm) (a b d : Ex K) : Ex K where
  t := tCh (m.r K) (m'.r K) a.t b.t d.t
  chk := fun Γ e => match e with
    | .Compare x [o, o'] [y, z] _ => decide (o = m.op) && decide (o' = m'.op) && (a.chk Γ x && b.chk Γ y && d.chk Γ z) && pln z
    | _ => false
  has := fun h => a.has h ∧ b.has h ∧ d.has h
  sound := by
    intro X Γ h e c hk hh hc
    cases e <;> try exact absurd hc Bool.false_ne_true
    rename_i x os ys pos
    rcases os with _ | ⟨o, _ | ⟨o', _ | ⟨_, _⟩⟩⟩ <;> try exact absurd hc Bool.false_ne_true
    rcases ys with _ | ⟨y, _ | ⟨z, _ | ⟨_, _⟩⟩⟩ <;> try exact absurd hc Bool.false_ne_true
    obtain ⟨h1, h1', h2, h4⟩ := and4 hc
    obtain ⟨h2, h3, h5⟩ := and3 h2
    have e := of_decide_eq_true h1
    subst e
    have e := of_decide_eq_true h1'
    subst e
    have ek : X.K = K := c.K.trans hk
    subst ek
    have p := pe_chain (pos := pos) (m.ho X h.k c.room c.calm) (m'.ho X h.k c.room c.calm) (a.sound c hk hh.1 h2) (b.sound c hk hh.2.1 h3) (d.sound c hk hh.2.2 h5) (by show behindInMarks _ z = false; exact unmark h4)
    exact (tCh_eq _ _ _ _ _) ▸ p

/-! ### and, or, not as values -/
def Ex.one (a : Ex K) : Ex K where
  t := a.t
  chk := fun Γ e => match e with
    | .BoolOp _ [x] _ => a.chk Γ x
    | _ => false
  has := a.has
  sound := by
    intro X Γ h e c hk hh hc
    cases e <;> try exact absurd hc Bool.false_ne_true
    rename_i op xs pos
    rcases xs with _ | ⟨x, _ | ⟨_, _⟩⟩ <;> try exact absurd hc Bool.false_ne_true
    exact pe_one (a.sound c hk hh hc)
def tAndX (ta tb : TE) : TE := fun σ H Q => ta σ H (onB fun c H1 => br c (tb σ H1 Q) (Q (.bl false) H1))
def tOrX (ta tb : TE) : TE := fun σ H Q => ta σ H (onB fun c H1 => br c (Q (.bl true) H1) (tb σ H1 Q))
theorem tAndX_eq (ta tb : TE) : tAndX ta tb = tAndV ta tb := by
  funext σ H Q; unfold tAndX tAndV; simp only [onB_eq, br_eq]
theorem tOrX_eq (ta tb : TE) : tOrX ta tb = tOrV ta tb := by
  funext σ H Q; unfold tOrX tOrV; simp only [onB_eq, br_eq]
def Ex.and (a b : Ex K) : Ex K where
  t := tAndX a.t b.t
  chk := fun Γ e => match e with
    | .BoolOp .And (x :: y :: r) pos => a.chk Γ x && b.chk Γ (.BoolOp .And (y :: r) pos)
    | _ => false
  has := fun h => a.has h ∧ b.has h
  sound := by
    intro X Γ h e c hk hh hc
    cases e <;> try exact absurd hc Bool.false_ne_true
    rename_i op xs pos
    cases op <;> try exact absurd hc Bool.false_ne_true
    rcases xs with _ | ⟨x, _ | ⟨y, r⟩⟩ <;> try exact absurd hc Bool.false_ne_true
    obtain ⟨h1, h2⟩ := and2 hc
    exact (tAndX_eq _ _) ▸ pe_and (a.sound c hk hh.1 h1) (b.sound c hk hh.2 h2)
def Ex.or (a b : Ex K) : Ex K where
  t := tOrX a.t b.t
  chk := fun Γ e => match e with
    | .BoolOp .Or (x :: y :: r) pos => a.chk Γ x && b.chk Γ (.BoolOp .Or (y :: r) pos)
    | _ => false
  has := fun h => a.has h ∧ b.has h
  sound := by
    intro X Γ h e c hk hh hc
    cases e <;> try exact absurd hc Bool.false_ne_true
    rename_i op xs pos
    cases op <;> try exact absurd hc Bool.false_ne_true
    rcases xs with _ | ⟨x, _ | ⟨y, r⟩⟩ <;> try exact absurd hc Bool.false_ne_true
    obtain ⟨h1, h2⟩ := and2 hc
    exact (tOrX_eq _ _) ▸ pe_or (a.sound c hk hh.1 h1) (b.sound c hk hh.2 h2)
def Ex.not (a : Ex K) : Ex K where
  t := fun σ H Q => a.t σ H (onB fun c H1 => Q (.bl (!c)) H1)
  chk := fun Γ e => match e with
    | .UnaryOp .Not x _ => a.chk Γ x
    | _ => false
  has := a.has
  sound := by
    intro X Γ h e c hk hh hc
    cases e <;> try exact absurd hc Bool.false_ne_true
    rename_i op x pos
    cases op <;> try exact absurd hc Bool.false_ne_true
    exact PE.imp (pe_not (a.sound c hk hh hc)) fun σ H Q q => by
      rw [onB_eq] at q; exact q

/-! ### tests -/
def tvl : Expr → Bool
  | .UnaryOp _ _ _ => false
  | .BoolOp _ _ _ => false
  | .IfExp _ _ _ _ => false
  | .Compare _ _ _ _ => false
  | _ => true
def Te.val (a : Ex K) : Te K where
  t := fun σ H Q => a.t σ H (onB Q)
  chk := fun Γ e => tvl e && a.chk Γ e
  has := a.has
  sound := by
    intro X Γ h e c hk hh hc
    obtain ⟨h1, h2⟩ := and2 hc
    refine PT.imp (pt_val (a.sound c hk hh h2) ?_) fun σ H Q q => by
      rw [onB_eq] at q; exact q
    intro whole
    cases e <;> first | rfl | exact absurd h1 Bool.false_ne_true
def Te.cmp (m : Cm) (a b : Ex K) : Te K where
  t := fun σ H Q => tOp (m.r K) a.t b.t σ H (onB Q)
  chk := fun Γ e => (Ex.cmp m a b).chk Γ e
  has := (Ex.cmp m a b).has
  sound := by
    intro X Γ h e c hk hh hc
    cases e <;> try exact absurd hc Bool.false_ne_true
    rename_i x os ys pos
    rcases os with _ | ⟨o, _ | ⟨_, _⟩⟩ <;> try exact absurd hc Bool.false_ne_true
    rcases ys with _ | ⟨y, _ | ⟨_, _⟩⟩ <;> try exact absurd hc Bool.false_ne_true
    obtain ⟨h1, h2, h3, h4⟩ := and4 hc
    have e := of_decide_eq_true h1
    subst e
    have ek : X.K = K := c.K.trans hk
    subst ek
    refine PT.imp (pt_cmpR (m.ho X h.k c.room c.calm) (a.sound c hk hh.1 h2) (b.sound c hk hh.2 h3) (unmark h4)) fun σ H Q q => ?_
    rw [onB_eq] at q; exact q
def Te.chain (m m' : Cm) (a b d : Ex K) : Te K where
  t := fun σ H Q => tCh (m.r K) (m'.r K) a.t b.t d.t σ H (onB Q)
  chk := fun Γ e => (Ex.chain m m' a b d).chk Γ e
  has := (Ex.chain m m' a b d).has
  sound := by
    intro X Γ h e c hk hh hc
    cases e <;> try exact absurd hc Bool.false_ne_true
    rename_i x os ys pos
    rcases os with _ | ⟨o, _ | ⟨o', _ | ⟨_, _⟩⟩⟩ <;> try exact absurd hc Bool.false_ne_true
    rcases ys with _ | ⟨y, _ | ⟨z, _ | ⟨_, _⟩⟩⟩ <;> try exact absurd hc Bool.false_ne_true
    obtain ⟨h1, h1', h2, h4⟩ := and4 hc
    obtain ⟨h2, h3, h5⟩ := and3 h2
    have e := of_decide_eq_true h1
    subst e
    have e := of_decide_eq_true h1'
    subst e
    have ek : X.K = K := c.K.trans hk
    subst ek
    refine PT.imp (pt_chain (pos := pos) (m.ho X h.k c.room c.calm) (m'.ho X h.k c.room c.calm) (a.sound c hk hh.1 h2) (b.sound c hk hh.2.1 h3) (d.sound c hk hh.2.2 h5) (by show behindInMarks _ z = false; exact unmark h4)) fun σ H Q q => ?_
    rw [onB_eq, tCh_eq] at q; exact q
def Te.not (a : Te K) : Te K where
  t := fun σ H Q => a.t σ H fun c H1 => Q (!c) H1
  chk := fun Γ e => match e with
    | .UnaryOp .Not x _ => a.chk Γ x
    | _ => false
  has := a.has
  sound := by
    intro X Γ h e c hk hh hc
    cases e <;> try exact absurd hc Bool.false_ne_true
    rename_i op x pos
    cases op <;> try exact absurd hc Bool.false_ne_true
    exact pt_not (a.sound c hk hh hc)
/-- and, or: whatever the whole is -/
structure Tw (K : PySem.W.Frag) where
  t : TT
  chk : Gam → Expr → Bool
  has : Hx → Prop
  sound : ∀ {X : Cx} {Γ : Gam} {h : Hx} {e : Expr}, Ctx X Γ h → h.K = K → has h → chk Γ e = true → PW X e t
def Te.w (a : Tw K) : Te K where
  t := a.t
  chk := a.chk
  has := a.has
  sound := fun c hk hh hc => (a.sound c hk hh hc).pt
def Tw.one (a : Te K) : Tw K where
  t := a.t
  chk := fun Γ e => match e with
    | .BoolOp _ [x] _ => a.chk Γ x
    | _ => false
  has := a.has
  sound := by
    intro X Γ h e c hk hh hc
    cases e <;> try exact absurd hc Bool.false_ne_true
    rename_i op xs pos
    rcases xs with _ | ⟨x, _ | ⟨_, _⟩⟩ <;> try exact absurd hc Bool.false_ne_true
    cases op with
    | And => exact pw_and1 (a.sound c hk hh hc)
    | Or => exact pw_or1 (a.sound c hk hh hc)
def Tw.and (a : Te K) (b : Tw K) : Tw K where
  t := fun σ H Q => a.t σ H fun c H1 => br c (b.t σ H1 Q) (Q false H1)
  chk := fun Γ e => match e with
    | .BoolOp .And (x :: y :: r) pos => a.chk Γ x && b.chk Γ (.BoolOp .And (y :: r) pos)
    | _ => false
  has := fun h => a.has h ∧ b.has h
  sound := by
    intro X Γ h e c hk hh hc
    cases e <;> try exact absurd hc Bool.false_ne_true
    rename_i op xs pos
    cases op <;> try exact absurd hc Bool.false_ne_true
    rcases xs with _ | ⟨x, _ | ⟨y, r⟩⟩ <;> try exact absurd hc Bool.false_ne_true
    obtain ⟨h1, h2⟩ := and2 hc
    simp only [br_eq]
    exact pw_and (a.sound c hk hh.1 h1) (b.sound c hk hh.2 h2)
def Tw.or (a : Te K) (b : Tw K) : Tw K where
  t := fun σ H Q => a.t σ H fun c H1 => br c (Q true H1) (b.t σ H1 Q)
  chk := fun Γ e => match e with
    | .BoolOp .Or (x :: y :: r) pos => a.chk Γ x && b.chk Γ (.BoolOp .Or (y :: r) pos)
    | _ => false
  has := fun h => a.has h ∧ b.has h
  sound := by
    intro X Γ h e c hk hh hc
    cases e <;> try exact absurd hc Bool.false_ne_true
    rename_i op xs pos
    cases op <;> try exact absurd hc Bool.false_ne_true
    rcases xs with _ | ⟨x, _ | ⟨y, r⟩⟩ <;> try exact absurd hc Bool.false_ne_true
    obtain ⟨h1, h2⟩ := and2 hc
    simp only [br_eq]
    exact pw_or (a.sound c hk hh.1 h1) (b.sound c hk hh.2 h2)
def Ex.ifx (p : Te K) (a b : Ex K) : Ex K where
  t := fun σ H Q => p.t σ H fun c H1 => br c (a.t σ H1 Q) (b.t σ H1 Q)
  chk := fun Γ e => match e with
    | .IfExp x y z _ => p.chk Γ x && a.chk Γ y && b.chk Γ z
    | _ => false
  has := fun h => p.has h ∧ a.has h ∧ b.has h
  sound := by
    intro X Γ h e c hk hh hc
    cases e <;> try exact absurd hc Bool.false_ne_true
    rename_i x y z pos
    obtain ⟨h1, h2, h3⟩ := and3 hc
    simp only [br_eq]
    exact pe_ifExp (p.sound c hk hh.1 h1) (a.sound c hk hh.2.1 h2) (b.sound c hk hh.2.2 h3)

/-! ### arguments, calls -/
def As.nil : As K where
  t := tNil
  chk := fun _ es => es.isEmpty
  has := fun _ => True
  sound := by
    intro X Γ h es c hk hh hc
    cases es with
    | nil => exact ⟨pa_nil, rfl⟩
    | cons _ _ => exact absurd hc Bool.false_ne_true
def As.cons (a : Ex K) (r : As K) : As K where
  t := tCons a.t r.t
  chk := fun Γ es => match es with
    | x :: xs => nst x && a.chk Γ x && r.chk Γ xs
    | [] => false
  has := fun h => a.has h ∧ r.has h
  sound := by
    intro X Γ h es c hk hh hc
    cases es with
    | nil => exact absurd hc Bool.false_ne_true
    | cons x xs =>
      obtain ⟨h1, h2, h3⟩ := and3 hc
      obtain ⟨p, q⟩ := r.sound c hk hh.2 h3
      exact ⟨pa_cons (a.sound c hk hh.1 h2) p (star_cons h1), by rw [List.all_cons, h1, q]; rfl⟩
/-- the promise of a def, where it may be called -/
structure HasF (h : Hx) (x : Str) (sp : Sp) : Prop where
  ex : ∃ (f : Addr) (fd : FuncData) (ps : List Str), FnOk h.P h.w h.K h.mg h.base CX0 h.k f fd ps sp ∧ h.mg x = some (.ref f) ∧ PySem.W.keepIn h.K (.ref f) = true ∧ Binds h.K fd ps []
theorem HasF.mono {h : Hx} {x : Str} {sp : Sp} {k : Nat} (p : HasF h x sp) (hk : h.k ≤ k) : HasF { h with k := k } x sp := by
  obtain ⟨f, fd, ps, F, r⟩ := p.ex
  exact ⟨f, fd, ps, F.mono hk, r⟩
def Ex.call (x : Str) (sp : Sp) (a : As K) : Ex K where
  t := fun σ H Q => a.t σ H fun vs H1 => sp vs H1 Q E0
  chk := fun Γ e => match e with
    | .Call (.Name y _) es [] _ => decide (y = x) && isGl (Γ.names.lookup y) && okN y && (a.chk Γ es && !es.isEmpty)
    | _ => false
  has := fun h => HasF h x sp ∧ a.has h
  sound := by
    intro X Γ h e c hk hh hc
    cases e <;> try exact absurd hc Bool.false_ne_true
    rename_i fn es kws pos
    cases fn <;> try exact absurd hc Bool.false_ne_true
    rename_i y p
    cases kws <;> try exact absurd hc Bool.false_ne_true
    obtain ⟨h1, h2, h3, h4⟩ := and4 hc
    obtain ⟨h4, h5⟩ := and2 h4
    have e := of_decide_eq_true h1
    subst e
    obtain ⟨q, ha⟩ := hh
    obtain ⟨f, fd, ps, F, m, kp, b⟩ := q.ex
    obtain ⟨pa, al⟩ := a.sound c hk ha h4
    cases es with
    | nil => exact absurd h5 Bool.false_ne_true
    | cons e es =>
    rw [List.all_cons] at al
    obtain ⟨al1, al2⟩ := and2 al
    have := c.prog; have := c.w; have := c.K; have := c.mg; have := c.base
    obtain ⟨P, w, K', mg, base, k⟩ := h
    subst_vars
    refine PE.imp (pe_call (dvs := []) (ds := []) (E := E0) F c.room (gl_of c h2) m kp b .nil pass0 pa (okN_d h3) (star_cons al1) (star_any al2)) fun σ H Q q => ?_
    unfold tCall
    simp only [List.append_nil]
    exact q
/-- a built-in function by its name -/
def HasB (h : Hx) (x : Str) : Prop := h.mg x = none
def Ex.cb (x : Str) (id : String) (r : PySem.W.Frag → List V → Hp → VK → Prop) (hb : bootBuiltins x = some (.builtin id)) (ho : ∀ (X : Cx) (k : Nat), Room k X.A → X.calm = true → CallR X (.builtin id) (r X.K)) (a : As K) : Ex K where
  t := fun σ H Q => a.t σ H fun vs H1 => r K vs H1 Q
  chk := fun Γ e => match e with
    | .Call (.Name y _) es [] _ => decide (y = x) && isGl (Γ.names.lookup y) && okN y && (a.chk Γ es && !es.isEmpty)
    | _ => false
  has := fun h => HasB h x ∧ a.has h
  sound := by
    intro X Γ h e c hk hh hc
    cases e <;> try exact absurd hc Bool.false_ne_true
    rename_i fn es kws pos
    cases fn <;> try exact absurd hc Bool.false_ne_true
    rename_i y p
    cases kws <;> try exact absurd hc Bool.false_ne_true
    obtain ⟨h1, h2, h3, h4⟩ := and4 hc
    obtain ⟨h4, h5⟩ := and2 h4
    have e := of_decide_eq_true h1
    subst e
    obtain ⟨q, ha⟩ := hh
    obtain ⟨pa, al⟩ := a.sound c hk ha h4
    cases es with
    | nil => exact absurd h5 Bool.false_ne_true
    | cons e es =>
    rw [List.all_cons] at al
    obtain ⟨al1, al2⟩ := and2 al
    have ek : X.K = K := c.K.trans hk
    subst ek
    exact pe_callB (ho X h.k c.room c.calm) (gl_of c h2) (by rw [c.mg]; exact q) hb pa (okN_n h3) (okN_d h3) (star_cons al1) (star_any al2)
def Ex.cty (x : Str) (T : String) (r : PySem.W.Frag → List V → Hp → VK → Prop) (hb : bootBuiltins x = some (.type T)) (ho : ∀ (X : Cx) (k : Nat), Room k X.A → X.calm = true → CallR X (.type T) (r X.K)) (a : As K) : Ex K where
  t := fun σ H Q => a.t σ H fun vs H1 => r K vs H1 Q
  chk := fun Γ e => match e with
    | .Call (.Name y _) es [] _ => decide (y = x) && isGl (Γ.names.lookup y) && okN y && (a.chk Γ es && !es.isEmpty)
    | _ => false
  has := fun h => HasB h x ∧ a.has h
  sound := by
    intro X Γ h e c hk hh hc
    cases e <;> try exact absurd hc Bool.false_ne_true
    rename_i fn es kws pos
    cases fn <;> try exact absurd hc Bool.false_ne_true
    rename_i y p
    cases kws <;> try exact absurd hc Bool.false_ne_true
    obtain ⟨h1, h2, h3, h4⟩ := and4 hc
    obtain ⟨h4, h5⟩ := and2 h4
    have e := of_decide_eq_true h1
    subst e
    obtain ⟨q, ha⟩ := hh
    obtain ⟨pa, al⟩ := a.sound c hk ha h4
    cases es with
    | nil => exact absurd h5 Bool.false_ne_true
    | cons e es =>
    rw [List.all_cons] at al
    obtain ⟨al1, al2⟩ := and2 al
    have ek : X.K = K := c.K.trans hk
    subst ek
    exact pe_callTy (ho X h.k c.room c.calm) (gl_of c h2) (by rw [c.mg]; exact q) hb pa (okN_n h3) (okN_d h3) (star_cons al1) (star_any al2)
end Cb

namespace Cb
open PySem L2
variable {K : PySem.W.Frag}

/-! ### displays -/
def Ex.lst (a : As K) : Ex K where
  t := tLst a.t
  chk := fun Γ e => match e with
    | .List es _ => a.chk Γ es
    | _ => false
  has := a.has
  sound := by
    intro X Γ h e c hk hh hc
    cases e <;> try exact absurd hc Bool.false_ne_true
    exact pe_lst (a.sound c hk hh hc).1
def Ex.tup (a : As K) : Ex K where
  t := tTup a.t
  chk := fun Γ e => match e with
    | .Tuple es _ _ => a.chk Γ es
    | _ => false
  has := a.has
  sound := by
    intro X Γ h e c hk hh hc
    cases e <;> try exact absurd hc Bool.false_ne_true
    exact pe_tup (a.sound c hk hh hc).1

/-! ### subscripts -/
def rIxX (K : PySem.W.Frag) : R2 := fun x y H Q => match x, y with
  | .str z, .int i => z.length ≤ sizeLine ∧ ∃ c, atI z.cps.toList i = some c ∧ Q (.str ⟨#[c]⟩) H
  | .ref p, .int i => ∃ xs v, (SqL K H p xs ∨ SqT K H p xs) ∧ atI xs i = some v ∧ Q v H
  | _, _ => False
theorem ix_X (X : Cx) : IxR X (rIxX X.K) := by
  intro value slice pins s σ H x y v u Q I rx ry h hs
  unfold rIxX at h
  split at h
  · obtain ⟨hz, c, hc, q⟩ := h
    exact ix_str value slice pins s σ H _ _ v u Q I rx ry ⟨_, _, c, rfl, rfl, hz, hc, q⟩ hs
  · obtain ⟨xs, w, hx, ha, q⟩ := h
    rcases hx with hx | hx
    · exact ix_list value slice pins s σ H _ _ v u Q I rx ry ⟨_, xs, _, w, rfl, rfl, hx, ha, q⟩ hs
    · exact ix_tup value slice pins s σ H _ _ v u Q I rx ry ⟨_, xs, _, w, rfl, rfl, hx, ha, q⟩ hs
  · exact h.elim
def Ex.ix (a b : Ex K) : Ex K where
  t := tOp (rIxX K) a.t b.t
  chk := fun Γ e => match e with
    | .Subscript x y _ => a.chk Γ x && b.chk Γ y && pln y
    | _ => false
  has := fun h => a.has h ∧ b.has h
  sound := by
    intro X Γ h e c hk hh hc
    cases e <;> try exact absurd hc Bool.false_ne_true
    obtain ⟨h1, h2, h3⟩ := and3 hc
    have ek : X.K = K := c.K.trans hk
    subst ek
    exact pe_ix (ix_X X) (a.sound c hk hh.1 h1) (b.sound c hk hh.2 h2) (plainIx h3)
def Op.no : Op K where
  t := tNoPart
  chk := fun _ e => e.isNone
  has := fun _ => True
  sound := by
    intro X Γ h e c hk hh hc
    cases e with
    | none => exact po_none
    | some _ => exact absurd hc Bool.false_ne_true
def tPt (t : TE) : TO := fun σ H Q => t σ H fun x H1 => match x with
  | .int i => Q (some i) H1
  | _ => False
theorem tPt_eq (t : TE) : tPt t = tPart t := by
  funext σ H Q
  unfold tPt tPart
  congr 1
  funext x H1
  apply propext
  cases x <;> simp
def Op.yes (a : Ex K) : Op K where
  t := tPt a.t
  chk := fun Γ e => match e with
    | some x => a.chk Γ x
    | none => false
  has := a.has
  sound := by
    intro X Γ h e c hk hh hc
    cases e with
    | none => exact absurd hc Bool.false_ne_true
    | some x => exact tPt_eq _ ▸ po_some (a.sound c hk hh hc)
def rSlX (K : PySem.W.Frag) : V → Option Int → Option Int → Hp → VK → Prop := fun x lo hi H Q => match x with
  | .str z => z.length ≤ sizeLine ∧ Q (.str (cutS z lo hi)) H
  | .ref p => rSlL K (.ref p) lo hi H Q ∨ rSlA K (.ref p) lo hi H Q
  | _ => False
theorem sl_X (X : Cx) : SlR X (rSlX X.K) := by
  intro pins s σ H x v vl vu lo hi sl Q I rx hs pl pu h
  unfold rSlX at h
  split at h
  · exact sl_str pins s σ H _ v vl vu lo hi sl Q I rx hs pl pu ⟨_, rfl, h.1, h.2⟩
  · rcases h with h | h
    · exact sl_list pins s σ H _ v vl vu lo hi sl Q I rx hs pl pu h
    · exact sl_tupA pins s σ H _ v vl vu lo hi sl Q I rx hs pl pu h
  · exact h.elim
def Ex.sl (a : Ex K) (lo hi : Op K) : Ex K where
  t := tSl (rSlX K) a.t lo.t hi.t
  chk := fun Γ e => match e with
    | .Subscript x (.Slice l u Option.none _) _ => a.chk Γ x && lo.chk Γ l && hi.chk Γ u
    | _ => false
  has := fun h => a.has h ∧ lo.has h ∧ hi.has h
  sound := by
    intro X Γ h e c hk hh hc
    cases e <;> try exact absurd hc Bool.false_ne_true
    rename_i x y pos
    cases y <;> try exact absurd hc Bool.false_ne_true
    rename_i l u st pos2
    cases st with
    | some z => simp at hc
    | none =>
    obtain ⟨h1, h2, h3⟩ := and3 hc
    have ek : X.K = K := c.K.trans hk
    subst ek
    exact pe_slice (sl_X X) (a.sound c hk hh.1 h1) (lo.sound c hk hh.2.1 h2) (hi.sound c hk hh.2.2 h3)

/-! ### methods of built-in types -/
/-- a text's method with arguments -/
def onS (f : Str → Hp → Prop) : VK := fun x H => match x with
  | .str z => f z H
  | _ => False
structure Ms where
  name : Str
  id : String
  slot : Slot "str" name id
  ty : typeOf (.builtin id) = pure (.type "method_descriptor")
  r : PySem.W.Frag → Str → List V → Hp → VK → Prop
  ok : ∀ X : Cx, X.calm = true → MtR X id (fun x xs H Q => onS (fun z H => r X.K z xs H Q) x H)
def Ex.sm (m : Ms) (o : Ex K) (a : As K) : Ex K where
  t := fun σ H Q => o.t σ H (onS fun z H1 => a.t σ H1 fun vs H2 => m.r K z vs H2 Q)
  chk := fun Γ e => match e with
    | .Call (.Attribute x y ap) es [] cp => decide (y = m.name) && o.chk Γ x && nsup x && (ap.endLine == cp.line && (a.chk Γ es && !es.isEmpty && decide (es.length < 30)))
    | _ => false
  has := fun h => o.has h ∧ a.has h
  sound := by
    intro X Γ h e c hk hh hc
    cases e <;> try exact absurd hc Bool.false_ne_true
    rename_i fn es kws pos
    cases fn <;> try exact absurd hc Bool.false_ne_true
    rename_i x y ap
    cases kws <;> try exact absurd hc Bool.false_ne_true
    obtain ⟨h1, h2, h3, h40⟩ := and4 hc
    obtain ⟨h4, h50⟩ := and2 h40
    obtain ⟨h5, h6, h7⟩ := and3 h50
    have e := of_decide_eq_true h1
    subst e
    obtain ⟨pa, al⟩ := a.sound c hk hh.2 h5
    cases es with
    | nil => exact absurd h6 Bool.false_ne_true
    | cons e es =>
    have al' := al
    rw [List.all_cons] at al
    obtain ⟨al1, al2⟩ := and2 al
    have ek : X.K = K := c.K.trans hk
    subst ek
    refine PE.imp (pe_bm PySem.F.plainAttrs_str m.slot m.ty (m.ok X c.calm) (o.sound c hk hh.1 h2) pa (base_of h3) ?_ h4 (star_cons al1) (star_any al2)) fun σ H Q q => ?_
    · rw [star_all al']
      show (true && true && decide _) = true
      simpa using h7
    · unfold tBM
      refine (congrArg (fun f => o.t σ H f) ?_).mp q
      funext x H1
      apply propext
      cases x <;> simp [onS, tyV]
def r2S (g : Str → Str → V) : PySem.W.Frag → Str → List V → Hp → VK → Prop := fun _ z vs H Q => match vs with
  | [.str b] => Q (g z b) H
  | _ => False
theorem onS_i {f : Str → Hp → Prop} {x : V} {H : Hp} (h : onS f x H) : ∃ z, x = .str z ∧ f z H := by
  cases x <;> first | exact h.elim | exact ⟨_, rfl, h⟩
def Ms.find3 : Ms where
  name := "find"
  id := "str.find"
  slot := PySem.F.slot_str_find
  ty := PySem.F.type_str_find
  r := fun _ z vs H Q => match vs with
    | [.str b, .int i] => Q (.int (Txt.find3 z b i)) H
    | _ => False
  ok := fun X _ pins s σ H x xs v us Q I rx rs h => by
    obtain ⟨z, rfl, h⟩ := onS_i h
    split at h
    · exact mt_find3 pins s σ H _ _ v us Q I rx rs ⟨_, _, _, rfl, rfl, h⟩
    · exact h.elim
def Ms.rfind4 : Ms where
  name := "rfind"
  id := "str.rfind"
  slot := PySem.F.slot_str_rfind
  ty := PySem.F.type_str_rfind
  r := fun _ z vs H Q => match vs with
    | [.str b, .int i, .int j] => Q (.int (Txt.rfindIn z b i j)) H
    | _ => False
  ok := fun X _ pins s σ H x xs v us Q I rx rs h => by
    obtain ⟨z, rfl, h⟩ := onS_i h
    split at h
    · exact mt_rfind4 pins s σ H _ _ v us Q I rx rs ⟨_, _, _, _, rfl, rfl, h⟩
    · exact h.elim
def Ms.count : Ms where
  name := "count"
  id := "str.count"
  slot := PySem.F.slot_str_count
  ty := PySem.F.type_str_count
  r := fun _ z vs H Q => match vs with
    | [.str b] => Q (.int (Txt.count z b)) H
    | _ => False
  ok := fun X _ pins s σ H x xs v us Q I rx rs h => by
    obtain ⟨z, rfl, h⟩ := onS_i h
    split at h
    · exact mt_count pins s σ H _ _ v us Q I rx rs ⟨_, _, rfl, rfl, h⟩
    · exact h.elim
def Ms.lstrip : Ms where
  name := "lstrip"
  id := "str.lstrip"
  slot := PySem.F.slot_str_lstrip
  ty := PySem.F.type_str_lstrip
  r := fun _ z vs H Q => match vs with
    | [.str b] => z.length ≤ sizeLine ∧ Q (.str (Txt.lstripChars z b)) H
    | _ => False
  ok := fun X _ pins s σ H x xs v us Q I rx rs h => by
    obtain ⟨z, rfl, h⟩ := onS_i h
    split at h
    · exact mt_lstripChars pins s σ H _ _ v us Q I rx rs ⟨_, _, rfl, rfl, h.1, h.2⟩
    · exact h.elim
def Ms.join : Ms where
  name := "join"
  id := "str.join"
  slot := PySem.F.slot_str_join
  ty := PySem.F.type_str_join
  r := fun K z vs H Q => match vs with
    | [.ref p] => ∃ ys : List Str, (SqL K H p (ys.map V.str) ∨ SqT K H p (ys.map V.str)) ∧ (ys.map (·.length)).sum + ys.length * z.length ≤ 16777216 ∧ Q (.str (Txt.join z ys)) H
    | _ => False
  ok := fun X _ pins s σ H x xs v us Q I rx rs h => by
    obtain ⟨z, rfl, h⟩ := onS_i h
    split at h
    · obtain ⟨ys, h1, h2, q⟩ := h
      exact mt_join pins s σ H _ _ v us Q I rx rs ⟨_, _, ys, rfl, rfl, h1, h2, q⟩
    · exact h.elim
/-- a list's method with arguments -/
def onR (f : Addr → Hp → Prop) : VK := fun x H => match x with
  | .ref z => f z H
  | _ => False
theorem onR_i {f : Addr → Hp → Prop} {x : V} {H : Hp} (h : onR f x H) : ∃ z, x = .ref z ∧ f z H := by
  cases x <;> first | exact h.elim | exact ⟨_, rfl, h⟩
structure Ml where
  name : Str
  id : String
  slot : Slot "list" name id
  ty : typeOf (.builtin id) = pure (.type "method_descriptor")
  r : PySem.W.Frag → Addr → List V → Hp → VK → Prop
  ok : ∀ X : Cx, X.calm = true → MtR X id (fun x xs H Q => onR (fun z H => r X.K z xs H Q) x H)
def Ex.lm (m : Ml) (o : Ex K) (a : As K) : Ex K where
  t := fun σ H Q => o.t σ H (onR fun z H1 => (∃ xs, SqL K H1 z xs) ∧ a.t σ H1 fun vs H2 => m.r K z vs H2 Q)
  chk := fun Γ e => match e with
    | .Call (.Attribute x y ap) es [] cp => decide (y = m.name) && o.chk Γ x && nsup x && (ap.endLine == cp.line && (a.chk Γ es && !es.isEmpty && decide (es.length < 30)))
    | _ => false
  has := fun h => o.has h ∧ a.has h
  sound := by
    intro X Γ h e c hk hh hc
    cases e <;> try exact absurd hc Bool.false_ne_true
    rename_i fn es kws pos
    cases fn <;> try exact absurd hc Bool.false_ne_true
    rename_i x y ap
    cases kws <;> try exact absurd hc Bool.false_ne_true
    obtain ⟨h1, h2, h3, h40⟩ := and4 hc
    obtain ⟨h4, h50⟩ := and2 h40
    obtain ⟨h5, h6, h7⟩ := and3 h50
    have e := of_decide_eq_true h1
    subst e
    obtain ⟨pa, al⟩ := a.sound c hk hh.2 h5
    cases es with
    | nil => exact absurd h6 Bool.false_ne_true
    | cons e es =>
    have al' := al
    rw [List.all_cons] at al
    obtain ⟨al1, al2⟩ := and2 al
    have ek : X.K = K := c.K.trans hk
    subst ek
    refine PE.imp (pe_bm PySem.F.plainAttrs_list m.slot m.ty (m.ok X c.calm) (o.sound c hk hh.1 h2) pa (base_of h3) ?_ h4 (star_cons al1) (star_any al2)) fun σ H Q q => ?_
    · rw [star_all al']
      show (true && true && decide _) = true
      simpa using h7
    · unfold tBM
      refine (congrArg (fun f => o.t σ H f) ?_).mp q
      funext x H1
      apply propext
      cases x <;> simp [onR, tyV]
def Ml.append : Ml where
  name := "append"
  id := "list.append"
  slot := PySem.F.slot_list_append
  ty := PySem.F.type_list_append
  r := fun _ l vs H Q => match vs with
    | [y] => ∃ xs, H l = some (.lst xs) ∧ xs.length < sizeLine ∧ Q .non (upd H l (.lst (xs ++ [y])))
    | _ => False
  ok := fun X _ pins s σ H x xs v us Q I rx rs h => by
    obtain ⟨z, rfl, h⟩ := onR_i h
    split at h
    · obtain ⟨ys, h1, h2, q⟩ := h
      exact mt_append pins s σ H _ _ v us Q I rx rs ⟨_, ys, _, rfl, rfl, h1, h2, q⟩
    · exact h.elim
def Ml.extend : Ml where
  name := "extend"
  id := "list.extend"
  slot := PySem.F.slot_list_extend
  ty := PySem.F.type_list_extend
  r := fun _ l vs H Q => match vs with
    | [.ref b] => ∃ xs zs, H l = some (.lst xs) ∧ H b = some (.lst zs) ∧ xs.length + zs.length ≤ sizeLine ∧ Q .non (upd H l (.lst (xs ++ zs)))
    | _ => False
  ok := fun X _ pins s σ H x xs v us Q I rx rs h => by
    obtain ⟨z, rfl, h⟩ := onR_i h
    split at h
    · obtain ⟨ys, zs, h1, h2, h3, q⟩ := h
      exact mt_extend pins s σ H _ _ v us Q I rx rs ⟨_, _, ys, zs, rfl, rfl, h1, h2, h3, q⟩
    · exact h.elim

/-! ### built-ins -/
def rLen (K : PySem.W.Frag) : List V → Hp → VK → Prop := fun vs H Q => match vs with
  | [.str z] => z.length ≤ sizeLine ∧ Q (.int z.length) H
  | [.ref p] => ∃ xs, (SqL K H p xs ∨ SqT K H p xs) ∧ Q (.int xs.length) H
  | _ => False
theorem cr_lenX (X : Cx) (k : Nat) (_ : Room k X.A) (_ : X.calm = true) : CallR X (.builtin "len") (rLen X.K) := by
  intro pins s σ H xs us Q I r h
  unfold rLen at h
  split at h
  · exact call_len_str pins s σ H _ us Q I r ⟨_, rfl, h.1, h.2⟩
  · obtain ⟨ys, h1, q⟩ := h
    exact call_len_seq pins s σ H _ us Q I r ⟨_, ys, rfl, h1, q⟩
  · exact h.elim
def Ex.len (a : As K) : Ex K := Ex.cb "len" "len" rLen boot_len cr_lenX a
def rMinX (_ : PySem.W.Frag) : List V → Hp → VK → Prop := fun vs H Q => match vs with
  | [.int i, .int j] => Q (.int (min i j)) H
  | _ => False
theorem cr_minX (X : Cx) (k : Nat) (_ : Room k X.A) (hc : X.calm = true) : CallR X (.builtin "min") (rMinX X.K) := by
  intro pins s σ H xs us Q I r h
  unfold rMinX at h
  split at h
  · rename_i i j
    refine call_min2 hc pins s σ H _ us Q I r ⟨i, j, rfl, ?_⟩
    have e : (if j < i then j else i) = min i j := by omega
    rw [e]; exact h
  · exact h.elim
theorem boot_min : bootBuiltins "min" = some (.builtin "min") := by decide +kernel
theorem boot_max : bootBuiltins "max" = some (.builtin "max") := by decide +kernel
theorem boot_all : bootBuiltins "all" = some (.builtin "all") := by decide +kernel
theorem boot_sum : bootBuiltins "sum" = some (.builtin "sum") := by decide +kernel
theorem boot_isinstance : bootBuiltins "isinstance" = some (.builtin "isinstance") := by decide +kernel
theorem boot_int : bootBuiltins "int" = some (.type "int") := by decide +kernel
theorem boot_str : bootBuiltins "str" = some (.type "str") := by decide +kernel
theorem boot_bool : bootBuiltins "bool" = some (.type "bool") := by decide +kernel
theorem boot_tuple : bootBuiltins "tuple" = some (.type "tuple") := by decide +kernel
theorem boot_list : bootBuiltins "list" = some (.type "list") := by decide +kernel
def Ex.min (a : As K) : Ex K := Ex.cb "min" "min" rMinX boot_min cr_minX a
def rMaxX (_ : PySem.W.Frag) : List V → Hp → VK → Prop := fun vs H Q => match vs with
  | [.int i, .int j] => Q (.int (max i j)) H
  | _ => False
theorem cr_maxX (X : Cx) (k : Nat) (_ : Room k X.A) (hc : X.calm = true) : CallR X (.builtin "max") (rMaxX X.K) := by
  intro pins s σ H xs us Q I r h
  unfold rMaxX at h
  split at h
  · rename_i i j
    refine call_max2 hc pins s σ H _ us Q I r ⟨i, j, rfl, ?_⟩
    have e : (if j > i then j else i) = max i j := by omega
    rw [e]; exact h
  · exact h.elim
def Ex.max (a : As K) : Ex K := Ex.cb "max" "max" rMaxX boot_max cr_maxX a
def rAllX (K : PySem.W.Frag) : List V → Hp → VK → Prop := fun vs H Q => match vs with
  | [.ref p] => ∃ bs : List Bool, SqL K H p (bs.map V.bl) ∧ Q (.bl (bs.all id)) H
  | _ => False
theorem cr_allX (X : Cx) (k : Nat) (_ : Room k X.A) (hc : X.calm = true) : CallR X (.builtin "all") (rAllX X.K) := by
  intro pins s σ H xs us Q I r h
  unfold rAllX at h
  split at h
  · obtain ⟨bs, h1, q⟩ := h
    exact cr_all hc pins s σ H _ us Q I r ⟨_, bs, rfl, h1, q⟩
  · exact h.elim
def Ex.all (a : As K) : Ex K := Ex.cb "all" "all" rAllX boot_all cr_allX a
def rSumX (K : PySem.W.Frag) : List V → Hp → VK → Prop := fun vs H Q => match vs with
  | [.ref p] => ∃ ns : List Int, SqL K H p (ns.map V.int) ∧ Q (.int ns.sum) H
  | _ => False
theorem cr_sumX (X : Cx) (k : Nat) (_ : Room k X.A) (hc : X.calm = true) : CallR X (.builtin "sum") (rSumX X.K) := by
  intro pins s σ H xs us Q I r h
  unfold rSumX at h
  split at h
  · obtain ⟨bs, h1, q⟩ := h
    exact cr_sum hc pins s σ H _ us Q I r ⟨_, bs, rfl, h1, q⟩
  · exact h.elim
def Ex.sum (a : As K) : Ex K := Ex.cb "sum" "sum" rSumX boot_sum cr_sumX a
def rIntX (_ : PySem.W.Frag) : List V → Hp → VK → Prop := fun vs H Q => match vs with
  | [.bl b] => Q (.int (if b then 1 else 0)) H
  | _ => False
theorem cr_intX (X : Cx) (k : Nat) (_ : Room k X.A) (hc : X.calm = true) : CallR X (.type "int") (rIntX X.K) := by
  intro pins s σ H xs us Q I r h
  unfold rIntX at h
  split at h
  · exact call_int1 pins s σ H _ us Q I r (.inr ⟨_, rfl, h⟩)
  · exact h.elim
def Ex.int (a : As K) : Ex K := Ex.cty "int" "int" rIntX boot_int cr_intX a
/-- the built-in classes as values -/
def Ex.ty (x : Str) (T : String) (hb : bootBuiltins x = some (.type T)) : Ex K where
  t := tC (.ty T)
  chk := fun Γ e => match e with
    | .Name y _ => decide (y = x) && isGl (Γ.names.lookup y) && okN y
    | _ => false
  has := fun h => HasB h x
  sound := by
    intro X Γ h e c hk hh hc
    cases e <;> try exact absurd hc Bool.false_ne_true
    rename_i y pos
    obtain ⟨h1, h2, h3⟩ := and3 hc
    have e := of_decide_eq_true h1
    subst e
    exact pe_bltn (v := .ty T) (gl_of c h2) (by rw [c.mg]; exact hh) hb rfl (okN_n h3) (okN_d h3)
/-- isinstance(x, T), T one of int, bool, str, tuple: by what x is -/
def isiV (T : String) (x : V) : Option Bool := match x with
  | .int _ => some (T == "int")
  | .bl _ => some (T == "bool" || T == "int")
  | .str _ => some (T == "str")
  | .non => some false
  | _ => none
def isiH (T : String) (o : HO) : Option Bool := match o with
  | .lst _ => some false
  | .tup _ => some (T == "tuple")
  | _ => none
def rIsiX (K : PySem.W.Frag) : List V → Hp → VK → Prop := fun vs H Q => match vs with
  | [x, .ty T] => (["int", "bool", "str", "tuple"].contains T = true) ∧ (match x with
    | .ref p => ∃ o b, H p = some o ∧ isiH T o = some b ∧ Q (.bl b) H
    | x => ∃ b, isiV T x = some b ∧ Q (.bl b) H)
  | _ => False
theorem kitBs : ∀ T ∈ ["int", "bool", "str", "tuple"], kitB "int" T = some (T == "int") ∧ kitB "bool" T = some (T == "bool" || T == "int") ∧ kitB "str" T = some (T == "str") ∧ kitB "NoneType" T = some false ∧ kitB "list" T = some false ∧ kitB "tuple" T = some (T == "tuple") := by
  decide +kernel
theorem cr_isiX (X : Cx) (k : Nat) (_ : Room k X.A) (hc : X.calm = true) : CallR X (.builtin "isinstance") (rIsiX X.K) := by
  intro pins s σ H xs us Q I r h
  unfold rIsiX at h
  split at h
  · rename_i x T
    obtain ⟨hT, h⟩ := h
    obtain ⟨k1, k2, k3, k4, k5, k6⟩ := kitBs T (by simpa using hT)
    split at h
    · obtain ⟨o, b, ho, hb, q⟩ := h
      cases o with
      | lst _ =>
        cases hb
        exact call_isi pins s σ H _ us Q I r ⟨_, _, _, _, _, rfl, .ty T, .base (.lst ho), kit_ty k5, q⟩
      | tup _ =>
        cases hb
        exact call_isi pins s σ H _ us Q I r ⟨_, _, _, _, _, rfl, .ty T, .base (.tup ho), kit_ty k6, q⟩
      | _ => simp [isiH] at hb
    · obtain ⟨b, hb, q⟩ := h
      cases x with
      | non =>
        cases hb
        exact call_isi pins s σ H _ us Q I r ⟨_, _, _, _, _, rfl, .ty T, .base .non, kit_ty k4, q⟩
      | bl _ =>
        cases hb
        exact call_isi pins s σ H _ us Q I r ⟨_, _, _, _, _, rfl, .ty T, .base (.bl _), kit_ty k2, q⟩
      | int _ =>
        cases hb
        exact call_isi pins s σ H _ us Q I r ⟨_, _, _, _, _, rfl, .ty T, .base (.int _), kit_ty k1, q⟩
      | str _ =>
        cases hb
        exact call_isi pins s σ H _ us Q I r ⟨_, _, _, _, _, rfl, .ty T, .base (.str _), kit_ty k3, q⟩
      | _ => simp [isiV] at hb
  · exact h.elim
def Ex.isi (a : As K) : Ex K := Ex.cb "isinstance" "isinstance" rIsiX boot_isinstance cr_isiX a
end Cb

namespace Cb
open PySem L2
variable {K : PySem.W.Frag}

/-! ### targets -/
def Tg.v (i : Nat) : Tg K where
  t := gName i
  chk := fun Γ e => match e with
    | .Name x _ => decide (Γ.N[i]? = some x) && isLoc Γ.all (Γ.names.lookup x)
    | _ => false
  has := fun _ => True
  sound := by
    intro X Γ h e c hk hh hc
    cases e <;> try exact absurd hc Bool.false_ne_true
    obtain ⟨h1, h2⟩ := and2 hc
    obtain ⟨l, f⟩ := loc_of c h2
    exact pg_name (by rw [c.N]; exact c.nd) (by rw [c.N]; exact of_decide_eq_true h1) l f
def Tgs.nil : Tgs K where
  t := gNil
  chk := fun _ es => es.isEmpty
  has := fun _ => True
  n := 0
  sound := by
    intro X Γ h es c hk hh hc
    cases es with
    | nil => exact ⟨pgs_nil, rfl, rfl⟩
    | cons _ _ => exact absurd hc Bool.false_ne_true
theorem each_cons {e : Expr} {es : List Expr} {env : Env} (h : nst e = true) : assignEach (e :: es) env = (false, assign e env) :: assignEach es env := by
  cases e <;> first | rfl | exact absurd h Bool.false_ne_true
def gConsX (t : TG) (u : TGs) : TGs := fun vs σ H Q => match vs with
  | v :: r => t v σ H fun σ' H' => u r σ' H' Q
  | [] => False
theorem gConsX_eq (t : TG) (u : TGs) : gConsX t u = gCons t u := by
  funext vs σ H Q
  apply propext
  cases vs with
  | nil => simp [gConsX, gCons]
  | cons v r => exact ⟨fun q => ⟨v, r, rfl, q⟩, fun ⟨v', r', e, q⟩ => by cases e; exact q⟩
def Tgs.cons (a : Tg K) (r : Tgs K) : Tgs K where
  t := gConsX a.t r.t
  chk := fun Γ es => match es with
    | x :: xs => nst x && a.chk Γ x && r.chk Γ xs
    | [] => false
  has := fun h => a.has h ∧ r.has h
  n := r.n + 1
  sound := by
    intro X Γ h es c hk hh hc
    cases es with
    | nil => exact absurd hc Bool.false_ne_true
    | cons x xs =>
      obtain ⟨h1, h2, h3⟩ := and3 hc
      obtain ⟨p, q1, q2⟩ := r.sound c hk hh.2 h3
      refine ⟨gConsX_eq _ _ ▸ pgs_cons (a.sound c hk hh.1 h2) p (by rw [each_cons h1]; rfl), ?_, ?_⟩
      · rw [each_cons h1, List.length_cons, q1]
      · rw [each_cons h1, List.findIdx?_cons]
        simp [q2]
def Tg.tup (ts : Tgs K) : Tg K where
  t := gTup K ts.n ts.t
  chk := fun Γ e => match e with
    | .Tuple es _ _ => ts.chk Γ es
    | _ => false
  has := ts.has
  sound := by
    intro X Γ h e c hk hh hc
    cases e <;> try exact absurd hc Bool.false_ne_true
    obtain ⟨p, q1, q2⟩ := ts.sound c hk hh hc
    have ek : X.K = K := c.K.trans hk
    subst ek
    exact pg_tup c.calm p q1 q2
/-- o[i] = .. of a list -/
def gSubX (to ti : TE) : TG := fun v σ H Q => to σ H fun o H1 => ti σ H1 fun i H2 => rSetL o i v H2 fun H3 => Q σ H3
def Tg.ix (a b : Ex K) : Tg K where
  t := gSub a.t b.t rSetL
  chk := fun Γ e => match e with
    | .Subscript x y _ => a.chk Γ x && b.chk Γ y && pln y
    | _ => false
  has := fun h => a.has h ∧ b.has h
  sound := by
    intro X Γ h e c hk hh hc
    cases e <;> try exact absurd hc Bool.false_ne_true
    rename_i x y pos
    obtain ⟨h1, h2, h3⟩ := and3 hc
    refine pg_sub (a.sound c hk hh.1 h1) (b.sound c hk hh.2 h2) set_list ?_
    intro v
    cases y <;> first | rfl | exact absurd h3 Bool.false_ne_true

/-! ### statements -/
def Ss.nil : Ss K where
  t := tNext
  chk := fun _ es => es.isEmpty
  has := fun _ => True
  sound := by
    intro X Γ h es c hk hh hc
    cases es with
    | nil => exact pss_nil
    | cons _ _ => exact absurd hc Bool.false_ne_true
def Ss.cons (a : Sm K) (r : Ss K) : Ss K where
  t := tSeq a.t r.t
  chk := fun Γ es => match es with
    | x :: xs => a.chk Γ x && r.chk Γ xs
    | [] => false
  has := fun h => a.has h ∧ r.has h
  sound := by
    intro X Γ h es c hk hh hc
    cases es with
    | nil => exact absurd hc Bool.false_ne_true
    | cons x xs =>
      obtain ⟨h1, h2⟩ := and2 hc
      exact pss_cons (a.sound c hk hh.1 h1) (r.sound c hk hh.2 h2)
def Sm.set (i : Nat) (a : Ex K) : Sm K where
  t := tAsg a.t (gName i)
  chk := fun Γ s => match s with
    | .Assign [.Name x _] e _ => decide (Γ.N[i]? = some x) && isLoc Γ.all (Γ.names.lookup x) && a.chk Γ e && ncomp e
    | _ => false
  has := a.has
  sound := by
    intro X Γ h s c hk hh hc
    cases s <;> try exact absurd hc Bool.false_ne_true
    rename_i ts e pos
    rcases ts with _ | ⟨t, _ | ⟨_, _⟩⟩
    · exact absurd hc Bool.false_ne_true
    · cases t <;> try exact absurd hc Bool.false_ne_true
      obtain ⟨h1, h2, h3, h4⟩ := and4 hc
      obtain ⟨l, f⟩ := loc_of c h2
      exact ps_set (by rw [c.N]; exact c.nd) (by rw [c.N]; exact of_decide_eq_true h1) l (a.sound c hk hh h3) (noswap h4) f
    · cases t <;> exact absurd hc Bool.false_ne_true
/-- a store into any target; no tuple onto a tuple -/
def noTT : Expr → Expr → Bool
  | .Tuple _ _ _, .Tuple _ _ _ => false
  | .List _ _, .Tuple _ _ _ => false
  | _, _ => true
theorem noTT_ok {t e : Expr} {env : Env} (h : noTT t e = true) : swappedStores [t] e env = pure Option.none := by
  cases t <;> cases e <;> first | rfl | exact absurd h Bool.false_ne_true
def Sm.asg (g : Tg K) (a : Ex K) : Sm K where
  t := tAsg a.t g.t
  chk := fun Γ s => match s with
    | .Assign [t] e _ => g.chk Γ t && a.chk Γ e && ncomp e && (noTT t e && nst t)
    | _ => false
  has := fun h => a.has h ∧ g.has h
  sound := by
    intro X Γ h s c hk hh hc
    cases s <;> try exact absurd hc Bool.false_ne_true
    rename_i ts e pos
    rcases ts with _ | ⟨t, _ | ⟨_, _⟩⟩
    · exact absurd hc Bool.false_ne_true
    · obtain ⟨h1, h2, h3, h4⟩ := and4 hc
      obtain ⟨h4, h5⟩ := and2 h4
      exact ps_asg (a.sound c hk hh.1 h2) (g.sound c hk hh.2 h1) (noswap (tg := some t) h3) (noTT_ok h4) (by rw [each_cons h5]; rfl)
    · exact absurd hc Bool.false_ne_true
def Sm.ex (a : Ex K) : Sm K where
  t := tDrop a.t
  chk := fun Γ s => match s with
    | .Expr e _ => a.chk Γ e && ncomp e
    | _ => false
  has := a.has
  sound := by
    intro X Γ h s c hk hh hc
    cases s <;> try exact absurd hc Bool.false_ne_true
    obtain ⟨h1, h2⟩ := and2 hc
    exact ps_expr (a.sound c hk hh h1) (noswap h2)
def Sm.ret (a : Ex K) : Sm K where
  t := tRet a.t
  chk := fun Γ s => match s with
    | .Return (some e) _ => a.chk Γ e
    | _ => false
  has := a.has
  sound := by
    intro X Γ h s c hk hh hc
    cases s <;> try exact absurd hc Bool.false_ne_true
    rename_i e pos
    cases e with
    | none => exact absurd hc Bool.false_ne_true
    | some e => exact ps_ret (a.sound c hk hh hc)
def Sm.ite (p : Te K) (a b : Ss K) : Sm K where
  t := fun D σ H => p.t σ H fun c H1 => br c (a.t D σ H1) (b.t D σ H1)
  chk := fun Γ s => match s with
    | .If x y z _ => p.chk Γ x && a.chk Γ y && b.chk Γ z
    | _ => false
  has := fun h => p.has h ∧ a.has h ∧ b.has h
  sound := by
    intro X Γ h s c hk hh hc
    cases s <;> try exact absurd hc Bool.false_ne_true
    obtain ⟨h1, h2, h3⟩ := and3 hc
    simp only [br_eq]
    exact ps_if (p.sound c hk hh.1 h1) (a.sound c hk hh.2.1 h2) (b.sound c hk hh.2.2 h3)
def Sm.never : Sm K where
  t := tNever
  chk := fun _ _ => true
  has := fun _ => True
  sound := fun _ _ _ _ => ps_never
def Ss.never : Ss K where
  t := tNever
  chk := fun _ _ => true
  has := fun _ => True
  sound := fun _ _ _ _ => pss_never
def Sm.whl (p : Te K) (a : Ss K) : Sm K where
  t := tWhile p.t a.t
  chk := fun Γ s => match s with
    | .While x y [] _ => p.chk Γ x && a.chk Γ y
    | _ => false
  has := fun h => p.has h ∧ a.has h
  sound := by
    intro X Γ h s c hk hh hc
    cases s <;> try exact absurd hc Bool.false_ne_true
    rename_i x y z pos
    cases z with
    | cons _ _ => exact absurd hc Bool.false_ne_true
    | nil =>
    obtain ⟨h1, h2⟩ := and2 hc
    exact ps_while c.own (p.sound c hk hh.1 h1) (a.sound c hk hh.2 h2)
/-- behind the iterator: a loop; a comprehension -/
@[irreducible] def FoT (J : It) (g : TG) (tb : TS) (D : Ends) (σ : L2.St) (H1 : Hp) : Prop := ∃ W : Nat → Nat → L2.St → Hp → Prop, (∃ m, W 0 m σ H1) ∧ ∀ i m σ H, W i m σ H →
  (J.stop i H ∧ D.nx σ H) ∨ (J.go i H ∧ ∃ N : L2.St → Hp → Prop, (∀ σ' H', N σ' H' → ∃ m', m' < m ∧ W (i + 1) m' σ' H') ∧ ∀ x H', J.yld i H x H' → g x σ H' fun σ2 H2 => tb { D with nx := N, ct := N, bk := D.nx } σ2 H2)
def tForX (wi : TI) (g : TG) (tb : TS) : TS := fun D σ H => wi σ H fun J H1 => FoT J g tb D σ H1
theorem tForX_eq (wi : TI) (g : TG) (tb : TS) : tForX wi g tb = tFor wi g tb := by
  unfold tForX FoT; rfl
@[irreducible] def LcT (J : It) (g : TG) (tt : TT) (te : TE) (vs : List Nat) (σ : L2.St) (H1 : Hp) (Q : VK) : Prop := ∀ D, H1 D = none → ∃ W : Nat → Nat → Hp → Prop, (∃ m, W 0 m (upd H1 D (.lst []))) ∧ ∀ i m H, W i m H →
  (J.stop i H ∧ Q (.ref D) H) ∨ (J.go i H ∧ ∃ Nx : Hp → Prop, (∀ H', Nx H' → ∃ m', m' < m ∧ W (i + 1) m' H') ∧ ∀ x H', J.yld i H x H' → g x (wipe σ vs) H' fun σ2 H2 => wipe σ2 vs = wipe σ vs ∧ tt σ2 H2 fun b H3 =>
    if b = true then te σ2 H3 fun y H4 => ∃ acc, H4 D = some (.lst acc) ∧ acc.length < sizeLine ∧ Nx (upd H4 D (.lst (acc ++ [y]))) else Nx H3)
def tLcX (wi : TI) (g : TG) (tt : TT) (te : TE) (vs : List Nat) : TE := fun σ H Q => wi σ H fun J H1 => LcT J g tt te vs σ H1 Q
theorem tLcX_eq (wi : TI) (g : TG) (tt : TT) (te : TE) (vs : List Nat) : tLcX wi g tt te vs = tLc wi g tt te vs := by
  unfold tLcX LcT; rfl
def Sm.for_ (it : Ir K) (g : Tg K) (a : Ss K) : Sm K where
  t := tForX it.t g.t a.t
  chk := fun Γ s => match s with
    | .For x y z [] _ => it.chk Γ x y && g.chk Γ x && a.chk Γ z && pln y
    | _ => false
  has := fun h => it.has h ∧ g.has h ∧ a.has h
  sound := by
    intro X Γ h s c hk hh hc
    cases s <;> try exact absurd hc Bool.false_ne_true
    rename_i x y z w pos
    cases w with
    | cons _ _ => exact absurd hc Bool.false_ne_true
    | nil =>
    obtain ⟨h1, h2, h3, h4⟩ := and4 hc
    rw [tForX_eq]
    exact ps_for c.own c.calm (it.sound c hk hh.1 h1) (g.sound c hk hh.2.1 h2) (a.sound c hk hh.2.2 h3) (unfold_set h4)

/-! ### what is walked -/
def Ir.list (a : Ex K) : Ir K where
  t := iList K a.t
  chk := fun Γ _ e => a.chk Γ e
  has := a.has
  sound := by
    intro X Γ h tg e c hk hh hc
    have ek : X.K = K := c.K.trans hk
    subst ek
    exact pi_list (a.sound c hk hh hc)
def Ir.tup (a : Ex K) : Ir K where
  t := iTup K a.t
  chk := fun Γ _ e => a.chk Γ e
  has := a.has
  sound := by
    intro X Γ h tg e c hk hh hc
    have ek : X.K = K := c.K.trans hk
    subst ek
    exact pi_tup (a.sound c hk hh hc)
def Ir.str (a : Ex K) : Ir K where
  t := iStr a.t
  chk := fun Γ _ e => a.chk Γ e
  has := a.has
  sound := by
    intro X Γ h tg e c hk hh hc
    exact pi_str (a.sound c hk hh hc)
def Ir.rng1 (a : As K) : Ir K where
  t := iRng1 a.t
  chk := fun Γ _ e => match e with
    | .Call (.Name x _) [b] [] _ => decide (x = "range") && isGl (Γ.names.lookup x) && a.chk Γ [b]
    | _ => false
  has := fun h => HasB h "range" ∧ a.has h
  sound := by
    intro X Γ h tg e c hk hh hc
    cases e <;> try exact absurd hc Bool.false_ne_true
    rename_i fn es kws pos
    cases fn <;> try exact absurd hc Bool.false_ne_true
    rcases es with _ | ⟨b, _ | ⟨_, _⟩⟩ <;> try exact absurd hc Bool.false_ne_true
    cases kws <;> try exact absurd hc Bool.false_ne_true
    obtain ⟨h1, h2, h3⟩ := and3 hc
    have e := of_decide_eq_true h1
    subst e
    obtain ⟨p, al⟩ := a.sound c hk hh.2 h3
    rw [List.all_cons] at al
    exact pi_range1 (gl_of c h2) (by rw [c.mg]; exact hh.1) p (star_cons (and2 al).1)
def Ir.rng2 (a : As K) : Ir K where
  t := iRng2 a.t
  chk := fun Γ _ e => match e with
    | .Call (.Name x _) [b, d] [] _ => decide (x = "range") && isGl (Γ.names.lookup x) && a.chk Γ [b, d]
    | _ => false
  has := fun h => HasB h "range" ∧ a.has h
  sound := by
    intro X Γ h tg e c hk hh hc
    cases e <;> try exact absurd hc Bool.false_ne_true
    rename_i fn es kws pos
    cases fn <;> try exact absurd hc Bool.false_ne_true
    rcases es with _ | ⟨b, _ | ⟨d, _ | ⟨_, _⟩⟩⟩ <;> try exact absurd hc Bool.false_ne_true
    cases kws <;> try exact absurd hc Bool.false_ne_true
    obtain ⟨h1, h2, h3⟩ := and3 hc
    have e := of_decide_eq_true h1
    subst e
    obtain ⟨p, al⟩ := a.sound c hk hh.2 h3
    rw [List.all_cons, List.all_cons] at al
    obtain ⟨a1, a2⟩ := and2 al
    obtain ⟨a2, a3⟩ := and2 a2
    exact pi_range2 (gl_of c h2) (by rw [c.mg]; exact hh.1) p (by rw [star_cons a1, star_cons a2]; rfl) (by rw [star_cons a2]; rfl)

/-! ### comprehensions -/
def relN (Γ : Gam) (scope : Scope) : List (Str × NameKind) := scope.names.map fun (n, k) => if (k == .free && Γ.names.lookup n == some .cell) then (n, .cell) else (n, k)
def Gam.blk (Γ : Gam) (scope : Scope) : Gam := ⟨Γ.N, relN Γ scope, false⟩
theorem ctx_blk {X : Cx} {Γ : Gam} {h : Hx} {scope : Scope} (c : Ctx X Γ h) (hk : scope.kind = .function) (s : Shared) (H : Hp) (C : Addr) (cl : List (Str × Addr)) (fp : List Addr) :
    Ctx (X.blk s H scope (compEnvC scope cl C X.env) fp) (Γ.blk scope) h where
  N := c.N
  nd := c.nd
  kind := hk
  names := by
    show (scope.names.map fun (n, k) => if (k == NameKind.free && X.env.scope.kind == .function && X.env.kindOf n == some .cell) then (n, NameKind.cell) else (n, k)) = relN Γ scope
    unfold relN Env.kindOf
    rw [c.kind, c.names]
    simp
  prog := c.prog
  w := c.w
  K := c.K
  mg := c.mg
  base := c.base
  calm := c.calm
  room := c.room
  own := PassesOwn.never
  fn := fun z => nomatch z
def scOf (Γ : Gam) : Scope := { kind := .function, names := Γ.names, isGenerator := false, isCoroutine := false }
theorem blk_of {X : Cx} {Γ : Gam} {h : Hx} {scope : Scope} {own : List (Str × Nat)} (c : Ctx X Γ h) (hb : blkC Γ.N (scOf Γ) scope own = true) : BlkOk X.N X.env.scope scope own := by
  have b := blkOk_by hb
  rw [c.N]
  exact ⟨b.kind, b.uniq, b.ix, fun y hy hf => by rw [c.names]; exact b.free y hy hf, b.own⟩
/-- no test, one test -/
structure Ifs (K : PySem.W.Frag) where
  t : TT
  chk : Gam → List Expr → Bool
  has : Hx → Prop
  sound : ∀ {X : Cx} {Γ : Gam} {h : Hx} {es : List Expr}, Ctx X Γ h → h.K = K → has h → chk Γ es = true → PTs X es t
def Ifs.no : Ifs K where
  t := tYes
  chk := fun _ es => es.isEmpty
  has := fun _ => True
  sound := by
    intro X Γ h es c hk hh hc
    cases es with
    | nil => exact pts_nil
    | cons _ _ => exact absurd hc Bool.false_ne_true
def Ifs.one (p : Te K) : Ifs K where
  t := p.t
  chk := fun Γ es => match es with
    | [x] => p.chk Γ x
    | _ => false
  has := p.has
  sound := by
    intro X Γ h es c hk hh hc
    rcases es with _ | ⟨x, _ | ⟨_, _⟩⟩ <;> try exact absurd hc Bool.false_ne_true
    exact pts_one (p.sound c hk hh hc)
def Ex.lc (own : List (Str × Nat)) (it : Ir K) (g : Tg K) (p : Ifs K) (a : Ex K) : Ex K where
  t := tLcX it.t g.t p.t a.t (own.map (·.2))
  chk := fun Γ e => match e with
    | .ListComp elt [⟨tg, iter, ifs, 0⟩] scope _ => it.chk Γ tg iter && pln iter && blkC Γ.N (scOf Γ) scope own && (g.chk (Γ.blk scope) tg && p.chk (Γ.blk scope) ifs && a.chk (Γ.blk scope) elt)
    | _ => false
  has := fun h => it.has h ∧ g.has h ∧ p.has h ∧ a.has h
  sound := by
    intro X Γ h e c hk hh hc
    split at hc
    · obtain ⟨h1, h2, h3, h4⟩ := and4 hc
      obtain ⟨h4, h5, h6⟩ := and3 h4
      have b := blk_of c h3
      rw [tLcX_eq]
      exact pe_lc c.calm (by rw [c.N]; exact c.nd) (it.sound c hk hh.1 h1) b (fun s H C cl fp => g.sound (ctx_blk c b.kind s H C cl fp) hk hh.2.1 h4) (fun s H C cl fp => p.sound (ctx_blk c b.kind s H C cl fp) hk hh.2.2.1 h5) (fun s H C cl fp => a.sound (ctx_blk c b.kind s H C cl fp) hk hh.2.2.2 h6) (unfold_set h2)
    · exact absurd hc Bool.false_ne_true
/-- y = [..] as a statement -/
def Sm.setLc (i : Nat) (own : List (Str × Nat)) (it : Ir K) (g : Tg K) (p : Ifs K) (a : Ex K) : Sm K where
  t := tAsg (tLcX it.t g.t p.t a.t (own.map (·.2))) (gName i)
  chk := fun Γ s => match s with
    | .Assign [.Name y py] (.ListComp elt [⟨tg, iter, ifs, 0⟩] scope pos) _ => decide (Γ.N[i]? = some y) && decide (Γ.names.lookup y = some .local) && (py.line == pos.line && !(scope.names.any fun (n, k) => n == y && (k == .local || k == .cell))) && (it.chk Γ tg iter && pln iter && blkC Γ.N (scOf Γ) scope own && (g.chk (Γ.blk scope) tg && p.chk (Γ.blk scope) ifs && a.chk (Γ.blk scope) elt))
    | _ => false
  has := fun h => it.has h ∧ g.has h ∧ p.has h ∧ a.has h
  sound := by
    intro X Γ h s c hk hh hc
    split at hc
    · obtain ⟨k1, k2, k3, k4⟩ := and4 hc
      obtain ⟨k31, k32⟩ := and2 k3
      obtain ⟨h1, h2, h3, h4⟩ := and4 k4
      obtain ⟨h4, h5, h6⟩ := and3 h4
      have b := blk_of c h3
      have ny := of_decide_eq_true k2
      rw [tLcX_eq]
      refine ps_setLc c.calm (by rw [c.N]; exact c.nd) (by rw [c.N]; exact of_decide_eq_true k1) (by rw [c.names]; exact ny) (sw_true c.kind (by rw [c.names]; exact ny) k31 ?_) (it.sound c hk hh.1 h1) b (fun s H C cl fp => g.sound (ctx_blk c b.kind s H C cl fp) hk hh.2.1 h4) (fun s H C cl fp => p.sound (ctx_blk c b.kind s H C cl fp) hk hh.2.2.1 h5) (fun s H C cl fp => a.sound (ctx_blk c b.kind s H C cl fp) hk hh.2.2.2 h6) (unfold_set h2)
      revert k32
      cases List.any _ _ <;> intro k32 <;> first | rfl | exact absurd k32 Bool.false_ne_true
    · exact absurd hc Bool.false_ne_true

/-! ### a def keeps its promise -/
theorem fn_has {h : Hx} {x qual : Str} {params : Arguments} {body : List Stmt} {scope : Scope} {f : Addr} {fd : FuncData} {N ps : List Str} {sp : Sp}
    (F : FunD h.K x qual params body scope [] [] f fd) (S : FnScope N ps scope) (bd : Ss h.K) (hc : bd.chk ⟨N, scope.names, true⟩ body = true) (hh : bd.has h)
    (len : ∀ vs H Q E, sp vs H Q E → vs.length = ps.length) (rd : ∀ vs H Q E, sp vs H Q E → bd.t { nx := fun _ H' => Q .non H', rt := Q } (start N vs) H) :
    FnOk h.P h.w h.K h.mg h.base CX0 (h.k + 1) f fd ps sp :=
  F.ok S len fun cdv A outer s H vs Q E hr hs => ⟨bd.t, PSs.nox (bd.sound (X := (cxOf CX0 h.P h.w h.K h.mg h.base N qual scope f cdv A outer s H E).nox) (h := h)
    { N := rfl, nd := S.nd, kind := S.kind, names := rfl, prog := rfl, w := rfl, K := rfl, mg := rfl, base := rfl, calm := rfl, room := hr, own := PassesOwn.never, fn := fun _ _ => rfl } rfl hh hc), rd vs H Q E hs⟩
theorem has_f {h : Hx} {x qual : Str} {params : Arguments} {body : List Stmt} {scope : Scope} {f : Addr} {fd : FuncData} {N ps : List Str} {sp : Sp}
    (F : FunD h.K x qual params body scope [] [] f fd) (S : FnScope N ps scope) (hm : h.mg x = some (.ref f)) (hb : Binds h.K fd ps []) (bd : Ss h.K) (hc : bd.chk ⟨N, scope.names, true⟩ body = true) (hh : bd.has h)
    (len : ∀ vs H Q E, sp vs H Q E → vs.length = ps.length) (rd : ∀ vs H Q E, sp vs H Q E → bd.t { nx := fun _ H' => Q .non H', rt := Q } (start N vs) H) :
    HasF { h with k := h.k + 1 } x sp := ⟨f, fd, ps, fn_has F S bd hc hh len rd, hm, F.kp, hb⟩
end Cb

namespace Cb
open PySem L2
variable {K : PySem.W.Frag}

/-! ### enumerate(text) -/
def Ites (x : Str) : It :=
  ⟨fun i _ => i < x.cps.size, fun i H v H' => ∃ T c, v = .ref T ∧ H T = none ∧ H' = upd H T (.tup [.int (i : Nat), .str ⟨#[c]⟩]) ∧ x.cps[i]? = some c, fun i _ => i = x.cps.size⟩
theorem draws_str {P : Program} {w : World} {A : Around} (hh : A.handled = none) (it : Addr) (x : Str) (t : Tok) (ty : String) (hty : ty = "str_ascii_iterator" ∨ ty = "str_iterator") :
    Draws P w A it [it] x.cps.size (fun i v => ∃ c u, x.cps[i]? = some c ∧ v = .str ⟨#[c]⟩ u) (fun i h => h.IsStrIter it ty x t i) := by
  rcases hty with e | e
  · rw [e]; exact Draws.strAscii hh it x t
  · rw [e]; exact Draws.strWide hh it x t
theorem turn_enumS {P : Program} {w : World} {K : PySem.W.Frag} {elts : List Expr} {kk : Nat} {tpos : Pos} (x : Str) (t : Tok) (ty : String) (hty : ty = "str_ascii_iterator" ∨ ty = "str_iterator") (e it : Addr) :
    Turn P w K (.Tuple elts kk tpos) (Ites x) [e, it] e (fun i h => (∃ old, IsEnum h e it ((i : Nat) : Int) old) ∧ h.IsStrIter it ty x t i ∧ e ≠ it) where
  mem := by simp
  obj := fun i h st b hb => by
    obtain ⟨⟨old, he⟩, ⟨o, ho, hc, hd⟩, _⟩ := st
    have e' : b = e ∨ b = it := by simpa using hb
    rcases e' with z | z
    · rw [z]; exact ⟨_, he, fun v q => nomatch q⟩
    · rw [z]; exact ⟨o, ho, fun v q => by rw [hd] at q; cases q⟩
  keep := fun i h h' st k => let ⟨⟨old, he⟩, ⟨o, ho, r⟩, hne⟩ := st; ⟨⟨old, k e (by simp) _ he⟩, ⟨o, k it (by simp) o ho, r⟩, hne⟩
  item := by
    intro X hP hw hK hc i pins s σ H E I hf st hg
    subst hP hw hK
    obtain ⟨⟨old, he⟩, hit, hne⟩ := st
    have hel : e < s.heap.objs.size := Heap.lt_size he
    have hil : it < s.heap.objs.size := by obtain ⟨_, q, _⟩ := hit; exact Heap.lt_size q
    refine wpAny_pyNext_enum_itemD (draws_str (A := X.A.in1) (I.ok.hd hc) it x t ty hty) he hit hg hne (by simpa using hne) fun v h' tk hv ho hit' hT hsz hk => ?_
    obtain ⟨c, u, hcx, rfl⟩ := hv
    refine ⟨_, rfl, wpAny_letOwnedTupleGo_enum (s := { s with heap := h', toks := tk + 1 }) ho fun h'' he' sb => ?_⟩
    have hT2 : h''.get? s.heap.objs.size = some { cls := .type "tuple", data := .seq #[.int i tk, .str ⟨#[c]⟩ u] } := (sb.2 _ (Nat.ne_of_gt hel)).trans hT
    have new : ObjOk X.prog X.w (upd H s.heap.objs.size (.tup [.int (i : Nat), .str ⟨#[c]⟩])) h'' s.heap.objs.size (.tup [.int (i : Nat), .str ⟨#[c]⟩]) :=
      ⟨by show 2 ≤ sizeLine; decide, [.int i tk, .str ⟨#[c]⟩ u], .cons ⟨_, rfl⟩ (.cons ⟨_, rfl⟩ .nil), ⟨_, hT2, rfl, _, rfl⟩⟩
    have I1 : Inv X pins σ (upd H s.heap.objs.size (.tup [.int (i : Nat), .str ⟨#[c]⟩])) { s with heap := h'', toks := tk + 1 } :=
      I.turnedNew (ch := [e, it]) (fun b ob hb q => (sb.2 b (fun z => hb (by simp [z]))).trans (hk b ob (fun z => hb (by simp [z])) (fun z => hb (by simp [z])) q)) hf (Nat.le_refl _) new
    refine ⟨.ref s.heap.objs.size, _, I1, rfl, ⟨_, c, rfl, I.hok.fresh (Nat.le_refl _), rfl, hcx⟩, ⟨⟨.str ⟨#[c]⟩ u, ?_⟩, ?_, hne⟩, fun b hb => ?_⟩
    · have e1 : ((i + 1 : Nat) : Int) = (i : Int) + 1 := by omega
      rw [e1]; exact he'
    · obtain ⟨o, q, r⟩ := hit'
      exact ⟨o, (sb.2 it (Ne.symm hne)).trans q, r⟩
    · have hb' : b < s.heap.objs.size := by
        have e' : b = e ∨ b = it := by simpa using hb
        rcases e' with z | z
        · rw [z]; exact hel
        · rw [z]; exact hil
      rw [upd_ne (Nat.ne_of_lt hb')]
      exact (hf b hb).1
  done := by
    intro X hP hw hK hc i pins s σ H E I hf st hg
    subst hP hw hK
    obtain ⟨⟨old, he⟩, hit, hne⟩ := st
    obtain ⟨f0, f1, f2, f3, f4, f5⟩ := hf it (by simp)
    have hg' : i = x.cps.size := hg
    subst hg'
    exact wpAny_pyNext_enum_endD (draws_str (A := X.A.in1) (I.ok.hd hc) it x t ty hty) he hit fun h' eb => ⟨rfl, I.turned (t' := s.toks) (fun b o hb q => eb b o hb q) f0 f1 f3 f4 f5⟩
  self := fun A i s Q E st h => let ⟨⟨_, he⟩, _⟩ := st; wpAny_pyIter_enum he h
def iEnumS (ta : TA) : TI := fun σ H R => ta σ H fun vs H1 => match vs with
  | [.str x] => R (Ites x) H1
  | _ => False
theorem sit_or (x : Str) : strIterType x = "str_ascii_iterator" ∨ strIterType x = "str_iterator" := by
  unfold strIterType; split <;> simp
theorem pi_enumS {X : Cx} {e : Expr} {ta : TA} {p pos tpos : Pos} {elts : List Expr} {kk : Nat} (hg : Gl X "enumerate") (hm : X.mg "enumerate" = none) (ha : PA X [e] ta) (hs : starEach [e] X.env = [(false, eval e X.env)]) :
    PI X (.Tuple elts kk tpos) (.Call (.Name "enumerate" p) [e] [] pos) (iEnumS ta) := by
  refine ⟨fun pins s σ H R I h => ?_⟩
  refine PyProof.Rows.Call_ (ld_blt I hg hm PyProof.Rows.boot_enumerate (PyProof.Rows.callWith_type1 (thn (ha.run pos pins s σ H _ I h) fun us s1 ⟨vs, H1, I1, r1, q1⟩ => ?_) hs rfl))
  dsimp only at q1
  split at q1
  · rename_i x
    cases r1 with
    | cons r rr =>
      cases rr
      obtain ⟨t, rfl⟩ := r
      refine call_enumerate_str fun h' he hit hsz hk => wpAny_pyIter_enum he ?_
      have I2 : Inv X pins σ H1 { s1 with heap := h' } := I1.kept (t' := s1.toks) hk
      refine ⟨s1.heap.objs.size + 1, [s1.heap.objs.size + 1, s1.heap.objs.size], _, _, H1, rfl, I2, turn_enumS x t (strIterType x) (sit_or x) (s1.heap.objs.size + 1) s1.heap.objs.size, ⟨⟨.none, he⟩, hit, Nat.succ_ne_self _⟩, fun b hb => ?_, q1⟩
      have e' : b = s1.heap.objs.size + 1 ∨ b = s1.heap.objs.size := by simpa using hb
      have hle : s1.heap.objs.size ≤ b := by
        rcases e' with z | z
        · rw [z]; exact Nat.le_add_right _ _
        · rw [z]; exact Nat.le_refl _
      exact I1.fpOk hle (I1.hok.fresh hle)
  · exact q1.elim
def Ir.enumS (a : As K) : Ir K where
  t := iEnumS a.t
  chk := fun Γ tg e => match tg, e with
    | .Tuple _ _ _, .Call (.Name x _) [b] [] _ => decide (x = "enumerate") && isGl (Γ.names.lookup x) && a.chk Γ [b]
    | _, _ => false
  has := fun h => HasB h "enumerate" ∧ a.has h
  sound := by
    intro X Γ h tg e c hk hh hc
    cases tg <;> try exact absurd hc Bool.false_ne_true
    cases e <;> try exact absurd hc Bool.false_ne_true
    rename_i fn es kws pos
    cases fn <;> try exact absurd hc Bool.false_ne_true
    rcases es with _ | ⟨b, _ | ⟨_, _⟩⟩ <;> try exact absurd hc Bool.false_ne_true
    cases kws <;> try exact absurd hc Bool.false_ne_true
    obtain ⟨h1, h2, h3⟩ := and3 hc
    have e := of_decide_eq_true h1
    subst e
    obtain ⟨p, al⟩ := a.sound c hk hh.2 h3
    rw [List.all_cons] at al
    exact pi_enumS (gl_of c h2) (by rw [c.mg]; exact hh.1) p (star_cons (and2 al).1)

/-! ### walks -/
theorem walk_enumS {x : Str} : Walk (Ites x) x.cps.size (fun _ => True) (fun i H v H' => ∃ T c, v = .ref T ∧ H T = none ∧ H' = upd H T (.tup [.int (i : Nat), .str ⟨#[c]⟩]) ∧ x.cps[i]? = some c) where
  goes := fun i H hi _ => hi
  stops := fun H _ => rfl
  yields := fun i H v H' _ _ y => y
end Cb

namespace Cb
open PySem L2
variable {K : PySem.W.Frag}

/-! ### zip(text, tuple) -/
def ItzST (x : Str) (b : Addr) : It :=
  ⟨fun i H => i < x.cps.size ∧ ∃ ys, H b = some (.tup ys) ∧ i < ys.length,
    fun i H v H' => ∃ T c y ys, v = .ref T ∧ H T = none ∧ H' = upd H T (.tup [.str ⟨#[c]⟩, y]) ∧ x.cps[i]? = some c ∧ H b = some (.tup ys) ∧ ys[i]? = some y,
    fun i H => ∃ ys, H b = some (.tup ys) ∧ i ≤ x.cps.size ∧ i ≤ ys.length ∧ (i = x.cps.size ∨ i = ys.length)⟩
theorem sepST {X : Cx} {pins : List (Addr × Obj)} {H : Hp} {b z TI TO i1 i2 : Addr} {ys : List V} (hb : H b = some (.tup ys)) (hf : ∀ c ∈ [z, TI, TO, i1, i2], FpOk X pins H c)
    (d : z ≠ TI ∧ z ≠ TO ∧ z ≠ i1 ∧ z ≠ i2 ∧ TI ≠ TO ∧ TI ≠ i1 ∧ TI ≠ i2 ∧ TO ≠ i1 ∧ TO ≠ i2 ∧ i1 ≠ i2) : ZipSep2 z TI TO i1 i2 [i1] [i2, b] := by
  obtain ⟨d1, d2, d3, d4, d5, d6, d7, d8, d9, d10⟩ := d
  have nb : ∀ c ∈ [z, TI, TO, i1, i2], c ≠ b := fun c hc e => by
    have := (hf c hc).1
    rw [e, hb] at this; cases this
  exact { TIz := Ne.symm d1, TOz := Ne.symm d2, TITO := d5, TIi1 := d6, mem1 := by simp, zf1 := by simpa using d3, Tf1 := by simpa using d8, TIi2 := d7, mem2 := by simp, zf2 := by simpa using ⟨d4, nb z (by simp)⟩, Tf2 := by simpa using ⟨d9, nb TO (by simp)⟩, sep1_2 := by simpa using ⟨d10, nb i1 (by simp)⟩, sep2_1 := by simpa using Ne.symm d10 }
theorem ne10 (n : Nat) : n + 4 ≠ n + 2 ∧ n + 4 ≠ n + 3 ∧ n + 4 ≠ n ∧ n + 4 ≠ n + 1 ∧ n + 2 ≠ n + 3 ∧ n + 2 ≠ n ∧ n + 2 ≠ n + 1 ∧ n + 3 ≠ n ∧ n + 3 ≠ n + 1 ∧ n ≠ n + 1 := by omega
theorem turn_zipST {P : Program} {w : World} {K : PySem.W.Frag} {elts : List Expr} {kk : Nat} {tpos : Pos} (x : Str) (t : Tok) {b z TI TO i1 i2 : Addr}
    (d : z ≠ TI ∧ z ≠ TO ∧ z ≠ i1 ∧ z ≠ i2 ∧ TI ≠ TO ∧ TI ≠ i1 ∧ TI ≠ i2 ∧ TO ≠ i1 ∧ TO ≠ i2 ∧ i1 ≠ i2) :
    Turn P w K (.Tuple elts kk tpos) (ItzST x b) [z, TI, TO, i1, i2] z (fun i h => IsZip h z TI TO .none ∧ IsPair h TI (.ref i1) (.ref i2) ∧ (∃ x y, IsPair h TO x y) ∧ h.IsStrIter i1 (strIterType x) x t i ∧ h.IsTupleIter i2 b i) where
  mem := by simp
  obj := fun i h st c hc => by
    obtain ⟨hz, hTI, ⟨x, y, hTO⟩, ⟨o1, e1, _, d1⟩, ⟨o2, e2, _, d2⟩⟩ := st
    have e' : c = z ∨ c = TI ∨ c = TO ∨ c = i1 ∨ c = i2 := by simpa using hc
    rcases e' with q | q | q | q | q
    · rw [q]; exact ⟨_, hz, fun v q => nomatch q⟩
    · rw [q]; exact ⟨_, hTI, fun v q => nomatch q⟩
    · rw [q]; exact ⟨_, hTO, fun v q => nomatch q⟩
    · rw [q]; exact ⟨o1, e1, fun v q => by rw [d1] at q; cases q⟩
    · rw [q]; exact ⟨o2, e2, fun v q => by rw [d2] at q; cases q⟩
  keep := fun i h h' st k => by
    obtain ⟨hz, hTI, ⟨x, y, hTO⟩, ⟨o, ho, r⟩, h2⟩ := st
    exact ⟨k z (by simp) _ hz, k TI (by simp) _ hTI, ⟨x, y, k TO (by simp) _ hTO⟩, ⟨o, k i1 (by simp) o ho, r⟩, h2.at fun o q => k i2 (by simp) o q⟩
  item := by
    intro X hP hw hK hc i pins s σ H E I hf st hg
    subst hP hw hK
    obtain ⟨hz, hTI, ⟨x0, y0, hTO⟩, h1, h2⟩ := st
    obtain ⟨hx, ys, hqy, hy⟩ := hg
    have S := sepST hqy hf d
    obtain ⟨its2, rv2, p2, _⟩ := I.tuple (SqT.of hqy)
    have hzl : z < s.heap.objs.size := Heap.lt_size hz
    have nb : b ≠ i2 := fun e => S.sep2_1 (by have := (hf i2 (by simp)).1; rw [← e, hqy] at this; cases this)
    have l2 := rv2.length
    refine wpAny_pyNext_zipD2_item S (draws_str (A := X.A.in1) (I.ok.hd hc) i1 x t (strIterType x) (sit_or x)) (Draws.tuple (A := X.A.in1) (I.ok.hd hc) i2 b nb its2.toArray) hz hTI hTO h1 ⟨h2, p2⟩ hx (by simpa [← l2] using hy) fun u1 u2 h' tk y1 y2 z' TO' h1' h2' hT hsz hk => ?_
    obtain ⟨c, tc, hcx, rfl⟩ := y1
    have hu2 : its2[i]? = some u2 := by simpa using y2
    have hyi : ys[i]? = some (ys[i]) := List.getElem?_eq_getElem hy
    obtain ⟨u2', hu2', ru2⟩ := rv2.get hyi
    rw [hu2] at hu2'
    cases hu2'
    refine ⟨_, rfl, wpAny_letOwnedTupleGo_zip (s := { s with heap := h', toks := tk }) z' fun h'' z'' sb => ?_⟩
    have hT2 : h''.get? s.heap.objs.size = some { cls := .type "tuple", data := .seq #[.str ⟨#[c]⟩ tc, u2] } := (sb.2 _ (Nat.ne_of_gt hzl)).trans hT
    have new : ObjOk X.prog X.w (upd H s.heap.objs.size (.tup [.str ⟨#[c]⟩, ys[i]])) h'' s.heap.objs.size (.tup [.str ⟨#[c]⟩, ys[i]]) :=
      ⟨by show 2 ≤ sizeLine; decide, [.str ⟨#[c]⟩ tc, u2], .cons ⟨_, rfl⟩ (.cons ru2 .nil), ⟨_, hT2, rfl, _, rfl⟩⟩
    have I1 : Inv X pins σ (upd H s.heap.objs.size (.tup [.str ⟨#[c]⟩, ys[i]])) { s with heap := h'', toks := tk } :=
      I.turnedNew (ch := [z, TI, TO, i1, i2]) (fun c o hb q => (sb.2 c (fun q' => hb (by simp [q']))).trans (hk c o (fun q' => hb (by simp [q'])) (fun q' => hb (by simp [q'])) (fun q' => hb (by simp [q'])) (fun q' => hb (by simp [q'])) q)) hf (Nat.le_refl _) new
    refine ⟨.ref s.heap.objs.size, _, I1, rfl, ⟨_, c, ys[i], ys, rfl, I.hok.fresh (Nat.le_refl _), rfl, hcx, hqy, hyi⟩, ⟨z'', ?_, ⟨Value.str ⟨#[c]⟩ tc, u2, ?_⟩, ?_, ?_⟩, fun c hcm => ?_⟩
    · exact (sb.2 _ S.TIz).trans (hk _ _ S.TIz S.TITO S.TIi1 S.TIi2 hTI)
    · exact (sb.2 _ S.TOz).trans TO'
    · obtain ⟨o, q, r⟩ := h1'
      exact ⟨o, (sb.2 _ (Ne.symm d.2.2.1)).trans q, r⟩
    · exact h2'.1.at fun o q => (sb.2 _ (Ne.symm d.2.2.2.1)).trans q
    · have hlt : c < s.heap.objs.size := by
        have e' : c = z ∨ c = TI ∨ c = TO ∨ c = i1 ∨ c = i2 := by simpa using hcm
        rcases e' with q | q | q | q | q
        · rw [q]; exact hzl
        · rw [q]; exact Heap.lt_size hTI
        · rw [q]; exact Heap.lt_size hTO
        · rw [q]; obtain ⟨_, e1, _⟩ := h1; exact Heap.lt_size e1
        · rw [q]; obtain ⟨_, e2, _⟩ := h2; exact Heap.lt_size e2
      rw [upd_ne (Nat.ne_of_lt hlt)]
      exact (hf c hcm).1
  done := by
    intro X hP hw hK hc i pins s σ H E I hf st hg
    subst hP hw hK
    obtain ⟨hz, hTI, ⟨x0, y0, hTO⟩, h1, h2⟩ := st
    obtain ⟨ys, hqy, he1, he2, hend⟩ := hg
    have S := sepST hqy hf d
    obtain ⟨its2, rv2, p2, _⟩ := I.tuple (SqT.of hqy)
    have nb : b ≠ i2 := fun e => S.sep2_1 (by have := (hf i2 (by simp)).1; rw [← e, hqy] at this; cases this)
    have l2 := rv2.length
    refine wpAny_pyNext_zipD2_end S (draws_str (A := X.A.in1) (I.ok.hd hc) i1 x t (strIterType x) (sit_or x)) (Draws.tuple (A := X.A.in1) (I.ok.hd hc) i2 b nb its2.toArray) hz hTI hTO h1 ⟨h2, p2⟩ he1 (by simpa [← l2] using he2) ?_ fun h' tk hk => ⟨rfl, I.turnedL (ch := [z, TI, TO, i1, i2]) (fun c o hb q =>
      hk c o (fun q' => hb (by simp [q'])) (fun q' => hb (by simp [q'])) (fun q' => hb (by simp [q'])) (fun q' => hb (by simp [q'])) q) hf⟩
    rcases hend with e | e
    · exact .inl e
    · exact .inr (by simpa [← l2] using e)
  self := fun A i s Q E st h => wpAny_pyIter_zip st.1 h
def iZipST (ta : TA) : TI := fun σ H R => ta σ H fun vs H1 => match vs with
  | [.str x, .ref b] => ∃ ys, H1 b = some (.tup ys) ∧ R (ItzST x b) H1
  | _ => False
theorem pi_zipST {X : Cx} {e e2 : Expr} {ta : TA} {p pos tpos : Pos} {elts : List Expr} {kk : Nat} (hg : Gl X "zip") (hm : X.mg "zip" = none) (ha : PA X [e, e2] ta)
    (hs : starEach [e, e2] X.env = (false, eval e X.env) :: starEach [e2] X.env) (hpl : (backTo pos (starEach [e2] X.env)).any (·.1) = false) :
    PI X (.Tuple elts kk tpos) (.Call (.Name "zip" p) [e, e2] [] pos) (iZipST ta) := by
  refine ⟨fun pins s σ H R I h => ?_⟩
  refine PyProof.Rows.Call_ (ld_blt I hg hm PyProof.Rows.boot_zip (PyProof.Rows.callWith_type1 (thn (ha.run pos pins s σ H _ I h) fun us s1 ⟨vs, H1, I1, r1, q1⟩ => ?_) hs hpl))
  dsimp only at q1
  split at q1
  · rename_i x b
    obtain ⟨ys, hqy, q⟩ := q1
    cases r1 with
    | cons r rr =>
      cases rr with
      | cons r' rr =>
        cases rr
        obtain ⟨t, rfl⟩ := r
        cases r'
        have fresh5 : ∀ c, c ∈ [s1.heap.objs.size + 4, s1.heap.objs.size + 2, s1.heap.objs.size + 3, s1.heap.objs.size, s1.heap.objs.size + 1] → FpOk X pins H1 c := fun c hcm => by
          have e' : c = s1.heap.objs.size + 4 ∨ c = s1.heap.objs.size + 2 ∨ c = s1.heap.objs.size + 3 ∨ c = s1.heap.objs.size ∨ c = s1.heap.objs.size + 1 := by simpa using hcm
          have hle : s1.heap.objs.size ≤ c := by
            rcases e' with z | z | z | z | z <;> rw [z] <;> first | exact Nat.le_refl _ | exact Nat.le_add_right _ _
          exact I1.fpOk hle (I1.hok.fresh hle)
        obtain ⟨its2, rv2, p2, _⟩ := I1.tuple (SqT.of hqy)
        refine zip_begins2 (begins_text x t) (begins_tuple b its2.toArray) trivial (show s1.heap.IsTuple b its2.toArray from p2) fun h' hz hTI hTO h1 h2 hsz hk => wpAny_pyIter_zip hz ?_
        have I2 : Inv X pins σ H1 { s1 with heap := h' } := I1.kept (t' := s1.toks) hk
        exact ⟨s1.heap.objs.size + 4, [s1.heap.objs.size + 4, s1.heap.objs.size + 2, s1.heap.objs.size + 3, s1.heap.objs.size, s1.heap.objs.size + 1], _, _, H1, rfl, I2,
          turn_zipST x t (b := b) (ne10 s1.heap.objs.size), ⟨hz, hTI, ⟨_, _, hTO⟩, ⟨_, h1, rfl, rfl⟩, ⟨_, h2, rfl, rfl⟩⟩, fresh5, q⟩
  · exact q1.elim
def Ir.zipST (a : As K) : Ir K where
  t := iZipST a.t
  chk := fun Γ tg e => match tg, e with
    | .Tuple _ _ _, .Call (.Name x _) [b, d] [] _ => decide (x = "zip") && isGl (Γ.names.lookup x) && a.chk Γ [b, d]
    | _, _ => false
  has := fun h => HasB h "zip" ∧ a.has h
  sound := by
    intro X Γ h tg e c hk hh hc
    cases tg <;> try exact absurd hc Bool.false_ne_true
    cases e <;> try exact absurd hc Bool.false_ne_true
    rename_i fn es kws pos
    cases fn <;> try exact absurd hc Bool.false_ne_true
    rcases es with _ | ⟨b, _ | ⟨d, _ | ⟨_, _⟩⟩⟩ <;> try exact absurd hc Bool.false_ne_true
    cases kws <;> try exact absurd hc Bool.false_ne_true
    obtain ⟨h1, h2, h3⟩ := and3 hc
    have e := of_decide_eq_true h1
    subst e
    obtain ⟨p, al⟩ := a.sound c hk hh.2 h3
    rw [List.all_cons] at al
    obtain ⟨a1, a2⟩ := and2 al
    exact pi_zipST (gl_of c h2) (by rw [c.mg]; exact hh.1) p (star_cons a1) (star_any a2)
theorem walk_zipST {x : Str} {b : Addr} {ys : List V} : Walk (ItzST x b) (min x.cps.size ys.length) (fun H => H b = some (.tup ys)) (fun i H v H' => ∃ T c y, v = .ref T ∧ H T = none ∧ H' = upd H T (.tup [.str ⟨#[c]⟩, y]) ∧ x.cps[i]? = some c ∧ ys[i]? = some y) where
  goes := fun i H hi hb => ⟨by omega, ys, hb, by omega⟩
  stops := fun H hb => ⟨ys, hb, by omega, by omega, by omega⟩
  yields := fun i H v H' _ hb ⟨T, c, y, ys', h1, h2, h3, h4, h5, h6⟩ => ⟨T, c, y, h1, h2, h3, h4, by rw [hb] at h5; cases h5; exact h6⟩
end Cb

namespace Cb
open PySem L2
variable {K : PySem.W.Frag}

theorem PE.mono {X : Cx} {e : Expr} {t : TE} (p : PE X e t) : PE X e (fun σ H Q => ∃ Q' : VK, t σ H Q' ∧ ∀ v H', Q' v H' → Q v H') :=
  ⟨fun pins s σ H Q I ⟨Q', h, m⟩ => thn (p.run pins s σ H Q' I h) fun u s' ⟨v, H', I', r, q⟩ => ⟨v, H', I', r, m v H' q⟩⟩
/-- {} -/
def Ex.dnew : Ex K where
  t := tDNewK
  chk := fun _ e => match e with
    | .Dict [] [] _ => true
    | _ => false
  has := fun _ => True
  sound := by
    intro X Γ h e c hk hh hc
    split at hc
    · exact pe_dnewK
    · exact absurd hc Bool.false_ne_true
/-! ### a dict of the module, by its text keys: what it holds, what it does not -/
def HasD (h : Hx) (x : Str) (kvs : List (Str × Option V)) : Prop := ∃ a es n, h.mg x = some (.ref a) ∧ h.K.lookup a = some ⟨.type "dict", none, .dict es n, #[]⟩ ∧ PySem.W.KeysLit h.w.params es.toList ∧ (a == sysModules) = false ∧
  ∀ z r, kvs.lookup z = some r → ∃ o, PySem.W.nsIn h.K a z = some o ∧ RelO r o
/-- D[k] -/
def Ex.kix (x : Str) (kvs : List (Str × Option V)) (k : Ex K) : Ex K where
  t := fun σ H Q => k.t σ H (onS fun z H1 => match kvs.lookup z with
    | some (some v) => Q v H1
    | _ => False)
  chk := fun Γ e => match e with
    | .Subscript (.Name y _) i _ => decide (y = x) && isGl (Γ.names.lookup y) && okN y && (k.chk Γ i && pln i)
    | _ => false
  has := fun h => HasD h x kvs ∧ k.has h
  sound := by
    intro X Γ h e c hk hh hc
    cases e <;> try exact absurd hc Bool.false_ne_true
    rename_i o i pos
    cases o <;> try exact absurd hc Bool.false_ne_true
    rename_i y p
    obtain ⟨h1, h2, h3, h40⟩ := and4 hc
    obtain ⟨h4, h5⟩ := and2 h40
    have e := of_decide_eq_true h1
    subst e
    obtain ⟨⟨a, es, n, hm, hl, hkl, hsy, hv⟩, hhk⟩ := hh
    refine PE.imp (pe_ix ix_kdict (pe_glob (v := .ref a) (gl_of c h2) (by rw [c.mg]; exact hm) rfl (okN_d h3)) (PE.mono (k.sound c hk hhk h4)) (plainIx h5)) fun σ H Q q => ?_
    refine ⟨_, q, fun v H' q => ?_⟩
    obtain ⟨z, rfl, q2⟩ := onS_i q
    split at q2
    · rename_i v e
      obtain ⟨o, ho, ro⟩ := hv z _ e
      obtain ⟨u, rfl, ru⟩ := ro.some_of
      exact ⟨a, z, v, rfl, rfl, ⟨es, n, u, by rw [c.K]; exact hl, by rw [c.w]; exact hkl, by rw [c.K]; exact ho, ru⟩, q2⟩
    · exact q2.elim
theorem op_notInK {X : Cx} {a : Addr} {es : Array DictEntry} {n : Nat} (hl : X.K.lookup a = some ⟨.type "dict", none, .dict es n, #[]⟩) (hk : PySem.W.KeysLit X.w.params es.toList) (hs : (a == sysModules) = false) :
    OpR X (compareOp .NotIn) (fun x y H Q => ∃ z o, x = .str z ∧ y = .ref a ∧ PySem.W.nsIn X.K a z = some o ∧ Q (.bl (!o.isSome)) H) := by
  intro pins s σ H x y v u Q I rx ry h
  obtain ⟨z, o, rfl, rfl, e, q⟩ := h
  obtain ⟨t, rfl⟩ := rx
  obtain rfl : u = Value.ref a := ry
  have hm := PySem.W.mapOf_K (prog := X.prog) (w := X.w) I.kIn hl hk
  exact wpAny_notIn_of (strKind_is X.prog X.w z t) hs hm (by rw [PySem.W.find_K hl e]; exact ⟨.bl _, H, I.tok _, rfl, q⟩)
/-- k not in D, as a test -/
def Te.knotIn (k : Ex K) (x : Str) (kvs : List (Str × Option V)) : Te K where
  t := fun σ H Q => k.t σ H (onS fun z H1 => match kvs.lookup z with
    | some (some _) => Q false H1
    | some Option.none => Q true H1
    | Option.none => False)
  chk := fun Γ e => match e with
    | .Compare i [.NotIn] [.Name y _] _ => decide (y = x) && isGl (Γ.names.lookup y) && okN y && k.chk Γ i
    | _ => false
  has := fun h => HasD h x kvs ∧ k.has h
  sound := by
    intro X Γ h e c hk hh hc
    split at hc
    · rename_i i y p pos
      obtain ⟨h1, h2, h3, h4⟩ := and4 hc
      have e := of_decide_eq_true h1
      subst e
      obtain ⟨⟨a, es, n, hm, hl, hkl, hsy, hv⟩, hhk⟩ := hh
      refine PT.imp (pt_cmpR (op_notInK (a := a) (es := es) (n := n) (by rw [c.K]; exact hl) (by rw [c.w]; exact hkl) hsy) (PE.mono (k.sound c hk hhk h4)) (pe_glob (v := .ref a) (gl_of c h2) (by rw [c.mg]; exact hm) rfl (okN_d h3)) rfl) fun σ H Q q => ?_
      refine ⟨_, q, fun v H' q => ?_⟩
      obtain ⟨z, rfl, q2⟩ := onS_i q
      split at q2
      · rename_i v e
        obtain ⟨o, ho, ro⟩ := hv z _ e
        obtain ⟨u, rfl, ru⟩ := ro.some_of
        exact ⟨z, some u, rfl, rfl, by rw [c.K]; exact ho, _, rfl, q2⟩
      · rename_i e
        obtain ⟨o, ho, ro⟩ := hv z _ e
        obtain rfl := ro.none_of
        exact ⟨z, Option.none, rfl, rfl, by rw [c.K]; exact ho, _, rfl, q2⟩
      · exact q2.elim
    · exact absurd hc Bool.false_ne_true

/-! ### pure readings -/
open Evl (Ev EvT EvL EvU EvA)
abbrev Xt := Evl.Ex
theorem Xt.refl (H : Hp) : Xt H H := Evl.Ex.refl H
theorem xt_new {H : Hp} {p : Addr} {o : HO} (h : H p = none) : Xt H (upd H p o) := Evl.Ex.new h
theorem xt_mut {H H' : Hp} {p : Addr} {o : HO} (e : Xt H H') (h : H p = none) : Xt H (upd H' p o) := Evl.Ex.mut e h
/-- what a comprehension has made behind i turns: Ys i -/
def Cl (H : Hp) (Ys : Nat → List V) (D : Addr) (i : Nat) (H' : Hp) : Prop := H D = none ∧ Xt H H' ∧ H' D = some (.lst (Ys i))
theorem cl_turn {H H' : Hp} {Ys : Nat → List V} {D : Addr} {i : Nat} {σ2 : L2.St} {t : TT} {te : TE} {b : Bool} {v : V} (p : Cl H Ys D i H') (hl : (Ys i).length < 100000) (ht : EvT t σ2 H b) (he : b = true → Ev te σ2 H v)
    (hy : Ys (i + 1) = if b then Ys i ++ [v] else Ys i) :
    t σ2 H' fun b H3 => if b = true then te σ2 H3 fun y H4 => ∃ acc, H4 D = some (.lst acc) ∧ acc.length < sizeLine ∧ Cl H Ys D (i + 1) (upd H4 D (.lst (acc ++ [y]))) else Cl H Ys D (i + 1) H3 := by
  obtain ⟨p1, p2, p3⟩ := p
  refine ht H' p2 _ fun H3 e3 => ?_
  cases b with
  | true =>
    show te σ2 H3 fun y H4 => ∃ acc, H4 D = some (.lst acc) ∧ acc.length < sizeLine ∧ Cl H Ys D (i + 1) (upd H4 D (.lst (acc ++ [y])))
    refine he rfl H3 (p2.trans e3) _ fun H4 e4 => ⟨Ys i, e4 D _ (e3 D _ p3), Evl.sz_lt hl, p1, xt_mut ((p2.trans e3).trans e4) p1, ?_⟩
    rw [hy]
    exact upd_same
  | false =>
    show Cl H Ys D (i + 1) H3
    refine ⟨p1, p2.trans e3, ?_⟩
    rw [hy]
    exact e3 D _ p3
/-- a comprehension whose turns change nothing that stood: what it makes -/
theorem lc_walk {J : It} {n : Nat} {G : Hp → Prop} {Y : Nat → Hp → V → Hp → Prop} (w : Walk J n G Y) {g : TG} {tt : TT} {te : TE} {vs : List Nat} {σ : L2.St} {H1 : Hp} {Q : VK} (Ys : Nat → List V) (h0 : Ys 0 = []) (hl : ∀ i, i < n → (Ys i).length < 100000) (hG : ∀ H', Xt H1 H' → G H')
    (hs : ∀ i x H H' D, i < n → Cl H1 Ys D i H → Y i H x H' → g x (wipe σ vs) H' fun σ2 H2 => wipe σ2 vs = wipe σ vs ∧ ∃ b v, Xt H1 H2 ∧ H2 D = some (.lst (Ys i)) ∧ EvT tt σ2 H1 b ∧ (b = true → Ev te σ2 H1 v) ∧ Ys (i + 1) = if b then Ys i ++ [v] else Ys i)
    (mg : ∀ x σ H (R R' : L2.St → Hp → Prop), (∀ σ2 H2, R σ2 H2 → R' σ2 H2) → g x σ H R → g x σ H R')
    (hd : ∀ p H2, H1 p = none → Xt H1 H2 → H2 p = some (.lst (Ys n)) → Q (.ref p) H2) :
    LcT J g tt te vs σ H1 Q := by
  unfold LcT
  intro D hD
  refine lc_it w (Cl H1 Ys D) ⟨hD, xt_new hD, by rw [h0]; exact upd_same⟩ (fun i H _ p => hG H p.2.1) (fun i x H H' hi p y => ?_) (fun H p => hd D H p.1 p.2.1 p.2.2)
  refine mg _ _ _ _ _ ?_ (hs i x H H' D hi p y)
  rintro σ2 H2 ⟨hw, b, v, e2, hD2, ht, he, hy⟩
  exact ⟨hw, cl_turn ⟨p.1, e2, hD2⟩ (hl i hi) ht he hy⟩
theorem mono_name (i : Nat) : ∀ x σ H (R R' : L2.St → Hp → Prop), (∀ σ2 H2, R σ2 H2 → R' σ2 H2) → gName i x σ H R → gName i x σ H R' := fun x σ H R R' h q => h _ _ q
/-- a loop by an invariant over the turn, the slots and the heap -/
theorem fo_walk {J : It} {n : Nat} {G : Hp → Prop} {Y : Nat → Hp → V → Hp → Prop} (w : Walk J n G Y) {g : TG} {tb : TS} {D : Ends} {σ : L2.St} {H : Hp} (Pv : Nat → L2.St → Hp → Prop) (h0 : Pv 0 σ H) (hG : ∀ i σ H, i ≤ n → Pv i σ H → G H)
    (hs : ∀ i x σ H H', i < n → Pv i σ H → Y i H x H' → g x σ H' fun σ2 H2 => tb { D with nx := Pv (i + 1), ct := Pv (i + 1), bk := D.nx } σ2 H2) (hd : ∀ σ H, Pv n σ H → D.nx σ H) : FoT J g tb D σ H := by
  unfold FoT
  exact for_it w Pv h0 hG hs hd
end Cb

/-! Texts as lists of codes: rows, begins, ends. Plain Lean. -/
namespace Tx

def beginOf : List Nat → Nat → Nat
  | _, 0 => 0
  | [], _ + 1 => 0
  | c :: t, p + 1 => if beginOf t p = 0 then (if c = 10 then 1 else 0) else beginOf t p + 1
def endOf : List Nat → Nat → Nat
  | [], p => p
  | c :: t, 0 => if c = 10 then 0 else endOf t 0 + 1
  | _ :: t, p + 1 => endOf t p + 1
def rowOf : List Nat → Nat → Nat
  | _, 0 => 0
  | [], _ + 1 => 0
  | c :: t, p + 1 => (if c = 10 then 1 else 0) + rowOf t p
def begins : List Nat → List Nat
  | [] => [0]
  | c :: t => if c = 10 then 0 :: (begins t).map (· + 1) else 0 :: (begins t).tail.map (· + 1)
def rows : List Nat → List (List Nat)
  | [] => [[]]
  | c :: t => if c = 10 then [] :: rows t else match rows t with
    | h :: r => (c :: h) :: r
    | [] => [[c]]
def offs (rs : List (List Nat)) (r : Nat) : Nat := ((rs.take r).map fun l => l.length + 1).sum

theorem beginOf_zero (t : List Nat) : beginOf t 0 = 0 := by cases t <;> rfl
theorem beginOf_cons (c : Nat) (t : List Nat) (p : Nat) : beginOf (c :: t) (p + 1) = if beginOf t p = 0 then (if c = 10 then 1 else 0) else beginOf t p + 1 := by
  simp [beginOf]
theorem rows_ne (t : List Nat) : rows t ≠ [] := by
  cases t with
  | nil => simp [rows]
  | cons c t =>
    unfold rows
    split
    · simp
    · split <;> simp
theorem rows_nl (t : List Nat) : rows (10 :: t) = [] :: rows t := by simp [rows]
theorem rows_other {c : Nat} (h : c ≠ 10) (t : List Nat) : ∃ a r, rows t = a :: r ∧ rows (c :: t) = (c :: a) :: r := by
  cases e : rows t with
  | nil => exact absurd e (rows_ne t)
  | cons a r => exact ⟨a, r, rfl, by simp [rows, h, e]⟩
theorem begins_ne (t : List Nat) : ∃ r, begins t = 0 :: r := by
  cases t with
  | nil => exact ⟨[], rfl⟩
  | cons c t => unfold begins; split <;> exact ⟨_, rfl⟩
theorem begins_length : ∀ t : List Nat, (begins t).length = (rows t).length
  | [] => rfl
  | c :: t => by
    have ih := begins_length t
    by_cases h : c = 10
    · subst h; simp [begins, rows, ih]
    · obtain ⟨a, r, e1, e2⟩ := rows_other h t
      rw [e2]
      obtain ⟨q, e3⟩ := begins_ne t
      rw [e1, e3] at ih
      simp [begins, h, e3]
      simpa using ih
theorem begins_at : ∀ (t : List Nat) (r : Nat), r < (rows t).length → (begins t)[r]? = some (offs (rows t) r)
  | [], r, h => by
    have : r = 0 := by simp [rows] at h; exact h
    subst this; rfl
  | c :: t, r, h => by
    by_cases hc : c = 10
    · subst hc
      rw [rows_nl] at h ⊢
      cases r with
      | zero => simp [begins, offs]
      | succ r =>
        have ih := begins_at t r (by simpa using h)
        simp [begins, ih, offs]
        omega
    · obtain ⟨a, q, e1, e2⟩ := rows_other hc t
      rw [e2] at h ⊢
      obtain ⟨z, e3⟩ := begins_ne t
      cases r with
      | zero => simp [begins, hc, offs]
      | succ r =>
        have ih := begins_at t (r + 1) (by rw [e1]; simpa using h)
        rw [e3, e1] at ih
        simp at ih
        simp [begins, hc, e3, ih, offs]
        omega
/-- the row of a place -/
theorem row_at : ∀ (t : List Nat) (p : Nat), p ≤ t.length → ∃ l, (rows t)[rowOf t p]? = some l ∧ offs (rows t) (rowOf t p) ≤ p ∧ p ≤ offs (rows t) (rowOf t p) + l.length ∧ beginOf t p = offs (rows t) (rowOf t p) ∧ endOf t p = offs (rows t) (rowOf t p) + l.length
  | [], p, h => by
    have : p = 0 := by simpa using h
    subst this; exact ⟨[], rfl, by simp [offs, rowOf], by simp [offs, rowOf], rfl, rfl⟩
  | c :: t, 0, h => by
    obtain ⟨l, h1, h2, h3, h4, h5⟩ := row_at t 0 (Nat.zero_le _)
    have r0 : rowOf t 0 = 0 := by cases t <;> rfl
    rw [r0] at h1 h5
    by_cases hc : c = 10
    · subst hc
      refine ⟨[], by rw [rows_nl]; rfl, by simp [rowOf, offs], by simp [rowOf, offs], by simp [rowOf, offs, beginOf], by simp [rowOf, offs, endOf]⟩
    · obtain ⟨a, q, e1, e2⟩ := rows_other hc t
      rw [e1] at h1
      have ea : a = l := by simpa using h1
      refine ⟨c :: a, by rw [e2]; rfl, by simp [rowOf, offs], by simp [rowOf, offs], by simp [rowOf, offs, beginOf], ?_⟩
      have h5' : endOf t 0 = l.length := by simpa [offs] using h5
      simp [rowOf, offs, endOf, hc, h5', ea]
  | c :: t, p + 1, h => by
    obtain ⟨l, h1, h2, h3, h4, h5⟩ := row_at t p (by simpa using h)
    by_cases hc : c = 10
    · subst hc
      rw [rows_nl]
      have e : rowOf (10 :: t) (p + 1) = rowOf t p + 1 := by simp [rowOf]; omega
      have o : offs ([] :: rows t) (rowOf t p + 1) = offs (rows t) (rowOf t p) + 1 := by simp [offs]; omega
      rw [e, o]
      refine ⟨l, by simpa using h1, by omega, by omega, ?_, by simp [endOf, h5]; omega⟩
      rw [beginOf_cons, h4]
      split
      · rename_i z; simp [z]
      · rfl
    · obtain ⟨a, q, e1, e2⟩ := rows_other hc t
      have e : rowOf (c :: t) (p + 1) = rowOf t p := by simp [rowOf, hc]
      rw [e, e2]
      rw [e1] at h1 h2 h3 h4 h5
      cases hr : rowOf t p with
      | zero =>
        rw [hr] at h1 h2 h3 h4 h5
        have ea : a = l := by simpa using h1
        subst ea
        simp [offs] at h3 h4 h5
        refine ⟨c :: a, rfl, by simp [offs], by simp [offs]; omega, ?_, by simp [offs, endOf, h5]⟩
        rw [beginOf_cons, h4]; simp [hc, offs]
      | succ r =>
        rw [hr] at h1 h2 h3 h4 h5
        have o : offs ((c :: a) :: q) (r + 1) = offs (a :: q) (r + 1) + 1 := by simp [offs]; omega
        have o' : 0 < offs (a :: q) (r + 1) := by simp [offs]; omega
        rw [o]
        refine ⟨l, by simpa using h1, by omega, by omega, ?_, by simp [endOf, h5]; omega⟩
        rw [beginOf_cons, h4, if_neg (by omega)]
theorem end_at : ∀ (t : List Nat) (r : Nat) (l : List Nat), (rows t)[r]? = some l → endOf t (offs (rows t) r) = offs (rows t) r + l.length
  | [], r, l, h => by
    cases r with
    | zero => simp [rows] at h; subst h; rfl
    | succ r => simp [rows] at h
  | c :: t, r, l, h => by
    by_cases hc : c = 10
    · subst hc
      rw [rows_nl] at h ⊢
      cases r with
      | zero => simp at h; subst h; simp [offs, endOf]
      | succ r =>
        have o : offs ([] :: rows t) (r + 1) = offs (rows t) r + 1 := by simp [offs]; omega
        have ih := end_at t r l (by simpa using h)
        rw [o]; simp [endOf, ih]; omega
    · obtain ⟨a, q, e1, e2⟩ := rows_other hc t
      rw [e2] at h ⊢
      cases r with
      | zero =>
        simp at h; subst h
        have ih := end_at t 0 a (by rw [e1]; rfl)
        have ih' : endOf t 0 = a.length := by simpa [offs] using ih
        simp [offs, endOf, hc, ih']
      | succ r =>
        have o : offs ((c :: a) :: q) (r + 1) = offs (a :: q) (r + 1) + 1 := by simp [offs]; omega
        have ih := end_at t (r + 1) l (by rw [e1]; simpa using h)
        rw [e1] at ih
        rw [o]; simp [endOf, ih]; omega
theorem offs_le : ∀ (t : List Nat) (r : Nat) (l : List Nat), (rows t)[r]? = some l → offs (rows t) r + l.length ≤ t.length
  | [], r, l, h => by
    cases r with
    | zero => simp [rows] at h; subst h; simp [offs]
    | succ r => simp [rows] at h
  | c :: t, r, l, h => by
    by_cases hc : c = 10
    · subst hc
      rw [rows_nl] at h ⊢
      cases r with
      | zero => simp at h; subst h; simp [offs]
      | succ r =>
        have o : offs ([] :: rows t) (r + 1) = offs (rows t) r + 1 := by simp [offs]; omega
        have ih := offs_le t r l (by simpa using h)
        rw [o]; simp; omega
    · obtain ⟨a, q, e1, e2⟩ := rows_other hc t
      rw [e2] at h ⊢
      cases r with
      | zero =>
        simp at h; subst h
        have ih := offs_le t 0 a (by rw [e1]; rfl)
        simp [offs] at ih ⊢; omega
      | succ r =>
        have o : offs ((c :: a) :: q) (r + 1) = offs (a :: q) (r + 1) + 1 := by simp [offs]; omega
        have ih := offs_le t (r + 1) l (by rw [e1]; simpa using h)
        rw [e1] at ih
        rw [o]; simp; omega

/-! ### told by signs -/
theorem begin_spec : ∀ (t : List Nat) (p : Nat), p ≤ t.length → beginOf t p ≤ p ∧ (∀ i, beginOf t p ≤ i → i < p → t[i]? ≠ some 10) ∧ (beginOf t p = 0 ∨ (0 < beginOf t p ∧ t[beginOf t p - 1]? = some 10))
  | t, 0, _ => by rw [beginOf_zero]; exact ⟨Nat.le_refl _, fun i _ h => absurd h (Nat.not_lt_zero _), .inl rfl⟩
  | [], p + 1, h => by simp at h
  | c :: t, p + 1, h => by
    obtain ⟨h1, h2, h3⟩ := begin_spec t p (by simpa using h)
    rw [beginOf_cons]
    by_cases hb : beginOf t p = 0
    · rw [if_pos hb]
      rw [hb] at h2
      by_cases hc : c = 10
      · rw [if_pos hc]
        refine ⟨by omega, fun i hi hp => ?_, .inr ⟨by omega, by simp [hc]⟩⟩
        obtain ⟨j, rfl⟩ : ∃ j, i = j + 1 := ⟨i - 1, by omega⟩
        simpa using h2 j (Nat.zero_le _) (by omega)
      · rw [if_neg hc]
        refine ⟨by omega, fun i hi hp => ?_, .inl rfl⟩
        cases i with
        | zero => simpa using hc
        | succ j => simpa using h2 j (Nat.zero_le _) (by omega)
    · rw [if_neg hb]
      refine ⟨by omega, fun i hi hp => ?_, .inr ⟨by omega, ?_⟩⟩
      · obtain ⟨j, rfl⟩ : ∃ j, i = j + 1 := ⟨i - 1, by omega⟩
        simpa using h2 j (by omega) (by omega)
      · rcases h3 with h3 | ⟨_, h3⟩
        · exact absurd h3 hb
        · have e : beginOf t p + 1 - 1 = (beginOf t p - 1) + 1 := by omega
          rw [e]; simpa using h3
theorem end_spec : ∀ (t : List Nat) (p : Nat), p ≤ t.length → p ≤ endOf t p ∧ endOf t p ≤ t.length ∧ (∀ i, p ≤ i → i < endOf t p → t[i]? ≠ some 10) ∧ (endOf t p = t.length ∨ t[endOf t p]? = some 10)
  | [], p, h => by
    have : p = 0 := by simpa using h
    subst this; exact ⟨Nat.le_refl _, Nat.le_refl _, fun i _ h => absurd h (Nat.not_lt_zero _), .inl rfl⟩
  | c :: t, 0, h => by
    obtain ⟨h1, h2, h3, h4⟩ := end_spec t 0 (Nat.zero_le _)
    unfold endOf
    by_cases hc : c = 10
    · rw [if_pos hc]; exact ⟨Nat.le_refl _, Nat.zero_le _, fun i _ h => absurd h (Nat.not_lt_zero _), .inr (by simp [hc])⟩
    · rw [if_neg hc]
      refine ⟨Nat.zero_le _, by simp; omega, fun i hi hp => ?_, ?_⟩
      · cases i with
        | zero => simpa using hc
        | succ j => simpa using h3 j (Nat.zero_le _) (by omega)
      · rcases h4 with h4 | h4
        · exact .inl (by simp [h4])
        · exact .inr (by simpa using h4)
  | c :: t, p + 1, h => by
    obtain ⟨h1, h2, h3, h4⟩ := end_spec t p (by simpa using h)
    unfold endOf
    refine ⟨by omega, by simp; omega, fun i hi hp => ?_, ?_⟩
    · obtain ⟨j, rfl⟩ : ∃ j, i = j + 1 := ⟨i - 1, by omega⟩
      simpa using h3 j (by omega) (by omega)
    · rcases h4 with h4 | h4
      · exact .inl (by simp [h4])
      · exact .inr (by simpa using h4)
theorem begin_uniq {t : List Nat} {p b : Nat} (hp : p ≤ t.length) (h1 : b ≤ p) (h2 : ∀ i, b ≤ i → i < p → t[i]? ≠ some 10) (h3 : b = 0 ∨ (0 < b ∧ t[b - 1]? = some 10)) : b = beginOf t p := by
  obtain ⟨g1, g2, g3⟩ := begin_spec t p hp
  rcases Nat.lt_trichotomy b (beginOf t p) with h | h | h
  · rcases g3 with g3 | ⟨_, g3⟩
    · omega
    · exact absurd g3 (h2 _ (by omega) (by omega))
  · exact h
  · rcases h3 with h3 | ⟨_, h3⟩
    · omega
    · exact absurd h3 (g2 _ (by omega) (by omega))
theorem end_uniq {t : List Nat} {p b : Nat} (hp : p ≤ t.length) (h0 : p ≤ b) (h1 : b ≤ t.length) (h2 : ∀ i, p ≤ i → i < b → t[i]? ≠ some 10) (h3 : b = t.length ∨ t[b]? = some 10) : b = endOf t p := by
  obtain ⟨g0, g1, g2, g3⟩ := end_spec t p hp
  rcases Nat.lt_trichotomy b (endOf t p) with h | h | h
  · rcases h3 with h3 | h3
    · omega
    · exact absurd h3 (g2 _ (by omega) (by omega))
  · exact h
  · rcases g3 with g3 | g3
    · omega
    · exact absurd g3 (h2 _ (by omega) (by omega))
theorem row_count : ∀ (t : List Nat) (p : Nat), rowOf t p = (t.take p).count 10
  | _, 0 => by simp [rowOf]
  | [], p + 1 => by simp [rowOf]
  | c :: t, p + 1 => by
    simp only [rowOf, List.take_succ_cons, List.count_cons, row_count t p]
    by_cases h : c = 10
    · simp [h]; omega
    · simp [h]
end Tx

/-! rows sign by sign; where steps lead -/
namespace Tx
theorem rows_snoc : ∀ (l : List Nat) (c : Nat) (ys : List (List Nat)) (v : List Nat), rows l = ys ++ [v] → rows (l ++ [c]) = if c = 10 then ys ++ [v] ++ [[]] else ys ++ [v ++ [c]]
  | [], c, ys, v, h => by
    have h' : ys = [] ∧ v = [] := by
      cases ys with
      | nil => simpa [rows] using h.symm
      | cons a r => simp [rows] at h
    obtain ⟨rfl, rfl⟩ := h'
    by_cases hc : c = 10
    · simp [rows, hc]
    · simp [rows, hc]
  | d :: l, c, ys, v, h => by
    by_cases hd : d = 10
    · subst hd
      rw [rows_nl] at h
      rw [List.cons_append, rows_nl]
      cases ys with
      | nil =>
        have := rows_ne l
        simp at h
        exact absurd h.2 this
      | cons a r =>
        simp at h
        obtain ⟨rfl, h⟩ := h
        rw [rows_snoc l c r v h]
        by_cases hc : c = 10 <;> simp [hc]
    · obtain ⟨a, r, e1, e2⟩ := rows_other hd l
      rw [e2] at h
      obtain ⟨a', r', e1', e2'⟩ := rows_other hd (l ++ [c])
      rw [List.cons_append, e2']
      cases ys with
      | nil =>
        simp at h
        obtain ⟨rfl, rfl⟩ := h
        have ih := rows_snoc l c [] a (by simpa using e1)
        rw [e1'] at ih
        by_cases hc : c = 10
        · simp [hc] at ih ⊢
          exact ih
        · simp [hc] at ih ⊢
          exact ih
      | cons b s =>
        simp at h
        obtain ⟨rfl, h⟩ := h
        have ih := rows_snoc l c (a :: s) v (by rw [e1, h]; rfl)
        rw [e1'] at ih
        by_cases hc : c = 10
        · simp [hc] at ih ⊢
          exact ih
        · simp [hc] at ih ⊢
          exact ih
theorem begin_take {t : List Nat} {p : Nat} (h : p ≤ t.length) : ∀ i, i ≤ p → beginOf (t.take p) i = beginOf t i := by
  intro i hi
  obtain ⟨h1, h2, h3⟩ := begin_spec (t.take p) i (by simp; omega)
  refine begin_uniq (by omega) h1 (fun j hj hj2 => ?_) ?_
  · have := h2 j hj hj2
    rwa [List.getElem?_take_of_lt (by omega)] at this
  · rcases h3 with h3 | ⟨h3, h4⟩
    · exact .inl h3
    · exact .inr ⟨h3, by rwa [List.getElem?_take_of_lt (by omega)] at h4⟩
theorem begin_step {t : List Nat} {i c : Nat} (h : t[i]? = some c) : beginOf t (i + 1) = if c = 10 then i + 1 else beginOf t i := by
  have hi : i < t.length := (List.getElem?_eq_some_iff.mp h).1
  obtain ⟨h1, h2, h3⟩ := begin_spec t i (by omega)
  by_cases hc : c = 10
  · rw [if_pos hc]
    symm
    refine begin_uniq (by omega) (Nat.le_refl _) (fun j a b => absurd b (by omega)) (.inr ⟨by omega, ?_⟩)
    simpa [hc] using h
  · rw [if_neg hc]
    symm
    refine begin_uniq (by omega) (by omega) (fun j a b => ?_) h3
    by_cases hj : j = i
    · subst hj; rw [h]; simpa using hc
    · exact h2 j a (by omega)
theorem row_step {t : List Nat} {i c : Nat} (h : t[i]? = some c) : rowOf t (i + 1) = rowOf t i + if c = 10 then 1 else 0 := by
  rw [row_count, row_count, List.take_add_one, h, List.count_append]
  by_cases hc : c = 10
  · simp [hc]
  · simp [hc]
theorem row_take {t : List Nat} {p i : Nat} (h : i ≤ p) : rowOf (t.take p) i = rowOf t i := by
  rw [row_count, row_count, List.take_take, Nat.min_eq_left h]
theorem row_lt {t : List Nat} {p : Nat} (h : p ≤ t.length) : rowOf t p < (rows t).length := by
  obtain ⟨l, h1, _⟩ := row_at t p h
  exact (List.getElem?_eq_some_iff.mp h1).1

/-- a column of a row, or its end -/
def toRow (t : List Nat) (r : Int) (col : Nat) : Option Nat := if 0 ≤ r then (rows t)[r.toNat]?.map fun l => offs (rows t) r.toNat + min col l.length else none
def colOf (t : List Nat) (p : Nat) : Nat := p - beginOf t p
end Tx

/-! The model's searches for one sign, as functions on lists of codes. -/
namespace T0
open PySem PySem.StrLaws PySem.Builtin PySem.Builtin.Str L2

theorem subAt_one (t : List Nat) (c i : Nat) : subAt ⟨t.toArray⟩ ⟨#[c]⟩ i = true ↔ t[i]? = some c := by
  unfold subAt
  have e : (⟨#[c]⟩ : Str).length = 1 := rfl
  rw [e]
  simp only [List.extract_toArray, beq_iff_eq]
  constructor
  · intro h
    have h' : (t.drop i).take 1 = [c] := by
      have := congrArg Array.toList h
      simpa [List.extract_eq_take_drop] using this
    cases hd : t.drop i with
    | nil => rw [hd] at h'; simp at h'
    | cons a r =>
      rw [hd] at h'
      have ea : a = c := by simpa using h'
      have : t[i]? = (t.drop i)[0]? := by simp
      rw [this, hd, ea]; rfl
  · intro h
    obtain ⟨hi, hc⟩ := List.getElem?_eq_some_iff.mp h
    have : (t.drop i) = c :: t.drop (i + 1) := by rw [List.drop_eq_getElem_cons hi, hc]
    simp [List.extract_eq_take_drop, this]
theorem at_one (t : List Nat) (c hi i : Nat) : At ⟨t.toArray⟩ ⟨#[c]⟩ hi i ↔ i < hi ∧ t[i]? = some c := by
  unfold At
  have e : (⟨#[c]⟩ : Str).length = 1 := rfl
  rw [e, subAt_one]
  constructor <;> rintro ⟨a, b⟩ <;> exact ⟨by omega, b⟩
theorem last_one (t : List Nat) (c p : Nat) : (lastOccurrence ⟨t.toArray⟩ ⟨#[c]⟩ 0 p = none ∧ ∀ i, i < p → t[i]? ≠ some c) ∨ ∃ i, lastOccurrence ⟨t.toArray⟩ ⟨#[c]⟩ 0 p = some i ∧ i < p ∧ t[i]? = some c ∧ ∀ k, i < k → k < p → t[k]? ≠ some c := by
  rw [last_eq]
  have key := last_run ⟨t.toArray⟩ ⟨#[c]⟩ p (List.range' 0 (p + 1 - 0)) [] none (fun _ h => nomatch h) (fun _ h => nomatch h) (by simpa using List.pairwise_lt_range' (s := 0) (n := p + 1 - 0))
  cases e : (forIn (List.range' 0 (p + 1 - 0)) none (lastBody ⟨t.toArray⟩ ⟨#[c]⟩ p)).run with
  | none =>
    rw [e] at key
    refine .inl ⟨rfl, fun i hi h => ?_⟩
    exact key i (List.mem_range'_1.mpr ⟨by omega, by omega⟩) ((at_one t c p i).mpr ⟨hi, h⟩)
  | some i =>
    rw [e] at key
    obtain ⟨k1, k2⟩ := key
    obtain ⟨a, b⟩ := (at_one t c p i).mp k1
    exact .inr ⟨i, rfl, a, b, fun k h1 h2 h3 => k2 k (List.mem_range'_1.mpr ⟨by omega, by omega⟩) h1 ((at_one t c p k).mpr ⟨h2, h3⟩)⟩
theorem from0 (n : Nat) : fromIndex n 0 = 0 := by unfold fromIndex; simp
theorem fromN (n p : Nat) : fromIndex n (p : Int) = p := by unfold fromIndex; rw [if_neg (by omega)]; omega
theorem toN {n p : Nat} (h : p ≤ n) : toIndexW n (p : Int) = p := by unfold toIndexW; rw [if_neg (by omega)]; omega
theorem rfind_nl {t : List Nat} {p : Nat} (h : p ≤ t.length) : Txt.rfindIn ⟨t.toArray⟩ ⟨#[10]⟩ 0 (p : Int) + 1 = ((Tx.beginOf t p : Nat) : Int) := by
  unfold Txt.rfindIn
  have e1 : (⟨t.toArray⟩ : Str).length = t.length := by simp [Str.length]
  rw [e1, from0, toN h]
  rcases last_one t 10 p with ⟨e, hn⟩ | ⟨i, e, hi, hc, hk⟩
  · rw [e]
    have : 0 = Tx.beginOf t p := Tx.begin_uniq h (Nat.zero_le _) (fun i _ hi => hn i hi) (.inl rfl)
    rw [← this]; rfl
  · rw [e]
    have : i + 1 = Tx.beginOf t p := Tx.begin_uniq h (by omega) (fun k h1 h2 => hk k (by omega) h2) (.inr ⟨by omega, by simpa using hc⟩)
    rw [← this]; simp
/-! the first one -/
theorem occ_stay (s sub : Str) (hi : Nat) : ∀ (l : List Nat) (st : Array Nat × Nat), 1 ≤ st.fst.size → (forIn l st (occBody s sub hi 1)).run = st
  | [], st, _ => rfl
  | a :: l, st, h => by
    rw [List.forIn_cons]
    unfold occBody
    rw [if_neg (by intro q; have := q.1.1.1; omega)]
    exact occ_stay s sub hi l st h
theorem occ_first (s sub : Str) (hi : Nat) : ∀ (l : List Nat) (free : Nat), (∀ i ∈ l, free ≤ i) → l.Pairwise (· < ·) →
    ((forIn l ((#[] : Array Nat), free) (occBody s sub hi 1)).run.fst.toList = [] ∧ ∀ i ∈ l, ¬ At s sub hi i) ∨ ∃ i, (forIn l ((#[] : Array Nat), free) (occBody s sub hi 1)).run.fst.toList = [i] ∧ i ∈ l ∧ At s sub hi i ∧ ∀ j ∈ l, j < i → ¬ At s sub hi j
  | [], free, _, _ => .inl ⟨rfl, fun _ h => nomatch h⟩
  | a :: l, free, hf, hp => by
    rw [List.forIn_cons]
    have hp' := List.pairwise_cons.mp hp
    by_cases hc : At s sub hi a
    · have hc' : a + sub.length ≤ hi ∧ subAt s sub a = true := hc
      have e : occBody s sub hi 1 a ((#[] : Array Nat), free) = pure (ForInStep.yield (#[a], a + sub.length)) := by
        unfold occBody
        rw [if_pos ⟨⟨⟨by simp, hf a (List.mem_cons_self ..)⟩, hc'.1⟩, hc'.2⟩]
        rfl
      refine .inr ⟨a, ?_, List.mem_cons_self .., hc, fun j hj hlt => ?_⟩
      · rw [e]
        show ((forIn l (#[a], a + sub.length) (occBody s sub hi 1)).run).fst.toList = [a]
        rw [occ_stay s sub hi l _ (by simp)]
      · rcases List.mem_cons.mp hj with rfl | hm
        · omega
        · have := hp'.1 j hm; omega
    · have hc' : ¬ (a + sub.length ≤ hi ∧ subAt s sub a = true) := hc
      have e : occBody s sub hi 1 a ((#[] : Array Nat), free) = pure (ForInStep.yield ((#[] : Array Nat), free)) := by
        unfold occBody
        rw [if_neg fun q => hc' ⟨q.1.2, q.2⟩]
      rw [e]
      rcases occ_first s sub hi l free (fun i hi' => hf i (List.mem_cons_of_mem _ hi')) hp'.2 with ⟨h1, h2⟩ | ⟨i, h1, h2, h3, h4⟩
      · refine .inl ⟨h1, fun i hi' => ?_⟩
        rcases List.mem_cons.mp hi' with rfl | hm
        · exact hc
        · exact h2 i hm
      · refine .inr ⟨i, h1, List.mem_cons_of_mem _ h2, h3, fun j hj hlt => ?_⟩
        rcases List.mem_cons.mp hj with rfl | hm
        · exact hc
        · exact h4 j hm hlt
theorem first_one (t : List Nat) (c p : Nat) (hp : p ≤ t.length) : (occurrences ⟨t.toArray⟩ ⟨#[c]⟩ p t.length 1 = [] ∧ ∀ i, p ≤ i → t[i]? ≠ some c) ∨ ∃ i, occurrences ⟨t.toArray⟩ ⟨#[c]⟩ p t.length 1 = [i] ∧ p ≤ i ∧ t[i]? = some c ∧ ∀ k, p ≤ k → k < i → t[k]? ≠ some c := by
  rw [occ_eq]
  have lt : ∀ {i}, t[i]? = some c → i < t.length := fun h => (List.getElem?_eq_some_iff.mp h).1
  rcases occ_first ⟨t.toArray⟩ ⟨#[c]⟩ t.length (List.range' p (t.length + 1 - p)) p (fun i hi => (List.mem_range'_1.mp hi).1) List.pairwise_lt_range' with ⟨h1, h2⟩ | ⟨i, h1, h2, h3, h4⟩
  · exact .inl ⟨h1, fun i hi h => h2 i (by have := lt h; exact List.mem_range'_1.mpr ⟨by omega, by omega⟩) ((at_one t c _ i).mpr ⟨lt h, h⟩)⟩
  · obtain ⟨a, b⟩ := (at_one t c _ i).mp h3
    have h2 := List.mem_range'_1.mp h2
    exact .inr ⟨i, h1, by omega, b, fun k k1 k2 k3 => h4 k (by have := lt k3; exact List.mem_range'_1.mpr ⟨by omega, by omega⟩) k2 ((at_one t c _ k).mpr ⟨lt k3, k3⟩)⟩
theorem find_nl {t : List Nat} {p : Nat} (h : p ≤ t.length) : (if Txt.find3 ⟨t.toArray⟩ ⟨#[10]⟩ (p : Int) < 0 then (t.length : Int) else Txt.find3 ⟨t.toArray⟩ ⟨#[10]⟩ (p : Int)) = ((Tx.endOf t p : Nat) : Int) := by
  unfold Txt.find3
  have e1 : (⟨t.toArray⟩ : Str).length = t.length := by simp [Str.length]
  rw [e1, fromN]
  rcases first_one t 10 p h with ⟨e, hn⟩ | ⟨i, e, hi, hc, hk⟩
  · rw [e]
    have : t.length = Tx.endOf t p := Tx.end_uniq h h (Nat.le_refl _) (fun i hi _ => hn i hi) (.inl rfl)
    rw [← this]; rfl
  · rw [e]
    have : i = Tx.endOf t p := Tx.end_uniq h hi (Nat.le_of_lt (List.getElem?_eq_some_iff.mp hc).1) hk (.inr hc)
    rw [← this]
    show (if ((i : Nat) : Int) < 0 then (t.length : Int) else ((i : Nat) : Int)) = _
    rw [if_neg (by omega)]
/-! how many -/
theorem occ_all (t : List Nat) (c limit : Nat) : ∀ (n a : Nat) (arr : Array Nat) (free : Nat), free ≤ a → arr.size + n ≤ limit →
    (forIn (List.range' a n) (arr, free) (occBody ⟨t.toArray⟩ ⟨#[c]⟩ t.length limit)).run.fst.toList = arr.toList ++ (List.range' a n).filter (fun i => t[i]? == some c)
  | 0, a, arr, free, _, _ => by simp
  | n + 1, a, arr, free, hf, hl => by
    rw [List.range'_succ, List.forIn_cons]
    have e1 : (⟨#[c]⟩ : Str).length = 1 := rfl
    by_cases hc : t[a]? = some c
    · have ha : a < t.length := (List.getElem?_eq_some_iff.mp hc).1
      have e : occBody ⟨t.toArray⟩ ⟨#[c]⟩ t.length limit a (arr, free) = pure (ForInStep.yield (arr.push a, a + 1)) := by
        unfold occBody
        rw [if_pos ⟨⟨⟨by show arr.size < limit; omega, hf⟩, by rw [e1]; omega⟩, (subAt_one t c a).mpr hc⟩, e1]
      rw [e]
      show ((forIn (List.range' (a + 1) n) (arr.push a, a + 1) (occBody ⟨t.toArray⟩ ⟨#[c]⟩ t.length limit)).run).fst.toList = _
      rw [occ_all t c limit n (a + 1) (arr.push a) (a + 1) (Nat.le_refl _) (by simp; omega)]
      simp [hc]
    · have e : occBody ⟨t.toArray⟩ ⟨#[c]⟩ t.length limit a (arr, free) = pure (ForInStep.yield (arr, free)) := by
        unfold occBody
        rw [if_neg fun q => hc ((subAt_one t c a).mp q.2)]
      rw [e]
      show ((forIn (List.range' (a + 1) n) (arr, free) (occBody ⟨t.toArray⟩ ⟨#[c]⟩ t.length limit)).run).fst.toList = _
      rw [occ_all t c limit n (a + 1) arr free (by omega) (by omega)]
      simp [hc]
theorem filter_count (c : Nat) : ∀ (t u : List Nat), ((List.range' u.length (t.length + 1)).filter (fun i => (u ++ t)[i]? == some c)).length = t.count c
  | [], u => by simp
  | a :: t, u => by
    have ih := filter_count c t (u ++ [a])
    rw [List.append_assoc] at ih
    simp only [List.length_append, List.length_cons, List.length_nil, List.singleton_append] at ih
    rw [List.length_cons, List.range'_succ, List.filter_cons, List.count_cons]
    have e : (u ++ a :: t)[u.length]? = some a := by simp
    rw [e]
    by_cases h : a = c
    · subst h; simp [ih]
    · have h1 : (some a == some c) = false := by simp [h]
      have h2 : (a == c) = false := by simp [h]
      rw [h1, h2]
      simpa using ih
theorem count_one (t : List Nat) (c : Nat) : Txt.count ⟨t.toArray⟩ ⟨#[c]⟩ = ((t.count c : Nat) : Int) := by
  unfold Txt.count
  have e1 : (⟨t.toArray⟩ : Str).length = t.length := by simp [Str.length]
  rw [e1, occ_eq, occ_all t c (t.length + 1) (t.length + 1 - 0) 0 #[] 0 (Nat.le_refl _) (by simp)]
  have := filter_count c t []
  simp at this ⊢
  exact_mod_cast this
end T0

/-! editheart.signs: promises and readings -/
namespace Ed
open PySem L2 Cb
open Evl (Ev EvT)

abbrev iv (n : Nat) : V := .int (n : Int)
theorem sz {n : Nat} (h : n ≤ 100000) : n ≤ sizeLine := Nat.le_trans h (by decide)
theorem szl {n : Nat} (h : n < 100000) : n < sizeLine := Nat.lt_of_lt_of_le h (by decide)
theorem len_sv (t : List Nat) : (⟨t.toArray⟩ : Str).length = t.length := by simp [Str.length]
abbrev RetV (v : V) (H : Hp) (Q : VK) : Prop := ∀ H', Xt H H' → Q v H'
abbrev RetL (xs : List V) (H : Hp) (Q : VK) : Prop := ∀ p H', H p = none → Xt H H' → H' p = some (.lst xs) → Q (.ref p) H'
abbrev RetT (xs : List V) (H : Hp) (Q : VK) : Prop := ∀ p H', H p = none → Xt H H' → H' p = some (.tup xs) → Q (.ref p) H'
theorem xt_none {H H' : Hp} {p : Addr} (e : Xt H H') (h : H' p = none) : H p = none := Evl.fresh_back e h
theorem evT_yes {σ : L2.St} {H : Hp} : EvT tYes σ H true := fun H1 _ Q q => q H1 (Xt.refl H1)

def isWhole (x : V) (lo hi : Int) : Bool := match x with
  | .int i => decide (lo ≤ i) && decide (i ≤ hi)
  | _ => false
/-- a thing that may be asked for its class -/
def Plain (x : V) (H : Hp) : Prop := match x with
  | .non => True
  | .bl _ => True
  | .int _ => True
  | .str _ => True
  | .ref p => (∃ xs, H p = some (.lst xs)) ∨ ∃ xs, H p = some (.tup xs)
  | _ => False
def sp_is_whole (K : PySem.W.Frag) : Sp := fun vs H Q _ => ∃ x lo hi, vs = [x, .int lo, .int hi] ∧ Plain x H ∧ Q (.bl (isWhole x lo hi)) H
def b_is_whole (K : PySem.W.Frag) : Ss K :=
  (Ss.cons (Sm.ret (Ex.and (Ex.isi (As.cons (Ex.v 0) (As.cons (Ex.ty "int" "int" boot_int) As.nil))) (Ex.and (Ex.not (Ex.isi (As.cons (Ex.v 0) (As.cons (Ex.ty "bool" "bool" boot_bool) As.nil)))) (Ex.one (Ex.chain Cm.le Cm.le (Ex.v 1) (Ex.v 0) (Ex.v 2))))))
  Ss.nil)
def N_is_whole : List Str := ["thing", "low", "most"]
theorem rd_is_whole (K : PySem.W.Frag) : ∀ vs H Q E, sp_is_whole K vs H Q E → (b_is_whole K).t { nx := fun _ H' => Q .non H', rt := Q } (start N_is_whole vs) H := by
  rintro _ H Q E ⟨x, lo, hi, rfl, hp, q⟩
  cases x with
  | non => exact ⟨rfl, _, rfl, q⟩
  | bl b => exact ⟨rfl, _, rfl, rfl, _, rfl, q⟩
  | int i =>
    refine ⟨rfl, _, rfl, rfl, _, rfl, ?_⟩
    show br (decide (lo ≤ i)) _ _
    have e : isWhole (.int i) lo hi = (decide (lo ≤ i) && decide (i ≤ hi)) := rfl
    rw [e] at q
    cases h : decide (lo ≤ i) with
    | true => rw [h] at q; exact q
    | false => rw [h] at q; exact q
  | str z => exact ⟨rfl, _, rfl, q⟩
  | ref p =>
    rcases hp with ⟨xs, hp⟩ | ⟨xs, hp⟩
    · exact ⟨rfl, _, _, hp, rfl, q⟩
    · exact ⟨rfl, _, _, hp, rfl, q⟩
  | _ => exact hp.elim

def okSign (more : List Nat) (c : Nat) : Bool := decide (c ∈ lWORD ++ lOTHERS ++ more)
def areSigns (x : V) (lo hi : Int) (more : List Nat) : Bool := match x with
  | .str z => decide (lo ≤ (z.length : Int)) && decide ((z.length : Int) ≤ hi) && z.cps.toList.all (okSign more)
  | _ => false
/-- a text that is not too long -/
def Short (x : V) : Prop := match x with
  | .str z => z.length ≤ 10000
  | _ => True
def sp_are_signs (K : PySem.W.Frag) : Sp := fun vs H Q _ => ∃ x lo hi more, vs = [x, .int lo, .int hi, sv more] ∧ Plain x H ∧ Short x ∧ more.length ≤ 100 ∧ RetV (.bl (areSigns x lo hi more)) H Q
def b_are_signs (K : PySem.W.Frag) : Ss K :=
  (Ss.cons (Sm.ite (Te.w (Tw.or (Te.not (Te.val (Ex.isi (As.cons (Ex.v 0) (As.cons (Ex.ty "str" "str" boot_str) As.nil))))) (Tw.one (Te.not (Te.chain Cm.le Cm.le (Ex.v 1) (Ex.len (As.cons (Ex.v 0) As.nil)) (Ex.v 2))))))
    (Ss.cons (Sm.ret (Ex.b false))
    Ss.nil)
    Ss.nil)
  (Ss.cons (Sm.ret (Ex.all (As.cons (Ex.lc [("sign", 4)] (Ir.str (Ex.v 0)) (Tg.v 4) Ifs.no (Ex.cmp Cm.isin (Ex.v 4) (Ex.add (Ex.add (Ex.g "WORD" (.str cWORD)) (Ex.g "OTHERS" (.str cOTHERS))) (Ex.v 3)))) As.nil)))
  Ss.nil))
def N_are_signs : List Str := ["thing", "low", "most", "more", "sign"]
theorem take_snoc {α : Type} {l : List α} {i : Nat} {x : α} (h : l[i]? = some x) : l.take (i + 1) = l.take i ++ [x] := by
  rw [List.take_add_one, h]; rfl
theorem all_map_bl {l : List Nat} {p : Nat → Bool} : (l.map p).all id = l.all p := by
  rw [List.all_map]; rfl
theorem rd_are_signs (K : PySem.W.Frag) : ∀ vs H Q E, sp_are_signs K vs H Q E → (b_are_signs K).t { nx := fun _ H' => Q .non H', rt := Q } (start N_are_signs vs) H := by
  rintro _ H Q E ⟨x, lo, hi, more, rfl, hp, hs, hm, q⟩
  cases x with
  | non => exact ⟨rfl, _, rfl, q H (Xt.refl H)⟩
  | bl b => exact ⟨rfl, _, rfl, q H (Xt.refl H)⟩
  | int i => exact ⟨rfl, _, rfl, q H (Xt.refl H)⟩
  | ref p =>
    rcases hp with ⟨xs, hp⟩ | ⟨xs, hp⟩
    · exact ⟨rfl, _, _, hp, rfl, q H (Xt.refl H)⟩
    · exact ⟨rfl, _, _, hp, rfl, q H (Xt.refl H)⟩
  | str z =>
    have hz : z.length ≤ 10000 := hs
    refine ⟨rfl, _, rfl, sz (by omega), ?_⟩
    have e : areSigns (.str z) lo hi more = (decide (lo ≤ (z.length : Int)) && decide ((z.length : Int) ≤ hi) && z.cps.toList.all (okSign more)) := rfl
    rw [e] at q
    refine br_i (fun h1 => ?_) (fun h1 => ?_)
    · rw [h1] at q
      show br (!decide ((z.length : Int) ≤ hi)) _ _
      refine br_i (fun h2 => ?_) (fun h2 => ?_)
      · have h2' : decide ((z.length : Int) ≤ hi) = false := by simpa using h2
        rw [h2'] at q
        exact q H (Xt.refl H)
      · have h2' : decide ((z.length : Int) ≤ hi) = true := by simpa using h2
        rw [h2'] at q
        have hlen : z.cps.toList.length = z.length := rfl
        refine ⟨_, rfl, lc_walk walk_str (fun i => ((z.cps.toList.take i).map (okSign more)).map V.bl) rfl ?_ (fun _ _ => trivial) ?_ (mono_name 4) ?_⟩
        · intro i hi'
          have hz2 : z.cps.size ≤ 10000 := hz
          simp; omega
        · rintro i x H2 H3 D hi' ⟨c1, c2, c3⟩ ⟨rfl, c, hc, rfl⟩
          have hc' : z.cps.toList[i]? = some c := by simpa using hc
          refine ⟨rfl, true, .bl (okSign more c), c2, c3, evT_yes, fun _ => ?_, ?_⟩
          · intro H4 e4 Q' q'
            refine ⟨by decide, ?_⟩
            refine ⟨?_, ?_⟩
            · show 72 + more.length ≤ sizeLine
              exact sz (by omega)
            · have e5 : TL.tl (cWORD ++ cOTHERS ++ ⟨more.toArray⟩ : Str) = lWORD ++ lOTHERS ++ more := by rw [TL.tl_append, TL.tl_append]; rfl
              show Q' (.bl (decide (c ∈ TL.tl (cWORD ++ cOTHERS ++ ⟨more.toArray⟩ : Str)))) H4
              rw [e5]
              exact q' H4 (Xt.refl H4)
          · rw [take_snoc hc']; simp
        · intro p H2 h1' e2 hp2
          refine ⟨(z.cps.toList.map (okSign more)), ?_, ?_⟩
          · have : z.cps.toList.take z.cps.size = z.cps.toList := by
              rw [List.take_of_length_le (by simp)]
            rw [this] at hp2
            exact SqL.of hp2
          · rw [all_map_bl]
            exact q H2 e2
    · rw [h1] at q
      exact q H (Xt.refl H)
  | _ => exact hp.elim

/-- a text -/
def isText (t : List Nat) : Prop := t.length ≤ 200 ∧ ∀ c ∈ t, okSign [10] c = true
def sp_is_text (K : PySem.W.Frag) : Sp := fun vs H Q _ => ∃ x, vs = [x] ∧ Plain x H ∧ Short x ∧ RetV (.bl (areSigns x 0 200 [10])) H Q
def b_is_text (K : PySem.W.Frag) : Ss K :=
  (Ss.cons (Sm.ret (Ex.call "are_signs" (sp_are_signs K) (As.cons (Ex.v 0) (As.cons (Ex.i 0) (As.cons (Ex.g "LONG" (.int 200)) (As.cons (Ex.s ⟨#[10]⟩) As.nil))))))
  Ss.nil)
def N_is_text : List Str := ["thing"]
theorem rd_is_text (K : PySem.W.Frag) : ∀ vs H Q E, sp_is_text K vs H Q E → (b_is_text K).t { nx := fun _ H' => Q .non H', rt := Q } (start N_is_text vs) H := by
  rintro _ H Q E ⟨x, rfl, hp, hs, q⟩
  exact ⟨x, 0, 200, [10], rfl, hp, hs, by decide, q⟩
theorem text_ok {t : List Nat} (h : isText t) : areSigns (sv t) 0 200 [10] = true := by
  show (decide ((0 : Int) ≤ ((⟨t.toArray⟩ : Str).length : Int)) && decide (((⟨t.toArray⟩ : Str).length : Int) ≤ 200) && t.all (okSign [10])) = true
  rw [len_sv]
  have h1 := h.1
  simp only [Bool.and_eq_true, decide_eq_true_eq, List.all_eq_true]
  exact ⟨⟨by omega, by omega⟩, fun c hc => h.2 c hc⟩
def sp_need_text (K : PySem.W.Frag) : Sp := fun vs H Q _ => ∃ t, vs = [sv t] ∧ isText t ∧ RetV .non H Q
def b_need_text (K : PySem.W.Frag) : Ss K :=
  (Ss.cons (Sm.ite (Te.not (Te.val (Ex.call "is_text" (sp_is_text K) (As.cons (Ex.v 0) As.nil))))
    (Ss.cons Sm.never
    Ss.nil)
    Ss.nil)
  Ss.nil)
def N_need_text : List Str := ["thing"]
theorem rd_need_text (K : PySem.W.Frag) : ∀ vs H Q E, sp_need_text K vs H Q E → (b_need_text K).t { nx := fun _ H' => Q .non H', rt := Q } (start N_need_text vs) H := by
  rintro _ H Q E ⟨t, rfl, ht, q⟩
  refine ⟨sv t, rfl, trivial, ?_, fun H' e => ?_⟩
  · show (⟨t.toArray⟩ : Str).length ≤ 10000
    rw [len_sv]; have := ht.1; omega
  · rw [text_ok ht]
    exact q H' e
def sp_need_place (K : PySem.W.Frag) : Sp := fun vs H Q _ => ∃ (t : List Nat) (p : Nat), vs = [sv t, iv p] ∧ isText t ∧ p ≤ t.length ∧ RetV .non H Q
def b_need_place (K : PySem.W.Frag) : Ss K :=
  (Ss.cons (Sm.ex (Ex.call "need_text" (sp_need_text K) (As.cons (Ex.v 0) As.nil)))
  (Ss.cons (Sm.ite (Te.not (Te.val (Ex.call "is_whole" (sp_is_whole K) (As.cons (Ex.v 1) (As.cons (Ex.i 0) (As.cons (Ex.len (As.cons (Ex.v 0) As.nil)) As.nil))))))
    (Ss.cons Sm.never
    Ss.nil)
    Ss.nil)
  Ss.nil))
def N_need_place : List Str := ["text", "place"]
theorem rd_need_place (K : PySem.W.Frag) : ∀ vs H Q E, sp_need_place K vs H Q E → (b_need_place K).t { nx := fun _ H' => Q .non H', rt := Q } (start N_need_place vs) H := by
  rintro _ H Q E ⟨t, p, rfl, ht, hp, q⟩
  refine ⟨t, rfl, ht, fun H' e => ?_⟩
  refine ⟨sz (by rw [len_sv]; have := ht.1; omega), iv p, 0, t.length, rfl, trivial, ?_⟩
  have e' : isWhole (iv p) 0 t.length = true := by
    show (decide ((0 : Int) ≤ (p : Int)) && decide ((p : Int) ≤ (t.length : Int))) = true
    simp; omega
  rw [e']
  exact q H' e

/-! the row of a place -/
def sp_begin_of (K : PySem.W.Frag) : Sp := fun vs H Q _ => ∃ (t : List Nat) (p : Nat), vs = [sv t, iv p] ∧ p ≤ t.length ∧ Q (iv (Tx.beginOf t p)) H
def b_begin_of (K : PySem.W.Frag) : Ss K :=
  (Ss.cons (Sm.ret (Ex.add (Ex.sm Ms.rfind4 (Ex.v 0) (As.cons (Ex.s ⟨#[10]⟩) (As.cons (Ex.i 0) (As.cons (Ex.v 1) As.nil)))) (Ex.i 1)))
  Ss.nil)
def N_begin_of : List Str := ["text", "place"]
theorem rd_begin_of (K : PySem.W.Frag) : ∀ vs H Q E, sp_begin_of K vs H Q E → (b_begin_of K).t { nx := fun _ H' => Q .non H', rt := Q } (start N_begin_of vs) H := by
  rintro _ H Q E ⟨t, p, rfl, hp, q⟩
  show Q (.int (Txt.rfindIn ⟨t.toArray⟩ ⟨#[10]⟩ 0 (p : Int) + 1)) H
  rw [T0.rfind_nl hp]
  exact q
def sp_end_of (K : PySem.W.Frag) : Sp := fun vs H Q _ => ∃ (t : List Nat) (p : Nat), vs = [sv t, iv p] ∧ t.length ≤ 10000 ∧ p ≤ t.length ∧ Q (iv (Tx.endOf t p)) H
def b_end_of (K : PySem.W.Frag) : Ss K :=
  (Ss.cons (Sm.set 2 (Ex.sm Ms.find3 (Ex.v 0) (As.cons (Ex.s ⟨#[10]⟩) (As.cons (Ex.v 1) As.nil))))
  (Ss.cons (Sm.ret (Ex.ifx (Te.cmp Cm.lt (Ex.v 2) (Ex.i 0)) (Ex.len (As.cons (Ex.v 0) As.nil)) (Ex.v 2)))
  Ss.nil))
def N_end_of : List Str := ["text", "place", "found"]
theorem rd_end_of (K : PySem.W.Frag) : ∀ vs H Q E, sp_end_of K vs H Q E → (b_end_of K).t { nx := fun _ H' => Q .non H', rt := Q } (start N_end_of vs) H := by
  rintro _ H Q E ⟨t, p, rfl, ht, hp, q⟩
  unfold iv at q
  rw [← T0.find_nl hp] at q
  refine br_d (fun h => ?_) (fun h => ?_)
  · rw [if_pos h] at q
    exact ⟨sz (by rw [len_sv]; omega), q⟩
  · rw [if_neg h] at q
    exact q
def sp_row_of (K : PySem.W.Frag) : Sp := fun vs H Q _ => ∃ (t : List Nat) (p : Nat), vs = [sv t, iv p] ∧ t.length ≤ 10000 ∧ p ≤ t.length ∧ Q (iv (Tx.rowOf t p)) H
def b_row_of (K : PySem.W.Frag) : Ss K :=
  (Ss.cons (Sm.ret (Ex.sm Ms.count (Ex.sl (Ex.v 0) Op.no (Op.yes (Ex.v 1))) (As.cons (Ex.s ⟨#[10]⟩) As.nil)))
  Ss.nil)
def N_row_of : List Str := ["text", "place"]
theorem cut_toN (t : List Nat) (p : Nat) : cutS ⟨t.toArray⟩ none (some (p : Int)) = ⟨(t.take p).toArray⟩ := by
  unfold cutS
  have e : (⟨t.toArray⟩ : Str).length = t.length := len_sv t
  rw [e, HT.sIx_none, HT.sIx_nat]
  have e2 : t.take (min p t.length) = t.take p := List.take_eq_take_iff.mpr (by omega)
  show (⟨((t.drop 0).take (min p t.length - 0)).toArray⟩ : Str) = _
  rw [List.drop_zero, Nat.sub_zero, e2]
theorem drop_min (t : List Nat) (p : Nat) : t.drop (min p t.length) = t.drop p := by
  by_cases h : p ≤ t.length
  · rw [Nat.min_eq_left h]
  · rw [Nat.min_eq_right (by omega), List.drop_length, List.drop_of_length_le (by omega)]
theorem cut_ofN (t : List Nat) (p q : Nat) : cutS ⟨t.toArray⟩ (some (p : Int)) (some (q : Int)) = ⟨((t.drop p).take (q - p)).toArray⟩ := by
  unfold cutS
  have e : (⟨t.toArray⟩ : Str).length = t.length := len_sv t
  rw [e, HT.sIx_nat, HT.sIx_nat]
  show (⟨((t.drop (min p t.length)).take (min q t.length - min p t.length)).toArray⟩ : Str) = _
  rw [drop_min]
  have e2 : (t.drop p).take (min q t.length - min p t.length) = (t.drop p).take (q - p) := List.take_eq_take_iff.mpr (by rw [List.length_drop]; omega)
  rw [e2]
theorem cut_to {t : List Nat} {p : Nat} (h : p ≤ t.length) : cutS ⟨t.toArray⟩ none (some (p : Int)) = ⟨(t.take p).toArray⟩ := cut_toN t p
theorem cut_of {t : List Nat} {p q : Nat} (h : p ≤ q) (h2 : q ≤ t.length) : cutS ⟨t.toArray⟩ (some (p : Int)) (some (q : Int)) = ⟨((t.drop p).take (q - p)).toArray⟩ := cut_ofN t p q
theorem rd_row_of (K : PySem.W.Frag) : ∀ vs H Q E, sp_row_of K vs H Q E → (b_row_of K).t { nx := fun _ H' => Q .non H', rt := Q } (start N_row_of vs) H := by
  rintro _ H Q E ⟨t, p, rfl, ht, hp, q⟩
  refine ⟨sz (by rw [len_sv]; omega), ?_⟩
  rw [cut_to hp]
  show Q (.int (Txt.count ⟨(t.take p).toArray⟩ ⟨#[10]⟩)) H
  rw [T0.count_one, ← Tx.row_count]
  exact q
def nats (l : List Nat) : List V := l.map iv
def sp_begins (K : PySem.W.Frag) : Sp := fun vs H Q _ => ∃ (t : List Nat), vs = [sv t] ∧ t.length ≤ 10000 ∧ RetL (nats (Tx.begins t)) H Q
def b_begins (K : PySem.W.Frag) : Ss K :=
  (Ss.cons (Sm.ret (Ex.add (Ex.lst (As.cons (Ex.i 0) As.nil)) (Ex.lc [("place", 1), ("sign", 2)] (Ir.enumS (As.cons (Ex.v 0) As.nil)) (Tg.tup (Tgs.cons (Tg.v 1) (Tgs.cons (Tg.v 2) Tgs.nil))) (Ifs.one (Te.cmp Cm.eq (Ex.v 2) (Ex.s ⟨#[10]⟩))) (Ex.add (Ex.v 1) (Ex.i 1)))))
  Ss.nil)
def N_begins : List Str := ["text", "place", "sign"]
/-- the begins behind those of the part ahead -/
def more (t : List Nat) : List Nat := ((List.range t.length).filter fun i => t[i]? == some 10).map (· + 1)
theorem range'_filter {p : Nat → Bool} : ∀ (n a : Nat), (List.range' a n).filter p = ((List.range n).filter fun i => p (a + i)).map (a + ·) := by
  intro n a
  rw [List.range'_eq_map_range, List.filter_map]
  rfl
theorem begins_more : ∀ t : List Nat, Tx.begins t = 0 :: more t
  | [] => rfl
  | c :: t => by
    have ih := begins_more t
    have e : more (c :: t) = (if c = 10 then [1] else []) ++ (more t).map (· + 1) := by
      unfold more
      rw [List.length_cons, List.range_succ_eq_map, List.filter_cons, List.filter_map]
      by_cases hc : c = 10
      · subst hc
        simp [Function.comp_def]
      · simp [hc, Function.comp_def]
    unfold Tx.begins
    rw [e, ih]
    by_cases hc : c = 10
    · subst hc; simp
    · simp [hc]
theorem dec_sv1 (c d : Nat) : decide ((⟨#[c]⟩ : Str) = ⟨#[d]⟩) = decide (c = d) := by
  by_cases h : c = d
  · subst h; simp
  · rw [decide_eq_false h, decide_eq_false]
    intro e
    injection e with e
    have := congrArg (fun a : Array Nat => a[0]?) e
    simp at this
    exact h this
/-- a store into two names -/
theorem mono_two (K : PySem.W.Frag) (i j : Nat) : ∀ x σ H (R R' : L2.St → Hp → Prop), (∀ σ2 H2, R σ2 H2 → R' σ2 H2) → gTup K 2 (gConsX (gName i) (gConsX (gName j) gNil)) x σ H R → gTup K 2 (gConsX (gName i) (gConsX (gName j) gNil)) x σ H R' := by
  rintro x σ H R R' h ⟨a, xs, rfl, hs, hl, q⟩
  refine ⟨a, xs, rfl, hs, hl, ?_⟩
  rcases xs with _ | ⟨y, _ | ⟨z, r⟩⟩
  · exact q
  · exact q
  · exact ⟨q.1, h _ _ q.2⟩
theorem rd_begins (K : PySem.W.Frag) : ∀ vs H Q E, sp_begins K vs H Q E → (b_begins K).t { nx := fun _ H' => Q .non H', rt := Q } (start N_begins vs) H := by
  rintro _ H Q E ⟨t, rfl, ht, q⟩
  refine ⟨by decide, fun l hl => ?_⟩
  refine lc_walk walk_enumS (fun i => nats (((List.range i).filter fun i => t[i]? == some 10).map (· + 1))) rfl ?_ (fun _ _ => trivial) ?_ (mono_two K 1 2) ?_
  · intro i hi
    have h1 : ((List.range i).filter fun i => t[i]? == some 10).length ≤ (List.range i).length := List.length_filter_le _ _
    have hi' : i < t.length := by simpa using hi
    simp [nats]
    simp at h1
    omega
  · rintro i x H2 H3 D hi ⟨c1, c2, c3⟩ ⟨T, c, rfl, hT, rfl, hc⟩
    have hc' : t[i]? = some c := by simpa using hc
    refine ⟨T, _, rfl, SqT.of upd_same, rfl, rfl, rfl, decide (c = 10), iv (i + 1), xt_mut c2 (xt_none c2 hT), ?_, ?_, ?_, ?_⟩
    · rw [upd_ne (ne_of_none c3 hT)]; exact c3
    · intro H4 e4 Q' q'
      show Q' (decide ((⟨#[c]⟩ : Str) = ⟨#[10]⟩)) H4
      rw [dec_sv1]
      exact q' H4 (Xt.refl H4)
    · intro _ H4 e4 Q' q'
      exact q' H4 (Xt.refl H4)
    · show nats (((List.range (i + 1)).filter fun i => t[i]? == some 10).map (· + 1)) = _
      rw [List.range_succ, List.filter_append]
      by_cases h : c = 10
      · subst h; simp [nats, hc']
      · simp [nats, hc', h]
  · intro p H2 h1 e2 hp2
    refine .inl ⟨l, p, _, _, rfl, rfl, e2 l _ upd_same, hp2, ?_, fun p2 hp2' => ?_⟩
    · have h1 : ((List.range t.length).filter fun i => t[i]? == some 10).length ≤ (List.range t.length).length := List.length_filter_le _ _
      simp at h1
      refine sz ?_
      simp [nats]
      omega
    · have e0 : Xt H H2 := (xt_new hl).trans e2
      refine q p2 _ (xt_none e0 hp2') (e0.trans (xt_new hp2')) ?_
      rw [upd_same, begins_more]
      simp [nats, more]
end Ed

/-! the law's own draws -/
namespace Ed
open PySem L2 Cb
open Evl (Ev EvT)

/-! ### what is compared with == as data -/
theorem dp_ints {K : PySem.W.Frag} {H : Hp} : ∀ ns : List Int, DpAll K H (ns.map V.int) (ns.map PyData.int)
  | [] => .nil
  | n :: ns => .cons (.int n) (dp_ints ns)
theorem ints_lay : ∀ ns : List Int, PyData.canLayAll0 (ns.map PyData.int) = true
  | [] => by simp [PyData.canLayAll0]
  | n :: ns => by simp [PyData.canLayAll0, PyData.canLay0, ints_lay ns]
theorem ints_depth : ∀ ns : List Int, PyData.depthAll (ns.map PyData.int) = 0
  | [] => by simp [PyData.depthAll]
  | n :: ns => by simp [PyData.depthAll, PyData.depth, ints_depth ns]
theorem ints_shaped (ns : List Int) : SeqAt.shaped (.list (ns.map PyData.int)) = true := by
  show (PyData.canLay0 (.list (ns.map PyData.int)) && decide (PyData.depth (.list (ns.map PyData.int)) ≤ 64)) = true
  simp only [PyData.canLay0, PyData.depth, ints_lay, ints_depth]
  decide
theorem nil_shaped : SeqAt.shaped (.list []) = true := ints_shaped []
theorem eqv_nil (ds : List PyData) : PyData.eqv (.list ds) (.list []) = ds.isEmpty := by
  cases ds <;> simp [PyData.eqv, PyData.eqvAll]

/-- all but one thing stands as it stood -/
def Ch (w : Addr) (H H' : Hp) : Prop := ∀ b o, b ≠ w → H b = some o → H' b = some o
theorem Ch.refl {w : Addr} {H : Hp} : Ch w H H := fun _ _ _ h => h
theorem Ch.trans {w : Addr} {H H1 H2 : Hp} (a : Ch w H H1) (b : Ch w H1 H2) : Ch w H H2 := fun x o h e => b x o h (a x o h e)
theorem Ch.of {w : Addr} {H H' : Hp} (e : Xt H H') : Ch w H H' := fun b o _ h => e b o h
theorem Ch.upd {w : Addr} {H : Hp} {o : HO} : Ch w H (upd H w o) := fun b u hb h => by rw [upd_ne hb]; exact h
theorem Ch.seq {K : PySem.W.Frag} {w a : Addr} {H H' : Hp} {xs : List V} (c : Ch w H H') (hn : a ≠ w ∨ ∀ H', SqL K H' a xs) (h : SqL K H a xs) : SqL K H' a xs := by
  rcases hn with hn | hn
  case inr => exact hn H'
  rcases h with (h | ⟨o, h⟩) | h
  · exact .inl (.inl (c a _ hn h))
  · exact .inl (.inr ⟨o, c a _ hn h⟩)
  · exact .inr h
theorem Ch.xt {w : Addr} {H H' : Hp} (c : Ch w H H') (h : ∀ o, H w = some o → H' w = some o) : Xt H H' := fun b o e => by
  by_cases hb : b = w
  · subst hb; exact h o e
  · exact c b o hb e
/-- the script, the town -/
structure Dr (K : PySem.W.Frag) (a w : Addr) (ns : List Int) (n : Nat) (H : Hp) : Prop where
  scr : SqL K H a (ns.map V.int)
  twn : ∃ zs, H w = some (.lst zs) ∧ zs.length = n
  ne : a ≠ w ∨ ∀ H', SqL K H' a (ns.map V.int)
  few : ns.length ≤ 63
theorem Dr.xt {K : PySem.W.Frag} {a w : Addr} {ns : List Int} {n : Nat} {H H' : Hp} (d : Dr K a w ns n H) (e : Xt H H') : Dr K a w ns n H' :=
  ⟨Evl.ex_l e d.scr, let ⟨zs, h1, h2⟩ := d.twn; ⟨zs, e w _ h1, h2⟩, d.ne, d.few⟩

theorem Dr.begin {K : PySem.W.Frag} {a w : Addr} {ns : List Int} {H : Hp} (hS : SqL K H a (ns.map V.int)) (hf : ns.length ≤ 63) (hw : H w = none) : Dr K a w ns 0 (upd H w (.lst [])) where
  scr := Evl.ex_l (xt_new hw) hS
  twn := ⟨[], upd_same, rfl⟩
  ne := by
    rcases hS with (h | ⟨o, h⟩) | h
    · exact .inl (ne_of_none h hw)
    · exact .inl (ne_of_none h hw)
    · exact .inr fun H' => .inr h
  few := hf
def sp_law_cell_at (K : PySem.W.Frag) : Sp := fun vs H Q _ => ∃ (a : Addr) (ns : List Int) (k : Nat), vs = [.ref a, iv k] ∧ SqL K H a (ns.map V.int) ∧ ns.length ≤ 63 ∧ ∀ (c : Int), RetV (.int c) H Q
def b_law_cell_at (K : PySem.W.Frag) : Ss K :=
  (Ss.cons (Sm.ite (Te.cmp Cm.lt (Ex.v 1) (Ex.len (As.cons (Ex.v 0) As.nil)))
    (Ss.cons (Sm.ret (Ex.ix (Ex.v 0) (Ex.v 1)))
    Ss.nil)
    Ss.nil)
  (Ss.cons (Sm.ite (Te.cmp Cm.eq (Ex.v 0) (Ex.lst As.nil))
    (Ss.cons (Sm.ret (Ex.i 0))
    Ss.nil)
    Ss.nil)
  (Ss.cons (Sm.ret (Ex.add (Ex.mul (Ex.ix (Ex.v 0) (Ex.mod (Ex.v 1) (Ex.len (As.cons (Ex.v 0) As.nil)))) (Ex.i 31)) (Ex.v 1)))
  Ss.nil)))
def N_law_cell_at : List Str := ["script", "k"]
theorem at_map {ns : List Int} {j : Nat} (h : j < ns.length) : atI (ns.map V.int) (j : Int) = some (.int ns[j]) := atI_nat (by simp [h])
theorem rd_law_cell_at (K : PySem.W.Frag) : ∀ vs H Q E, sp_law_cell_at K vs H Q E → (b_law_cell_at K).t { nx := fun _ H' => Q .non H', rt := Q } (start N_law_cell_at vs) H := by
  rintro _ H Q E ⟨a, ns, k, rfl, hs, hf, q⟩
  refine ⟨_, .inl hs, br_d (fun h => ?_) (fun h => ?_)⟩
  · have hk : k < ns.length := by simpa using h
    exact ⟨_, _, .inl hs, at_map hk, q _ H (Xt.refl H)⟩
  · refine ⟨by decide, fun l hl => ?_⟩
    have e1 : Xt H (upd H l (.lst [])) := xt_new hl
    refine ⟨_, _, .lst (Evl.ex_l e1 hs) (dp_ints ns), .lst (SqL.of upd_same) .nil, ints_shaped ns, nil_shaped, ?_⟩
    rw [eqv_nil]
    refine br_i (fun h2 => q _ _ e1) (fun h2 => ?_)
    have hpos : 0 < ns.length := by
      cases ns with
      | nil => simp at h2
      | cons _ _ => simp
    have hml : (ns.map V.int).length = ns.length := by simp
    refine ⟨_, .inl (Evl.ex_l e1 hs), ?_, ?_⟩
    · rw [hml]; omega
    · have hk : k % ns.length < ns.length := Nat.mod_lt _ hpos
      refine ⟨_, .int ns[k % ns.length], .inl (Evl.ex_l e1 hs), ?_, .inr ⟨by decide, by decide⟩, q _ _ e1⟩
      rw [hml]
      have e2 : ((k : Int) % (ns.length : Int)) = ((k % ns.length : Nat) : Int) := by omega
      rw [e2]
      exact at_map hk
def sp_law_mixed (K : PySem.W.Frag) : Sp := fun vs H Q _ => ∃ (a : Addr) (ns : List Int) (k : Nat) (many : Int), vs = [.ref a, iv k, .int many] ∧ SqL K H a (ns.map V.int) ∧ ns.length ≤ 63 ∧ 0 < many ∧ ∀ (r : Int), 0 ≤ r → r < many → RetV (.int r) H Q
def b_law_mixed (K : PySem.W.Frag) : Ss K :=
  (Ss.cons (Sm.set 3 (Ex.mod (Ex.mul (Ex.add (Ex.add (Ex.call "_law_cell_at" (sp_law_cell_at K) (As.cons (Ex.v 0) (As.cons (Ex.v 1) As.nil))) (Ex.mul (Ex.i 7919) (Ex.v 1))) (Ex.i 1)) (Ex.i 48271)) (Ex.i 2147483647)))
  (Ss.cons (Sm.ret (Ex.mod (Ex.mod (Ex.add (Ex.add (Ex.mul (Ex.v 3) (Ex.v 3)) (Ex.mul (Ex.i 7) (Ex.v 3))) (Ex.v 1)) (Ex.i 2147483629)) (Ex.v 2)))
  Ss.nil))
def N_law_mixed : List Str := ["script", "k", "many", "drawn"]
theorem rd_law_mixed (K : PySem.W.Frag) : ∀ vs H Q E, sp_law_mixed K vs H Q E → (b_law_mixed K).t { nx := fun _ H' => Q .non H', rt := Q } (start N_law_mixed vs) H := by
  rintro _ H Q E ⟨a, ns, k, many, rfl, hs, hf, hm, q⟩
  refine ⟨a, ns, k, rfl, hs, hf, fun c H1 e1 => ?_⟩
  refine ⟨.inl ⟨by decide, by decide⟩, .inr ⟨by decide, by decide⟩, by decide, ?_⟩
  have hd0 : 0 ≤ ((c + 7919 * (k : Int) + 1) * 48271) % 2147483647 := Int.emod_nonneg _ (by decide)
  have hd1 : ((c + 7919 * (k : Int) + 1) * 48271) % 2147483647 < 2147483647 := Int.emod_lt_of_pos _ (by decide)
  refine ⟨.inl ⟨by omega, by omega⟩, .inl ⟨by decide, by decide⟩, by decide, hm, ?_⟩
  exact q _ (Int.emod_nonneg _ (by omega)) (Int.emod_lt_of_pos _ hm) H1 e1
def sp_law_draw (K : PySem.W.Frag) : Sp := fun vs H Q _ => ∃ (a w : Addr) (ns : List Int) (n : Nat) (many : Int), vs = [.ref a, .ref w, .int many] ∧ Dr K a w ns n H ∧ n < 90000 ∧ 0 < many ∧ ∀ (r : Int) H', 0 ≤ r → r < many → Dr K a w ns (n + 1) H' → Ch w H H' → Q (.int r) H'
def b_law_draw (K : PySem.W.Frag) : Ss K :=
  (Ss.cons (Sm.ex (Ex.lm Ml.append (Ex.v 1) (As.cons (Ex.i 0) As.nil)))
  (Ss.cons (Sm.ret (Ex.call "_law_mixed" (sp_law_mixed K) (As.cons (Ex.v 0) (As.cons (Ex.len (As.cons (Ex.v 1) As.nil)) (As.cons (Ex.v 2) As.nil)))))
  Ss.nil))
def N_law_draw : List Str := ["script", "town", "many"]
theorem rd_law_draw (K : PySem.W.Frag) : ∀ vs H Q E, sp_law_draw K vs H Q E → (b_law_draw K).t { nx := fun _ H' => Q .non H', rt := Q } (start N_law_draw vs) H := by
  rintro _ H Q E ⟨a, w, ns, n, many, rfl, d, hn, hm, q⟩
  obtain ⟨zs, hw, hz⟩ := d.twn
  refine ⟨⟨zs, SqL.of hw⟩, zs, hw, szl (by omega), ?_⟩
  have c1 : Ch w H (upd H w (.lst (zs ++ [.int 0]))) := Ch.upd
  have d1 : Dr K a w ns (n + 1) (upd H w (.lst (zs ++ [.int 0]))) := ⟨c1.seq d.ne d.scr, ⟨_, upd_same, by simp [hz]⟩, d.ne, d.few⟩
  refine ⟨_, .inl (SqL.of upd_same), a, ns, (zs ++ [V.int 0]).length, many, rfl, d1.scr, d.few, hm, fun r h0 h1 H2 e2 => ?_⟩
  exact q r H2 h0 h1 (d1.xt e2) (c1.trans (Ch.of e2))
def sp_law_pick (K : PySem.W.Frag) : Sp := fun vs H Q _ => ∃ (a w l : Addr) (ns : List Int) (n : Nat) (xs : List V), vs = [.ref a, .ref w, .ref l] ∧ Dr K a w ns n H ∧ n < 90000 ∧ l ≠ w ∧ H l = some (.lst xs) ∧ xs ≠ [] ∧ ∀ x H', x ∈ xs → Dr K a w ns (n + 1) H' → Ch w H H' → Q x H'
def b_law_pick (K : PySem.W.Frag) : Ss K :=
  (Ss.cons (Sm.ret (Ex.ix (Ex.v 2) (Ex.call "_law_draw" (sp_law_draw K) (As.cons (Ex.v 0) (As.cons (Ex.v 1) (As.cons (Ex.len (As.cons (Ex.v 2) As.nil)) As.nil))))))
  Ss.nil)
def N_law_pick : List Str := ["script", "town", "some"]
theorem rd_law_pick (K : PySem.W.Frag) : ∀ vs H Q E, sp_law_pick K vs H Q E → (b_law_pick K).t { nx := fun _ H' => Q .non H', rt := Q } (start N_law_pick vs) H := by
  rintro _ H Q E ⟨a, w, l, ns, n, xs, rfl, d, hn, hne, hl, hx, q⟩
  have hpos : 0 < xs.length := List.length_pos_iff.mpr hx
  refine ⟨xs, .inl (SqL.of hl), a, w, ns, n, xs.length, rfl, d, hn, by omega, fun r H1 h0 h1 d1 c1 => ?_⟩
  obtain ⟨j, rfl⟩ : ∃ j : Nat, r = (j : Int) := ⟨r.toNat, by omega⟩
  have hj : j < xs.length := by omega
  exact ⟨xs, xs[j], .inl (SqL.of (c1 l _ hne hl)), atI_nat (by simp [hj]), q _ H1 (List.getElem_mem hj) d1 c1⟩

/-! ### texts -/
def lFEW1 : List (List Nat) := [[97], [98], [65], [98, 55], [97, 98], [32], [32, 32], [40], [41], [91], [93], [123], [125], [46]]
def lFEW2 : List (List Nat) := [[44], [45], [10], [10], [32, 97], [120, 121, 122], [90]]
def sp_law_piece (K : PySem.W.Frag) : Sp := fun vs H Q _ => ∃ (a w : Addr) (ns : List Int) (n : Nat) (most : Nat), vs = [.ref a, .ref w, iv most] ∧ Dr K a w ns n H ∧ 0 < most ∧ most ≤ 100 ∧ n + 101 < 90000 ∧
  ∀ (t : List Nat) n' H', t.length ≤ 3 * most → (∀ c ∈ t, okSign [10] c = true) → n' ≤ n + most → Dr K a w ns n' H' → Ch w H H' → Q (sv t) H'
def b_law_piece (K : PySem.W.Frag) : Ss K :=
  (Ss.cons (Sm.set 3 (Ex.s ⟨#[]⟩))
  (Ss.cons (Sm.set 4 (Ex.lst (As.cons (Ex.s ⟨#[97]⟩) (As.cons (Ex.s ⟨#[98]⟩) (As.cons (Ex.s ⟨#[65]⟩) (As.cons (Ex.s ⟨#[98, 55]⟩) (As.cons (Ex.s ⟨#[97, 98]⟩) (As.cons (Ex.s ⟨#[32]⟩) (As.cons (Ex.s ⟨#[32, 32]⟩) (As.cons (Ex.s ⟨#[40]⟩) (As.cons (Ex.s ⟨#[41]⟩) (As.cons (Ex.s ⟨#[91]⟩) (As.cons (Ex.s ⟨#[93]⟩) (As.cons (Ex.s ⟨#[123]⟩) (As.cons (Ex.s ⟨#[125]⟩) (As.cons (Ex.s ⟨#[46]⟩) As.nil))))))))))))))))
  (Ss.cons (Sm.ex (Ex.lm Ml.extend (Ex.v 4) (As.cons (Ex.lst (As.cons (Ex.s ⟨#[44]⟩) (As.cons (Ex.s ⟨#[45]⟩) (As.cons (Ex.s ⟨#[10]⟩) (As.cons (Ex.s ⟨#[10]⟩) (As.cons (Ex.s ⟨#[32, 97]⟩) (As.cons (Ex.s ⟨#[120, 121, 122]⟩) (As.cons (Ex.s ⟨#[90]⟩) As.nil)))))))) As.nil)))
  (Ss.cons (Sm.for_ (Ir.rng1 (As.cons (Ex.call "_law_draw" (sp_law_draw K) (As.cons (Ex.v 0) (As.cons (Ex.v 1) (As.cons (Ex.v 2) As.nil)))) As.nil)) (Tg.v 5)
    (Ss.cons (Sm.set 3 (Ex.add (Ex.v 3) (Ex.call "_law_pick" (sp_law_pick K) (As.cons (Ex.v 0) (As.cons (Ex.v 1) (As.cons (Ex.v 4) As.nil))))))
    Ss.nil))
  (Ss.cons (Sm.ret (Ex.v 3))
  Ss.nil)))))
def N_law_piece : List Str := ["script", "town", "most", "made", "few", "k"]
theorem few_ok : ∀ p ∈ lFEW1 ++ lFEW2, p.length ≤ 3 ∧ ∀ c ∈ p, okSign [10] c = true := by decide +kernel
theorem sv_app (a b : List Nat) : (⟨a.toArray⟩ ++ ⟨b.toArray⟩ : Str) = ⟨(a ++ b).toArray⟩ := TL.ext_tl (by rw [TL.tl_append])
theorem rd_law_piece (K : PySem.W.Frag) : ∀ vs H Q E, sp_law_piece K vs H Q E → (b_law_piece K).t { nx := fun _ H' => Q .non H', rt := Q } (start N_law_piece vs) H := by
  rintro _ H Q E ⟨a, w, ns, n, most, rfl, d, hm0, hm, hn, q⟩
  refine ⟨by decide, fun l hl => ?_⟩
  refine ⟨⟨_, SqL.of upd_same⟩, by decide, fun l2 hl2 => ?_⟩
  have hne : l ≠ l2 := ne_of_none upd_same hl2
  refine ⟨lFEW1.map sv, lFEW2.map sv, ?_, ?_, by decide, ?_⟩
  · rw [upd_ne hne]; exact upd_same
  · exact upd_same
  have e0 : Xt H (upd H l (.lst (lFEW1.map sv))) := xt_new hl
  have e1 : Xt H (upd (upd H l (.lst (lFEW1.map sv))) l2 (.lst (lFEW2.map sv))) := e0.trans (xt_new hl2)
  have e2 : Xt H (upd (upd (upd H l (.lst (lFEW1.map sv))) l2 (.lst (lFEW2.map sv))) l (.lst ((lFEW1 ++ lFEW2).map sv))) := xt_mut e1 hl
  have hlw : l ≠ w := fun e => by
    obtain ⟨zs, h, _⟩ := d.twn
    rw [← e, hl] at h; cases h
  refine ⟨a, w, ns, n, most, rfl, d.xt e2, by omega, by omega, fun r H1 h0 h1 d1 c1 => ?_⟩
  obtain ⟨j, rfl⟩ : ∃ j : Nat, r = (j : Int) := ⟨r.toNat, by omega⟩
  refine ⟨j, rfl, by omega, by omega, fo_walk walk_range (fun i σ H' => ∃ (t : List Nat) (x : Option V) (n' : Nat), σ = [some (.ref a), some (.ref w), some (iv most), some (sv t), some (.ref l), x] ∧ t.length ≤ 3 * i ∧ (∀ c ∈ t, okSign [10] c = true) ∧ n' ≤ n + 1 + i ∧ Dr K a w ns n' H' ∧ Ch w H H' ∧ H' l = some (.lst ((lFEW1 ++ lFEW2).map sv))) ?_ (fun _ _ _ _ _ => trivial) ?_ ?_⟩
  · refine ⟨[], none, n + 1, rfl, by simp, (fun _ h => nomatch h), by omega, d1, (Ch.of e2).trans c1, c1 l _ hlw upd_same⟩
  · rintro i x σ H2 H3 hi ⟨t, y, n', rfl, ht, hc, hn', d2, c2, hl3⟩ ⟨rfl, rfl⟩
    have hi' : i < j := by simpa using hi
    refine ⟨a, w, l, ns, n', _, rfl, d2, by omega, hlw, hl3, by simp [lFEW1], fun x H4 hx d3 c3 => ?_⟩
    obtain ⟨p, hp, rfl⟩ := List.mem_map.mp hx
    obtain ⟨hp1, hp2⟩ := few_ok p hp
    refine ⟨sz (by rw [len_sv, len_sv]; omega), ?_⟩
    rw [sv_app]
    refine ⟨t ++ p, _, n' + 1, rfl, by simp; omega, fun c h => ?_, by omega, d3, c2.trans c3, c3 l _ hlw hl3⟩
    rcases List.mem_append.mp h with h | h
    · exact hc c h
    · exact hp2 c h
  · rintro σ H2 ⟨t, y, n', rfl, ht, hc, hn', d2, c2, hl3⟩
    have hj : (j : Int).toNat = j := by simp
    rw [hj] at ht hn'
    exact q t n' H2 (by omega) hc (by omega) d2 c2
end Ed

namespace Cb
open PySem L2
/-- a comprehension by an invariant over the turn and the heap -/
theorem lc_walkI {J : It} {n : Nat} {G : Hp → Prop} {Y : Nat → Hp → V → Hp → Prop} (w : Walk J n G Y) {g : TG} {tt : TT} {te : TE} {vs : List Nat} {σ : L2.St} {H1 : Hp} {Q : VK} (Pv : Addr → Nat → Hp → Prop)
    (h0 : ∀ D, H1 D = none → Pv D 0 (upd H1 D (.lst []))) (hG : ∀ D i H, H1 D = none → i ≤ n → Pv D i H → G H)
    (hs : ∀ D i x H H', H1 D = none → i < n → Pv D i H → Y i H x H' → g x (wipe σ vs) H' fun σ2 H2 => wipe σ2 vs = wipe σ vs ∧ tt σ2 H2 fun b H3 =>
      if b = true then te σ2 H3 fun y H4 => ∃ acc, H4 D = some (.lst acc) ∧ acc.length < sizeLine ∧ Pv D (i + 1) (upd H4 D (.lst (acc ++ [y]))) else Pv D (i + 1) H3)
    (hd : ∀ D H, H1 D = none → Pv D n H → Q (.ref D) H) : LcT J g tt te vs σ H1 Q := by
  unfold LcT
  intro D hD
  exact lc_it w (Pv D) (h0 D hD) (fun i H hi p => hG D i H hD hi p) (fun i x H H' hi p y => hs D i x H H' hD hi p y) (fun H p => hd D H hD p)
end Cb
namespace Ed
open PySem L2 Cb
open Evl (Ev EvT)
theorem joinL_nil : ∀ ps : List (List Nat), TL.joinL [] ps = ps.flatten
  | [] => rfl
  | [p] => by simp [TL.joinL]
  | p :: q :: r => by
    have ih := joinL_nil (q :: r)
    simp only [TL.joinL, List.nil_append, ih, List.flatten_cons]
theorem join_nil (ps : List (List Nat)) : Txt.join ⟨#[]⟩ (ps.map fun p => (⟨p.toArray⟩ : Str)) = ⟨ps.flatten.toArray⟩ := by
  apply TL.ext_tl
  rw [TL.join_eq, TL.tl_join]
  have e : (ps.map fun p => (⟨p.toArray⟩ : Str)).map TL.tl = ps := by
    rw [List.map_map]
    have : (TL.tl ∘ fun p : List Nat => (⟨p.toArray⟩ : Str)) = id := by funext p; rfl
    rw [this, List.map_id]
  rw [e]
  exact joinL_nil ps
theorem flatten_one (l : List Nat) : (l.map fun c => [c]).flatten = l := by
  induction l with
  | nil => rfl
  | cons a l ih => simp [ih]
theorem ones_len (l : List Nat) : ((List.map (fun p => (⟨p.toArray⟩ : Str)) (List.map (fun c => [c]) l)).map (·.length)).sum = l.length := by
  induction l with
  | nil => rfl
  | cons a l ih => simp [Str.length] at ih ⊢; omega
def sp_law_text (K : PySem.W.Frag) : Sp := fun vs H Q _ => ∃ (a w : Addr) (ns : List Int) (n : Nat) (most : Nat), vs = [.ref a, .ref w, iv most] ∧ Dr K a w ns n H ∧ 0 < most ∧ most ≤ 100 ∧ n + 200 < 90000 ∧
  ∀ (t : List Nat) n' H', isText t → n' ≤ n + 150 → Dr K a w ns n' H' → Ch w H H' → t.length ≤ max 30 (3 * most) → Q (sv t) H'
def cLETTERS : Str := ⟨(lWORD ++ lOTHERS).toArray⟩
def b_law_text (K : PySem.W.Frag) : Ss K :=
  (Ss.cons (Sm.set 3 (Ex.call "_law_draw" (sp_law_draw K) (As.cons (Ex.v 0) (As.cons (Ex.v 1) (As.cons (Ex.i 12) As.nil)))))
  (Ss.cons (Sm.ite (Te.cmp Cm.eq (Ex.v 3) (Ex.i 0))
    (Ss.cons (Sm.ret (Ex.s ⟨#[]⟩))
    Ss.nil)
    Ss.nil)
  (Ss.cons (Sm.ite (Te.cmp Cm.eq (Ex.v 3) (Ex.i 1))
    (Ss.cons (Sm.set 4 (Ex.s cLETTERS))
    (Ss.cons (Sm.ret (Ex.sm Ms.join (Ex.s ⟨#[]⟩) (As.cons (Ex.lc [("k", 5)] (Ir.rng1 (As.cons (Ex.call "_law_draw" (sp_law_draw K) (As.cons (Ex.v 0) (As.cons (Ex.v 1) (As.cons (Ex.i 30) As.nil)))) As.nil)) (Tg.v 5) Ifs.no (Ex.ix (Ex.v 4) (Ex.call "_law_draw" (sp_law_draw K) (As.cons (Ex.v 0) (As.cons (Ex.v 1) (As.cons (Ex.len (As.cons (Ex.v 4) As.nil)) As.nil)))))) As.nil)))
    Ss.nil))
    Ss.nil)
  (Ss.cons (Sm.ret (Ex.sl (Ex.call "_law_piece" (sp_law_piece K) (As.cons (Ex.v 0) (As.cons (Ex.v 1) (As.cons (Ex.v 2) As.nil)))) Op.no (Op.yes (Ex.i 200))))
  Ss.nil))))
def N_law_text : List Str := ["script", "town", "most", "kind", "letters", "k"]
theorem letters_ok : ∀ c ∈ lWORD ++ lOTHERS, okSign [10] c = true := by decide +kernel
theorem rd_law_text (K : PySem.W.Frag) : ∀ vs H Q E, sp_law_text K vs H Q E → (b_law_text K).t { nx := fun _ H' => Q .non H', rt := Q } (start N_law_text vs) H := by
  rintro _ H Q E ⟨a, w, ns, n, most, rfl, d, hm0, hm, hn, q⟩
  refine ⟨a, w, ns, n, 12, rfl, d, by omega, by omega, fun r H1 h0 h1 d1 c1 => ?_⟩
  refine br_d (fun hr => ?_) (fun hr => ?_)
  · exact q [] (n + 1) H1 ⟨by simp, fun _ h => nomatch h⟩ (by omega) d1 c1 (by simp)
  refine br_d (fun hr1 => ?_) (fun hr1 => ?_)
  · refine ⟨a, w, ns, n + 1, 30, rfl, d1, by omega, by omega, fun j H2 j0 j1 d2 c2 => ?_⟩
    obtain ⟨j, rfl⟩ : ∃ i : Nat, j = (i : Int) := ⟨j.toNat, by omega⟩
    have hjn : (j : Int).toNat = j := by simp
    refine ⟨j, rfl, by omega, by omega, lc_walkI walk_range (fun D i H' => ∃ (l : List Nat) (n' : Nat), H' D = some (.lst ((l.map fun c => [c]).map sv)) ∧ l.length = i ∧ (∀ c ∈ l, okSign [10] c = true) ∧ n' ≤ n + 2 + i ∧ Dr K a w ns n' H' ∧ Ch w H2 H') ?_ (fun _ _ _ _ _ _ => trivial) ?_ ?_⟩
    · intro D hD
      exact ⟨[], n + 2, upd_same, rfl, (fun _ h => nomatch h), by omega, d2.xt (xt_new hD), Ch.of (xt_new hD)⟩
    · rintro D i x H3 H4 hD hi ⟨l, n', hl, hli, hc, hn', d3, c3⟩ ⟨rfl, rfl⟩
      have hi' : i < j := by omega
      have hDw : D ≠ w := fun e => by
        obtain ⟨zs, h, _⟩ := d2.twn
        rw [← e, hD] at h; cases h
      refine ⟨rfl, ?_⟩
      refine ⟨sz (by decide), a, w, ns, n', 72, rfl, d3, by omega, by omega, fun r H5 r0 r1 d4 c4 => ?_⟩
      obtain ⟨r, rfl⟩ : ∃ i : Nat, r = (i : Int) := ⟨r.toNat, by omega⟩
      have hr : r < (lWORD ++ lOTHERS).length := by
        have : (lWORD ++ lOTHERS).length = 72 := by decide
        omega
      refine ⟨sz (by decide), (lWORD ++ lOTHERS)[r], atI_nat (by show (lWORD ++ lOTHERS)[r]? = _; rw [List.getElem?_eq_getElem hr]), ?_⟩
      have c5 : ∀ o, Ch w H2 (upd H5 D o) := fun o b u hb h => by
        have hbD : b ≠ D := fun e => by rw [e, hD] at h; cases h
        rw [upd_ne hbD]
        exact c4 b u hb (c3 b u hb h)
      refine ⟨_, c4 D _ hDw hl, szl (by simp; omega), l ++ [(lWORD ++ lOTHERS)[r]], n' + 1, ?_, by simp [hli], fun c h => ?_, by omega, ?_, ?_⟩
      · rw [upd_same]; simp
      · rcases List.mem_append.mp h with h | h
        · exact hc c h
        · rw [List.mem_singleton.mp h]
          exact letters_ok _ (List.getElem_mem hr)
      · refine ⟨(c5 _).seq d2.ne d2.scr, ?_, d4.ne, d4.few⟩
        obtain ⟨zs, h1, h2⟩ := d4.twn
        exact ⟨zs, by rw [upd_ne (Ne.symm hDw)]; exact h1, h2⟩
      · exact c5 _
    · rintro D H3 hD ⟨l, n', hl, hli, hc, hn', d3, c3⟩
      rw [hjn] at hli hn'
      refine ⟨(l.map fun c => [c]).map fun p => (⟨p.toArray⟩ : Str), .inl (SqL.of ?_), ?_, ?_⟩
      · rw [hl]; simp
      · rw [ones_len]
        simp [Str.length]; omega
      · rw [join_nil, flatten_one]
        exact q l n' H3 ⟨by omega, hc⟩ (by omega) d3 ((c1.trans c2).trans c3) (by omega)
  · refine ⟨a, w, ns, n + 1, most, rfl, d1, hm0, hm, by omega, fun t n' H2 ht hc hn' d2 c2 => ?_⟩
    refine ⟨sz (by rw [len_sv]; omega), ?_⟩
    have e : cutS ⟨t.toArray⟩ none (some 200) = ⟨(t.take 200).toArray⟩ := cut_toN t 200
    show Q (.str (cutS ⟨t.toArray⟩ none (some 200))) H2
    rw [e]
    exact q (t.take 200) n' H2 ⟨by simp; omega, fun c h => hc c (List.mem_of_mem_take h)⟩ (by omega) d2 (c1.trans c2) (by simp; omega)
/-- a place in a text -/
def sp_law_place (K : PySem.W.Frag) : Sp := fun vs H Q _ => ∃ (a w : Addr) (ns : List Int) (n : Nat) (t : List Nat), vs = [.ref a, .ref w, sv t] ∧ Dr K a w ns n H ∧ n + 10 < 90000 ∧ t.length ≤ 10000 ∧
  ∀ (p : Nat) H', p ≤ t.length → Dr K a w ns (n + 2) H' → Ch w H H' → Q (iv p) H'
def b_law_place (K : PySem.W.Frag) : Ss K :=
  (Ss.cons (Sm.ite (Te.cmp Cm.eq (Ex.call "_law_draw" (sp_law_draw K) (As.cons (Ex.v 0) (As.cons (Ex.v 1) (As.cons (Ex.i 6) As.nil)))) (Ex.i 0))
    (Ss.cons (Sm.ret (Ex.call "_law_pick" (sp_law_pick K) (As.cons (Ex.v 0) (As.cons (Ex.v 1) (As.cons (Ex.lst (As.cons (Ex.i 0) (As.cons (Ex.len (As.cons (Ex.v 2) As.nil)) As.nil))) As.nil)))))
    Ss.nil)
    Ss.nil)
  (Ss.cons (Sm.ret (Ex.call "_law_draw" (sp_law_draw K) (As.cons (Ex.v 0) (As.cons (Ex.v 1) (As.cons (Ex.add (Ex.len (As.cons (Ex.v 2) As.nil)) (Ex.i 1)) As.nil)))))
  Ss.nil))
def N_law_place : List Str := ["script", "town", "text"]
theorem Dr.fresh {K : PySem.W.Frag} {a w : Addr} {ns : List Int} {n : Nat} {H : Hp} {l : Addr} (d : Dr K a w ns n H) (h : H l = none) : l ≠ w := fun e => by
  obtain ⟨zs, h1, _⟩ := d.twn
  rw [← e, h] at h1; cases h1
theorem rd_law_place (K : PySem.W.Frag) : ∀ vs H Q E, sp_law_place K vs H Q E → (b_law_place K).t { nx := fun _ H' => Q .non H', rt := Q } (start N_law_place vs) H := by
  rintro _ H Q E ⟨a, w, ns, n, t, rfl, d, hn, ht, q⟩
  refine ⟨a, w, ns, n, 6, rfl, d, by omega, by omega, fun r H1 h0 h1 d1 c1 => ?_⟩
  refine br_d (fun hr => ?_) (fun hr => ?_)
  · refine ⟨sz (by rw [len_sv]; omega), by show 2 ≤ sizeLine; decide, fun l hl => ?_⟩
    refine ⟨a, w, l, ns, n + 1, _, rfl, d1.xt (xt_new hl), by omega, d1.fresh hl, upd_same, by simp, fun x H2 hx d2 c2 => ?_⟩
    have c3 : Ch w H H2 := (c1.trans (Ch.of (xt_new hl))).trans c2
    rcases List.mem_cons.mp hx with rfl | hx
    · exact q 0 H2 (Nat.zero_le _) d2 c3
    · rw [List.mem_singleton.mp hx]
      exact q t.length H2 (Nat.le_refl _) d2 c3
  · refine ⟨sz (by rw [len_sv]; omega), a, w, ns, n + 1, t.length + 1, rfl, d1, by omega, by omega, fun p H2 p0 p1 d2 c2 => ?_⟩
    obtain ⟨p, rfl⟩ : ∃ i : Nat, p = (i : Int) := ⟨p.toNat, by omega⟩
    exact q p H2 (by omega) d2 (c1.trans c2)
end Ed

/-! editheart.motions: which are motions -/
namespace Ed
open PySem L2 Cb
open Evl (Ev EvT)


/-- a motion -/
inductive Mo where
  | left (n : Nat) | right (n : Nat) | up (n : Nat) | down (n : Nat) | word (n : Nat) | over (n : Nat) | back (n : Nat)
  | begin | fin | first | top | bottom | row (r : Nat) | find (c : Nat) (n : Nat) | pair | mark (c : Nat) | search (p : List Nat) | again | before
def Mo.name : Mo → List Nat
  | .left _ => w_left | .right _ => w_right | .up _ => w_up | .down _ => w_down | .word _ => w_word | .over _ => w_over | .back _ => w_back
  | .begin => w_begin | .fin => w_end | .first => w_first | .top => w_top | .bottom => w_bottom | .row _ => w_row | .find _ _ => w_find | .pair => w_pair | .mark _ => w_mark | .search _ => w_search | .again => w_again | .before => w_before
def Mo.parts : Mo → List V
  | .left n => [iv n] | .right n => [iv n] | .up n => [iv n] | .down n => [iv n] | .word n => [iv n] | .over n => [iv n] | .back n => [iv n]
  | .begin => [] | .fin => [] | .first => [] | .top => [] | .bottom => [] | .row r => [iv r] | .find c n => [sv [c], iv n] | .pair => [] | .mark c => [sv [c]] | .search p => [sv p] | .again => [] | .before => []
def Mo.shape : Mo → List Nat
  | .left _ => [110] | .right _ => [110] | .up _ => [110] | .down _ => [110] | .word _ => [110] | .over _ => [110] | .back _ => [110]
  | .begin => [] | .fin => [] | .first => [] | .top => [] | .bottom => [] | .row _ => [114] | .find _ _ => [115, 110] | .pair => [] | .mark _ => [109] | .search _ => [116] | .again => [] | .before => []
def Mo.vs (m : Mo) : List V := sv m.name :: m.parts
def nOk (n : Nat) : Prop := 1 ≤ n ∧ n ≤ 9
def Mo.ok : Mo → Prop
  | .left n => nOk n | .right n => nOk n | .up n => nOk n | .down n => nOk n | .word n => nOk n | .over n => nOk n | .back n => nOk n
  | .row r => 1 ≤ r ∧ r ≤ 99
  | .find c n => okSign [] c = true ∧ nOk n
  | .mark c => c ∈ [97, 98, 99, 100]
  | .search p => 1 ≤ p.length ∧ p.length ≤ 5 ∧ ∀ c ∈ p, okSign [] c = true
  | _ => True
theorem sizes_mo (m : Mo) : kSIZES.lookup ⟨m.name.toArray⟩ = some (some (sv m.shape)) := by
  cases m <;> (simp only [Mo.name, Mo.shape]; decide +kernel)

def isNamed (x : V) (names : List Nat) : Bool := match x with
  | .str z => (match z.cps.toList with
    | [c] => decide (c ∈ names)
    | _ => false)
  | _ => false
def sp_is_named (K : PySem.W.Frag) : Sp := fun vs H Q _ => ∃ x names, vs = [x, .str names] ∧ Plain x H ∧ Short x ∧ Q (.bl (isNamed x names.cps.toList)) H
def b_is_named (K : PySem.W.Frag) : Ss K :=
  (Ss.cons (Sm.ret (Ex.and (Ex.isi (As.cons (Ex.v 0) (As.cons (Ex.ty "str" "str" boot_str) As.nil))) (Ex.and (Ex.cmp Cm.eq (Ex.len (As.cons (Ex.v 0) As.nil)) (Ex.i 1)) (Ex.one (Ex.cmp Cm.isin (Ex.v 0) (Ex.v 1))))))
  Ss.nil)
def N_is_named : List Str := ["thing", "names"]
theorem rd_is_named (K : PySem.W.Frag) : ∀ vs H Q E, sp_is_named K vs H Q E → (b_is_named K).t { nx := fun _ H' => Q .non H', rt := Q } (start N_is_named vs) H := by
  rintro _ H Q E ⟨x, names, rfl, hp, hs, q⟩
  cases x with
  | non => exact ⟨rfl, _, rfl, q⟩
  | bl b => exact ⟨rfl, _, rfl, q⟩
  | int i => exact ⟨rfl, _, rfl, q⟩
  | ref p =>
    rcases hp with ⟨xs, hp⟩ | ⟨xs, hp⟩
    · exact ⟨rfl, _, _, hp, rfl, q⟩
    · exact ⟨rfl, _, _, hp, rfl, q⟩
  | str z =>
    have hz : z.length ≤ 10000 := hs
    have hz2 : z.length = z.cps.toList.length := rfl
    refine ⟨rfl, _, rfl, sz (by omega), ?_⟩
    have e : isNamed (.str z) names.cps.toList = (match z.cps.toList with | [c] => decide (c ∈ names.cps.toList) | _ => false) := rfl
    rw [e] at q
    refine br_d (fun h => ?_) (fun h => ?_)
    · show (match z.cps.toList with
        | [c] => Q (.bl (decide (c ∈ names.cps.toList))) H
        | _ => Q (.bl (!(Builtin.Str.occurrences names z 0 names.length 1).isEmpty)) H)
      split
      · rename_i c hc
        rw [hc] at q; exact q
      · rename_i hc
        exfalso
        have : z.cps.toList.length = 1 := by omega
        obtain ⟨c, hc'⟩ := List.length_eq_one_iff.mp this
        exact hc c hc'
    · split at q
      · rename_i c hc
        rw [hz2, hc] at h
        exact absurd rfl h
      · exact q
  | _ => exact hp.elim
def isPart (c : Nat) (x : V) : Bool := if c = 110 then isWhole x 1 9 else if c = 114 then isWhole x 1 99 else if c = 115 then isNamed x (lWORD ++ lOTHERS) else if c = 109 then isNamed x [97, 98, 99, 100] else areSigns x 1 5 []
def sp_is_part (K : PySem.W.Frag) : Sp := fun vs H Q _ => ∃ c x, vs = [.str ⟨#[c]⟩, x] ∧ Plain x H ∧ Short x ∧ RetV (.bl (isPart c x)) H Q
def b_is_part (K : PySem.W.Frag) : Ss K :=
  (Ss.cons (Sm.ite (Te.cmp Cm.eq (Ex.v 0) (Ex.s ⟨#[110]⟩))
    (Ss.cons (Sm.ret (Ex.call "is_whole" (sp_is_whole K) (As.cons (Ex.v 1) (As.cons (Ex.i 1) (As.cons (Ex.g "TIMES" (.int 9)) As.nil)))))
    Ss.nil)
    Ss.nil)
  (Ss.cons (Sm.ite (Te.cmp Cm.eq (Ex.v 0) (Ex.s ⟨#[114]⟩))
    (Ss.cons (Sm.ret (Ex.call "is_whole" (sp_is_whole K) (As.cons (Ex.v 1) (As.cons (Ex.i 1) (As.cons (Ex.g "ROWS" (.int 99)) As.nil)))))
    Ss.nil)
    Ss.nil)
  (Ss.cons (Sm.ite (Te.cmp Cm.eq (Ex.v 0) (Ex.s ⟨#[115]⟩))
    (Ss.cons (Sm.ret (Ex.call "is_named" (sp_is_named K) (As.cons (Ex.v 1) (As.cons (Ex.add (Ex.g "WORD" (.str cWORD)) (Ex.g "OTHERS" (.str cOTHERS))) As.nil))))
    Ss.nil)
    Ss.nil)
  (Ss.cons (Sm.ite (Te.cmp Cm.eq (Ex.v 0) (Ex.s ⟨#[109]⟩))
    (Ss.cons (Sm.ret (Ex.call "is_named" (sp_is_named K) (As.cons (Ex.v 1) (As.cons (Ex.s ⟨#[97, 98, 99, 100]⟩) As.nil))))
    Ss.nil)
    Ss.nil)
  (Ss.cons (Sm.ret (Ex.call "are_signs" (sp_are_signs K) (As.cons (Ex.v 1) (As.cons (Ex.i 1) (As.cons (Ex.i 5) (As.cons (Ex.s ⟨#[]⟩) As.nil))))))
  Ss.nil)))))
def N_is_part : List Str := ["sign", "thing"]
theorem br_sv1 {c d : Nat} {A B : Prop} (h1 : c = d → A) (h2 : c ≠ d → B) : br (decide ((⟨#[c]⟩ : Str) = ⟨#[d]⟩)) A B := by
  rw [dec_sv1]
  exact br_d h1 h2
theorem rd_is_part (K : PySem.W.Frag) : ∀ vs H Q E, sp_is_part K vs H Q E → (b_is_part K).t { nx := fun _ H' => Q .non H', rt := Q } (start N_is_part vs) H := by
  rintro _ H Q E ⟨c, x, rfl, hp, hs, q⟩
  unfold isPart at q
  refine br_sv1 (fun h => ?_) (fun h => ?_)
  · rw [if_pos h] at q
    exact ⟨x, 1, 9, rfl, hp, q H (Xt.refl H)⟩
  rw [if_neg h] at q
  refine br_sv1 (fun h => ?_) (fun h => ?_)
  · rw [if_pos h] at q
    exact ⟨x, 1, 99, rfl, hp, q H (Xt.refl H)⟩
  rw [if_neg h] at q
  refine br_sv1 (fun h => ?_) (fun h => ?_)
  · rw [if_pos h] at q
    refine ⟨sz (by decide), x, _, rfl, hp, hs, ?_⟩
    have e5 : TL.tl (cWORD ++ cOTHERS : Str) = lWORD ++ lOTHERS := by rw [TL.tl_append]; rfl
    show Q (.bl (isNamed x (TL.tl (cWORD ++ cOTHERS : Str)))) H
    rw [e5]
    exact q H (Xt.refl H)
  rw [if_neg h] at q
  refine br_sv1 (fun h => ?_) (fun h => ?_)
  · rw [if_pos h] at q
    exact ⟨x, _, rfl, hp, hs, q H (Xt.refl H)⟩
  rw [if_neg h] at q
  exact ⟨x, 1, 5, [], rfl, hp, hs, by decide, q⟩
theorem parts_ok {m : Mo} (h : m.ok) : m.parts.length = m.shape.length ∧ ∀ (i c : Nat) (x : V), m.shape[i]? = some c → m.parts[i]? = some x → isPart c x = true ∧ Short x ∧ ∀ H, Plain x H := by
  have n9 : ∀ n, nOk n → isPart 110 (iv n) = true := fun n hn => by
    show (decide ((1 : Int) ≤ (n : Int)) && decide ((n : Int) ≤ 9)) = true
    unfold nOk at hn
    simp; omega
  refine ⟨by cases m <;> rfl, ?_⟩
  intro i c x hc hx
  cases m with
  | find d n =>
    rcases i with _ | _ | i
    · cases hc; cases hx
      refine ⟨?_, ?_, fun H => trivial⟩
      · have h1 := h.1
        unfold okSign at h1
        have h2 : d ∈ lWORD ++ lOTHERS := by simpa using of_decide_eq_true h1
        show decide (d ∈ lWORD ++ lOTHERS) = true
        exact decide_eq_true h2
      · show (1 : Nat) ≤ 10000
        decide
    · cases hc; cases hx
      exact ⟨n9 n h.2, trivial, fun H => trivial⟩
    · simp [Mo.shape] at hc
  | row r =>
    rcases i with _ | i
    · cases hc; cases hx
      refine ⟨?_, trivial, fun H => trivial⟩
      show (decide ((1 : Int) ≤ (r : Int)) && decide ((r : Int) ≤ 99)) = true
      have := h.1; have := h.2
      simp; omega
    · simp [Mo.shape] at hc
  | mark d =>
    rcases i with _ | i
    · cases hc; cases hx
      refine ⟨?_, ?_, fun H => trivial⟩
      · show decide (d ∈ [97, 98, 99, 100]) = true
        exact decide_eq_true h
      · show (1 : Nat) ≤ 10000
        decide
    · simp [Mo.shape] at hc
  | search p =>
    rcases i with _ | i
    · cases hc; cases hx
      obtain ⟨h1, h2, h3⟩ := h
      refine ⟨?_, ?_, fun H => trivial⟩
      · show (decide ((1 : Int) ≤ ((⟨p.toArray⟩ : Str).length : Int)) && decide (((⟨p.toArray⟩ : Str).length : Int) ≤ 5) && p.all (okSign [])) = true
        rw [len_sv]
        simp only [Bool.and_eq_true, decide_eq_true_eq, List.all_eq_true]
        exact ⟨⟨by omega, by omega⟩, h3⟩
      · show (⟨p.toArray⟩ : Str).length ≤ 10000
        rw [len_sv]; omega
    · simp [Mo.shape] at hc
  | left n => rcases i with _ | i <;> first | (cases hc; cases hx; exact ⟨n9 n h, trivial, fun H => trivial⟩) | simp [Mo.shape] at hc
  | right n => rcases i with _ | i <;> first | (cases hc; cases hx; exact ⟨n9 n h, trivial, fun H => trivial⟩) | simp [Mo.shape] at hc
  | up n => rcases i with _ | i <;> first | (cases hc; cases hx; exact ⟨n9 n h, trivial, fun H => trivial⟩) | simp [Mo.shape] at hc
  | down n => rcases i with _ | i <;> first | (cases hc; cases hx; exact ⟨n9 n h, trivial, fun H => trivial⟩) | simp [Mo.shape] at hc
  | word n => rcases i with _ | i <;> first | (cases hc; cases hx; exact ⟨n9 n h, trivial, fun H => trivial⟩) | simp [Mo.shape] at hc
  | over n => rcases i with _ | i <;> first | (cases hc; cases hx; exact ⟨n9 n h, trivial, fun H => trivial⟩) | simp [Mo.shape] at hc
  | back n => rcases i with _ | i <;> first | (cases hc; cases hx; exact ⟨n9 n h, trivial, fun H => trivial⟩) | simp [Mo.shape] at hc
  | _ => simp [Mo.shape] at hc
/-- a motion is one -/
def sp_is_motion (K : PySem.W.Frag) : Sp := fun vs H Q _ => ∃ (a : Addr) (m : Mo), vs = [.ref a] ∧ H a = some (.tup m.vs) ∧ m.ok ∧ RetV (.bl true) H Q
def b_is_motion (K : PySem.W.Frag) : Ss K :=
  (Ss.cons (Sm.ite (Te.w (Tw.or (Te.not (Te.val (Ex.isi (As.cons (Ex.v 0) (As.cons (Ex.ty "tuple" "tuple" boot_tuple) As.nil))))) (Tw.or (Te.cmp Cm.eq (Ex.len (As.cons (Ex.v 0) As.nil)) (Ex.i 0)) (Tw.or (Te.not (Te.val (Ex.isi (As.cons (Ex.ix (Ex.v 0) (Ex.i 0)) (As.cons (Ex.ty "str" "str" boot_str) As.nil))))) (Tw.one (Te.knotIn (Ex.ix (Ex.v 0) (Ex.i 0)) "SIZES" kSIZES))))))
    (Ss.cons (Sm.ret (Ex.b false))
    Ss.nil)
    Ss.nil)
  (Ss.cons (Sm.set 1 (Ex.kix "SIZES" kSIZES (Ex.ix (Ex.v 0) (Ex.i 0))))
  (Ss.cons (Sm.ret (Ex.and (Ex.cmp Cm.eq (Ex.len (As.cons (Ex.v 0) As.nil)) (Ex.add (Ex.len (As.cons (Ex.v 1) As.nil)) (Ex.i 1))) (Ex.one (Ex.all (As.cons (Ex.lc [("sign", 2), ("part", 3)] (Ir.zipST (As.cons (Ex.v 1) (As.cons (Ex.sl (Ex.v 0) (Op.yes (Ex.i 1)) Op.no) As.nil))) (Tg.tup (Tgs.cons (Tg.v 2) (Tgs.cons (Tg.v 3) Tgs.nil))) Ifs.no (Ex.call "is_part" (sp_is_part K) (As.cons (Ex.v 2) (As.cons (Ex.v 3) As.nil)))) As.nil)))))
  Ss.nil)))
def N_is_motion : List Str := ["thing", "shape", "sign", "part"]
theorem rep_bl (n : Nat) : List.replicate n (V.bl true) = (List.replicate n true).map V.bl := by simp
theorem all_rep (n : Nat) : (List.replicate n true).all id = true := by simp
theorem rd_is_motion (K : PySem.W.Frag) : ∀ vs H Q E, sp_is_motion K vs H Q E → (b_is_motion K).t { nx := fun _ H' => Q .non H', rt := Q } (start N_is_motion vs) H := by
  rintro _ H Q E ⟨a, m, rfl, ha, hok, q⟩
  obtain ⟨hlen, hparts⟩ := parts_ok hok
  have hS : SqT K H a m.vs := SqT.of ha
  have h0 : atI m.vs 0 = some (sv m.name) := atI_nat (j := 0) rfl
  refine ⟨rfl, _, _, ha, rfl, _, .inr hS, ?_⟩
  refine ⟨_, _, .inr hS, h0, rfl, _, rfl, ?_⟩
  refine ⟨_, _, .inr hS, h0, ?_⟩
  show (match kSIZES.lookup ⟨m.name.toArray⟩ with
    | some (some _) => _
    | some Option.none => _
    | Option.none => False)
  rw [sizes_mo]
  refine ⟨_, _, .inr hS, h0, ?_⟩
  show (match kSIZES.lookup ⟨m.name.toArray⟩ with
    | some (some v) => _
    | _ => False)
  rw [sizes_mo]
  have hl3 : m.shape.length ≤ 2 := by cases m <;> simp [Mo.shape]
  refine ⟨_, .inr hS, sz (by rw [len_sv]; omega), ?_⟩
  refine br_t (decide_eq_true (by show (m.vs.length : Int) = ((⟨m.shape.toArray⟩ : Str).length : Int) + 1; rw [len_sv]; simp [Mo.vs]; omega)) ?_
  have hnw : ¬ (HT.sIx m.vs.length 0 (some 1) = 0 ∧ HT.sIx m.vs.length m.vs.length none = m.vs.length) := by
    have e : HT.sIx m.vs.length 0 (some ((1 : Nat) : Int)) = min 1 m.vs.length := HT.sIx_nat _ _ 1
    have e' : HT.sIx m.vs.length 0 (some 1) = min 1 m.vs.length := e
    rw [e']
    simp [Mo.vs]
  refine .inr ⟨a, _, rfl, hS, fun h => absurd h hnw, fun _ b hb => ?_⟩
  have ecut : cutV m.vs (some 1) none = m.parts := by
    unfold cutV
    have e : HT.sIx m.vs.length 0 (some ((1 : Nat) : Int)) = min 1 m.vs.length := HT.sIx_nat _ _ 1
    have e' : HT.sIx m.vs.length 0 (some 1) = min 1 m.vs.length := e
    rw [e', HT.sIx_none]
    have e2 : min 1 m.vs.length = 1 := by simp [Mo.vs]
    rw [e2]
    simp [Mo.vs]
  rw [ecut]
  have eb : Xt H (upd H b (.tup m.parts)) := xt_new hb
  refine ⟨_, upd_same, ?_⟩
  refine lc_walk (walk_zipST (ys := m.parts)) (fun i => List.replicate i (V.bl true)) rfl ?_ (fun H' e => e b _ upd_same) ?_ (mono_two K 2 3) ?_
  · intro i hi
    simp at hi ⊢
    omega
  · rintro i x H2 H3 D hi ⟨c1, c2, c3⟩ ⟨T, c, y, rfl, hT, rfl, hc, hy⟩
    have hc' : m.shape[i]? = some c := by simpa using hc
    obtain ⟨p1, p2, p3⟩ := hparts i c y hc' hy
    refine ⟨T, _, rfl, SqT.of upd_same, rfl, rfl, rfl, true, .bl true, xt_mut c2 (xt_none c2 hT), ?_, evT_yes, fun _ => ?_, ?_⟩
    · rw [upd_ne (ne_of_none c3 hT)]; exact c3
    · intro H4 e4 Q' q'
      refine ⟨c, y, rfl, p3 _, p2, fun H5 e5 => ?_⟩
      rw [p1]
      exact q' H5 e5
    · simp [List.replicate_succ']
  · intro p H2 h1 e2 hp2
    refine ⟨_, SqL.of (by rw [hp2, rep_bl]), ?_⟩
    rw [all_rep]
    exact q H2 (eb.trans e2)
def sp_need_motion (K : PySem.W.Frag) : Sp := fun vs H Q _ => ∃ (a : Addr) (m : Mo), vs = [.ref a] ∧ H a = some (.tup m.vs) ∧ m.ok ∧ RetV .non H Q
def b_need_motion (K : PySem.W.Frag) : Ss K :=
  (Ss.cons (Sm.ite (Te.not (Te.val (Ex.call "is_motion" (sp_is_motion K) (As.cons (Ex.v 0) As.nil))))
    (Ss.cons Sm.never
    Ss.nil)
    Ss.nil)
  Ss.nil)
def N_need_motion : List Str := ["thing"]
theorem rd_need_motion (K : PySem.W.Frag) : ∀ vs H Q E, sp_need_motion K vs H Q E → (b_need_motion K).t { nx := fun _ H' => Q .non H', rt := Q } (start N_need_motion vs) H := by
  rintro _ H Q E ⟨a, m, rfl, ha, hok, q⟩
  exact ⟨a, m, rfl, ha, hok, q⟩
end Ed

/-! is_part where TIMES is named by its module -/
namespace Ed
open PySem L2 Cb
def sp_is_part7 (K : PySem.W.Frag) : Sp := fun vs H Q _ => ∃ c x, vs = [.str ⟨#[c]⟩, x] ∧ Plain x H ∧ Short x ∧ RetV (.bl (isPart c x)) H Q
def b_is_part7 (K : PySem.W.Frag) : Ss K :=
  (Ss.cons (Sm.ite (Te.cmp Cm.eq (Ex.v 0) (Ex.s ⟨#[110]⟩))
    (Ss.cons (Sm.ret (Ex.call "is_whole" (sp_is_whole K) (As.cons (Ex.v 1) (As.cons (Ex.i 1) (As.cons (Ex.g "TIMES_motions" (.int 9)) As.nil)))))
    Ss.nil)
    Ss.nil)
  (Ss.cons (Sm.ite (Te.cmp Cm.eq (Ex.v 0) (Ex.s ⟨#[114]⟩))
    (Ss.cons (Sm.ret (Ex.call "is_whole" (sp_is_whole K) (As.cons (Ex.v 1) (As.cons (Ex.i 1) (As.cons (Ex.g "ROWS" (.int 99)) As.nil)))))
    Ss.nil)
    Ss.nil)
  (Ss.cons (Sm.ite (Te.cmp Cm.eq (Ex.v 0) (Ex.s ⟨#[115]⟩))
    (Ss.cons (Sm.ret (Ex.call "is_named" (sp_is_named K) (As.cons (Ex.v 1) (As.cons (Ex.add (Ex.g "WORD" (.str cWORD)) (Ex.g "OTHERS" (.str cOTHERS))) As.nil))))
    Ss.nil)
    Ss.nil)
  (Ss.cons (Sm.ite (Te.cmp Cm.eq (Ex.v 0) (Ex.s ⟨#[109]⟩))
    (Ss.cons (Sm.ret (Ex.call "is_named" (sp_is_named K) (As.cons (Ex.v 1) (As.cons (Ex.s ⟨#[97, 98, 99, 100]⟩) As.nil))))
    Ss.nil)
    Ss.nil)
  (Ss.cons (Sm.ret (Ex.call "are_signs" (sp_are_signs K) (As.cons (Ex.v 1) (As.cons (Ex.i 1) (As.cons (Ex.i 5) (As.cons (Ex.s ⟨#[]⟩) As.nil))))))
  Ss.nil)))))
def N_is_part7 : List Str := ["sign", "thing"]
theorem rd_is_part7 (K : PySem.W.Frag) : ∀ vs H Q E, sp_is_part7 K vs H Q E → (b_is_part7 K).t { nx := fun _ H' => Q .non H', rt := Q } (start N_is_part7 vs) H := rd_is_part K
end Ed

/-! the law's rows; to_row -/
namespace Ed
open PySem L2 Cb
open Evl (Ev EvT)

def sp_law_rows (K : PySem.W.Frag) : Sp := fun vs H Q _ => ∃ (t : List Nat), vs = [sv t] ∧ t.length ≤ 10000 ∧ RetL ((Tx.rows t).map sv) H Q
def b_law_rows (K : PySem.W.Frag) : Ss K :=
  (Ss.cons (Sm.set 1 (Ex.lst (As.cons (Ex.s ⟨#[]⟩) As.nil)))
  (Ss.cons (Sm.for_ (Ir.str (Ex.v 0)) (Tg.v 2)
    (Ss.cons (Sm.ite (Te.cmp Cm.eq (Ex.v 2) (Ex.s ⟨#[10]⟩))
      (Ss.cons (Sm.ex (Ex.lm Ml.append (Ex.v 1) (As.cons (Ex.s ⟨#[]⟩) As.nil)))
      Ss.nil)
      (Ss.cons (Sm.asg (Tg.ix (Ex.v 1) (Ex.neg 1)) (Ex.add (Ex.ix (Ex.v 1) (Ex.neg 1)) (Ex.v 2)))
      Ss.nil))
    Ss.nil))
  (Ss.cons (Sm.ret (Ex.v 1))
  Ss.nil)))
def N_law_rows : List Str := ["text", "rows", "sign"]
theorem rows_split (t : List Nat) : ∃ ys v, Tx.rows t = ys ++ [v] := by
  have h := Tx.rows_ne t
  exact ⟨_, _, (List.dropLast_concat_getLast h).symm⟩
theorem rows_len (t : List Nat) : (Tx.rows t).length ≤ t.length + 1 := by
  induction t with
  | nil => simp [Tx.rows]
  | cons c t ih =>
    by_cases hc : c = 10
    · subst hc; rw [Tx.rows_nl]; simp; exact ih
    · obtain ⟨a, r, e1, e2⟩ := Tx.rows_other hc t
      rw [e2]; rw [e1] at ih; simp at ih ⊢; omega
theorem row_short {t : List Nat} {v : List Nat} (h : v ∈ Tx.rows t) : v.length ≤ t.length := by
  obtain ⟨r, hr, e⟩ := List.getElem_of_mem h
  have := Tx.offs_le t r v (by rw [List.getElem?_eq_getElem hr, e])
  omega
theorem ixN_last (n : Nat) : ixN (n + 1) (-1) = some n := by
  unfold ixN
  rw [if_neg (by decide), if_pos (by omega)]
  congr 1; omega
theorem set_last {α : Type} (ys : List α) (v w : α) : (ys ++ [v]).set ys.length w = ys ++ [w] := by
  simp
theorem rd_law_rows (K : PySem.W.Frag) : ∀ vs H Q E, sp_law_rows K vs H Q E → (b_law_rows K).t { nx := fun _ H' => Q .non H', rt := Q } (start N_law_rows vs) H := by
  rintro _ H Q E ⟨t, rfl, ht, q⟩
  refine ⟨by decide, fun l hl => ?_⟩
  refine ⟨_, rfl, fo_walk walk_str (fun i σ H' => ∃ x, σ = [some (sv t), some (.ref l), x] ∧ Xt H H' ∧ H' l = some (.lst ((Tx.rows (t.take i)).map sv))) ?_ (fun _ _ _ _ _ => trivial) ?_ ?_⟩
  · exact ⟨none, rfl, xt_new hl, by rw [upd_same]; rfl⟩
  · rintro i x σ H2 H3 hi ⟨y, rfl, e2, h2⟩ ⟨rfl, c, hc, rfl⟩
    have hc' : t[i]? = some c := by simpa using hc
    obtain ⟨ys, v, ev⟩ := rows_split (t.take i)
    have hn : (ys ++ [v]).length ≤ t.length + 1 := by
      rw [← ev]
      have := rows_len (t.take i)
      simp at this ⊢; omega
    have hv : v.length ≤ t.length := by
      have := row_short (t := t.take i) (v := v) (by rw [ev]; simp)
      simp at this; omega
    have es := Tx.rows_snoc (t.take i) c ys v ev
    rw [← take_snoc hc'] at es
    rw [ev] at h2
    refine br_sv1 (fun h => ?_) (fun h => ?_)
    · rw [if_pos h] at es
      refine ⟨⟨_, SqL.of h2⟩, _, h2, szl (by simp at hn ⊢; omega), _, rfl, xt_mut e2 hl, ?_⟩
      rw [upd_same, es]; simp
    · rw [if_neg h] at es
      have h2' : H3 l = some (.lst (ys.map sv ++ [sv v])) := by rw [h2]; simp
      refine ⟨_, _, .inl (SqL.of h2'), atI_last _ _, sz (by rw [len_sv]; show v.length + 1 ≤ 100000; omega), ?_⟩
      refine ⟨l, _, -1, ys.length, rfl, rfl, h2', ?_, _, rfl, xt_mut e2 hl, ?_⟩
      · have : (ys.map sv ++ [sv v]).length = ys.length + 1 := by simp
        rw [this]; exact ixN_last _
      · have e3 : (ys.map sv ++ [sv v]).set ys.length (.str (⟨v.toArray⟩ ++ ⟨#[c]⟩)) = (ys ++ [v ++ [c]]).map sv := by
          have e4 : (⟨v.toArray⟩ ++ ⟨#[c]⟩ : Str) = ⟨(v ++ [c]).toArray⟩ := sv_app v [c]
          rw [e4]
          have := set_last (ys.map sv) (sv v) (sv (v ++ [c]))
          rw [List.length_map] at this
          rw [this]; simp
        rw [upd_same, es]
        exact congrArg (fun z => some (HO.lst z)) e3
  · rintro σ H2 ⟨y, rfl, e2, h2⟩
    have : t.take (⟨t.toArray⟩ : Str).cps.size = t := by simp
    rw [this] at h2
    exact q l H2 hl e2 h2
def sp_law_spot (K : PySem.W.Frag) : Sp := fun vs H Q _ => ∃ (t : List Nat) (p : Nat), vs = [sv t, iv p] ∧ t.length ≤ 10000 ∧ p ≤ t.length ∧ RetT [iv (Tx.rowOf t p), iv (Tx.colOf t p)] H Q
def b_law_spot (K : PySem.W.Frag) : Ss K :=
  (Ss.cons (Sm.set 2 (Ex.i 0))
  (Ss.cons (Sm.set 3 (Ex.i 0))
  (Ss.cons (Sm.for_ (Ir.str (Ex.sl (Ex.v 0) Op.no (Op.yes (Ex.v 1)))) (Tg.v 4)
    (Ss.cons (Sm.set 3 (Ex.add (Ex.v 3) (Ex.i 1)))
    (Ss.cons (Sm.ite (Te.cmp Cm.eq (Ex.v 4) (Ex.s ⟨#[10]⟩))
      (Ss.cons (Sm.set 2 (Ex.add (Ex.v 2) (Ex.i 1)))
      (Ss.cons (Sm.set 3 (Ex.i 0))
      Ss.nil))
      Ss.nil)
    Ss.nil)))
  (Ss.cons (Sm.ret (Ex.tup (As.cons (Ex.v 2) (As.cons (Ex.v 3) As.nil))))
  Ss.nil))))
def N_law_spot : List Str := ["text", "place", "row", "column", "sign"]
theorem rd_law_spot (K : PySem.W.Frag) : ∀ vs H Q E, sp_law_spot K vs H Q E → (b_law_spot K).t { nx := fun _ H' => Q .non H', rt := Q } (start N_law_spot vs) H := by
  rintro _ H Q E ⟨t, p, rfl, ht, hp, q⟩
  refine ⟨sz (by rw [len_sv]; omega), ?_⟩
  rw [cut_to hp]
  refine ⟨_, rfl, fo_walk walk_str (fun i σ H' => ∃ x, σ = [some (sv t), some (iv p), some (iv (Tx.rowOf t i)), some (iv (Tx.colOf t i)), x] ∧ H' = H) ?_ (fun _ _ _ _ _ => trivial) ?_ ?_⟩
  · refine ⟨none, ?_, rfl⟩
    have e1 : Tx.rowOf t 0 = 0 := by cases t <;> rfl
    have e2 : Tx.colOf t 0 = 0 := by simp [Tx.colOf]
    rw [e1, e2]; rfl
  · rintro i x σ H2 H3 hi ⟨y, rfl, rfl⟩ ⟨rfl, c, hc, rfl⟩
    have hi' : i < p := by
      have : i < (t.take p).length := by simpa using hi
      simp at this; omega
    have hc' : t[i]? = some c := by
      have : (t.take p)[i]? = some c := by simpa using hc
      rwa [List.getElem?_take_of_lt hi'] at this
    have hb := Tx.begin_step hc'
    have hr := Tx.row_step hc'
    obtain ⟨b1, _, _⟩ := Tx.begin_spec t i (by omega)
    refine br_sv1 (fun h => ?_) (fun h => ?_)
    · rw [if_pos h] at hb hr
      refine ⟨some (sv [c]), ?_, rfl⟩
      have e2 : Tx.colOf t (i + 1) = 0 := by simp [Tx.colOf, hb]
      rw [hr, e2]; rfl
    · rw [if_neg h] at hb hr
      refine ⟨some (sv [c]), ?_, rfl⟩
      have e2 : Tx.colOf t (i + 1) = Tx.colOf t i + 1 := by simp [Tx.colOf, hb]; omega
      rw [hr, e2]; rfl
  · rintro σ H2 ⟨y, rfl, rfl⟩
    have e : (⟨(t.take p).toArray⟩ : Str).cps.size = p := by simp; omega
    rw [e]
    refine ⟨by show 2 ≤ sizeLine; decide, fun l hl => ?_⟩
    exact q l _ hl (xt_new hl) upd_same
def sp_law_back (K : PySem.W.Frag) : Sp := fun vs H Q _ => ∃ (l : Addr) (rs : List (List Nat)) (r : Nat) (c : Nat) (v : List Nat), vs = [.ref l, iv r, iv c] ∧ H l = some (.lst (rs.map sv)) ∧ rs[r]? = some v ∧ (∀ u ∈ rs, u.length ≤ 10000) ∧ rs.length ≤ 20000 ∧ RetV (iv (Tx.offs rs r + min c v.length)) H Q
def b_law_back (K : PySem.W.Frag) : Ss K :=
  (Ss.cons (Sm.ret (Ex.add (Ex.sum (As.cons (Ex.lc [("line", 3)] (Ir.list (Ex.sl (Ex.v 0) Op.no (Op.yes (Ex.v 1)))) (Tg.v 3) Ifs.no (Ex.add (Ex.len (As.cons (Ex.v 3) As.nil)) (Ex.i 1))) As.nil)) (Ex.min (As.cons (Ex.v 2) (As.cons (Ex.len (As.cons (Ex.ix (Ex.v 0) (Ex.v 1)) As.nil)) As.nil)))))
  Ss.nil)
def N_law_back : List Str := ["rows", "row", "column", "line"]
theorem cutV_to {xs : List V} (p : Nat) : cutV xs none (some (p : Int)) = xs.take p := by
  unfold cutV
  rw [HT.sIx_none, HT.sIx_nat, List.drop_zero, Nat.sub_zero]
  exact List.take_eq_take_iff.mpr (by omega)
theorem sum_cast (l : List Nat) : ((l.map fun (n : Nat) => (n : Int)).sum) = ((l.sum : Nat) : Int) := by
  induction l with
  | nil => rfl
  | cons a l ih => simp [ih]
theorem rd_law_back (K : PySem.W.Frag) : ∀ vs H Q E, sp_law_back K vs H Q E → (b_law_back K).t { nx := fun _ H' => Q .non H', rt := Q } (start N_law_back vs) H := by
  rintro _ H Q E ⟨l, rs, r, c, v, rfl, hl, hr, hu, hrs, q⟩
  have hrl : r < rs.length := (List.getElem?_eq_some_iff.mp hr).1
  refine .inl ⟨l, _, rfl, SqL.of hl, fun p hp => ?_⟩
  rw [cutV_to]
  have e1 : Xt H (upd H p (.lst ((rs.map sv).take r))) := xt_new hp
  refine ⟨p, rfl, ⟨_, SqL.of upd_same⟩, lc_walk (walk_list (xs := (rs.map sv).take r)) (fun i => ((rs.take i).map fun u => iv (u.length + 1))) rfl ?_ (fun H' e => SqL.of (e p _ upd_same)) ?_ (mono_name 3) ?_⟩
  · intro i hi
    simp at hi ⊢; omega
  · rintro i x H2 H3 D hi ⟨c1, c2, c3⟩ ⟨rfl, hx⟩
    have hi' : i < r := by simp at hi; omega
    have hx' : (rs.map sv)[i]? = some x := by rwa [List.getElem?_take_of_lt hi'] at hx
    rw [List.getElem?_map] at hx'
    obtain ⟨u, hu', rfl⟩ := Option.map_eq_some_iff.mp hx'
    have hul : u.length ≤ 10000 := hu u (List.mem_of_getElem? hu')
    refine ⟨rfl, true, iv (u.length + 1), c2, c3, evT_yes, fun _ => ?_, ?_⟩
    · intro H4 e4 Q' q'
      exact ⟨sz (by rw [len_sv]; omega), q' H4 (Xt.refl H4)⟩
    · rw [take_snoc hu']; simp
  · intro p2 H2 h1 e2 hp2
    have elen : ((rs.map sv).take r).length = r := by simp; omega
    rw [elen] at hp2
    have e3 : Xt H H2 := e1.trans e2
    refine ⟨((rs.take r).map fun u => u.length + 1).map fun (n : Nat) => (n : Int), SqL.of ?_, ?_⟩
    · rw [hp2, List.map_map, List.map_map]; rfl
    · have hvl : v.length ≤ 10000 := hu v (List.mem_of_getElem? hr)
      refine ⟨_, sv v, .inl (SqL.of (e3 l _ hl)), atI_nat (by rw [List.getElem?_map, hr]; rfl), sz (by rw [len_sv]; omega), ?_⟩
      rw [sum_cast]
      have e5 : (((((rs.take r).map fun u => u.length + 1).sum : Nat) : Int) + min (c : Int) (((⟨v.toArray⟩ : Str).length : Nat) : Int)) = ((Tx.offs rs r + min c v.length : Nat) : Int) := by
        rw [len_sv]
        show _ = (((((rs.take r).map fun u => u.length + 1).sum + min c v.length : Nat) : Int))
        omega
      have g := q H2 e3
      unfold iv at g
      rw [← e5] at g
      exact g

/-! ### to_row -/
def vo : Option Nat → V
  | none => .non
  | some n => iv n
def sp_to_row (K : PySem.W.Frag) : Sp := fun vs H Q _ => ∃ (t : List Nat) (r : Int) (c : Nat), vs = [sv t, .int r, iv c] ∧ t.length ≤ 10000 ∧ RetV (vo (Tx.toRow t r c)) H Q
def b_to_row (K : PySem.W.Frag) : Ss K :=
  (Ss.cons (Sm.set 3 (Ex.call "begins" (sp_begins K) (As.cons (Ex.v 0) As.nil)))
  (Ss.cons (Sm.ite (Te.not (Te.chain Cm.le Cm.lt (Ex.i 0) (Ex.v 1) (Ex.len (As.cons (Ex.v 3) As.nil))))
    (Ss.cons (Sm.ret Ex.none)
    Ss.nil)
    Ss.nil)
  (Ss.cons (Sm.ret (Ex.min (As.cons (Ex.add (Ex.ix (Ex.v 3) (Ex.v 1)) (Ex.v 2)) (As.cons (Ex.call "end_of" (sp_end_of K) (As.cons (Ex.v 0) (As.cons (Ex.ix (Ex.v 3) (Ex.v 1)) As.nil))) As.nil))))
  Ss.nil)))
def N_to_row : List Str := ["text", "number", "column", "some"]
theorem rd_to_row (K : PySem.W.Frag) : ∀ vs H Q E, sp_to_row K vs H Q E → (b_to_row K).t { nx := fun _ H' => Q .non H', rt := Q } (start N_to_row vs) H := by
  rintro _ H Q E ⟨t, r, c, rfl, ht, q⟩
  refine ⟨t, rfl, ht, fun p H1 hp e1 h1 => ?_⟩
  have hlen : (nats (Tx.begins t)).length = (Tx.rows t).length := by simp [nats, Tx.begins_length]
  unfold Tx.toRow at q
  refine br_d (fun h0 => ?_) (fun h0 => ?_)
  · rw [if_pos h0] at q
    obtain ⟨r, rfl⟩ : ∃ i : Nat, r = (i : Int) := ⟨r.toNat, by omega⟩
    refine ⟨_, .inl (SqL.of h1), ?_⟩
    show br (!decide (((r : Nat) : Int) < ((nats (Tx.begins t)).length : Int))) _ _
    rw [hlen]
    have er : (r : Int).toNat = r := by simp
    rw [er] at q
    by_cases hr : r < (Tx.rows t).length
    · have hd : decide (((r : Nat) : Int) < ((Tx.rows t).length : Int)) = true := decide_eq_true (by omega)
      rw [hd]
      have hl : (Tx.rows t)[r]? = some (Tx.rows t)[r] := List.getElem?_eq_getElem hr
      rw [hl] at q
      have hb := Tx.begins_at t r hr
      have hat : atI (nats (Tx.begins t)) (r : Int) = some (iv (Tx.offs (Tx.rows t) r)) := atI_nat (by unfold nats; rw [List.getElem?_map, hb]; rfl)
      have hle := Tx.offs_le t r _ hl
      refine ⟨_, _, .inl (SqL.of h1), hat, ?_⟩
      refine ⟨_, _, .inl (SqL.of h1), hat, ?_⟩
      refine ⟨t, Tx.offs (Tx.rows t) r, rfl, ht, by omega, ?_⟩
      rw [Tx.end_at t r _ hl]
      have e5 : min (((Tx.offs (Tx.rows t) r : Nat) : Int) + (c : Int)) ((Tx.offs (Tx.rows t) r + (Tx.rows t)[r].length : Nat) : Int) = ((Tx.offs (Tx.rows t) r + min c (Tx.rows t)[r].length : Nat) : Int) := by omega
      have g := q H1 e1
      show Q (.int (min (((Tx.offs (Tx.rows t) r : Nat) : Int) + (c : Int)) ((Tx.offs (Tx.rows t) r + (Tx.rows t)[r].length : Nat) : Int))) H1
      rw [e5]
      exact g
    · have hd : decide (((r : Nat) : Int) < ((Tx.rows t).length : Int)) = false := decide_eq_false (by omega)
      rw [hd]
      rw [List.getElem?_eq_none (by omega)] at q
      exact q H1 e1
  · rw [if_neg h0] at q
    exact q H1 e1
end Ed

namespace Cb
open PySem L2
variable {K : PySem.W.Frag}
/-- x[::-1] of a list -/
def Ex.rev (a : Ex K) : Ex K where
  t := fun σ H Q => a.t σ H (onR fun p H1 => ∃ xs, SqL K H1 p xs ∧ ∀ q, H1 q = Option.none → Q (.ref q) (upd H1 q (.lst xs.reverse)))
  chk := fun Γ e => match e with
    | .Subscript x (.Slice Option.none Option.none (some (.UnaryOp .USub (.Constant (.int 1) _ _) _)) _) _ => a.chk Γ x
    | _ => false
  has := fun h => a.has h
  sound := by
    intro X Γ h e c hk hh hc
    split at hc
    · have ek : X.K = K := c.K.trans hk
      subst ek
      obtain ⟨hp⟩ := a.sound c hk hh hc
      refine PE.imp (pe_revL ⟨hp⟩) fun σ H Q q => ?_
      show a.t σ H _
      have e : (onR fun p H1 => ∃ xs, SqL X.K H1 p xs ∧ ∀ q, H1 q = Option.none → Q (.ref q) (upd H1 q (.lst xs.reverse))) = fun x H1 => ∃ a xs, x = .ref a ∧ SqL X.K H1 a xs ∧ ∀ p, H1 p = Option.none → Q (.ref p) (upd H1 p (.lst xs.reverse)) := by
        funext x H1
        apply propext
        constructor
        · intro z
          obtain ⟨p, rfl, xs, z1, z2⟩ := onR_i z
          exact ⟨p, xs, rfl, z1, z2⟩
        · rintro ⟨p, xs, rfl, z1, z2⟩
          exact ⟨xs, z1, z2⟩
      rw [← e]; exact q
    · exact absurd hc Bool.false_ne_true
end Cb
namespace Ed
open PySem L2 Cb
open Evl (Ev EvT)
/-- a comprehension over what is known, item by item: the kept ones, each as told -/
theorem lc_flt {α : Type} {J : It} {n : Nat} {G : Hp → Prop} {Y : Nat → Hp → V → Hp → Prop} (w : Walk J n G Y) (xs : List α) (hn : n = xs.length) (item : α → V) (p : α → Bool) (out : α → V) {k : Nat} {tt : TT} {te : TE} {σ : L2.St} {H1 : Hp} {Q : VK}
    (hl : xs.length < 100000) (hG : ∀ H', Xt H1 H' → G H') (hY : ∀ i x H H', i < xs.length → Y i H x H' → H' = H ∧ ∃ a, xs[i]? = some a ∧ x = item a)
    (hw : ∀ v, wipe ((wipe σ [k]).set k v) [k] = wipe σ [k])
    (hs : ∀ a ∈ xs, EvT tt ((wipe σ [k]).set k (some (item a))) H1 (p a) ∧ (p a = true → Ev te ((wipe σ [k]).set k (some (item a))) H1 (out a)))
    (hd : RetL ((xs.filter p).map out) H1 Q) :
    LcT J (gName k) tt te [k] σ H1 Q := by
  refine lc_walk w (fun i => ((xs.take i).filter p).map out) rfl ?_ hG ?_ (mono_name k) ?_
  · intro i hi
    have h1 : ((xs.take i).filter p).length ≤ (xs.take i).length := List.length_filter_le _ _
    simp at h1 ⊢
    omega
  · intro i x H H' D hi hC hy
    obtain ⟨c1, c2, c3⟩ := hC
    obtain ⟨rfl, a, ha, rfl⟩ := hY i x H H' (by omega) hy
    obtain ⟨s1, s2⟩ := hs a (List.mem_of_getElem? ha)
    refine ⟨hw _, p a, out a, c2, c3, s1, s2, ?_⟩
    rw [take_snoc ha, List.filter_append, List.map_append]
    cases h : p a <;> simp [h]
  · intro q H2 h1 e2 h2
    refine hd q H2 h1 e2 ?_
    rw [h2, hn, List.take_length]
theorem lc_fltL {α : Type} {K : PySem.W.Frag} {a : Addr} (xs : List α) (item : α → V) (p : α → Bool) (out : α → V) {k : Nat} {tt : TT} {te : TE} {σ : L2.St} {H1 : Hp} {Q : VK}
    (ha : H1 a = some (.lst (xs.map item))) (hl : xs.length < 100000)
    (hw : ∀ v, wipe ((wipe σ [k]).set k v) [k] = wipe σ [k])
    (hs : ∀ a ∈ xs, EvT tt ((wipe σ [k]).set k (some (item a))) H1 (p a) ∧ (p a = true → Ev te ((wipe σ [k]).set k (some (item a))) H1 (out a)))
    (hd : RetL ((xs.filter p).map out) H1 Q) :
    LcT (Itl K a) (gName k) tt te [k] σ H1 Q := by
  refine lc_flt (walk_list (xs := xs.map item)) xs (by simp) item p out hl (fun H' e => SqL.of (e a _ ha)) ?_ hw hs hd
  rintro i x H H' hi ⟨rfl, hx⟩
  rw [List.getElem?_map] at hx
  obtain ⟨u, hu, rfl⟩ := Option.map_eq_some_iff.mp hx
  exact ⟨rfl, u, hu, rfl⟩
theorem lc_fltR {lo n : Nat} (p : Nat → Bool) (out : Nat → V) {k : Nat} {tt : TT} {te : TE} {σ : L2.St} {H1 : Hp} {Q : VK}
    (hl : n < 100000)
    (hw : ∀ v, wipe ((wipe σ [k]).set k v) [k] = wipe σ [k])
    (hs : ∀ a, lo ≤ a → a < lo + n → EvT tt ((wipe σ [k]).set k (some (iv a))) H1 (p a) ∧ (p a = true → Ev te ((wipe σ [k]).set k (some (iv a))) H1 (out a)))
    (hd : RetL (((List.range' lo n).filter p).map out) H1 Q) :
    LcT (Itr (lo : Int) n) (gName k) tt te [k] σ H1 Q := by
  refine lc_flt walk_range (List.range' lo n) (by simp) iv p out (by simpa using hl) (fun _ _ => trivial) ?_ hw ?_ hd
  · rintro i x H H' hi ⟨rfl, rfl⟩
    have hi' : i < n := by simpa using hi
    refine ⟨rfl, lo + i, ?_, ?_⟩
    · rw [List.getElem?_range' hi']; simp
    · show V.int ((lo : Int) + (i : Int)) = V.int ((lo + i : Nat) : Int)
      congr 1
  · intro a ha
    have := List.mem_range'_1.mp ha
    exact hs a this.1 this.2
theorem lc_fltS {t : List Nat} (p : Nat → Bool) (out : Nat → V) {k : Nat} {tt : TT} {te : TE} {σ : L2.St} {H1 : Hp} {Q : VK}
    (hl : t.length < 100000)
    (hw : ∀ v, wipe ((wipe σ [k]).set k v) [k] = wipe σ [k])
    (hs : ∀ a ∈ t, EvT tt ((wipe σ [k]).set k (some (sv [a]))) H1 (p a) ∧ (p a = true → Ev te ((wipe σ [k]).set k (some (sv [a]))) H1 (out a)))
    (hd : RetL ((t.filter p).map out) H1 Q) :
    LcT (Its ⟨t.toArray⟩) (gName k) tt te [k] σ H1 Q := by
  refine lc_flt walk_str t (by simp) (fun c => sv [c]) p out hl (fun _ _ => trivial) ?_ hw hs hd
  rintro i x H H' hi ⟨rfl, c, hc, rfl⟩
  exact ⟨rfl, c, by simpa using hc, rfl⟩
end Ed

/-! words -/
namespace Ed
open PySem L2 Cb
open Evl (Ev EvT)
def nthBehind (xs : List Nat) (p n : Nat) : Option Nat := (xs.filter fun o => decide (p < o))[n - 1]?
def nthAhead (xs : List Nat) (p n : Nat) : Option Nat := (xs.filter fun o => decide (o < p)).reverse[n - 1]?
theorem filter_le {α : Type} (p : α → Bool) (xs : List α) : (xs.filter p).length ≤ xs.length := List.length_filter_le _ _
theorem dec_i (a b : Nat) : decide ((a : Int) < (b : Int)) = decide (a < b) := by
  by_cases h : a < b
  · rw [decide_eq_true h, decide_eq_true]; omega
  · rw [decide_eq_false h, decide_eq_false]; omega
def sp_nth_behind (K : PySem.W.Frag) : Sp := fun vs H Q _ => ∃ (l : Addr) (xs : List Nat) (p n : Nat), vs = [.ref l, iv p, iv n] ∧ H l = some (.lst (nats xs)) ∧ xs.length < 100000 ∧ 1 ≤ n ∧ RetV (vo (nthBehind xs p n)) H Q
def b_nth_behind (K : PySem.W.Frag) : Ss K :=
  (Ss.cons (Sm.setLc 3 [("one", 4)] (Ir.list (Ex.v 0)) (Tg.v 4) (Ifs.one (Te.cmp Cm.gt (Ex.v 4) (Ex.v 1))) (Ex.v 4))
  (Ss.cons (Sm.ret (Ex.ifx (Te.cmp Cm.ge (Ex.len (As.cons (Ex.v 3) As.nil)) (Ex.v 2)) (Ex.ix (Ex.v 3) (Ex.sub (Ex.v 2) (Ex.i 1))) Ex.none))
  Ss.nil))
def N_nth_behind : List Str := ["some", "place", "many", "later", "one"]
theorem rd_nth_behind (K : PySem.W.Frag) : ∀ vs H Q E, sp_nth_behind K vs H Q E → (b_nth_behind K).t { nx := fun _ H' => Q .non H', rt := Q } (start N_nth_behind vs) H := by
  rintro _ H Q E ⟨l, xs, p, n, rfl, hl, hx, hn, q⟩
  refine ⟨l, rfl, ⟨_, SqL.of hl⟩, lc_fltL xs iv (fun o => decide (p < o)) iv hl hx (fun _ => rfl) (fun a ha => ⟨?_, ?_⟩) ?_⟩
  · intro H4 e4 Q' q'
    show Q' (decide ((p : Int) < (a : Int))) H4
    rw [dec_i]
    exact q' H4 (Xt.refl H4)
  · intro _ H4 e4 Q' q'
    exact q' H4 (Xt.refl H4)
  · intro D H2 hD e2 h2
    have g := q H2 e2
    unfold nthBehind at g
    refine ⟨_, .inl (SqL.of h2), br_d (fun h => ?_) (fun h => ?_)⟩
    · have h' : n ≤ (xs.filter fun o => decide (p < o)).length := by simpa using h
      have hlt : n - 1 < (xs.filter fun o => decide (p < o)).length := by omega
      rw [List.getElem?_eq_getElem hlt] at g
      refine ⟨_, _, .inl (SqL.of h2), ?_, g⟩
      have e : ((n : Int) - 1) = ((n - 1 : Nat) : Int) := by omega
      rw [e]
      exact atI_nat (by rw [List.getElem?_map, List.getElem?_eq_getElem hlt]; rfl)
    · have h' : ¬ n ≤ (xs.filter fun o => decide (p < o)).length := by simpa using h
      rw [List.getElem?_eq_none (by omega)] at g
      exact g
def sp_nth_ahead (K : PySem.W.Frag) : Sp := fun vs H Q _ => ∃ (l : Addr) (xs : List Nat) (p n : Nat), vs = [.ref l, iv p, iv n] ∧ H l = some (.lst (nats xs)) ∧ xs.length < 100000 ∧ 1 ≤ n ∧ RetV (vo (nthAhead xs p n)) H Q
def b_nth_ahead (K : PySem.W.Frag) : Ss K :=
  (Ss.cons (Sm.setLc 3 [("one", 4)] (Ir.list (Ex.v 0)) (Tg.v 4) (Ifs.one (Te.cmp Cm.lt (Ex.v 4) (Ex.v 1))) (Ex.v 4))
  (Ss.cons (Sm.ret (Ex.ifx (Te.cmp Cm.ge (Ex.len (As.cons (Ex.v 3) As.nil)) (Ex.v 2)) (Ex.ix (Ex.v 3) (Ex.sub (Ex.i 0) (Ex.v 2))) Ex.none))
  Ss.nil))
def N_nth_ahead : List Str := ["some", "place", "many", "before", "one"]
theorem atI_neg {α : Type} {xs : List α} {n : Nat} {v : α} (h1 : 1 ≤ n) (h2 : n ≤ xs.length) (h : xs[xs.length - n]? = some v) : atI xs (0 - (n : Int)) = some v := by
  have e : ixN xs.length (0 - (n : Int)) = some (xs.length - n) := by
    unfold ixN
    rw [if_neg (by omega), if_pos (by omega)]
    congr 1
    omega
  unfold atI
  rw [e]
  exact h
theorem rd_nth_ahead (K : PySem.W.Frag) : ∀ vs H Q E, sp_nth_ahead K vs H Q E → (b_nth_ahead K).t { nx := fun _ H' => Q .non H', rt := Q } (start N_nth_ahead vs) H := by
  rintro _ H Q E ⟨l, xs, p, n, rfl, hl, hx, hn, q⟩
  refine ⟨l, rfl, ⟨_, SqL.of hl⟩, lc_fltL xs iv (fun o => decide (o < p)) iv hl hx (fun _ => rfl) (fun a ha => ⟨?_, ?_⟩) ?_⟩
  · intro H4 e4 Q' q'
    show Q' (decide ((a : Int) < (p : Int))) H4
    rw [dec_i]
    exact q' H4 (Xt.refl H4)
  · intro _ H4 e4 Q' q'
    exact q' H4 (Xt.refl H4)
  · intro D H2 hD e2 h2
    have g := q H2 e2
    unfold nthAhead at g
    refine ⟨_, .inl (SqL.of h2), br_d (fun h => ?_) (fun h => ?_)⟩
    · have h' : n ≤ (xs.filter fun o => decide (o < p)).length := by simpa using h
      have hlt : (xs.filter fun o => decide (o < p)).length - n < (xs.filter fun o => decide (o < p)).length := by omega
      have ei : (xs.filter fun o => decide (o < p)).length - 1 - (n - 1) = (xs.filter fun o => decide (o < p)).length - n := by omega
      rw [List.getElem?_reverse (by omega), ei, List.getElem?_eq_getElem hlt] at g
      refine ⟨_, _, .inl (SqL.of h2), ?_, g⟩
      refine atI_neg hn (by simpa using h') ?_
      rw [List.length_map, List.getElem?_map, List.getElem?_eq_getElem hlt]; rfl
    · have h' : ¬ n ≤ (xs.filter fun o => decide (o < p)).length := by simpa using h
      rw [List.getElem?_eq_none (by rw [List.length_reverse]; omega)] at g
      exact g
def isW (c : Nat) : Bool := decide (c ∈ lWORD)
def wAt (t : List Nat) (i : Nat) : Bool := match t[i]? with
  | some c => isW c
  | none => false
def begB (t : List Nat) (i : Nat) : Bool := wAt t i && (decide (i = 0) || !wAt t (i - 1))
def endB (t : List Nat) (i : Nat) : Bool := wAt t i && !wAt t (i + 1)
def wordBegins (t : List Nat) : List Nat := (List.range t.length).filter (begB t)
def wordEnds (t : List Nat) : List Nat := ((List.range t.length).filter (endB t)).map (· + 1)
theorem wAt_some {t : List Nat} {i c : Nat} (h : t[i]? = some c) : wAt t i = isW c := by simp only [wAt, h]
theorem wAt_none {t : List Nat} {i : Nat} (h : t.length ≤ i) : wAt t i = false := by simp only [wAt, List.getElem?_eq_none h]
def sp_word_begins (K : PySem.W.Frag) : Sp := fun vs H Q _ => ∃ (t : List Nat), vs = [sv t] ∧ t.length ≤ 10000 ∧ RetL (nats (wordBegins t)) H Q
def b_word_begins (K : PySem.W.Frag) : Ss K :=
  (Ss.cons (Sm.set 1 (Ex.lst As.nil))
  (Ss.cons (Sm.for_ (Ir.enumS (As.cons (Ex.v 0) As.nil)) (Tg.tup (Tgs.cons (Tg.v 2) (Tgs.cons (Tg.v 3) Tgs.nil)))
    (Ss.cons (Sm.ite (Te.w (Tw.and (Te.cmp Cm.isin (Ex.v 3) (Ex.g "WORD" (.str cWORD))) (Tw.one (Te.w (Tw.or (Te.cmp Cm.eq (Ex.v 2) (Ex.i 0)) (Tw.one (Te.cmp Cm.notIn (Ex.ix (Ex.v 0) (Ex.sub (Ex.v 2) (Ex.i 1))) (Ex.g "WORD" (.str cWORD)))))))))
      (Ss.cons (Sm.ex (Ex.lm Ml.append (Ex.v 1) (As.cons (Ex.v 2) As.nil)))
      Ss.nil)
      Ss.nil)
    Ss.nil))
  (Ss.cons (Sm.ret (Ex.v 1))
  Ss.nil)))
def N_word_begins : List Str := ["text", "made", "place", "sign"]
theorem snoc_nats {t : List Nat} {i : Nat} (p : Nat → Bool) (f : Nat → Nat) : nats (((List.range (i + 1)).filter p).map f) = if p i then nats (((List.range i).filter p).map f) ++ [iv (f i)] else nats (((List.range i).filter p).map f) := by
  rw [List.range_succ, List.filter_append]
  cases h : p i <;> simp [h, nats]
theorem rd_word_begins (K : PySem.W.Frag) : ∀ vs H Q E, sp_word_begins K vs H Q E → (b_word_begins K).t { nx := fun _ H' => Q .non H', rt := Q } (start N_word_begins vs) H := by
  rintro _ H Q E ⟨t, rfl, ht, q⟩
  refine ⟨by decide, fun l hl => ?_⟩
  refine fo_walk walk_enumS (fun i σ H' => ∃ x y, σ = [some (sv t), some (.ref l), x, y] ∧ Xt H H' ∧ H' l = some (.lst (nats (((List.range i).filter (begB t)).map id)))) ?_ (fun _ _ _ _ _ => trivial) ?_ ?_
  · exact ⟨none, none, rfl, xt_new hl, by rw [upd_same]; rfl⟩
  · rintro i x σ H2 H3 hi ⟨x1, y1, rfl, e2, h2⟩ ⟨T, c, rfl, hT, rfl, hc⟩
    have hc' : t[i]? = some c := by simpa using hc
    have hi' : i < t.length := by simpa using hi
    have e3 : Xt H (upd H2 T (.tup [.int (i : Nat), .str ⟨#[c]⟩])) := e2.trans (xt_new hT)
    have h3 : (upd H2 T (.tup [.int (i : Nat), .str ⟨#[c]⟩])) l = some (.lst (nats (((List.range i).filter (begB t)).map id))) := (xt_new hT) l _ h2
    have hs := snoc_nats (t := t) (i := i) (begB t) id
    refine ⟨T, _, rfl, SqT.of upd_same, rfl, rfl, ?_⟩
    have no : begB t i = false → ∃ x y, ([some (sv t), some (.ref l), some (.int (i : Nat)), some (.str ⟨#[c]⟩)] : L2.St) = [some (sv t), some (.ref l), x, y] ∧ Xt H (upd H2 T (.tup [.int (i : Nat), .str ⟨#[c]⟩])) ∧ (upd H2 T (.tup [.int (i : Nat), .str ⟨#[c]⟩])) l = some (.lst (nats (((List.range (i + 1)).filter (begB t)).map id))) := by
      intro hb
      rw [hb] at hs
      exact ⟨_, _, rfl, e3, by rw [hs]; exact h3⟩
    have yes : begB t i = true → _ := fun hb => show (∃ xs, SqL K (upd H2 T (.tup [.int (i : Nat), .str ⟨#[c]⟩])) l xs) ∧ ∃ xs, (upd H2 T (.tup [.int (i : Nat), .str ⟨#[c]⟩])) l = some (.lst xs) ∧ xs.length < sizeLine ∧ ∃ x y, ([some (sv t), some (.ref l), some (.int (i : Nat)), some (.str ⟨#[c]⟩)] : L2.St) = [some (sv t), some (.ref l), x, y] ∧ Xt H (upd (upd H2 T (.tup [.int (i : Nat), .str ⟨#[c]⟩])) l (.lst (xs ++ [.int (i : Nat)]))) ∧ (upd (upd H2 T (.tup [.int (i : Nat), .str ⟨#[c]⟩])) l (.lst (xs ++ [.int (i : Nat)]))) l = some (.lst (nats (((List.range (i + 1)).filter (begB t)).map id))) by
      rw [hb] at hs
      refine ⟨⟨_, SqL.of h3⟩, _, h3, szl ?_, _, _, rfl, xt_mut e3 hl, ?_⟩
      · have := filter_le (begB t) (List.range i)
        simp [nats] at this ⊢; omega
      · rw [upd_same, hs]; rfl
    show br (decide (c ∈ lWORD)) _ _
    refine br_d (fun h1 => ?_) (fun h1 => ?_)
    · have w1 : wAt t i = true := by rw [wAt_some hc']; exact decide_eq_true h1
      refine br_d (fun h0 => ?_) (fun h0 => ?_)
      · have h0' : i = 0 := by omega
        exact yes (by rw [begB, w1, decide_eq_true h0']; rfl)
      · have h0' : i ≠ 0 := by omega
        obtain ⟨d, hd⟩ : ∃ d, t[i - 1]? = some d := ⟨_, List.getElem?_eq_getElem (by omega)⟩
        have ei : ((i : Int) - 1) = ((i - 1 : Nat) : Int) := by omega
        refine ⟨sz (by rw [len_sv]; omega), d, ?_, ?_⟩
        · rw [ei]; exact atI_nat hd
        · show br (!decide (d ∈ lWORD)) _ _
          have w2 : wAt t (i - 1) = decide (d ∈ lWORD) := wAt_some hd
          cases h5 : decide (d ∈ lWORD) with
          | true => exact no (by simp [begB, w1, w2, h5, h0'])
          | false => exact yes (by simp [begB, w1, w2, h5])
    · exact no (by rw [begB, wAt_some hc']; unfold isW; rw [decide_eq_false h1]; rfl)
  · rintro σ H2 ⟨x, y, rfl, e2, h2⟩
    refine q l H2 hl e2 ?_
    rw [h2]
    simp [wordBegins]
def sp_word_ends (K : PySem.W.Frag) : Sp := fun vs H Q _ => ∃ (t : List Nat), vs = [sv t] ∧ t.length ≤ 10000 ∧ RetL (nats (wordEnds t)) H Q
def b_word_ends (K : PySem.W.Frag) : Ss K :=
  (Ss.cons (Sm.set 1 (Ex.lst As.nil))
  (Ss.cons (Sm.for_ (Ir.enumS (As.cons (Ex.v 0) As.nil)) (Tg.tup (Tgs.cons (Tg.v 2) (Tgs.cons (Tg.v 3) Tgs.nil)))
    (Ss.cons (Sm.ite (Te.w (Tw.and (Te.cmp Cm.isin (Ex.v 3) (Ex.g "WORD" (.str cWORD))) (Tw.one (Te.w (Tw.or (Te.cmp Cm.eq (Ex.add (Ex.v 2) (Ex.i 1)) (Ex.len (As.cons (Ex.v 0) As.nil))) (Tw.one (Te.cmp Cm.notIn (Ex.ix (Ex.v 0) (Ex.add (Ex.v 2) (Ex.i 1))) (Ex.g "WORD" (.str cWORD)))))))))
      (Ss.cons (Sm.ex (Ex.lm Ml.append (Ex.v 1) (As.cons (Ex.add (Ex.v 2) (Ex.i 1)) As.nil)))
      Ss.nil)
      Ss.nil)
    Ss.nil))
  (Ss.cons (Sm.ret (Ex.v 1))
  Ss.nil)))
def N_word_ends : List Str := ["text", "made", "place", "sign"]
theorem rd_word_ends (K : PySem.W.Frag) : ∀ vs H Q E, sp_word_ends K vs H Q E → (b_word_ends K).t { nx := fun _ H' => Q .non H', rt := Q } (start N_word_ends vs) H := by
  rintro _ H Q E ⟨t, rfl, ht, q⟩
  refine ⟨by decide, fun l hl => ?_⟩
  refine fo_walk walk_enumS (fun i σ H' => ∃ x y, σ = [some (sv t), some (.ref l), x, y] ∧ Xt H H' ∧ H' l = some (.lst (nats (((List.range i).filter (endB t)).map (· + 1))))) ?_ (fun _ _ _ _ _ => trivial) ?_ ?_
  · exact ⟨none, none, rfl, xt_new hl, by rw [upd_same]; rfl⟩
  · rintro i x σ H2 H3 hi ⟨x1, y1, rfl, e2, h2⟩ ⟨T, c, rfl, hT, rfl, hc⟩
    have hc' : t[i]? = some c := by simpa using hc
    have hi' : i < t.length := by simpa using hi
    have e3 : Xt H (upd H2 T (.tup [.int (i : Nat), .str ⟨#[c]⟩])) := e2.trans (xt_new hT)
    have h3 : (upd H2 T (.tup [.int (i : Nat), .str ⟨#[c]⟩])) l = some (.lst (nats (((List.range i).filter (endB t)).map (· + 1)))) := (xt_new hT) l _ h2
    have hs := snoc_nats (t := t) (i := i) (endB t) (· + 1)
    refine ⟨T, _, rfl, SqT.of upd_same, rfl, rfl, ?_⟩
    have no : endB t i = false → ∃ x y, ([some (sv t), some (.ref l), some (.int (i : Nat)), some (.str ⟨#[c]⟩)] : L2.St) = [some (sv t), some (.ref l), x, y] ∧ Xt H (upd H2 T (.tup [.int (i : Nat), .str ⟨#[c]⟩])) ∧ (upd H2 T (.tup [.int (i : Nat), .str ⟨#[c]⟩])) l = some (.lst (nats (((List.range (i + 1)).filter (endB t)).map (· + 1)))) := by
      intro hb
      rw [hb] at hs
      exact ⟨_, _, rfl, e3, by rw [hs]; exact h3⟩
    have yes : endB t i = true → _ := fun hb => show (∃ xs, SqL K (upd H2 T (.tup [.int (i : Nat), .str ⟨#[c]⟩])) l xs) ∧ ∃ xs, (upd H2 T (.tup [.int (i : Nat), .str ⟨#[c]⟩])) l = some (.lst xs) ∧ xs.length < sizeLine ∧ ∃ x y, ([some (sv t), some (.ref l), some (.int (i : Nat)), some (.str ⟨#[c]⟩)] : L2.St) = [some (sv t), some (.ref l), x, y] ∧ Xt H (upd (upd H2 T (.tup [.int (i : Nat), .str ⟨#[c]⟩])) l (.lst (xs ++ [.int ((i : Nat) + 1)]))) ∧ (upd (upd H2 T (.tup [.int (i : Nat), .str ⟨#[c]⟩])) l (.lst (xs ++ [.int ((i : Nat) + 1)]))) l = some (.lst (nats (((List.range (i + 1)).filter (endB t)).map (· + 1)))) by
      rw [hb] at hs
      refine ⟨⟨_, SqL.of h3⟩, _, h3, szl ?_, _, _, rfl, xt_mut e3 hl, ?_⟩
      · have := filter_le (endB t) (List.range i)
        simp [nats] at this ⊢; omega
      · rw [upd_same, hs]; rfl
    show br (decide (c ∈ lWORD)) _ _
    refine br_d (fun h1 => ?_) (fun h1 => ?_)
    · have w1 : wAt t i = true := by rw [wAt_some hc']; exact decide_eq_true h1
      refine ⟨sz (by rw [len_sv]; omega), br_d (fun h0 => ?_) (fun h0 => ?_)⟩
      · rw [len_sv] at h0
        have h0' : i + 1 = t.length := by omega
        exact yes (by rw [endB, w1, wAt_none (by omega)]; rfl)
      · rw [len_sv] at h0
        have h0' : i + 1 ≠ t.length := by omega
        obtain ⟨d, hd⟩ : ∃ d, t[i + 1]? = some d := ⟨_, List.getElem?_eq_getElem (by omega)⟩
        refine ⟨sz (by rw [len_sv]; omega), d, ?_, ?_⟩
        · exact atI_nat (j := i + 1) hd
        · show br (!decide (d ∈ lWORD)) _ _
          have w2 : wAt t (i + 1) = decide (d ∈ lWORD) := wAt_some hd
          cases h5 : decide (d ∈ lWORD) with
          | true => exact no (by rw [endB, w1, w2, h5]; rfl)
          | false => exact yes (by rw [endB, w1, w2, h5]; rfl)
    · exact no (by rw [endB, wAt_some hc']; unfold isW; rw [decide_eq_false h1]; rfl)
  · rintro σ H2 ⟨x, y, rfl, e2, h2⟩
    refine q l H2 hl e2 ?_
    rw [h2]
    simp [wordEnds]
end Ed

/-! words by the law -/
namespace Ed
open PySem L2 Cb
open Evl (Ev EvT)
def isL (c : Nat) : Bool := (decide (97 ≤ c) && decide (c ≤ 122)) || ((decide (65 ≤ c) && decide (c ≤ 90)) || (decide (48 ≤ c) && decide (c ≤ 57)))
theorem isW_eq (c : Nat) : isW c = isL c := by
  by_cases h : c < 128
  · have : ∀ c, c < 128 → isW c = isL c := by decide +kernel
    exact this c h
  · have h1 : ∀ d ∈ lWORD, d < 128 := by decide +kernel
    have h2 : isW c = false := by unfold isW; exact decide_eq_false fun z => h (h1 c z)
    have h3 : isL c = false := by
      unfold isL
      rw [decide_eq_false (show ¬ c ≤ 122 by omega), decide_eq_false (show ¬ c ≤ 90 by omega), decide_eq_false (show ¬ c ≤ 57 by omega)]
      simp
    rw [h2, h3]
theorem le1 (a c : Nat) : (!decide (([c] : List Nat) < [a])) = decide (a ≤ c) := by
  by_cases h : c < a
  · rw [decide_eq_true, decide_eq_false (by omega)]; rfl
    exact List.Lex.rel h
  · rw [decide_eq_false, decide_eq_true (by omega)]; rfl
    intro z
    cases z with
    | rel z => exact h z
    | cons z => cases z
def sp_law_is_word (K : PySem.W.Frag) : Sp := fun vs H Q _ => ∃ (c : Nat), vs = [sv [c]] ∧ Q (.bl (isW c)) H
def b_law_is_word (K : PySem.W.Frag) : Ss K :=
  (Ss.cons (Sm.ret (Ex.or (Ex.chain Cm.le Cm.le (Ex.s ⟨#[97]⟩) (Ex.v 0) (Ex.s ⟨#[122]⟩)) (Ex.or (Ex.chain Cm.le Cm.le (Ex.s ⟨#[65]⟩) (Ex.v 0) (Ex.s ⟨#[90]⟩)) (Ex.one (Ex.chain Cm.le Cm.le (Ex.s ⟨#[48]⟩) (Ex.v 0) (Ex.s ⟨#[57]⟩))))))
  Ss.nil)
def N_law_is_word : List Str := ["sign"]
theorem br_bl {c : Bool} {A : Bool → Prop} (h : A c) : br c (A true) (A false) := by cases c <;> exact h
theorem rd_law_is_word (K : PySem.W.Frag) : ∀ vs H Q E, sp_law_is_word K vs H Q E → (b_law_is_word K).t { nx := fun _ H' => Q .non H', rt := Q } (start N_law_is_word vs) H := by
  rintro _ H Q E ⟨c, rfl, q⟩
  rw [isW_eq] at q
  unfold isL at q
  show br (!decide (([c] : List Nat) < [97])) (br (!decide (([122] : List Nat) < [c])) _ _) _
  rw [le1, le1]
  have last : Q (.bl (decide (48 ≤ c) && decide (c ≤ 57))) H → br (!decide (([c] : List Nat) < [48])) (Q (.bl (!decide (([57] : List Nat) < [c]))) H) (Q (.bl false) H) := by
    intro g
    rw [le1, le1]
    cases h : decide (48 ≤ c) <;> rw [h] at g <;> exact g
  have mid : Q (.bl ((decide (65 ≤ c) && decide (c ≤ 90)) || (decide (48 ≤ c) && decide (c ≤ 57)))) H → br (!decide (([c] : List Nat) < [65])) (br (!decide (([90] : List Nat) < [c])) (Q (.bl true) H) (br (!decide (([c] : List Nat) < [48])) (Q (.bl (!decide (([57] : List Nat) < [c]))) H) (Q (.bl false) H))) (br (!decide (([c] : List Nat) < [48])) (Q (.bl (!decide (([57] : List Nat) < [c]))) H) (Q (.bl false) H)) := by
    intro g
    rw [le1 65 c, le1 c 90]
    cases h : decide (65 ≤ c) with
    | false => rw [h] at g; exact last g
    | true =>
      rw [h] at g
      cases h2 : decide (c ≤ 90) with
      | false => rw [h2] at g; exact last g
      | true => rw [h2] at g; exact g
  cases h : decide (97 ≤ c) with
  | false => rw [h] at q; exact mid q
  | true =>
    rw [h] at q
    cases h2 : decide (c ≤ 122) with
    | false => rw [h2] at q; exact mid q
    | true => rw [h2] at q; exact q
def Mo.isWords : Mo → Prop
  | .word _ => True | .over _ => True | .back _ => True
  | _ => False
def goWord (t : List Nat) (p : Nat) : Mo → Option Nat
  | .word n => nthBehind (wordBegins t) p n
  | .over n => nthBehind (wordEnds t) p n
  | .back n => nthAhead (wordBegins t) p n
  | _ => none
def FL (t : List Nat) : List V := [.bl false] ++ t.map (fun c => .bl (isW c)) ++ [.bl false]
def fB (t : List Nat) : Nat → Bool
  | 0 => false
  | i + 1 => wAt t i
theorem FL_at {t : List Nat} {i : Nat} (h : i ≤ t.length + 1) : (FL t)[i]? = some (.bl (fB t i)) := by
  unfold FL
  cases i with
  | zero => rfl
  | succ i =>
    rw [List.append_assoc]
    show (t.map (fun c => V.bl (isW c)) ++ [V.bl false])[i]? = some (.bl (wAt t i))
    by_cases h1 : i < t.length
    · rw [List.getElem?_append_left (by simpa using h1), List.getElem?_map, List.getElem?_eq_getElem h1]
      rw [wAt_some (List.getElem?_eq_getElem h1)]; rfl
    · have : i = t.length := by omega
      subst this
      rw [List.getElem?_append_right (by simp), wAt_none (Nat.le_refl _)]
      simp
theorem begB_fB (t : List Nat) (i : Nat) : begB t i = (fB t (i + 1) && !fB t i) := by
  cases i with
  | zero => simp [begB, fB]
  | succ i => simp [begB, fB]
theorem ends_fB (t : List Nat) : (List.range' 1 t.length).filter (fun i => fB t i && !fB t (i + 1)) = wordEnds t := by
  unfold wordEnds
  have e : List.range' 1 t.length = (List.range t.length).map (· + 1) := by
    apply List.ext_getElem
    · simp
    · intro i h1 h2
      simp
      omega
  rw [e, List.filter_map]
  rfl
theorem begs_len (t : List Nat) : (wordBegins t).length ≤ t.length := by
  have := filter_le (begB t) (List.range t.length)
  simpa [wordBegins] using this
theorem ends_len (t : List Nat) : (wordEnds t).length ≤ t.length := by
  have := filter_le (endB t) (List.range t.length)
  simpa [wordEnds] using this
def sp_law_ends (K : PySem.W.Frag) : Sp := fun vs H Q _ => ∃ (t : List Nat) (a : Addr) (p : Nat) (m : Mo), vs = [sv t, .ref a, iv p] ∧ H a = some (.tup m.vs) ∧ m.isWords ∧ m.ok ∧ t.length ≤ 10000 ∧ RetV (vo (goWord t p m)) H Q
def b_law_ends (K : PySem.W.Frag) : Ss K :=
  (Ss.cons (Sm.set 3 (Ex.add (Ex.add (Ex.lst (As.cons (Ex.b false) As.nil)) (Ex.lc [("sign", 4)] (Ir.str (Ex.v 0)) (Tg.v 4) Ifs.no (Ex.call "_law_is_word" (sp_law_is_word K) (As.cons (Ex.v 4) As.nil)))) (Ex.lst (As.cons (Ex.b false) As.nil))))
  (Ss.cons (Sm.setLc 5 [("at", 6)] (Ir.rng1 (As.cons (Ex.len (As.cons (Ex.v 0) As.nil)) As.nil)) (Tg.v 6) (Ifs.one (Te.w (Tw.and (Te.val (Ex.ix (Ex.v 3) (Ex.add (Ex.v 6) (Ex.i 1)))) (Tw.one (Te.not (Te.val (Ex.ix (Ex.v 3) (Ex.v 6)))))))) (Ex.v 6))
  (Ss.cons (Sm.setLc 7 [("at", 6)] (Ir.rng2 (As.cons (Ex.i 1) (As.cons (Ex.add (Ex.len (As.cons (Ex.v 0) As.nil)) (Ex.i 1)) As.nil))) (Tg.v 6) (Ifs.one (Te.w (Tw.and (Te.val (Ex.ix (Ex.v 3) (Ex.v 6))) (Tw.one (Te.not (Te.val (Ex.ix (Ex.v 3) (Ex.add (Ex.v 6) (Ex.i 1))))))))) (Ex.v 6))
  (Ss.cons (Sm.set 8 (Ex.ifx (Te.cmp Cm.eq (Ex.ix (Ex.v 1) (Ex.i 0)) (Ex.s ⟨#[111, 118, 101, 114]⟩)) (Ex.v 7) (Ex.v 5)))
  (Ss.cons (Sm.ite (Te.cmp Cm.eq (Ex.ix (Ex.v 1) (Ex.i 0)) (Ex.s ⟨#[98, 97, 99, 107]⟩))
    (Ss.cons (Sm.set 8 (Ex.rev (Ex.lc [("at", 6)] (Ir.list (Ex.v 8)) (Tg.v 6) (Ifs.one (Te.cmp Cm.lt (Ex.v 6) (Ex.v 2))) (Ex.v 6))))
    Ss.nil)
    (Ss.cons (Sm.setLc 8 [("at", 6)] (Ir.list (Ex.v 8)) (Tg.v 6) (Ifs.one (Te.cmp Cm.gt (Ex.v 6) (Ex.v 2))) (Ex.v 6))
    Ss.nil))
  (Ss.cons (Sm.ret (Ex.ifx (Te.cmp Cm.ge (Ex.len (As.cons (Ex.v 8) As.nil)) (Ex.ix (Ex.v 1) (Ex.i 1))) (Ex.ix (Ex.v 8) (Ex.sub (Ex.ix (Ex.v 1) (Ex.i 1)) (Ex.i 1))) Ex.none))
  Ss.nil))))))
def N_law_ends : List Str := ["text", "motion", "place", "flags", "sign", "starts_at", "at", "ends", "some"]
theorem fin_nth {K : PySem.W.Frag} {ys : List Nat} {n : Nat} {D a : Addr} {x : V} {H : Hp} {Q : VK} (hD : H D = some (.lst (nats ys))) (ha : H a = some (.tup [x, iv n])) (hn : 1 ≤ n) (q : Q (vo ys[n - 1]?) H) :
    ∃ xs, (SqL K H D xs ∨ SqT K H D xs) ∧ ∃ xs' v, (SqL K H a xs' ∨ SqT K H a xs') ∧ atI xs' 1 = some v ∧ rGeX K (.int xs.length) v H (onB fun c H1 => br c (∃ xs'' v'', (SqL K H1 a xs'' ∨ SqT K H1 a xs'') ∧ atI xs'' 1 = some v'' ∧ rSubD K v'' (.int 1) H1 fun w H2 => rIxX K (.ref D) w H2 Q) (Q .non H1)) := by
  refine ⟨_, .inl (SqL.of hD), _, iv n, .inr (SqT.of ha), atI_nat (j := 1) rfl, br_d (fun h => ?_) (fun h => ?_)⟩
  · have h' : n ≤ ys.length := by simpa [nats] using h
    have hlt : n - 1 < ys.length := by omega
    rw [List.getElem?_eq_getElem hlt] at q
    refine ⟨_, iv n, .inr (SqT.of ha), atI_nat (j := 1) rfl, _, _, .inl (SqL.of hD), ?_, q⟩
    have e : ((n : Int) - 1) = ((n - 1 : Nat) : Int) := by omega
    rw [e]
    exact atI_nat (by unfold nats; rw [List.getElem?_map, List.getElem?_eq_getElem hlt]; rfl)
  · have h' : ¬ n ≤ ys.length := by simpa [nats] using h
    rw [List.getElem?_eq_none (by omega)] at q
    exact q
theorem rd_law_ends (K : PySem.W.Frag) : ∀ vs H Q E, sp_law_ends K vs H Q E → (b_law_ends K).t { nx := fun _ H' => Q .non H', rt := Q } (start N_law_ends vs) H := by
  rintro _ H Q E ⟨t, a, p, m, rfl, ha, hm, hok, ht, q⟩
  refine ⟨by decide, fun l1 hl1 => ?_⟩
  refine ⟨_, rfl, lc_fltS (t := t) (fun _ => true) (fun c => .bl (isW c)) (by omega) (fun _ => rfl) (fun c hc => ⟨evT_yes, fun _ H4 e4 Q' q' => ⟨c, rfl, q' H4 (Xt.refl H4)⟩⟩) ?_⟩
  intro D1 H2 hD1 e2 h2
  rw [List.filter_eq_self.mpr (fun _ _ => rfl)] at h2
  have x1 : Xt H H2 := (xt_new hl1).trans e2
  refine .inl ⟨l1, D1, _, _, rfl, rfl, e2 l1 _ upd_same, h2, sz (by simp; omega), fun l3 hl3 => ?_⟩
  refine ⟨by decide, fun l4 hl4 => ?_⟩
  have x4 := ((x1.trans (xt_new (o := .lst ([V.bl false] ++ t.map (fun c => V.bl (isW c)))) hl3)).trans (xt_new (o := .lst [V.bl false]) hl4))
  refine .inl ⟨l3, l4, _, _, rfl, rfl, (xt_new hl4) l3 _ upd_same, upd_same, sz (by simp; omega), fun l5 hl5 => ?_⟩
  have x5 := x4.trans (xt_new (o := .lst (FL t)) hl5)
  refine ⟨sz (by rw [len_sv]; omega), _, rfl, by rw [len_sv]; omega, by rw [len_sv]; omega, lc_fltR (lo := 0) (n := t.length) (begB t) iv (by omega) (fun _ => rfl) (fun i _ hi => ⟨?_, ?_⟩) ?_⟩
  · intro H6 e6 Q' q'
    have hF := e6 l5 _ upd_same
    refine ⟨FL t, _, .inl (SqL.of hF), atI_nat (j := i + 1) (FL_at (by omega)), ?_⟩
    rw [begB_fB] at q'
    cases h : fB t (i + 1) with
    | false => rw [h] at q'; exact q' H6 (Xt.refl H6)
    | true =>
      rw [h] at q'
      exact ⟨FL t, _, .inl (SqL.of hF), atI_nat (j := i) (FL_at (by omega)), q' H6 (Xt.refl H6)⟩
  · intro _ H6 e6 Q' q'
    exact q' H6 (Xt.refl H6)
  intro D6 H6 hD6 e6 h6
  have x6 := x5.trans e6
  rw [← List.range_eq_range'] at h6
  have hF6 := e6 l5 _ upd_same
  refine ⟨sz (by rw [len_sv]; omega), 1, _, rfl, ⟨by decide, by decide, by rw [len_sv]; omega, by rw [len_sv]; omega⟩, ?_⟩
  have en : ((((⟨t.toArray⟩ : Str).length : Nat) : Int) + 1 - 1).toNat = t.length := by rw [len_sv]; omega
  rw [en]
  refine lc_fltR (lo := 1) (n := t.length) (fun i => fB t i && !fB t (i + 1)) iv (by omega) (fun _ => rfl) (fun i hi1 hi => ⟨?_, ?_⟩) ?_
  · intro H7 e7 Q' q'
    have hF := e7 l5 _ hF6
    refine ⟨FL t, _, .inl (SqL.of hF), atI_nat (j := i) (FL_at (by omega)), ?_⟩
    cases h : fB t i with
    | false => rw [h] at q'; exact q' H7 (Xt.refl H7)
    | true =>
      rw [h] at q'
      exact ⟨FL t, _, .inl (SqL.of hF), atI_nat (j := i + 1) (FL_at (by omega)), q' H7 (Xt.refl H7)⟩
  · intro _ H7 e7 Q' q'
    exact q' H7 (Xt.refl H7)
  intro D7 H7 hD7 e7 h7
  rw [ends_fB] at h7
  have x7 := x6.trans e7
  have h6' : H7 D6 = some (.lst (nats (wordBegins t))) := e7 D6 _ h6
  have h7' : H7 D7 = some (.lst (nats (wordEnds t))) := h7
  have hb := begs_len t
  have he := ends_len t
  refine ⟨_, _, .inr (SqT.of (x7 a _ ha)), atI_nat (j := 0) rfl, ?_⟩
  cases m with
  | word n =>
    refine ⟨_, _, .inr (SqT.of (x7 a _ ha)), atI_nat (j := 0) rfl, ?_⟩
    refine ⟨D6, rfl, ⟨_, SqL.of h6'⟩, lc_fltL (wordBegins t) iv (fun o => decide (p < o)) iv h6' (by omega) (fun _ => rfl) (fun i _ => ⟨?_, ?_⟩) ?_⟩
    · intro H8 e8 Q' q'
      show Q' (decide ((p : Int) < (i : Int))) H8
      rw [dec_i]
      exact q' H8 (Xt.refl H8)
    · intro _ H8 e8 Q' q'
      exact q' H8 (Xt.refl H8)
    intro D8 H8 hD8 e8 h8
    exact fin_nth h8 ((x7.trans e8) a _ ha) hok.1 (q H8 (x7.trans e8))
  | over n =>
    refine ⟨_, _, .inr (SqT.of (x7 a _ ha)), atI_nat (j := 0) rfl, ?_⟩
    refine ⟨D7, rfl, ⟨_, SqL.of h7'⟩, lc_fltL (wordEnds t) iv (fun o => decide (p < o)) iv h7' (by omega) (fun _ => rfl) (fun i _ => ⟨?_, ?_⟩) ?_⟩
    · intro H8 e8 Q' q'
      show Q' (decide ((p : Int) < (i : Int))) H8
      rw [dec_i]
      exact q' H8 (Xt.refl H8)
    · intro _ H8 e8 Q' q'
      exact q' H8 (Xt.refl H8)
    intro D8 H8 hD8 e8 h8
    exact fin_nth h8 ((x7.trans e8) a _ ha) hok.1 (q H8 (x7.trans e8))
  | back n =>
    refine ⟨_, _, .inr (SqT.of (x7 a _ ha)), atI_nat (j := 0) rfl, ?_⟩
    refine ⟨D6, rfl, ⟨_, SqL.of h6'⟩, lc_fltL (wordBegins t) iv (fun o => decide (o < p)) iv h6' (by omega) (fun _ => rfl) (fun i _ => ⟨?_, ?_⟩) ?_⟩
    · intro H8 e8 Q' q'
      show Q' (decide ((i : Int) < (p : Int))) H8
      rw [dec_i]
      exact q' H8 (Xt.refl H8)
    · intro _ H8 e8 Q' q'
      exact q' H8 (Xt.refl H8)
    intro D8 H8 hD8 e8 h8
    refine ⟨_, SqL.of h8, fun D9 hD9 => ?_⟩
    have x9 := (x7.trans e8).trans (xt_new (o := .lst ((((wordBegins t).filter fun o => decide (o < p)).map iv).reverse)) hD9)
    refine fin_nth (ys := ((wordBegins t).filter fun o => decide (o < p)).reverse) ?_ (x9 a _ ha) hok.1 (q _ x9)
    rw [upd_same, nats, List.map_reverse]
  | _ => exact hm.elim
end Ed

namespace Cb
open PySem L2
variable {K : PySem.W.Frag}
/-! ### text * number -/
def rSMul (_ : PySem.W.Frag) : R2 := fun x y H Q => match x, y with
  | .str a, .int n => MulOk a n ∧ Q (.str (Txt.mul a n)) H
  | _, _ => False
theorem op_smul (X : Cx) : OpR X (binaryOp .Mult) (rSMul X.K) := by
  intro pins s σ H x y v u Q I rx ry h
  unfold rSMul at h
  split at h
  · obtain ⟨t, rfl⟩ := rx
    obtain ⟨t', rfl⟩ := ry
    exact SB.mul h.1 fun t' k => ⟨.str _, H, I.tok _, ⟨_, rfl⟩, h.2⟩
  · exact h.elim
def Ex.smul (a b : Ex K) : Ex K := Ex.bin .Mult rSMul op_smul a b
theorem rep_cps (c : Nat) : ∀ (n : Nat) (a : Array Nat), (List.replicate n (#[c] : Array Nat)).foldl (· ++ ·) a = a ++ (List.replicate n c).toArray
  | 0, a => by simp
  | n + 1, a => by
    rw [List.replicate_succ, List.foldl_cons, rep_cps c n, List.replicate_succ]
    apply Array.ext'
    simp
theorem mul_sign (c n : Nat) (h : n ≤ 100000) : MulOk ⟨#[c]⟩ (n : Int) ∧ Txt.mul ⟨#[c]⟩ (n : Int) = ⟨(List.replicate n c).toArray⟩ := by
  refine ⟨⟨?_, fun h1 _ => ?_, fun h1 _ => ?_⟩, ?_⟩
  · rw [decide_eq_false (by omega), decide_eq_false (by omega)]; rfl
  · have e : ((⟨#[c]⟩ : Str).length : Int) = 1 := rfl
    rw [e]
    have : (1 : Int) ≤ (2 ^ 63 - 1) / (n : Int) := by
      apply Int.le_ediv_of_mul_le <;> omega
    omega
  · have e : (⟨#[c]⟩ : Str).length = 1 := rfl
    have e2 : (n : Int).toNat = n := by simp
    rw [e, e2]
    unfold Builtin.Str.tooLong
    have h3 : n ≤ sizeLine := Nat.le_trans h (by decide)
    rw [decide_eq_false (by omega)]
  · unfold Txt.mul
    by_cases h1 : (n : Int) < 1
    · have : n = 0 := by omega
      subst this; rfl
    · rw [if_neg h1]
      by_cases h2 : n = 1
      · subst h2; rfl
      · have : ((n : Int) == 1 || (⟨#[c]⟩ : Str).length == 0) = false := by
          have e : (⟨#[c]⟩ : Str).length = 1 := rfl
          rw [e]
          simp; omega
        rw [if_neg (by rw [this]; exact Bool.false_ne_true)]
        have e2 : (n : Int).toNat = n := by simp
        rw [e2, rep_cps]
        simp
/-! ### dict displays, d[k], d.get(k) -/
structure Ps (K : PySem.W.Frag) where
  t : List (TE × TE)
  chk : Gam → List (Option Expr) → List Expr → Bool
  has : Hx → Prop
  sound : ∀ {X : Cx} {Γ : Gam} {h : Hx} {ks : List (Option Expr)} {vs : List Expr}, Ctx X Γ h → h.K = K → has h → chk Γ ks vs = true → (∀ pos, PPs X pos ks vs t) ∧ ks.all (·.isSome) = true ∧ ks.length = vs.length
def Ps.nil : Ps K where
  t := []
  chk := fun _ ks vs => match ks, vs with
    | [], [] => true
    | _, _ => false
  has := fun _ => True
  sound := by
    intro X Γ h ks vs c hk hh hc
    split at hc
    · exact ⟨fun _ => pps_nil, rfl, rfl⟩
    · exact absurd hc Bool.false_ne_true
def Ps.cons (a b : Ex K) (r : Ps K) : Ps K where
  t := (a.t, b.t) :: r.t
  chk := fun Γ ks vs => match ks, vs with
    | some k :: ks, v :: vs => a.chk Γ k && b.chk Γ v && r.chk Γ ks vs
    | _, _ => false
  has := fun h => a.has h ∧ b.has h ∧ r.has h
  sound := by
    intro X Γ h ks vs c hk hh hc
    split at hc
    · obtain ⟨h1, h2, h3⟩ := and3 hc
      obtain ⟨r1, r2, r3⟩ := r.sound c hk hh.2.2 h3
      exact ⟨fun pos => pps_cons (a.sound c hk hh.1 h1) (b.sound c hk hh.2.1 h2) (r1 pos), by simpa using r2, by simp [r3]⟩
    · exact absurd hc Bool.false_ne_true
def Ex.disp (ps : Ps K) : Ex K where
  t := tDisp ps.t
  chk := fun Γ e => match e with
    | .Dict ks vs _ => ps.chk Γ ks vs && (!ks.isEmpty && decide (ks.length ≤ 15))
    | _ => false
  has := ps.has
  sound := by
    intro X Γ h e c hk hh hc
    cases e <;> try exact absurd hc Bool.false_ne_true
    rename_i ks vs pos
    obtain ⟨h1, h2⟩ := and2 hc
    obtain ⟨h3, h4⟩ := and2 h2
    obtain ⟨s1, s2, s3⟩ := ps.sound c hk hh h1
    exact pe_disp (s1 pos) s2 s3 (by intro e; subst e; exact absurd h3 Bool.false_ne_true) (of_decide_eq_true h4)
def Ex.dix (a b : Ex K) : Ex K where
  t := tDGet a.t b.t
  chk := fun Γ e => match e with
    | .Subscript x y _ => a.chk Γ x && b.chk Γ y && pln y
    | _ => false
  has := fun h => a.has h ∧ b.has h
  sound := by
    intro X Γ h e c hk hh hc
    cases e <;> try exact absurd hc Bool.false_ne_true
    obtain ⟨h1, h2, h3⟩ := and3 hc
    exact pe_dget (by have := c.room.units; omega) (a.sound c hk hh.1 h1) (b.sound c hk hh.2 h2) (plainIx h3)
def Ex.dget (a b : Ex K) : Ex K where
  t := tDGet1 a.t b.t
  chk := fun Γ e => match e with
    | .Call (.Attribute x y ap) [z] [] cp => decide (y = "get") && a.chk Γ x && nsup x && (ap.endLine == cp.line && (b.chk Γ z && nst z))
    | _ => false
  has := fun h => a.has h ∧ b.has h
  sound := by
    intro X Γ h e c hk hh hc
    split at hc
    · obtain ⟨h1, h2, h3, h4⟩ := and4 hc
      obtain ⟨h4, h5, h6⟩ := and2 h4 |>.imp id and2
      have e := of_decide_eq_true h1
      subst e
      refine pe_dget1 (by have := c.room.units; omega) (a.sound c hk hh.1 h2) (b.sound c hk hh.2 h5) ⟨base_of h3, ?_, h4, ?_⟩
      · rw [star_all (by rw [List.all_cons, h6]; rfl)]; rfl
      · rw [star_cons h6]; rfl
    · exact absurd hc Bool.false_ne_true
end Cb

namespace Tx
theorem row_text : ∀ (t : List Nat) (r : Nat) (l : List Nat), (rows t)[r]? = some l → (t.drop (offs (rows t) r)).take l.length = l
  | [], r, l, h => by
    cases r with
    | zero => simp [rows] at h; subst h; rfl
    | succ r => simp [rows] at h
  | c :: t, r, l, h => by
    by_cases hc : c = 10
    · subst hc
      rw [rows_nl] at h ⊢
      cases r with
      | zero => simp at h; subst h; simp
      | succ r =>
        have o : offs ([] :: rows t) (r + 1) = offs (rows t) r + 1 := by simp [offs]; omega
        have ih := row_text t r l (by simpa using h)
        rw [o, List.drop_succ_cons, ih]
    · obtain ⟨a, q, e1, e2⟩ := rows_other hc t
      rw [e2] at h ⊢
      cases r with
      | zero =>
        simp at h; subst h
        have ih := row_text t 0 a (by rw [e1]; rfl)
        have ih' : t.take a.length = a := by simpa [offs] using ih
        simp [offs, ih']
      | succ r =>
        have o : offs ((c :: a) :: q) (r + 1) = offs (a :: q) (r + 1) + 1 := by simp [offs]; omega
        have ih := row_text t (r + 1) l (by rw [e1]; simpa using h)
        rw [e1] at ih
        rw [o, List.drop_succ_cons, ih]
/-- the row of a place: its signs -/
theorem row_here {t : List Nat} {p : Nat} (hp : p ≤ t.length) : ∃ l, (rows t)[rowOf t p]? = some l ∧ l = (t.drop (beginOf t p)).take (endOf t p - beginOf t p) ∧ endOf t p = beginOf t p + l.length ∧ beginOf t p ≤ p := by
  obtain ⟨l, h1, h2, h3, h4, h5⟩ := row_at t p hp
  have h6 := row_text t _ l h1
  have h7 := offs_le t _ l h1
  refine ⟨l, h1, ?_, by omega, by omega⟩
  rw [h4, h5]
  have : offs (rows t) (rowOf t p) + l.length - offs (rows t) (rowOf t p) = l.length := by omega
  rw [this, h6]
def lead : List Nat → Nat
  | [] => 0
  | c :: r => if c = 32 then lead r + 1 else 0
theorem lead_le : ∀ r : List Nat, lead r ≤ r.length
  | [] => Nat.le_refl 0
  | c :: r => by
    have := lead_le r
    unfold lead
    split <;> simp <;> omega
theorem count_lead : ∀ r : List Nat, ((List.range r.length).filter fun i => decide (r.take (i + 1) = List.replicate (i + 1) 32)).length = lead r
  | [] => rfl
  | c :: r => by
    have ih := count_lead r
    rw [List.length_cons, List.range_succ_eq_map, List.filter_cons, List.filter_map]
    by_cases h : c = 32
    · subst h
      have e : ((fun i => decide (List.take (i + 1) (32 :: r) = List.replicate (i + 1) 32)) ∘ Nat.succ) = fun i => decide (r.take (i + 1) = List.replicate (i + 1) 32) := by
        funext i
        simp [List.replicate_succ]
      rw [e]
      simp [lead, ih]
    · have e : ((fun i => decide (List.take (i + 1) (c :: r) = List.replicate (i + 1) 32)) ∘ Nat.succ) = fun i => false := by
        funext i
        simp [List.replicate_succ, h]
      rw [e]
      simp [lead, h, List.replicate_succ]
theorem lead_scan : ∀ (r : List Nat), (∀ i, i < lead r → r[i]? = some 32) ∧ (lead r < r.length → r[lead r]? ≠ some 32)
  | [] => ⟨fun i h => by simp [lead] at h, fun h => by simp at h⟩
  | c :: r => by
    obtain ⟨h1, h2⟩ := lead_scan r
    by_cases h : c = 32
    · subst h
      refine ⟨fun i hi => ?_, fun hi => ?_⟩
      · cases i with
        | zero => rfl
        | succ i => simp [lead] at hi; simpa using h1 i hi
      · simp [lead] at hi ⊢
        exact h2 hi
    · refine ⟨fun i hi => by simp [lead, h] at hi, fun hi => ?_⟩
      simp [lead, h]
end Tx

/-! A token is out: e.replace of written texts -/
namespace Cb
open PySem L2
variable {K : PySem.W.Frag}
structure ExT (K : PySem.W.Frag) where
  t : TE
  chk : Gam → Expr → Bool
  has : Hx → Prop
  sound : ∀ {X : Cx} {Γ : Gam} {h : Hx} {e : Expr}, Ctx X Γ h → h.K = K → has h → chk Γ e = true → PET X e t
structure SmT (K : PySem.W.Frag) where
  t : TS
  chk : Gam → Stmt → Bool
  has : Hx → Prop
  sound : ∀ {X : Cx} {Γ : Gam} {h : Hx} {st : Stmt}, Ctx X Γ h → h.K = K → has h → chk Γ st = true → PST X st t
structure SsT (K : PySem.W.Frag) where
  t : TS
  chk : Gam → List Stmt → Bool
  has : Hx → Prop
  sound : ∀ {X : Cx} {Γ : Gam} {h : Hx} {st : List Stmt}, Ctx X Γ h → h.K = K → has h → chk Γ st = true → PSsT X st t
def SsT.of (a : Ss K) : SsT K := ⟨a.t, a.chk, a.has, fun c hk hh hc => PSsT.of (a.sound c hk hh hc)⟩
def SmT.of (a : Sm K) : SmT K := ⟨a.t, a.chk, a.has, fun c hk hh hc => PST.of (a.sound c hk hh hc)⟩
def SsT.cons (a : SmT K) (r : SsT K) : SsT K where
  t := fun D σ H => a.t { D with nx := r.t D } σ H
  chk := fun Γ s => match s with
    | x :: xs => a.chk Γ x && r.chk Γ xs
    | [] => false
  has := fun h => a.has h ∧ r.has h
  sound := by
    intro X Γ h s c hk hh hc
    cases s with
    | nil => exact absurd hc Bool.false_ne_true
    | cons x xs =>
      obtain ⟨h1, h2⟩ := and2 hc
      exact psst_cons (a.sound c hk hh.1 h1) (r.sound c hk hh.2 h2)
def SmT.ite (p : Te K) (a b : SsT K) : SmT K where
  t := fun D σ H => p.t σ H fun c H1 => br c (a.t D σ H1) (b.t D σ H1)
  chk := fun Γ s => match s with
    | .If x y z _ => p.chk Γ x && a.chk Γ y && b.chk Γ z
    | _ => false
  has := fun h => p.has h ∧ a.has h ∧ b.has h
  sound := by
    intro X Γ h s c hk hh hc
    cases s <;> try exact absurd hc Bool.false_ne_true
    obtain ⟨h1, h2, h3⟩ := and3 hc
    simp only [br_eq]
    exact CwR.pst_if (p.sound c hk hh.1 h1) (a.sound c hk hh.2.1 h2) (b.sound c hk hh.2.2 h3)
def SmT.set (i : Nat) (a : ExT K) : SmT K where
  t := tAsg a.t (gName i)
  chk := fun Γ s => match s with
    | .Assign [.Name x _] e _ => decide (Γ.N[i]? = some x) && isLoc Γ.all (Γ.names.lookup x) && a.chk Γ e && ncomp e
    | _ => false
  has := a.has
  sound := by
    intro X Γ h s c hk hh hc
    cases s <;> try exact absurd hc Bool.false_ne_true
    rename_i ts e pos
    rcases ts with _ | ⟨t, _ | ⟨_, _⟩⟩
    · exact absurd hc Bool.false_ne_true
    · cases t <;> try exact absurd hc Bool.false_ne_true
      obtain ⟨h1, h2, h3, h4⟩ := and4 hc
      obtain ⟨l, f⟩ := loc_of c h2
      intro pins s σ H D h0 I hq
      refine wpAny_Assign_Name (thn (a.sound c hk hh h3 pins s σ H _ h0 I hq) fun v s1 ⟨y, H1, I1, r1, q1⟩ => ?_) (noswap h4)
      exact store_ok I1 (by rw [c.N]; exact c.nd) (by rw [c.N]; exact of_decide_eq_true h1) l r1 (fun s2 I2 => ⟨_, H1, I2, q1⟩) f
    · cases t <;> exact absurd hc Bool.false_ne_true
/-- o.replace('y', 'z') -/
def ExT.repl (o : Ex K) (y z : Str) (hyz : (y == z) = false) : ExT K where
  t := fun σ H Q => o.t σ H (onS fun x H1 => x.length + (x.length + 1) * z.length ≤ 16777216 ∧ Q (.str (Txt.replace x y z)) H1)
  chk := fun Γ e => match e with
    | .Call (.Attribute x m ap) [.Constant (.str a) _ _, .Constant (.str b) _ _] [] cp => decide (m = "replace") && o.chk Γ x && nsup x && (ap.endLine == cp.line && (decide (a = y) && decide (b = z)))
    | _ => false
  has := o.has
  sound := by
    intro X Γ h e c hk hh hc
    split at hc
    · obtain ⟨h1, h2, h3, h4⟩ := and4 hc
      obtain ⟨k4, k56⟩ := and2 h4
      obtain ⟨k5, k6⟩ := and2 k56
      have e1 := of_decide_eq_true h1
      have e2 := of_decide_eq_true k5
      have e3 := of_decide_eq_true k6
      subst e1 e2 e3
      intro pins s σ H Q h0 I q
      refine CwR.pet_replC (o.sound c hk hh h2) hyz rfl (base_of h3) k4 pins s σ H Q h0 I ?_
      unfold CwR.tReplC
      refine (congrArg (fun f => o.t σ H f) ?_).mp q
      funext x H1
      apply propext
      cases x <;> simp [onS]
    · exact absurd hc Bool.false_ne_true
def ExT.add (a : ExT K) (b : Ex K) : ExT K where
  t := tOp (rAddD K) a.t b.t
  chk := fun Γ e => match e with
    | .BinOp x .Add y _ => a.chk Γ x && b.chk Γ y
    | _ => false
  has := fun h => a.has h ∧ b.has h
  sound := by
    intro X Γ h e c hk hh hc
    split at hc
    · obtain ⟨h1, h2⟩ := and2 hc
      have ek : X.K = K := c.K.trans hk
      subst ek
      exact CwR.pet_op (op_addD X) (a.sound c hk hh.1 h1) (CwR.PET.of (b.sound c hk hh.2 h2))
    · exact absurd hc Bool.false_ne_true
/-- x = n + e: behind it a token is out -/
def Ss.tok (i : Nat) (n : Int) (b : Ex K) (r : SsT K) : Ss K where
  t := fun D σ H => tAsg (tOp (rAddD K) (tC (.int n)) b.t) (gName i) { D with nx := r.t D } σ H
  chk := fun Γ s => match s with
    | .Assign [.Name x _] (.BinOp (.Constant (.int m) _ _) .Add e _) _ :: rest => decide (Γ.N[i]? = some x) && isLoc Γ.all (Γ.names.lookup x) && (decide (m = n) && b.chk Γ e) && r.chk Γ rest
    | _ => false
  has := fun h => b.has h ∧ r.has h
  sound := by
    intro X Γ h s c hk hh hc
    split at hc
    · obtain ⟨h1, h2, h3, h4⟩ := and4 hc
      obtain ⟨h3, h5⟩ := and2 h3
      have e1 := of_decide_eq_true h3
      subst e1
      obtain ⟨l, f⟩ := loc_of c h2
      have ek : X.K = K := c.K.trans hk
      subst ek
      refine ⟨fun pins s σ H D I hq => ?_⟩
      refine wpAny_execs_cons (wpAny_Assign_Name (wpAny_BinOp (wpAny_Constant_int ?_)) rfl)
      refine wpAny_mono (PySem.wpAny_toks ((b.sound c hk hh.1 h5).run pins _ σ H _ (I.tok (s.toks + 1)) hq)) (fun v s1 q => ?_) fun _ _ z => z.2
      obtain ⟨k1, y, H1, I1, r1, q1⟩ := q
      refine wpAny_mono (PySem.wpAny_toks (op_addD X pins s1 σ H1 (.int _) y (.int _ s.toks) v _ I1 ⟨s.toks, rfl⟩ r1 q1)) (fun v2 s2 q => ?_) fun _ _ z => z.2
      obtain ⟨k2, z, H2, I2, r2, q2⟩ := q
      refine wpAny_mono (PySem.wpAny_toks (store_ok (Q := fun _ s3 => Inv X pins (σ.set i (some z)) H2 s3) I2 (by rw [c.N]; exact c.nd) (by rw [c.N]; exact of_decide_eq_true h1) l r2 (fun s3 I3 => I3) f)) (fun _ s3 q => ?_) fun _ _ z => z.2
      have k1' : s.toks + 1 ≤ s1.toks := k1
      exact (r.sound c hk hh.2 h4) pins s3 _ H2 D (by have := q.1; omega) q.2 q2
    · exact absurd hc Bool.false_ne_true
end Cb

namespace Cb
open PySem L2
variable {K : PySem.W.Frag}
def Ms.index : Ms where
  name := "index"
  id := "str.index"
  slot := PySem.F.slot_str_index
  ty := PySem.F.type_str_index
  r := fun _ z vs H Q => match vs with
    | [.str b] => ∃ i rest, Builtin.Str.occurrences z b 0 z.length 1 = i :: rest ∧ Q (.int (i : Nat)) H
    | _ => False
  ok := fun X _ pins s σ H x xs v us Q I rx rs h => by
    obtain ⟨z, rfl, h⟩ := onS_i h
    split at h
    · obtain ⟨i, rest, ho, q⟩ := h
      exact mt_sindex pins s σ H _ _ v us Q I rx rs ⟨_, _, i, rest, rfl, rfl, ho, q⟩
    · exact h.elim
/-- l.pop() -/
def Ex.pop (o : Ex K) : Ex K where
  t := fun σ H Q => o.t σ H (onR fun z H1 => ∃ xs y, H1 z = some (.lst xs) ∧ xs[xs.length - 1]? = some y ∧ Q y (upd H1 z (.lst xs.dropLast)))
  chk := fun Γ e => match e with
    | .Call (.Attribute x y ap) [] [] cp => decide (y = "pop") && o.chk Γ x && nsup x && (ap.endLine == cp.line)
    | _ => false
  has := o.has
  sound := by
    intro X Γ h e c hk hh hc
    split at hc
    · obtain ⟨h1, h2, h3, h4⟩ := and4 hc
      have e := of_decide_eq_true h1
      subst e
      refine PE.imp (pe_bm0 (T := "list") (r := rPop) PySem.F.plainAttrs_list PySem.F.slot_list_pop PySem.F.type_list_pop mt_pop (o.sound c hk hh h2) (base_of h3) h4) fun σ H Q q => ?_
      unfold tBM0
      obtain ⟨p⟩ := o.sound c hk hh h2
      refine (congrArg (fun f => o.t σ H f) ?_).mp q
      funext x H1
      apply propext
      constructor
      · intro z
        obtain ⟨l, rfl, xs, y, z1, z2, z3⟩ := onR_i z
        exact ⟨.inl ⟨rfl, xs, SqL.of z1⟩, l, xs, y, rfl, rfl, z1, z2, z3⟩
      · rintro ⟨_, l, xs, y, rfl, _, z1, z2, z3⟩
        exact ⟨xs, y, z1, z2, z3⟩
    · exact absurd hc Bool.false_ne_true
end Cb

/-! Brackets: the partner by counting, and by a stack. Plain Lean. -/
namespace Tx
def b1 (x y : Nat) : Int := if x = y then 1 else 0
/-- on from a place: s counts up, o down -/
def fwdL (s o : Nat) : List Nat → Nat → Int → Option Nat
  | [], _, _ => none
  | x :: r, i, d => if d + b1 x s - b1 x o = 0 then some i else fwdL s o r (i + 1) (d + b1 x s - b1 x o)
/-- back: the signs reversed, the last one's place is their number less one -/
def bwdL (s o : Nat) : List Nat → Int → Option Nat
  | [], _ => none
  | x :: r, d => if d + b1 x s - b1 x o = 0 then some r.length else bwdL s o r (d + b1 x s - b1 x o)
/-- the law: a stack -/
def lawGo (o c p : Nat) : List Nat → Nat → List Nat → Option Nat
  | [], _, _ => none
  | x :: r, i, st =>
    if x = c then
      match (if x = o then i :: st else st) with
      | f :: st2 => if p = f ∨ p = i then some (i + f - p) else lawGo o c p r (i + 1) st2
      | [] => lawGo o c p r (i + 1) []
    else lawGo o c p r (i + 1) (if x = o then i :: st else st)
theorem go_o {o c p : Nat} (h : o ≠ c) (r : List Nat) (i : Nat) (st : List Nat) : lawGo o c p (o :: r) i st = lawGo o c p r (i + 1) (i :: st) := by
  simp [lawGo, h]
theorem go_c {o c p : Nat} (h : o ≠ c) (r : List Nat) (i f : Nat) (st : List Nat) : lawGo o c p (c :: r) i (f :: st) = if p = f ∨ p = i then some (i + f - p) else lawGo o c p r (i + 1) st := by
  have : c ≠ o := fun e => h e.symm
  simp [lawGo, this]
theorem go_c0 {o c p : Nat} (h : o ≠ c) (r : List Nat) (i : Nat) : lawGo o c p (c :: r) i [] = lawGo o c p r (i + 1) [] := by
  have : c ≠ o := fun e => h e.symm
  simp [lawGo, this]
theorem go_x {o c p x : Nat} (h1 : x ≠ o) (h2 : x ≠ c) (r : List Nat) (i : Nat) (st : List Nat) : lawGo o c p (x :: r) i st = lawGo o c p r (i + 1) st := by
  simp [lawGo, h1, h2]
theorem go_none {o c p : Nat} (h : o ≠ c) : ∀ (r : List Nat) (i : Nat) (st : List Nat), p ∉ st → (∀ k x, r[k]? = some x → i + k = p → x ≠ o ∧ x ≠ c) → lawGo o c p r i st = none
  | [], i, st, _, _ => rfl
  | x :: r, i, st, hp, hr => by
    have rest : ∀ k x, r[k]? = some x → i + 1 + k = p → x ≠ o ∧ x ≠ c := fun k x e1 e2 => hr (k + 1) x (by simpa using e1) (by omega)
    by_cases h1 : x = o
    · subst h1
      rw [go_o h]
      refine go_none h r (i + 1) _ ?_ rest
      intro hm
      rcases List.mem_cons.mp hm with e | e
      · exact (hr 0 x rfl (by omega)).1 rfl
      · exact hp e
    · by_cases h2 : x = c
      · subst h2
        cases st with
        | nil => rw [go_c0 h]; exact go_none h r (i + 1) [] hp rest
        | cons f st =>
          rw [go_c h]
          have n1 : p ≠ f := fun e => hp (by rw [e]; exact List.mem_cons_self ..)
          have n2 : p ≠ i := fun e => (hr 0 x rfl (by omega)).2 rfl
          rw [if_neg (by simp [n1, n2])]
          exact go_none h r (i + 1) st (fun e => hp (List.mem_cons_of_mem _ e)) rest
      · rw [go_x h1 h2]; exact go_none h r (i + 1) st hp rest
/-- the stack behind some signs -/
def stk (o c : Nat) : List Nat → List Nat
  | [] => []
  | x :: r => if x = o then r.length :: stk o c r else if x = c then (stk o c r).tail else stk o c r
theorem stk_lt (o c : Nat) : ∀ (r : List Nat), ∀ f ∈ stk o c r, f < r.length
  | [], f, h => by simp [stk] at h
  | x :: r, f, h => by
    have ih := stk_lt o c r
    unfold stk at h
    split at h
    · rcases List.mem_cons.mp h with e | e
      · rw [e]; simp
      · have := ih f e; simp; omega
    · split at h
      · have := ih f (List.mem_of_mem_tail h); simp; omega
      · have := ih f h; simp; omega
/-- ahead of p the law only stacks -/
theorem go_pre {o c p : Nat} (h : o ≠ c) : ∀ (u v w : List Nat), w.length + u.length ≤ p → lawGo o c p (u ++ v) w.length (stk o c w) = lawGo o c p v (w.length + u.length) (stk o c (u.reverse ++ w))
  | [], v, w, _ => rfl
  | x :: u, v, w, hp => by
    have hlen : (x :: u).length = u.length + 1 := rfl
    have e1 : (x :: u).reverse ++ w = u.reverse ++ (x :: w) := by simp
    have e2 : w.length + (x :: u).length = (x :: w).length + u.length := by simp; omega
    have ih := go_pre (p := p) h u v (x :: w) (by rw [← e2]; exact hp)
    rw [e1, e2, ← ih]
    show lawGo o c p (x :: (u ++ v)) w.length (stk o c w) = lawGo o c p (u ++ v) (w.length + 1) (stk o c (x :: w))
    by_cases h1 : x = o
    · subst h1
      rw [go_o h]; simp [stk]
    · by_cases h2 : x = c
      · subst h2
        have hs : stk o x (x :: w) = (stk o x w).tail := by simp [stk, h1]
        rw [hs]
        cases e : stk o x w with
        | nil => rw [go_c0 h]; rfl
        | cons f st =>
          have hf := stk_lt o x w f (by rw [e]; exact List.mem_cons_self ..)
          rw [go_c h, if_neg (by simp at hp; omega)]; rfl
      · rw [go_x h1 h2]; simp [stk, h1, h2]
theorem bwd_stk {o c : Nat} (h : o ≠ c) : ∀ (r : List Nat) (n : Nat), bwdL c o r ((n : Int) + 1) = (stk o c r)[n]?
  | [], n => by simp [bwdL, stk]
  | x :: r, n => by
    by_cases h1 : x = o
    · subst h1
      have e : ((n : Int) + 1 + b1 x c - b1 x x) = (n : Int) := by simp [b1, h]
      unfold bwdL
      rw [e]
      cases n with
      | zero => simp [stk]
      | succ n =>
        rw [if_neg (by omega)]
        have ih := bwd_stk h r n
        have e2 : ((n + 1 : Nat) : Int) = (n : Int) + 1 := by omega
        rw [e2, ih]; simp [stk]
    · by_cases h2 : x = c
      · subst h2
        have e : ((n : Int) + 1 + b1 x x - b1 x o) = ((n + 1 : Nat) : Int) + 1 := by simp [b1, h1]
        unfold bwdL
        rw [e, if_neg (by omega), bwd_stk h r (n + 1)]
        simp [stk, h1]
      · have e : ((n : Int) + 1 + b1 x c - b1 x o) = (n : Int) + 1 := by simp [b1, h1, h2]
        unfold bwdL
        rw [e, if_neg (by omega), bwd_stk h r n]
        simp [stk, h1, h2]
theorem fwd_stk {o c p : Nat} (h : o ≠ c) : ∀ (r : List Nat) (i : Nat) (ys st : List Nat), p < i → (∀ y ∈ ys, p < y) → lawGo o c p r i (ys ++ p :: st) = fwdL o c r i ((ys.length : Int) + 1)
  | [], i, ys, st, _, _ => rfl
  | x :: r, i, ys, st, hi, hy => by
    by_cases h1 : x = o
    · subst h1
      have e : (((ys.length : Nat) : Int) + 1 + b1 x x - b1 x c) = (((i :: ys).length : Nat) : Int) + 1 := by simp [b1, h]
      unfold fwdL
      rw [go_o h, e, if_neg (by simp; omega)]
      exact fwd_stk h r (i + 1) (i :: ys) st (by omega) (fun y hm => by
        rcases List.mem_cons.mp hm with e | e
        · omega
        · exact hy y e)
    · by_cases h2 : x = c
      · subst h2
        have e : (((ys.length : Nat) : Int) + 1 + b1 x o - b1 x x) = ((ys.length : Nat) : Int) := by simp [b1, h1]
        unfold fwdL
        rw [e]
        cases ys with
        | nil =>
          rw [List.nil_append, go_c h, if_pos (.inl rfl)]
          simp
        | cons y ys =>
          rw [List.cons_append, go_c h]
          have := hy y (List.mem_cons_self ..)
          rw [if_neg (by omega), if_neg (by simp; omega)]
          have e2 : (((y :: ys).length : Nat) : Int) = ((ys.length : Nat) : Int) + 1 := by simp
          rw [e2]
          exact fwd_stk h r (i + 1) ys st (by omega) (fun z hz => hy z (List.mem_cons_of_mem _ hz))
      · have e : (((ys.length : Nat) : Int) + 1 + b1 x o - b1 x c) = ((ys.length : Nat) : Int) + 1 := by simp [b1, h1, h2]
        unfold fwdL
        rw [e, if_neg (by omega), go_x h1 h2]
        exact fwd_stk h r (i + 1) ys st (by omega) hy
theorem split_at {t : List Nat} {p x : Nat} (h : t[p]? = some x) : t = t.take p ++ x :: t.drop (p + 1) := by
  have hp : p < t.length := (List.getElem?_eq_some_iff.mp h).1
  have e := (List.getElem?_eq_some_iff.mp h).2
  have := List.drop_eq_getElem_cons hp
  rw [e] at this
  rw [← this, List.take_append_drop]
/-- at an opening sign -/
theorem law_open {o c p : Nat} (h : o ≠ c) {t : List Nat} (ht : t[p]? = some o) : lawGo o c p t 0 [] = fwdL o c (t.drop p) p 0 := by
  have hp : p < t.length := (List.getElem?_eq_some_iff.mp ht).1
  have e1 := split_at ht
  have e2 := go_pre (p := p) h (t.take p) (o :: t.drop (p + 1)) [] (by simp; omega)
  rw [← e1] at e2
  have e3 : ([] : List Nat).length + (t.take p).length = p := by simp; omega
  rw [e3] at e2
  have e4 : stk o c ([] : List Nat) = [] := rfl
  rw [e4] at e2
  show lawGo o c p t ([] : List Nat).length [] = _
  rw [e2, go_o h]
  have e5 := fwd_stk (p := p) h (t.drop (p + 1)) (p + 1) [] (stk o c ((t.take p).reverse ++ [])) (by omega) (by simp)
  rw [List.nil_append] at e5
  rw [e5]
  have e6 : t.drop p = o :: t.drop (p + 1) := by
    have := List.drop_eq_getElem_cons hp
    rw [(List.getElem?_eq_some_iff.mp ht).2] at this
    exact this
  rw [e6]
  have e7 : ((0 : Int) + b1 o o - b1 o c) = 1 := by simp [b1, h]
  show _ = fwdL o c (o :: t.drop (p + 1)) p 0
  unfold fwdL
  rw [e7, if_neg (by omega)]
  cases e8 : t.drop (p + 1) with
  | nil => rfl
  | cons x r => rfl
/-- at a closing sign -/
theorem law_shut {o c p : Nat} (h : o ≠ c) {t : List Nat} (ht : t[p]? = some c) : lawGo o c p t 0 [] = bwdL c o ((t.take (p + 1)).reverse) 0 := by
  have hp : p < t.length := (List.getElem?_eq_some_iff.mp ht).1
  have e1 := split_at ht
  have e2 := go_pre (p := p) h (t.take p) (c :: t.drop (p + 1)) [] (by simp; omega)
  rw [← e1] at e2
  have e3 : ([] : List Nat).length + (t.take p).length = p := by simp; omega
  rw [e3] at e2
  have e4 : stk o c ([] : List Nat) = [] := rfl
  rw [e4] at e2
  show lawGo o c p t ([] : List Nat).length [] = _
  rw [e2, List.append_nil]
  have e6 : (t.take (p + 1)).reverse = c :: (t.take p).reverse := by
    rw [List.take_add_one, ht]; simp
  rw [e6]
  have e7 : ((0 : Int) + b1 c c - b1 c o) = ((0 : Nat) : Int) + 1 := by
    have : c ≠ o := fun e => h e.symm
    simp [b1, this]
  have e9 := bwd_stk h (t.take p).reverse 0
  show _ = bwdL c o (c :: (t.take p).reverse) 0
  unfold bwdL
  rw [e7, if_neg (by omega), e9]
  cases e8 : stk o c (t.take p).reverse with
  | nil =>
    rw [go_c0 h]
    exact go_none h _ _ _ (by simp) (fun k x _ e => by omega)
  | cons f st =>
    have hf := stk_lt o c _ f (by rw [e8]; exact List.mem_cons_self ..)
    rw [go_c h, if_pos (.inr rfl)]
    simp
def opOf (c : Nat) : Option (Nat × Nat × Bool) := if c = 40 then some (40, 41, true) else if c = 91 then some (91, 93, true) else if c = 123 then some (123, 125, true)
  else if c = 41 then some (41, 40, false) else if c = 93 then some (93, 91, false) else if c = 125 then some (125, 123, false) else none
/-- where the bracket at p has its partner -/
def pairOf (t : List Nat) (p : Nat) : Option Nat := match t[p]? with
  | none => none
  | some x => match opOf x with
    | none => none
    | some (s, o, true) => fwdL s o (t.drop p) p 0
    | some (s, o, false) => bwdL s o ((t.take (p + 1)).reverse) 0
def lawPair (t : List Nat) (p : Nat) : Option Nat := match lawGo 40 41 p t 0 [] with
  | some n => some n
  | none => match lawGo 91 93 p t 0 [] with
    | some n => some n
    | none => lawGo 123 125 p t 0 []
theorem pair_law (t : List Nat) (p : Nat) : lawPair t p = pairOf t p := by
  have no : ∀ o c, o ≠ c → (∀ x, t[p]? = some x → x ≠ o ∧ x ≠ c) → lawGo o c p t 0 [] = none := fun o c h hx => by
    refine go_none h t 0 [] (by simp) (fun k x e1 e2 => hx x ?_)
    have e3 : k = p := by omega
    rw [← e3]; exact e1
  unfold pairOf
  cases ht : t[p]? with
  | none =>
    have hx : ∀ (o c x : Nat), t[p]? = some x → x ≠ o ∧ x ≠ c := fun o c x e => by rw [ht] at e; cases e
    unfold lawPair
    rw [no 40 41 (by decide) (hx 40 41), no 91 93 (by decide) (hx 91 93), no 123 125 (by decide) (hx 123 125)]
  | some x =>
    have hx : ∀ (o c : Nat), x ≠ o → x ≠ c → ∀ y, t[p]? = some y → y ≠ o ∧ y ≠ c := fun o c h1 h2 y e => by rw [ht] at e; cases e; exact ⟨h1, h2⟩
    unfold lawPair
    show _ = match opOf x with
      | none => none
      | some (s, o, true) => fwdL s o (t.drop p) p 0
      | some (s, o, false) => bwdL s o ((t.take (p + 1)).reverse) 0
    by_cases h1 : x = 40
    · subst h1
      rw [law_open (by decide) ht, no 91 93 (by decide) (hx 91 93 (by decide) (by decide)), no 123 125 (by decide) (hx 123 125 (by decide) (by decide))]
      show _ = fwdL 40 41 (t.drop p) p 0
      cases fwdL 40 41 (t.drop p) p 0 <;> rfl
    by_cases h2 : x = 91
    · subst h2
      rw [no 40 41 (by decide) (hx 40 41 (by decide) (by decide)), law_open (by decide) ht, no 123 125 (by decide) (hx 123 125 (by decide) (by decide))]
      show _ = fwdL 91 93 (t.drop p) p 0
      cases fwdL 91 93 (t.drop p) p 0 <;> rfl
    by_cases h3 : x = 123
    · subst h3
      rw [no 40 41 (by decide) (hx 40 41 (by decide) (by decide)), no 91 93 (by decide) (hx 91 93 (by decide) (by decide)), law_open (by decide) ht]
      rfl
    by_cases h4 : x = 41
    · subst h4
      rw [law_shut (by decide) ht, no 91 93 (by decide) (hx 91 93 (by decide) (by decide)), no 123 125 (by decide) (hx 123 125 (by decide) (by decide))]
      show _ = bwdL 41 40 ((t.take (p + 1)).reverse) 0
      cases bwdL 41 40 ((t.take (p + 1)).reverse) 0 <;> rfl
    by_cases h5 : x = 93
    · subst h5
      rw [no 40 41 (by decide) (hx 40 41 (by decide) (by decide)), law_shut (by decide) ht, no 123 125 (by decide) (hx 123 125 (by decide) (by decide))]
      show _ = bwdL 93 91 ((t.take (p + 1)).reverse) 0
      cases bwdL 93 91 ((t.take (p + 1)).reverse) 0 <;> rfl
    by_cases h6 : x = 125
    · subst h6
      rw [no 40 41 (by decide) (hx 40 41 (by decide) (by decide)), no 91 93 (by decide) (hx 91 93 (by decide) (by decide)), law_shut (by decide) ht]
      rfl
    have e : opOf x = none := by simp [opOf, h1, h2, h3, h4, h5, h6]
    rw [e, no 40 41 (by decide) (hx 40 41 h1 h4), no 91 93 (by decide) (hx 91 93 h2 h5), no 123 125 (by decide) (hx 123 125 h3 h6)]
end Tx

/-! brackets -/
namespace Ed
open PySem L2 Cb
open Evl (Ev EvT)
def sp_partner (K : PySem.W.Frag) : Sp := fun vs H Q _ => ∃ (t : List Nat) (p : Nat), vs = [sv t, iv p] ∧ t.length ≤ 10000 ∧ p ≤ t.length ∧ Q (vo (Tx.pairOf t p)) H
def b_partner (K : PySem.W.Frag) : Ss K :=
  (Ss.cons (Sm.set 2 (Ex.sl (Ex.v 0) (Op.yes (Ex.v 1)) (Op.yes (Ex.add (Ex.v 1) (Ex.i 1)))))
  (Ss.cons (Sm.ite (Te.w (Tw.or (Te.cmp Cm.eq (Ex.v 2) (Ex.s ⟨#[]⟩)) (Tw.one (Te.cmp Cm.notIn (Ex.v 2) (Ex.add (Ex.g "OPEN" (.str cOPEN)) (Ex.g "SHUT" (.str cSHUT)))))))
    (Ss.cons (Sm.ret Ex.none)
    Ss.nil)
    Ss.nil)
  (Ss.cons (Sm.set 3 (Ex.ifx (Te.cmp Cm.isin (Ex.v 2) (Ex.g "OPEN" (.str cOPEN))) (Ex.i 1) (Ex.neg 1)))
  (Ss.cons (Sm.set 4 (Ex.ifx (Te.cmp Cm.isin (Ex.v 2) (Ex.g "OPEN" (.str cOPEN))) (Ex.g "OPEN" (.str cOPEN)) (Ex.g "SHUT" (.str cSHUT))))
  (Ss.cons (Sm.set 5 (Ex.ix (Ex.ifx (Te.cmp Cm.isin (Ex.v 2) (Ex.g "OPEN" (.str cOPEN))) (Ex.g "SHUT" (.str cSHUT)) (Ex.g "OPEN" (.str cOPEN))) (Ex.sm Ms.index (Ex.v 4) (As.cons (Ex.v 2) As.nil))))
  (Ss.cons (Sm.set 6 (Ex.i 0))
  (Ss.cons (Sm.set 7 (Ex.v 1))
  (Ss.cons (Sm.whl (Te.chain Cm.le Cm.lt (Ex.i 0) (Ex.v 7) (Ex.len (As.cons (Ex.v 0) As.nil)))
    (Ss.cons (Sm.set 6 (Ex.sub (Ex.add (Ex.v 6) (Ex.int (As.cons (Ex.cmp Cm.eq (Ex.ix (Ex.v 0) (Ex.v 7)) (Ex.v 2)) As.nil))) (Ex.int (As.cons (Ex.cmp Cm.eq (Ex.ix (Ex.v 0) (Ex.v 7)) (Ex.v 5)) As.nil))))
    (Ss.cons (Sm.ite (Te.cmp Cm.eq (Ex.v 6) (Ex.i 0))
      (Ss.cons (Sm.ret (Ex.v 7))
      Ss.nil)
      Ss.nil)
    (Ss.cons (Sm.set 7 (Ex.add (Ex.v 7) (Ex.v 3)))
    Ss.nil))))
  (Ss.cons (Sm.ret Ex.none)
  Ss.nil)))))))))
def N_partner : List Str := ["text", "place", "sign", "step", "kinds", "other", "deep", "here"]
abbrev wh_partner (K : PySem.W.Frag) : Sm K := (Sm.whl (Te.chain Cm.le Cm.lt (Ex.i 0) (Ex.v 7) (Ex.len (As.cons (Ex.v 0) As.nil)))
    (Ss.cons (Sm.set 6 (Ex.sub (Ex.add (Ex.v 6) (Ex.int (As.cons (Ex.cmp Cm.eq (Ex.ix (Ex.v 0) (Ex.v 7)) (Ex.v 2)) As.nil))) (Ex.int (As.cons (Ex.cmp Cm.eq (Ex.ix (Ex.v 0) (Ex.v 7)) (Ex.v 5)) As.nil))))
    (Ss.cons (Sm.ite (Te.cmp Cm.eq (Ex.v 6) (Ex.i 0))
      (Ss.cons (Sm.ret (Ex.v 7))
      Ss.nil)
      Ss.nil)
    (Ss.cons (Sm.set 7 (Ex.add (Ex.v 7) (Ex.v 3)))
    Ss.nil))))
theorem int_b1 (x y : Nat) : (if decide ((⟨#[x]⟩ : Str) = ⟨#[y]⟩) = true then (1 : Int) else 0) = Tx.b1 x y := by
  rw [dec_sv1]
  unfold Tx.b1
  by_cases h : x = y <;> simp [h]
/-- the two ways of the loop: W n i says what is looked for from here -/
theorem rd_scan (K : PySem.W.Frag) {t : List Nat} {p s o : Nat} {kinds : V} {step : Int} {D : Ends} {H : Hp} {res : Option Nat} (ht : t.length ≤ 10000)
    (F : Nat → Int → Int → Prop) (fin : ∀ n h d, F n h d → ¬ (0 ≤ h ∧ h < t.length) → res = none)
    (go : ∀ n h d, F n h d → 0 ≤ h → h < t.length → ∃ (k x : Nat), h = (k : Int) ∧ t[k]? = some x ∧ (d + Tx.b1 x s - Tx.b1 x o = 0 → res = some k) ∧ (d + Tx.b1 x s - Tx.b1 x o ≠ 0 → ∃ m, m < n ∧ F m (h + step) (d + Tx.b1 x s - Tx.b1 x o)))
    (hnone : res = none → ∀ d h, D.nx [some (sv t), some (iv p), some (.str ⟨#[s]⟩), some (.int step), some kinds, some (.str ⟨#[o]⟩), some (.int d), some (.int h)] H) (hsome : D.rt (vo res) H) (n : Nat) (h d : Int) (hF : F n h d) :
    (wh_partner K).t D [some (sv t), some (iv p), some (.str ⟨#[s]⟩), some (.int step), some kinds, some (.str ⟨#[o]⟩), some (.int d), some (.int h)] H := by
  refine ⟨fun m σ H' => H' = H ∧ ∃ h d, σ = [some (sv t), some (iv p), some (.str ⟨#[s]⟩), some (.int step), some kinds, some (.str ⟨#[o]⟩), some (.int d), some (.int h)] ∧ F m h d, ⟨n, rfl, h, d, rfl, hF⟩, ?_⟩
  rintro m σ H' ⟨rfl, h, d, rfl, hF⟩
  refine br_d (fun h0 => ?_) (fun h0 => ?_)
  · refine ⟨sz (by rw [len_sv]; omega), ?_⟩
    show if decide (h < (((⟨t.toArray⟩ : Str).length : Nat) : Int)) = true then _ else _
    rw [len_sv]
    by_cases h1 : h < (t.length : Int)
    · rw [if_pos (decide_eq_true h1)]
      obtain ⟨k, x, rfl, hx, g1, g2⟩ := go m h d hF h0 h1
      refine ⟨fun σ' H2 => H2 = H' ∧ ∃ h2 d2, σ' = [some (sv t), some (iv p), some (.str ⟨#[s]⟩), some (.int step), some kinds, some (.str ⟨#[o]⟩), some (.int d2), some (.int h2)] ∧ ∃ m', m' < m ∧ F m' h2 d2, ?_, ?_⟩
      · rintro σ' H2 ⟨rfl, h2, d2, rfl, m', hm, hF'⟩
        exact ⟨m', hm, rfl, h2, d2, rfl, hF'⟩
      · refine ⟨sz (by rw [len_sv]; omega), x, atI_nat hx, sz (by rw [len_sv]; omega), x, atI_nat hx, ?_⟩
        rw [← int_b1 x s, ← int_b1 x o] at g1 g2
        refine br_d (fun hz => ?_) (fun hz => ?_)
        · rw [g1 hz] at hsome
          exact hsome
        · obtain ⟨m', hm, hF'⟩ := g2 hz
          exact ⟨rfl, _, _, rfl, m', hm, hF'⟩
    · rw [if_neg (by simpa using h1)]
      exact hnone (fin m h d hF (fun z => h1 z.2)) d h
  · exact hnone (fin m h d hF (fun z => h0 z.1)) d h
theorem scan_f (K : PySem.W.Frag) {t : List Nat} {p s o : Nat} {kinds : V} {D : Ends} {H : Hp} {res : Option Nat} (ht : t.length ≤ 10000) (hr : res = Tx.fwdL s o (t.drop p) p 0) (hp : p ≤ t.length)
    (hnone : res = none → ∀ d h, D.nx [some (sv t), some (iv p), some (.str ⟨#[s]⟩), some (.int 1), some kinds, some (.str ⟨#[o]⟩), some (.int d), some (.int h)] H) (hsome : D.rt (vo res) H) :
    (wh_partner K).t D [some (sv t), some (iv p), some (.str ⟨#[s]⟩), some (.int 1), some kinds, some (.str ⟨#[o]⟩), some (.int 0), some (iv p)] H := by
  refine rd_scan K ht (fun n h d => ∃ i : Nat, h = (i : Int) ∧ i ≤ t.length ∧ n = t.length - i ∧ Tx.fwdL s o (t.drop i) i d = res) ?_ ?_ hnone hsome (t.length - p) p 0 ⟨p, rfl, hp, rfl, hr.symm⟩
  · rintro n h d ⟨i, rfl, hi, rfl, e⟩ hh
    have : i = t.length := by omega
    subst this
    rw [← e, List.drop_length]; rfl
  · rintro n h d ⟨i, rfl, hi, rfl, e⟩ h0 h1
    have hi' : i < t.length := by omega
    refine ⟨i, t[i], rfl, List.getElem?_eq_getElem hi', ?_, ?_⟩
    · intro z
      rw [← e, List.drop_eq_getElem_cons hi']
      unfold Tx.fwdL
      rw [if_pos z]
    · intro z
      refine ⟨t.length - (i + 1), by omega, i + 1, by omega, by omega, rfl, ?_⟩
      rw [← e]
      conv => rhs; rw [List.drop_eq_getElem_cons hi']; unfold Tx.fwdL
      rw [if_neg z]
theorem scan_b (K : PySem.W.Frag) {t : List Nat} {p s o : Nat} {kinds : V} {D : Ends} {H : Hp} {res : Option Nat} (ht : t.length ≤ 10000) (hr : res = Tx.bwdL s o ((t.take (p + 1)).reverse) 0) (hp : p < t.length)
    (hnone : res = none → ∀ d h, D.nx [some (sv t), some (iv p), some (.str ⟨#[s]⟩), some (.int (-1)), some kinds, some (.str ⟨#[o]⟩), some (.int d), some (.int h)] H) (hsome : D.rt (vo res) H) :
    (wh_partner K).t D [some (sv t), some (iv p), some (.str ⟨#[s]⟩), some (.int (-1)), some kinds, some (.str ⟨#[o]⟩), some (.int 0), some (iv p)] H := by
  refine rd_scan K ht (fun n h d => h = (n : Int) - 1 ∧ n ≤ t.length ∧ Tx.bwdL s o ((t.take n).reverse) d = res) ?_ ?_ hnone hsome (p + 1) p 0 ⟨by omega, by omega, hr.symm⟩
  · rintro n h d ⟨rfl, hn, e⟩ hh
    have : n = 0 := by omega
    subst this
    rw [← e]; rfl
  · rintro n h d ⟨rfl, hn, e⟩ h0 h1
    obtain ⟨k, rfl⟩ : ∃ k, n = k + 1 := ⟨n - 1, by omega⟩
    have hk : k < t.length := by omega
    have et : (t.take (k + 1)).reverse = t[k] :: (t.take k).reverse := by
      rw [List.take_add_one, List.getElem?_eq_getElem hk]; simp
    rw [et] at e
    refine ⟨k, t[k], by omega, List.getElem?_eq_getElem hk, ?_, ?_⟩
    · intro z
      rw [← e]
      unfold Tx.bwdL
      rw [if_pos z]
      simp; omega
    · intro z
      refine ⟨k, by omega, by omega, by omega, ?_⟩
      rw [← e]
      conv => rhs; unfold Tx.bwdL
      rw [if_neg z]
theorem cut_one {t : List Nat} {p x : Nat} (h : t[p]? = some x) : (t.drop p).take 1 = [x] := by
  have hp : p < t.length := (List.getElem?_eq_some_iff.mp h).1
  rw [List.drop_eq_getElem_cons hp, (List.getElem?_eq_some_iff.mp h).2]; rfl
theorem rd_partner (K : PySem.W.Frag) : ∀ vs H Q E, sp_partner K vs H Q E → (b_partner K).t { nx := fun _ H' => Q .non H', rt := Q } (start N_partner vs) H := by
  rintro _ H Q E ⟨t, p, rfl, ht, hp, q⟩
  refine ⟨sz (by rw [len_sv]; omega), ?_⟩
  have ec : cutS ⟨t.toArray⟩ (some (p : Int)) (some ((p : Int) + 1)) = ⟨((t.drop p).take 1).toArray⟩ := by
    have := cut_ofN t p (p + 1)
    have e1 : p + 1 - p = 1 := by omega
    rw [e1] at this
    exact this
  rw [ec]
  cases hx : t[p]? with
  | none =>
    have e0 : (t.drop p).take 1 = [] := by
      rw [List.drop_eq_nil_of_le (List.getElem?_eq_none_iff.mp hx)]; rfl
    rw [e0]
    have g : Tx.pairOf t p = none := by simp only [Tx.pairOf, hx]
    rw [g] at q
    exact q
  | some x =>
    have hpl : p < t.length := (List.getElem?_eq_some_iff.mp hx).1
    rw [cut_one hx]
    have g : Tx.pairOf t p = (match Tx.opOf x with
      | none => none
      | some (s, o, true) => Tx.fwdL s o (t.drop p) p 0
      | some (s, o, false) => Tx.bwdL s o ((t.take (p + 1)).reverse) 0) := by
      simp only [Tx.pairOf, hx]
      try rfl
    refine ⟨by decide, ?_⟩
    show br (!decide (x ∈ (cOPEN ++ cSHUT : Str).cps.toList)) _ _
    have em : (cOPEN ++ cSHUT : Str).cps.toList = [40, 91, 123, 41, 93, 125] := by decide +kernel
    rw [em]
    by_cases h1 : x = 40
    · subst h1
      refine ⟨0, [], by decide +kernel, by decide, 41, by decide +kernel, ?_⟩
      exact scan_f K ht g hp (fun e d h => by rw [e] at q; exact q) q
    by_cases h2 : x = 91
    · subst h2
      refine ⟨1, [], by decide +kernel, by decide, 93, by decide +kernel, ?_⟩
      exact scan_f K ht g hp (fun e d h => by rw [e] at q; exact q) q
    by_cases h3 : x = 123
    · subst h3
      refine ⟨2, [], by decide +kernel, by decide, 125, by decide +kernel, ?_⟩
      exact scan_f K ht g hp (fun e d h => by rw [e] at q; exact q) q
    by_cases h4 : x = 41
    · subst h4
      refine ⟨0, [], by decide +kernel, by decide, 40, by decide +kernel, ?_⟩
      exact scan_b K ht g hpl (fun e d h => by rw [e] at q; exact q) q
    by_cases h5 : x = 93
    · subst h5
      refine ⟨1, [], by decide +kernel, by decide, 91, by decide +kernel, ?_⟩
      exact scan_b K ht g hpl (fun e d h => by rw [e] at q; exact q) q
    by_cases h6 : x = 125
    · subst h6
      refine ⟨2, [], by decide +kernel, by decide, 123, by decide +kernel, ?_⟩
      exact scan_b K ht g hpl (fun e d h => by rw [e] at q; exact q) q
    have e0 : Tx.opOf x = none := by simp [Tx.opOf, h1, h2, h3, h4, h5, h6]
    rw [e0] at g
    rw [g] at q
    refine br_t ?_ q
    rw [decide_eq_false]; rfl
    simp [h1, h2, h3, h4, h5, h6]
end Ed

/-! brackets by the law -/
namespace Ed
open PySem L2 Cb
open Evl (Ev EvT)
def sp_law_pair (K : PySem.W.Frag) : Sp := fun vs H Q _ => ∃ (t : List Nat) (p : Nat), vs = [sv t, iv p] ∧ t.length ≤ 10000 ∧ RetV (vo (Tx.lawPair t p)) H Q
def b_law_pair (K : PySem.W.Frag) : Ss K :=
  (Ss.cons (Sm.for_ (Ir.tup (Ex.tup (As.cons (Ex.tup (As.cons (Ex.s ⟨#[40]⟩) (As.cons (Ex.s ⟨#[41]⟩) As.nil))) (As.cons (Ex.tup (As.cons (Ex.s ⟨#[91]⟩) (As.cons (Ex.s ⟨#[93]⟩) As.nil))) (As.cons (Ex.tup (As.cons (Ex.s ⟨#[123]⟩) (As.cons (Ex.s ⟨#[125]⟩) As.nil))) As.nil))))) (Tg.tup (Tgs.cons (Tg.v 2) (Tgs.cons (Tg.v 3) Tgs.nil)))
    (Ss.cons (Sm.set 4 (Ex.lst As.nil))
    (Ss.cons (Sm.for_ (Ir.enumS (As.cons (Ex.v 0) As.nil)) (Tg.tup (Tgs.cons (Tg.v 5) (Tgs.cons (Tg.v 6) Tgs.nil)))
      (Ss.cons (Sm.ite (Te.cmp Cm.eq (Ex.v 6) (Ex.v 2))
        (Ss.cons (Sm.ex (Ex.lm Ml.append (Ex.v 4) (As.cons (Ex.v 5) As.nil)))
        Ss.nil)
        Ss.nil)
      (Ss.cons (Sm.ite (Te.w (Tw.and (Te.cmp Cm.eq (Ex.v 6) (Ex.v 3)) (Tw.one (Te.cmp Cm.ne (Ex.v 4) (Ex.lst As.nil)))))
        (Ss.cons (Sm.set 7 (Ex.pop (Ex.v 4)))
        (Ss.cons (Sm.ite (Te.cmp Cm.isin (Ex.v 1) (Ex.tup (As.cons (Ex.v 7) (As.cons (Ex.v 5) As.nil))))
          (Ss.cons (Sm.ret (Ex.sub (Ex.add (Ex.v 5) (Ex.v 7)) (Ex.v 1)))
          Ss.nil)
          Ss.nil)
        Ss.nil))
        Ss.nil)
      Ss.nil)))
    Ss.nil)))
  (Ss.cons (Sm.ret Ex.none)
  Ss.nil))
def N_law_pair : List Str := ["text", "place", "one", "other", "stack", "at", "sign", "first"]
theorem nats_ints (xs : List Nat) : nats xs = (xs.map fun (n : Nat) => (n : Int)).map V.int := by
  unfold nats; rw [List.map_map]; rfl
theorem in_two (p f i : Nat) : inV (iv p) [iv f, iv i] = decide (p = f ∨ p = i) := by
  have e : ∀ a b : Nat, eqV (V.int (a : Int)) (V.int (b : Int)) = decide (b = a) := fun a b => by
    show decide _ = _
    by_cases h : b = a
    · subst h; simp
    · rw [decide_eq_false h, decide_eq_false]
      intro z
      omega
  show (eqV (iv f) (iv p) || (eqV (iv i) (iv p) || false)) = _
  rw [e, e]
  by_cases h1 : p = f <;> by_cases h2 : p = i <;> simp [h1, h2]
abbrev in_pair (K : PySem.W.Frag) : Sm K := (Sm.for_ (Ir.enumS (As.cons (Ex.v 0) As.nil)) (Tg.tup (Tgs.cons (Tg.v 5) (Tgs.cons (Tg.v 6) Tgs.nil)))
      (Ss.cons (Sm.ite (Te.cmp Cm.eq (Ex.v 6) (Ex.v 2))
        (Ss.cons (Sm.ex (Ex.lm Ml.append (Ex.v 4) (As.cons (Ex.v 5) As.nil)))
        Ss.nil)
        Ss.nil)
      (Ss.cons (Sm.ite (Te.w (Tw.and (Te.cmp Cm.eq (Ex.v 6) (Ex.v 3)) (Tw.one (Te.cmp Cm.ne (Ex.v 4) (Ex.lst As.nil)))))
        (Ss.cons (Sm.set 7 (Ex.pop (Ex.v 4)))
        (Ss.cons (Sm.ite (Te.cmp Cm.isin (Ex.v 1) (Ex.tup (As.cons (Ex.v 7) (As.cons (Ex.v 5) As.nil))))
          (Ss.cons (Sm.ret (Ex.sub (Ex.add (Ex.v 5) (Ex.v 7)) (Ex.v 1)))
          Ss.nil)
          Ss.nil)
        Ss.nil))
        Ss.nil)
      Ss.nil)))
theorem rd_in_pair (K : PySem.W.Frag) {t : List Nat} {p o c : Nat} {S : Addr} {H H1 : Hp} {D : Ends} {x5 x6 x7 : Option V} (hoc : o ≠ c) (ht : t.length ≤ 10000) (hS0 : H S = none) (e1 : Xt H H1) (hS : H1 S = some (.lst []))
    (hnone : Tx.lawGo o c p t 0 [] = none → ∀ y5 y6 y7 H2, Xt H H2 → D.nx [some (sv t), some (iv p), some (.str ⟨#[o]⟩), some (.str ⟨#[c]⟩), some (.ref S), y5, y6, y7] H2)
    (hsome : ∀ n, Tx.lawGo o c p t 0 [] = some n → RetV (iv n) H D.rt) :
    (in_pair K).t D [some (sv t), some (iv p), some (.str ⟨#[o]⟩), some (.str ⟨#[c]⟩), some (.ref S), x5, x6, x7] H1 := by
  refine fo_walk walk_enumS (fun i σ H' => ∃ y5 y6 y7 st, σ = [some (sv t), some (iv p), some (.str ⟨#[o]⟩), some (.str ⟨#[c]⟩), some (.ref S), y5, y6, y7] ∧ Xt H H' ∧ H' S = some (.lst (nats st.reverse)) ∧ st.length ≤ i ∧ (∀ f ∈ st, f < i) ∧ Tx.lawGo o c p (t.drop i) i st = Tx.lawGo o c p t 0 []) ?_ (fun _ _ _ _ _ => trivial) ?_ ?_
  · exact ⟨x5, x6, x7, [], rfl, e1, hS, Nat.le_refl _, by simp, rfl⟩
  · rintro i x σ H2 H3 hi ⟨y5, y6, y7, st, rfl, e2, h2, hl, hf, eg⟩ ⟨T, d, rfl, hT, rfl, hd⟩
    have hd' : t[i]? = some d := by simpa using hd
    have hi' : i < t.length := by simpa using hi
    have e3 : Xt H (upd H2 T (.tup [.int (i : Nat), .str ⟨#[d]⟩])) := e2.trans (xt_new hT)
    have h3 : (upd H2 T (.tup [.int (i : Nat), .str ⟨#[d]⟩])) S = some (.lst (nats st.reverse)) := (xt_new hT) S _ h2
    rw [List.drop_eq_getElem_cons hi', (List.getElem?_eq_some_iff.mp hd').2] at eg
    refine ⟨T, _, rfl, SqT.of upd_same, rfl, rfl, ?_⟩
    revert e3 h3
    generalize (upd H2 T (HO.tup [V.int (i : Nat), V.str ⟨#[d]⟩])) = H4
    intro e3 h3
    refine br_sv1 (fun h => ?_) (fun h => ?_)
    · subst h
      rw [Tx.go_o hoc] at eg
      refine ⟨⟨_, SqL.of h3⟩, _, h3, szl (by simp [nats]; omega), ?_⟩
      refine br_sv1 (fun h => absurd h hoc) (fun _ => ?_)
      refine ⟨_, _, _, i :: st, rfl, xt_mut e3 hS0, ?_, by simp; omega, ?_, eg⟩
      · rw [upd_same]; simp [nats]
      · intro f hm
        rcases List.mem_cons.mp hm with e | e
        · omega
        · have := hf f e; omega
    · refine br_sv1 (fun h' => ?_) (fun h' => ?_)
      · subst h'
        refine ⟨by decide, fun l hl0 => ?_⟩
        have e5 : Xt H (upd H4 l (.lst [])) := e3.trans (xt_new hl0)
        have h5 : (upd H4 l (.lst [])) S = some (.lst (nats st.reverse)) := (xt_new hl0) S _ h3
        rw [nats_ints] at h5
        refine ⟨_, _, .lst (SqL.of h5) (dp_ints _), .lst (SqL.of upd_same) .nil, ints_shaped _, nil_shaped, ?_⟩
        rw [eqv_nil]
        rw [← nats_ints] at h5
        cases st with
        | nil =>
          rw [Tx.go_c0 hoc] at eg
          exact ⟨_, _, _, [], rfl, e5, h5, by simp, by simp, eg⟩
        | cons f st =>
          rw [Tx.go_c hoc] at eg
          have hfi := hf f (List.mem_cons_self ..)
          have er : nats (f :: st).reverse = nats st.reverse ++ [iv f] := by simp [nats]
          rw [er] at h5
          refine br_t (by simp) ?_
          refine ⟨nats st.reverse ++ [iv f], iv f, h5, by simp, ?_⟩
          have e6 : Xt H (upd (upd H4 l (.lst [])) S (.lst (nats st.reverse ++ [iv f]).dropLast)) := xt_mut e5 hS0
          have h6 : (upd (upd H4 l (.lst [])) S (.lst (nats st.reverse ++ [iv f]).dropLast)) S = some (.lst (nats st.reverse)) := by rw [upd_same, List.dropLast_concat]
          revert e6 h6
          generalize (upd (upd H4 l (HO.lst [])) S (HO.lst (nats st.reverse ++ [iv f]).dropLast)) = H6
          intro e6 h6
          refine ⟨by show 2 ≤ sizeLine; decide, fun u hu => ⟨u, _, rfl, .inr (SqT.of upd_same), rfl, rfl, ?_⟩⟩
          have e7 : Xt H (upd H6 u (.tup [iv f, iv i])) := e6.trans (xt_new hu)
          show br (inV (iv p) [iv f, iv i]) _ _
          rw [in_two]
          refine br_d (fun hz => ?_) (fun hz => ?_)
          · rw [if_pos hz] at eg
            have g := hsome _ eg.symm _ e7
            have en : ((i : Int) + (f : Int) - (p : Int)) = ((i + f - p : Nat) : Int) := by
              rcases hz with rfl | rfl <;> omega
            show D.rt (.int ((i : Int) + (f : Int) - (p : Int))) _
            rw [en]; exact g
          · rw [if_neg hz] at eg
            exact ⟨_, _, _, st, rfl, e7, (xt_new hu) S _ h6, by simp at hl; omega, fun g hg => by have := hf g (List.mem_cons_of_mem _ hg); omega, eg⟩
      · have eg' := eg
        rw [Tx.go_x h h'] at eg'
        exact ⟨_, _, _, st, rfl, e3, h3, by omega, fun f hm => by have := hf f hm; omega, eg'⟩
  · rintro σ H2 ⟨y5, y6, y7, st, rfl, e2, h2, hl, hf, eg⟩
    have : t.drop (⟨t.toArray⟩ : Str).cps.size = [] := by simp
    rw [this] at eg
    exact hnone eg.symm y5 y6 y7 H2 e2
theorem rd_law_pair (K : PySem.W.Frag) : ∀ vs H Q E, sp_law_pair K vs H Q E → (b_law_pair K).t { nx := fun _ H' => Q .non H', rt := Q } (start N_law_pair vs) H := by
  rintro _ H Q E ⟨t, p, rfl, ht, q⟩
  refine ⟨by decide, fun l1 h1 => ?_⟩
  refine ⟨by decide, fun l2 h2 => ?_⟩
  refine ⟨by decide, fun l3 h3 => ?_⟩
  refine ⟨by show 3 ≤ sizeLine; decide, fun L hL => ?_⟩
  have y1 := xt_new (o := .tup [sv [40], sv [41]]) h1
  have y2 := xt_new (o := .tup [sv [91], sv [93]]) h2
  have y3 := xt_new (o := .tup [sv [123], sv [125]]) h3
  have yL := xt_new (o := .tup [.ref l1, .ref l2, .ref l3]) hL
  have z3 := yL l3 _ upd_same
  have z2 := (y3.trans yL) l2 _ upd_same
  have z1 := (y2.trans (y3.trans yL)) l1 _ upd_same
  have zL := (upd_same : (upd (upd (upd (upd H l1 (.tup [sv [40], sv [41]])) l2 (.tup [sv [91], sv [93]])) l3 (.tup [sv [123], sv [125]])) L (.tup [.ref l1, .ref l2, .ref l3])) L = _)
  have x0 := y1.trans (y2.trans (y3.trans yL))
  refine ⟨L, rfl, ⟨_, SqT.of zL⟩, fo_walk (walk_tup (xs := [.ref l1, .ref l2, .ref l3])) (fun i σ H' => ∃ y2 y3 y4 y5 y6 y7, σ = [some (sv t), some (iv p), y2, y3, y4, y5, y6, y7] ∧ Xt H H' ∧ H' l1 = some (.tup [sv [40], sv [41]]) ∧ H' l2 = some (.tup [sv [91], sv [93]]) ∧ H' l3 = some (.tup [sv [123], sv [125]]) ∧ H' L = some (.tup [.ref l1, .ref l2, .ref l3]) ∧ (0 < i → Tx.lawGo 40 41 p t 0 [] = none) ∧ (1 < i → Tx.lawGo 91 93 p t 0 [] = none) ∧ (2 < i → Tx.lawGo 123 125 p t 0 [] = none)) ?_ (fun _ _ _ _ ⟨_, _, _, _, _, _, _, _, _, _, _, h, _⟩ => SqT.of h) ?_ ?_⟩
  · exact ⟨_, _, _, _, _, _, rfl, x0, z1, z2, z3, zL, fun h => by omega, fun h => by omega, fun h => by omega⟩
  · rintro i x σ H2 H3 hi ⟨y2, y3, y4, y5, y6, y7, rfl, e2, w1, w2, w3, wL, k1, k2, k3⟩ ⟨rfl, hx⟩
    have hi' : i < 3 := hi
    have hc : i = 0 ∨ i = 1 ∨ i = 2 := by omega
    rcases hc with rfl | rfl | rfl
    · cases hx
      refine ⟨l1, _, rfl, SqT.of w1, rfl, rfl, by decide, fun S hS => ?_⟩
      refine rd_in_pair K (o := 40) (c := 41) (by decide) ht hS (xt_new hS) upd_same ?_ ?_
      · intro en a5 a6 a7 H4 e4
        exact ⟨_, _, _, _, _, _, rfl, e2.trans e4, e4 _ _ w1, e4 _ _ w2, e4 _ _ w3, e4 _ _ wL, fun _ => en, fun h => by omega, fun h => by omega⟩
      · intro n en H4 e4
        have g := q H4 (e2.trans e4)
        unfold Tx.lawPair at g
        rw [en] at g
        exact g
    · cases hx
      refine ⟨l2, _, rfl, SqT.of w2, rfl, rfl, by decide, fun S hS => ?_⟩
      refine rd_in_pair K (o := 91) (c := 93) (by decide) ht hS (xt_new hS) upd_same ?_ ?_
      · intro en a5 a6 a7 H4 e4
        exact ⟨_, _, _, _, _, _, rfl, e2.trans e4, e4 _ _ w1, e4 _ _ w2, e4 _ _ w3, e4 _ _ wL, fun _ => k1 (by omega), fun _ => en, fun h => by omega⟩
      · intro n en H4 e4
        have g := q H4 (e2.trans e4)
        unfold Tx.lawPair at g
        rw [k1 (by omega), en] at g
        exact g
    · cases hx
      refine ⟨l3, _, rfl, SqT.of w3, rfl, rfl, by decide, fun S hS => ?_⟩
      refine rd_in_pair K (o := 123) (c := 125) (by decide) ht hS (xt_new hS) upd_same ?_ ?_
      · intro en a5 a6 a7 H4 e4
        exact ⟨_, _, _, _, _, _, rfl, e2.trans e4, e4 _ _ w1, e4 _ _ w2, e4 _ _ w3, e4 _ _ wL, fun _ => k1 (by omega), fun _ => k2 (by omega), fun _ => en⟩
      · intro n en H4 e4
        have g := q H4 (e2.trans e4)
        unfold Tx.lawPair at g
        rw [k1 (by omega), k2 (by omega), en] at g
        exact g
  · rintro σ H2 ⟨y2, y3, y4, y5, y6, y7, rfl, e2, w1, w2, w3, wL, k1, k2, k3⟩
    have g := q H2 e2
    unfold Tx.lawPair at g
    rw [k1 (by show 0 < 3; decide), k2 (by show 1 < 3; decide), k3 (by show 2 < 3; decide)] at g
    exact g
end Ed

/-! ends -/
namespace Ed
open PySem L2 Cb
open Evl (Ev EvT)
theorem lead_take (r : List Nat) : (r.takeWhile (⟨#[32]⟩ : Str).cps.contains).length = Tx.lead r := by
  induction r with
  | nil => rfl
  | cons c r ih =>
    rw [List.takeWhile_cons]
    by_cases h : c = 32
    · subst h
      rw [if_pos (by simp)]
      simp only [List.length_cons, ih, Tx.lead, if_true]
    · rw [if_neg (by simp; omega)]
      simp only [Tx.lead, if_neg h, List.length_nil]
theorem lstrip_len (r : List Nat) : (Txt.lstripChars ⟨r.toArray⟩ ⟨#[32]⟩).length = r.length - Tx.lead r := by
  unfold Txt.lstripChars
  rw [PyProof.Rows.stripBy_eq]
  have e1 : stripLo (⟨#[32]⟩ : Str).cps.contains true ⟨r.toArray⟩ = Tx.lead r := lead_take r
  have e2 : ∀ n, stripHi (⟨#[32]⟩ : Str).cps.contains false ⟨r.toArray⟩ n = r.length := fun n => by
    simp [stripHi, Str.length]
  rw [e1, e2]
  have hl := Tx.lead_le r
  simp [Builtin.Str.strSub, Str.length]
def rowT (t : List Nat) (p : Nat) : List Nat := (t.drop (Tx.beginOf t p)).take (Tx.endOf t p - Tx.beginOf t p)
def Mo.isEnds : Mo → Prop
  | .begin => True | .fin => True | .first => True | .top => True | .bottom => True | .row _ => True | .pair => True | .find _ _ => True
  | _ => False
/-- the places of a sign behind p, in its row -/
def findL (t : List Nat) (p c : Nat) : List Nat := (List.range' (p + 1) (Tx.endOf t p - (p + 1))).filter fun i => t[i]? == some c
theorem find_behind (t : List Nat) (p c n : Nat) : nthBehind (findL t p c) p n = (findL t p c)[n - 1]? := by
  unfold nthBehind
  rw [List.filter_eq_self.mpr]
  intro i hi
  have := (List.mem_range'_1.mp (List.mem_filter.mp hi).1).1
  exact decide_eq_true (by omega)
theorem find_len (t : List Nat) (p c : Nat) : (findL t p c).length ≤ Tx.endOf t p := by
  have := filter_le (fun i => t[i]? == some c) (List.range' (p + 1) (Tx.endOf t p - (p + 1)))
  rw [List.length_range'] at this
  unfold findL
  omega
def goEnd (t : List Nat) (p : Nat) : Mo → Option Nat
  | .begin => some (Tx.beginOf t p)
  | .fin => some (Tx.endOf t p)
  | .first => some (Tx.beginOf t p + Tx.lead (rowT t p))
  | .top => some 0
  | .bottom => some t.length
  | .row r => Tx.toRow t ((r : Int) - 1) 0
  | .pair => Tx.pairOf t p
  | .find c n => (findL t p c)[n - 1]?
  | _ => none
theorem rowT_len {t : List Nat} {p : Nat} (hp : p ≤ t.length) : (rowT t p).length = Tx.endOf t p - Tx.beginOf t p ∧ Tx.beginOf t p ≤ Tx.endOf t p ∧ Tx.endOf t p ≤ t.length := by
  obtain ⟨b1, _, _⟩ := Tx.begin_spec t p hp
  obtain ⟨e1, e2, _⟩ := Tx.end_spec t p hp
  refine ⟨?_, by omega, e2⟩
  simp [rowT]
  omega
def sp_within (K : PySem.W.Frag) : Sp := fun vs H Q _ => ∃ (t : List Nat) (p : Nat) (a : Addr) (m : Mo), vs = [sv t, iv p, .ref a] ∧ H a = some (.tup m.vs) ∧ m.isEnds ∧ m.ok ∧ t.length ≤ 10000 ∧ p ≤ t.length ∧ RetV (vo (goEnd t p m)) H Q
def b_within (K : PySem.W.Frag) : Ss K :=
  (Ss.cons (Sm.set 3 (Ex.ix (Ex.v 2) (Ex.i 0)))
  (Ss.cons (Sm.ite (Te.cmp Cm.eq (Ex.v 3) (Ex.s ⟨#[98, 101, 103, 105, 110]⟩))
    (Ss.cons (Sm.ret (Ex.call "begin_of" (sp_begin_of K) (As.cons (Ex.v 0) (As.cons (Ex.v 1) As.nil))))
    Ss.nil)
    Ss.nil)
  (Ss.cons (Sm.ite (Te.cmp Cm.eq (Ex.v 3) (Ex.s ⟨#[101, 110, 100]⟩))
    (Ss.cons (Sm.ret (Ex.call "end_of" (sp_end_of K) (As.cons (Ex.v 0) (As.cons (Ex.v 1) As.nil))))
    Ss.nil)
    Ss.nil)
  (Ss.cons (Sm.ite (Te.cmp Cm.eq (Ex.v 3) (Ex.s ⟨#[102, 105, 114, 115, 116]⟩))
    (Ss.cons (Sm.set 4 (Ex.sl (Ex.v 0) (Op.yes (Ex.call "begin_of" (sp_begin_of K) (As.cons (Ex.v 0) (As.cons (Ex.v 1) As.nil)))) (Op.yes (Ex.call "end_of" (sp_end_of K) (As.cons (Ex.v 0) (As.cons (Ex.v 1) As.nil))))))
    (Ss.cons (Sm.ret (Ex.sub (Ex.add (Ex.call "begin_of" (sp_begin_of K) (As.cons (Ex.v 0) (As.cons (Ex.v 1) As.nil))) (Ex.len (As.cons (Ex.v 4) As.nil))) (Ex.len (As.cons (Ex.sm Ms.lstrip (Ex.v 4) (As.cons (Ex.s ⟨#[32]⟩) As.nil)) As.nil))))
    Ss.nil))
    Ss.nil)
  (Ss.cons (Sm.ite (Te.cmp Cm.eq (Ex.v 3) (Ex.s ⟨#[116, 111, 112]⟩))
    (Ss.cons (Sm.ret (Ex.i 0))
    Ss.nil)
    Ss.nil)
  (Ss.cons (Sm.ite (Te.cmp Cm.eq (Ex.v 3) (Ex.s ⟨#[98, 111, 116, 116, 111, 109]⟩))
    (Ss.cons (Sm.ret (Ex.len (As.cons (Ex.v 0) As.nil)))
    Ss.nil)
    Ss.nil)
  (Ss.cons (Sm.ite (Te.cmp Cm.eq (Ex.v 3) (Ex.s ⟨#[112, 97, 105, 114]⟩))
    (Ss.cons (Sm.ret (Ex.call "partner" (sp_partner K) (As.cons (Ex.v 0) (As.cons (Ex.v 1) As.nil))))
    Ss.nil)
    Ss.nil)
  (Ss.cons (Sm.ite (Te.cmp Cm.eq (Ex.v 3) (Ex.s ⟨#[114, 111, 119]⟩))
    (Ss.cons (Sm.ret (Ex.call "to_row" (sp_to_row K) (As.cons (Ex.v 0) (As.cons (Ex.sub (Ex.ix (Ex.v 2) (Ex.i 1)) (Ex.i 1)) (As.cons (Ex.i 0) As.nil)))))
    Ss.nil)
    Ss.nil)
  (Ss.cons (Sm.setLc 5 [("one", 6)] (Ir.rng2 (As.cons (Ex.add (Ex.v 1) (Ex.i 1)) (As.cons (Ex.call "end_of" (sp_end_of K) (As.cons (Ex.v 0) (As.cons (Ex.v 1) As.nil))) As.nil))) (Tg.v 6) (Ifs.one (Te.cmp Cm.eq (Ex.ix (Ex.v 0) (Ex.v 6)) (Ex.ix (Ex.v 2) (Ex.i 1)))) (Ex.v 6))
  (Ss.cons (Sm.ret (Ex.call "nth_behind" (sp_nth_behind K) (As.cons (Ex.v 5) (As.cons (Ex.v 1) (As.cons (Ex.ix (Ex.v 2) (Ex.i 2)) As.nil)))))
  Ss.nil))))))))))
def N_within : List Str := ["text", "place", "motion", "word", "row", "some", "one"]
theorem rd_within (K : PySem.W.Frag) : ∀ vs H Q E, sp_within K vs H Q E → (b_within K).t { nx := fun _ H' => Q .non H', rt := Q } (start N_within vs) H := by
  rintro _ H Q E ⟨t, p, a, m, rfl, ha, hm, hok, ht, hp, q⟩
  have hS : SqT K H a m.vs := SqT.of ha
  have h0 : atI m.vs 0 = some (sv m.name) := atI_nat (j := 0) rfl
  refine ⟨_, _, .inr hS, h0, ?_⟩
  have g := q H (Xt.refl H)
  cases m with
  | begin => exact ⟨t, p, rfl, hp, g⟩
  | fin => exact ⟨t, p, rfl, ht, hp, g⟩
  | first =>
    obtain ⟨l1, l2, l3⟩ := rowT_len hp
    refine ⟨t, p, rfl, hp, t, p, rfl, ht, hp, sz (by rw [len_sv]; omega), ?_⟩
    rw [cut_ofN]
    have hr : (List.take (Tx.endOf t p - Tx.beginOf t p) (List.drop (Tx.beginOf t p) t)).length ≤ 10000 := by
      show (rowT t p).length ≤ 10000
      omega
    refine ⟨t, p, rfl, hp, sz (by rw [len_sv]; omega), sz (by rw [len_sv]; omega), ?_⟩
    refine ⟨sz ?_, ?_⟩
    · rw [lstrip_len]
      have : (rowT t p).length ≤ 10000 := by omega
      unfold rowT at this
      omega
    · rw [lstrip_len, len_sv]
      have hl := Tx.lead_le (rowT t p)
      unfold rowT at hl
      have e : ((Tx.beginOf t p : Nat) : Int) + ((List.take (Tx.endOf t p - Tx.beginOf t p) (List.drop (Tx.beginOf t p) t)).length : Int) - (((List.take (Tx.endOf t p - Tx.beginOf t p) (List.drop (Tx.beginOf t p) t)).length - Tx.lead (List.take (Tx.endOf t p - Tx.beginOf t p) (List.drop (Tx.beginOf t p) t)) : Nat) : Int) = ((Tx.beginOf t p + Tx.lead (rowT t p) : Nat) : Int) := by
        unfold rowT
        omega
      show Q (.int _) H
      rw [e]
      exact g
  | top => exact g
  | bottom => exact ⟨sz (by rw [len_sv]; omega), g⟩
  | pair => exact ⟨t, p, rfl, ht, hp, g⟩
  | find c n =>
    obtain ⟨b1, b2, _⟩ := Tx.end_spec t p hp
    refine ⟨t, p, rfl, ht, hp, _, _, rfl, ⟨by omega, by omega, by omega, by omega⟩, ?_⟩
    have en : (((Tx.endOf t p : Nat) : Int) - ((p : Int) + 1)).toNat = Tx.endOf t p - (p + 1) := by omega
    rw [en]
    refine lc_fltR (lo := p + 1) (n := Tx.endOf t p - (p + 1)) (fun i => t[i]? == some c) iv (by omega) (fun _ => rfl) (fun i h1 h2 => ⟨?_, ?_⟩) ?_
    · intro H4 e4 Q' q'
      have hi : i < t.length := by omega
      refine ⟨sz (by rw [len_sv]; omega), t[i], atI_nat (List.getElem?_eq_getElem hi), ?_⟩
      refine ⟨_, _, .inr (SqT.of (e4 a _ ha)), atI_nat (j := 1) rfl, ?_⟩
      show Q' (decide ((⟨#[t[i]]⟩ : Str) = ⟨#[c]⟩)) H4
      rw [dec_sv1]
      have e5 : (t[i]? == some c) = decide (t[i] = c) := by
        rw [List.getElem?_eq_getElem hi]
        by_cases h : t[i] = c <;> simp [h]
      rw [e5] at q'
      exact q' H4 (Xt.refl H4)
    · intro _ H4 e4 Q' q'
      exact q' H4 (Xt.refl H4)
    intro D5 H5 hD5 e5 h5
    refine ⟨_, _, .inr (SqT.of (e5 a _ ha)), atI_nat (j := 2) rfl, ?_⟩
    refine ⟨D5, findL t p c, p, n, rfl, h5, by have := find_len t p c; omega, hok.2.1, fun H6 e6 => ?_⟩
    rw [find_behind]
    exact q H6 (e5.trans e6)
  | row r => exact ⟨_, _, .inr hS, atI_nat (j := 1) rfl, t, _, 0, rfl, ht, q⟩
  | _ => exact hm.elim
end Ed

/-! min, max of a list of pairs (truth value, number); list(range(n)) -/
namespace Cb
open PySem L2
variable {K : PySem.W.Frag}
def Pairs (H : Hp) : List Addr → List (Bool × Int) → Prop
  | [], [] => True
  | r :: rs, p :: ps => H r = some (.tup [.bl p.1, .int p.2]) ∧ Pairs H rs ps
  | _, _ => False
theorem Pairs.dp {H : Hp} : ∀ {rs : List Addr} {ps : List (Bool × Int)}, Pairs H rs ps → DpAll K H (rs.map V.ref) (ps.map PySem.W.Datum.toD)
  | [], [], _ => .nil
  | r :: rs, p :: ps, h => .cons (.tup (SqT.of h.1) (.cons (.bl _) (.cons (.int _) .nil))) (Pairs.dp h.2)
  | [], _ :: _, h => h.elim
  | _ :: _, [], h => h.elim
theorem Pairs.at {H : Hp} : ∀ {rs : List Addr} {ps : List (Bool × Int)} {i : Nat} {r : Addr}, Pairs H rs ps → rs[i]? = some r → ∃ p ∈ ps, H r = some (.tup [.bl p.1, .int p.2])
  | r :: rs, p :: ps, 0, _, h, e => by cases e; exact ⟨p, List.mem_cons_self .., h.1⟩
  | r :: rs, p :: ps, i + 1, _, h, e => by
    obtain ⟨q, hq, h2⟩ := Pairs.at h.2 (i := i) (by simpa using e)
    exact ⟨q, List.mem_cons_of_mem _ hq, h2⟩
  | [], [], _, _, _, e => by simp at e
  | [], _ :: _, _, _, h, _ => h.elim
  | _ :: _, [], _, _, h, _ => h.elim
def rMinP (f : Bool × Int → List (Bool × Int) → Bool × Int) (_ : PySem.W.Frag) : List V → Hp → VK → Prop := fun vs H Q => match vs with
  | [.ref l] => ∃ rs p ps, H l = some (.lst (rs.map V.ref)) ∧ Pairs H rs (p :: ps) ∧ ∀ r, H r = some (.tup [.bl (f p ps).1, .int (f p ps).2]) → Q (.ref r) H
  | _ => False
theorem pair_item {X : Cx} {pins : List (Addr × Obj)} {σ : L2.St} {H : Hp} {s : Shared} {h' : Heap} {r : Addr} {p q : Bool × Int} (I : Inv X pins σ H s) (hr : H r = some (.tup [.bl p.1, .int p.2])) (hk : ∀ b o, s.heap.get? b = some o → h'.get? b = some o) (hh : PySem.W.Holds h' (.ref r) q) : p = q := by
  obtain ⟨as, r1⟩ := Dp.reads I (.tuple [.bool p.1, .int p.2]) (.ref r) (.ref r) (.tup (SqT.of hr) (.cons (.bl _) (.cons (.int _) .nil))) rfl
  obtain ⟨bs, r2⟩ := hh
  have r3 := PySem.W.reads_keeps hk r1
  have e := (Reads.unique r3 _ _ r2).1
  have e' : PyData.tuple [.bool p.1, .int p.2] = .tuple [.bool q.1, .int q.2] := e
  injection e' with e'
  injection e' with e1 e2
  injection e1 with e1
  injection e2 with e2 _
  injection e2 with e2
  exact Prod.ext e1 e2
theorem cr_minP (X : Cx) (k : Nat) (hr : Room k X.A) (hc : X.calm = true) : CallR X (.builtin "min") (rMinP PySem.W.minOf X.K) := by
  intro pins s σ H vs us Q I r h
  unfold rMinP at h
  split at h
  · obtain ⟨rs, p, ps, hl, hp, q⟩ := h
    rw [Vals.ref1 r]
    obtain ⟨its, n, rv, e, z⟩ := I.lst hl
    obtain ⟨as, ra⟩ := Dp.readsAll I _ _ its hp.dp rv
    refine PySem.W.min_list_datum (α := Bool × Int) (vs := its.toArray) (x := p) (xs := ps) (I.ok.hd hc) ⟨_, e, rfl, n, rfl⟩ ⟨as, by simpa using ra⟩ (by have := hr.units; show X.A.units + 1 + 1 < cLine; omega) fun i v h' tk hi hv hk => ?_
    have hi' : its[i]? = some v := by simpa using hi
    have hlen : (rs.map V.ref).length = its.length := rv.length
    have hlt : i < rs.length := by
      have := (List.getElem?_eq_some_iff.mp hi').1
      simp at hlen; omega
    obtain ⟨u, hu, ru⟩ := rv.get (i := i) (x := .ref rs[i]) (by rw [List.getElem?_map, List.getElem?_eq_getElem hlt]; rfl)
    rw [hi'] at hu
    cases hu
    cases ru
    obtain ⟨p2, hp2, hr2⟩ := hp.at (i := i) (List.getElem?_eq_getElem hlt)
    have e2 := pair_item I hr2 hk hv
    subst e2
    exact ⟨.ref rs[i], H, I.kept (t' := tk) hk, rfl, q _ hr2⟩
  · exact h.elim
theorem cr_maxP (X : Cx) (k : Nat) (hr : Room k X.A) (hc : X.calm = true) : CallR X (.builtin "max") (rMinP PySem.W.maxOf X.K) := by
  intro pins s σ H vs us Q I r h
  unfold rMinP at h
  split at h
  · obtain ⟨rs, p, ps, hl, hp, q⟩ := h
    rw [Vals.ref1 r]
    obtain ⟨its, n, rv, e, z⟩ := I.lst hl
    obtain ⟨as, ra⟩ := Dp.readsAll I _ _ its hp.dp rv
    refine PySem.W.max_list_datum (α := Bool × Int) (vs := its.toArray) (x := p) (xs := ps) (I.ok.hd hc) ⟨_, e, rfl, n, rfl⟩ ⟨as, by simpa using ra⟩ (by have := hr.units; show X.A.units + 1 + 1 < cLine; omega) fun i v h' tk hi hv hk => ?_
    have hi' : its[i]? = some v := by simpa using hi
    have hlen : (rs.map V.ref).length = its.length := rv.length
    have hlt : i < rs.length := by
      have := (List.getElem?_eq_some_iff.mp hi').1
      simp at hlen; omega
    obtain ⟨u, hu, ru⟩ := rv.get (i := i) (x := .ref rs[i]) (by rw [List.getElem?_map, List.getElem?_eq_getElem hlt]; rfl)
    rw [hi'] at hu
    cases hu
    cases ru
    obtain ⟨p2, hp2, hr2⟩ := hp.at (i := i) (List.getElem?_eq_getElem hlt)
    have e2 := pair_item I hr2 hk hv
    subst e2
    exact ⟨.ref rs[i], H, I.kept (t' := tk) hk, rfl, q _ hr2⟩
  · exact h.elim
def Ex.minP (a : As K) : Ex K := Ex.cb "min" "min" (rMinP PySem.W.minOf) boot_min cr_minP a
def Ex.maxP (a : As K) : Ex K := Ex.cb "max" "max" (rMinP PySem.W.maxOf) boot_max cr_maxP a
/-- list(range(n)) -/
def Ex.lrng (a : Ex K) : Ex K where
  t := fun σ H Q => a.t σ H fun x H1 => match x with
    | .int n => RgOk 0 n ∧ ∀ q, H1 q = Option.none → Q (.ref q) (upd H1 q (.lst (rgV 0 n)))
    | _ => False
  chk := fun Γ e => match e with
    | .Call (.Name y _) [.Call (.Name z _) [b] [] _] [] _ => decide (y = "list") && isGl (Γ.names.lookup y) && (decide (z = "range") && isGl (Γ.names.lookup z)) && (a.chk Γ b && nst b)
    | _ => false
  has := fun h => HasB h "list" ∧ HasB h "range" ∧ a.has h
  sound := by
    intro X Γ h e c hk hh hc
    split at hc
    · obtain ⟨h1, h2, h34, h56⟩ := and4 hc
      obtain ⟨h3, h4⟩ := and2 h34
      obtain ⟨h5, h6⟩ := and2 h56
      have e1 := of_decide_eq_true h1
      have e2 := of_decide_eq_true h3
      subst e1 e2
      refine PE.imp (pe_listRg c.calm (gl_of c h2) (by rw [c.mg]; exact hh.1) (prg_1 (gl_of c h4) (by rw [c.mg]; exact hh.2.1) (a.sound c hk hh.2.2 h5) (star_cons h6)) rfl) fun σ H Q q => ?_
      refine (congrArg (fun f => a.t σ H f) ?_).mp q
      funext x H1
      apply propext
      cases x <;> simp
    · exact absurd hc Bool.false_ne_true
def ExT.sl (a : ExT K) (lo hi : Op K) : ExT K where
  t := tSl (rSlX K) a.t lo.t hi.t
  chk := fun Γ e => match e with
    | .Subscript x (.Slice l u Option.none _) _ => a.chk Γ x && lo.chk Γ l && hi.chk Γ u
    | _ => false
  has := fun h => a.has h ∧ lo.has h ∧ hi.has h
  sound := by
    intro X Γ h e c hk hh hc
    split at hc
    · rename_i xe l u p2 pos
      obtain ⟨g1, g2, g3⟩ := and3 hc
      have ek : X.K = K := c.K.trans hk
      subst ek
      intro pins st σ Hh Q h0 I hw
      refine PyProof.Rows.Subscript_ (thn (a.sound c hk hh.1 g1 pins st σ Hh _ h0 I hw) fun bv sa ⟨bx, Ha, Ia, ra, qa⟩ => ?_)
      refine wpAny_Slice (thn ((lo.sound c hk hh.2.1 g2).run pins sa σ Ha _ Ia qa) fun va sb ⟨la, Hb, Ib, pa, qb⟩ => thn ((hi.sound c hk hh.2.2 g3).run pins sb σ Hb _ Ib qb) fun vb sc ⟨lb, Hc, Ic, pb, qc⟩ => ?_)
      rw [evalPart_none]
      refine wpAny_pure ?_
      have Id : Inv X pins σ Hc { sc with heap := sc.heap.push { cls := .type "slice", data := .fields #[va, vb, .none] } } := Ic.kept (t' := sc.toks) fun b ob q => Heap.get?_push_of_some _ q
      obtain ⟨T, id, f1, f2, f3⟩ := sl_X X pins { sc with heap := sc.heap.push { cls := .type "slice", data := .fields #[va, vb, .none] } } σ Hc bx bv va vb la lb sc.heap.objs.size Q Id ra (Heap.IsSliceOf.new ..) pa pb qc
      exact PyProof.Rows.tail_any (ops := [.ref sc.heap.objs.size, bv]) f2 f1 f3 (by with_unfolding_all rfl)
    · exact absurd hc Bool.false_ne_true
end Cb

namespace Ed
open PySem L2 Cb
def foundAt (t q : List Nat) : List Nat := (List.range t.length).filter fun i => decide ((t.drop i).take q.length = q)
def nextOn (xs : List Nat) (p : Nat) : Option Nat := match xs.filter (fun o => decide (p < o)) with
  | y :: _ => some y
  | [] => xs.head?
def nextBack (xs : List Nat) (p : Nat) : Option Nat := match (xs.filter (fun o => decide (o < p))).getLast? with
  | some y => some y
  | none => xs.getLast?
def Up (xs : List Nat) : Prop := xs.Pairwise (· < ·)
theorem found_up (t q : List Nat) : Up (foundAt t q) := List.Pairwise.filter _ List.pairwise_lt_range
theorem found_lt {t q : List Nat} {i : Nat} (h : i ∈ foundAt t q) : i < t.length := by
  have := (List.mem_filter.mp h).1
  simpa using this
theorem found_len (t q : List Nat) : (foundAt t q).length ≤ t.length := by
  have := filter_le (fun i => decide ((t.drop i).take q.length = q)) (List.range t.length)
  simpa [foundAt] using this
theorem up_last {xs : List Nat} {y : Nat} (h : Up (xs ++ [y])) : ∀ x ∈ xs, x < y := by
  intro x hx
  exact (List.pairwise_append.mp h).2.2 x hx y (List.mem_singleton.mpr rfl)
/-- the program's search on -/
theorem on_yes {xs : List Nat} {p : Nat} {y : Nat} (h : xs.getLast? = some y) (hy : p < y) : nthBehind xs p 1 = nextOn xs p := by
  unfold nthBehind nextOn
  have hm : y ∈ xs := List.mem_of_getLast? h
  have hf : y ∈ xs.filter (fun o => decide (p < o)) := List.mem_filter.mpr ⟨hm, decide_eq_true hy⟩
  cases e : xs.filter (fun o => decide (p < o)) with
  | nil => rw [e] at hf; cases hf
  | cons z r => rfl
theorem on_no {xs : List Nat} {p y : Nat} (hu : Up xs) (h : xs.getLast? = some y) (hy : ¬ p < y) : nextOn xs p = xs.head? := by
  unfold nextOn
  obtain ⟨ys, rfl⟩ := List.getLast?_eq_some_iff.mp h
  have e : (ys ++ [y]).filter (fun o => decide (p < o)) = [] := by
    rw [List.filter_eq_nil_iff]
    intro o ho
    have : o ≤ y := by
      rcases List.mem_append.mp ho with h1 | h1
      · exact Nat.le_of_lt (up_last hu o h1)
      · rw [List.mem_singleton.mp h1]; exact Nat.le_refl _
    simp; omega
  rw [e]
theorem back_yes {xs : List Nat} {p y : Nat} (h : xs.head? = some y) (hy : y < p) : nthAhead xs p 1 = nextBack xs p := by
  unfold nthAhead nextBack
  have hm : y ∈ xs := List.mem_of_head? h
  have hf : y ∈ xs.filter (fun o => decide (o < p)) := List.mem_filter.mpr ⟨hm, decide_eq_true hy⟩
  show (xs.filter fun o => decide (o < p)).reverse[0]? = _
  rw [← List.head?_eq_getElem?, List.head?_reverse]
  cases e : (xs.filter (fun o => decide (o < p))).getLast? with
  | none =>
    rw [List.getLast?_eq_none_iff] at e
    rw [e] at hf; cases hf
  | some z => rfl
theorem back_no {xs : List Nat} {p y : Nat} (hu : Up xs) (h : xs.head? = some y) (hy : ¬ y < p) : nextBack xs p = xs.getLast? := by
  unfold nextBack
  cases xs with
  | nil => cases h
  | cons x r =>
    have hxy : x = y := by simpa using h
    subst hxy
    have e : (x :: r).filter (fun o => decide (o < p)) = [] := by
      rw [List.filter_eq_nil_iff]
      intro o ho
      have : x ≤ o := by
        rcases List.mem_cons.mp ho with h1 | h1
        · rw [h1]; exact Nat.le_refl _
        · exact Nat.le_of_lt ((List.pairwise_cons.mp hu).1 o h1)
      simp; omega
    rw [e]; rfl
/-- the law: the least of (at <= p, at) -/
def fOn (p : Nat) (y : Nat) : Bool × Int := (decide ((y : Int) ≤ (p : Int)), (y : Int))
def fBack (p : Nat) (y : Nat) : Bool × Int := (decide ((y : Int) < (p : Int)), (y : Int))
theorem pair_lt (a b : Bool × Int) : PySem.W.DatumOrd.lt a b = if a.1 = b.1 then decide (a.2 < b.2) else (!a.1 && b.1) := rfl
theorem lt_on {p y b : Nat} (h : b < y) : PySem.W.DatumOrd.lt (fOn p y) (fOn p b) = decide (p < y ∧ ¬ p < b) := by
  rw [pair_lt]
  by_cases e : (fOn p y).1 = (fOn p b).1
  · have e1 : ¬ (fOn p y).2 < (fOn p b).2 := by show ¬ (y : Int) < (b : Int); omega
    have e2 : ((y : Int) ≤ (p : Int)) ↔ ((b : Int) ≤ (p : Int)) := by simpa [fOn] using e
    rw [if_pos e, decide_eq_false e1, decide_eq_false (by omega)]
  · have e2 : ¬ (((y : Int) ≤ (p : Int)) ↔ ((b : Int) ≤ (p : Int))) := by simpa [fOn] using e
    rw [if_neg e]
    show (!decide ((y : Int) ≤ (p : Int)) && decide ((b : Int) ≤ (p : Int))) = _
    have e3 : ¬ (y : Int) ≤ (p : Int) := by omega
    have e4 : (b : Int) ≤ (p : Int) := by omega
    rw [decide_eq_false e3, decide_eq_true e4, decide_eq_true (by omega)]; rfl
theorem lt_back {p y b : Nat} (h : b < y) : PySem.W.DatumOrd.lt (fBack p b) (fBack p y) = decide ((b < p) ↔ (y < p)) := by
  rw [pair_lt]
  by_cases e : (fBack p b).1 = (fBack p y).1
  · have e1 : (fBack p b).2 < (fBack p y).2 := by show (b : Int) < (y : Int); omega
    have e2 : ((b : Int) < (p : Int)) ↔ ((y : Int) < (p : Int)) := by simpa [fBack] using e
    rw [if_pos e, decide_eq_true e1, decide_eq_true (by omega)]
  · have e2 : ¬ (((b : Int) < (p : Int)) ↔ ((y : Int) < (p : Int))) := by simpa [fBack] using e
    rw [if_neg e]
    show (!decide ((b : Int) < (p : Int)) && decide ((y : Int) < (p : Int))) = _
    have e3 : (b : Int) < (p : Int) := by omega
    rw [decide_eq_true e3, decide_eq_false (show ¬ ((b < p) ↔ (y < p)) by omega)]; rfl
theorem min_fold (p : Nat) : ∀ (r : List Nat) (b : Nat), Up (b :: r) → PySem.W.minOf (fOn p b) (r.map (fOn p)) = fOn p (if p < b then b else match r.filter (fun o => decide (p < o)) with
    | y :: _ => y
    | [] => b)
  | [], b, _ => by simp [PySem.W.minOf]
  | y :: r, b, hu => by
    have hby : b < y := (List.pairwise_cons.mp hu).1 y (List.mem_cons_self ..)
    have hr : Up (y :: r) := (List.pairwise_cons.mp hu).2
    have hbr : Up (b :: r) := List.pairwise_cons.mpr ⟨fun z hz => (List.pairwise_cons.mp hu).1 z (List.mem_cons_of_mem _ hz), (List.pairwise_cons.mp hr).2⟩
    have step : PySem.W.minOf (fOn p b) ((y :: r).map (fOn p)) = PySem.W.minOf (if PySem.W.DatumOrd.lt (fOn p y) (fOn p b) = true then fOn p y else fOn p b) (r.map (fOn p)) := rfl
    rw [step, lt_on hby]
    by_cases h1 : p < b
    · have e : decide (p < y ∧ ¬ p < b) = false := by apply decide_eq_false; omega
      rw [e, if_neg Bool.false_ne_true, min_fold p r b hbr, if_pos h1, if_pos h1]
    · by_cases h2 : p < y
      · have e : decide (p < y ∧ ¬ p < b) = true := by apply decide_eq_true; omega
        rw [e, if_pos rfl, min_fold p r y hr, if_pos h2, if_neg h1, List.filter_cons, if_pos (decide_eq_true h2)]
      · have e : decide (p < y ∧ ¬ p < b) = false := by apply decide_eq_false; omega
        rw [e, if_neg Bool.false_ne_true, min_fold p r b hbr, if_neg h1, if_neg h1, List.filter_cons, if_neg (by simpa using h2)]
theorem min_on {p b : Nat} {r : List Nat} (hu : Up (b :: r)) : ∃ n, nextOn (b :: r) p = some n ∧ PySem.W.minOf (fOn p b) (r.map (fOn p)) = fOn p n := by
  refine ⟨_, ?_, min_fold p r b hu⟩
  unfold nextOn
  rw [List.filter_cons]
  by_cases h : p < b
  · rw [if_pos (decide_eq_true h), if_pos h]
  · rw [if_neg (by simpa using h), if_neg h]
    cases r.filter (fun o => decide (p < o)) <;> rfl
theorem max_fold (p : Nat) : ∀ (r : List Nat) (b : Nat), Up (b :: r) → ∃ n, nextBack (b :: r) p = some n ∧ PySem.W.maxOf (fBack p b) (r.map (fBack p)) = fBack p n
  | [], b, _ => by
    refine ⟨b, ?_, by simp [PySem.W.maxOf]⟩
    unfold nextBack
    by_cases h : b < p <;> simp [h]
  | y :: r, b, hu => by
    have hby : b < y := (List.pairwise_cons.mp hu).1 y (List.mem_cons_self ..)
    have hr : Up (y :: r) := (List.pairwise_cons.mp hu).2
    have hbr : Up (b :: r) := List.pairwise_cons.mpr ⟨fun z hz => (List.pairwise_cons.mp hu).1 z (List.mem_cons_of_mem _ hz), (List.pairwise_cons.mp hr).2⟩
    have step : PySem.W.maxOf (fBack p b) ((y :: r).map (fBack p)) = PySem.W.maxOf (if PySem.W.DatumOrd.lt (fBack p b) (fBack p y) = true then fBack p y else fBack p b) (r.map (fBack p)) := rfl
    rw [step, lt_back hby]
    by_cases h1 : b < p
    · by_cases h2 : y < p
      · have e : decide ((b < p) ↔ (y < p)) = true := by apply decide_eq_true; omega
        rw [e, if_pos rfl]
        obtain ⟨n, n1, n2⟩ := max_fold p r y hr
        refine ⟨n, ?_, n2⟩
        rw [← n1]
        unfold nextBack
        have e1 : ((b :: y :: r).filter fun o => decide (o < p)) = b :: y :: (r.filter fun o => decide (o < p)) := by simp [List.filter_cons, h1, h2]
        have e2 : ((y :: r).filter fun o => decide (o < p)) = y :: (r.filter fun o => decide (o < p)) := by simp [List.filter_cons, h2]
        rw [e1, e2, List.getLast?_cons_cons]
        simp [List.getLast?_cons_cons]
      · have e : decide ((b < p) ↔ (y < p)) = false := by apply decide_eq_false; omega
        rw [e, if_neg Bool.false_ne_true]
        obtain ⟨n, n1, n2⟩ := max_fold p r b hbr
        refine ⟨n, ?_, n2⟩
        rw [← n1]
        unfold nextBack
        have e1 : ((b :: y :: r).filter fun o => decide (o < p)) = b :: (r.filter fun o => decide (o < p)) := by simp [List.filter_cons, h1, h2]
        have e2 : ((b :: r).filter fun o => decide (o < p)) = b :: (r.filter fun o => decide (o < p)) := by simp [List.filter_cons, h1]
        rw [e1, e2]
        cases e3 : (b :: (r.filter fun o => decide (o < p))).getLast? with
        | none => rw [List.getLast?_eq_none_iff] at e3; cases e3
        | some z => rfl
    · have e : decide ((b < p) ↔ (y < p)) = true := by apply decide_eq_true; omega
      rw [e, if_pos rfl]
      obtain ⟨n, n1, n2⟩ := max_fold p r y hr
      refine ⟨n, ?_, n2⟩
      rw [← n1]
      unfold nextBack
      have e1 : ((b :: y :: r).filter fun o => decide (o < p)) = ((y :: r).filter fun o => decide (o < p)) := by simp [List.filter_cons, h1]
      rw [e1, List.getLast?_cons_cons]
end Ed

/-! searches -/
namespace Ed
open PySem L2 Cb
open Evl (Ev EvT)
theorem dec_sv (a b : List Nat) : decide ((⟨a.toArray⟩ : Str) = ⟨b.toArray⟩) = decide (a = b) := by
  by_cases h : a = b
  · rw [h, decide_eq_true rfl, decide_eq_true rfl]
  · rw [decide_eq_false h, decide_eq_false]
    intro z
    injection z with z
    exact h (by simpa using congrArg Array.toList z)
def sp_found_at (K : PySem.W.Frag) : Sp := fun vs H Q _ => ∃ (t q : List Nat), vs = [sv t, sv q] ∧ t.length ≤ 10000 ∧ q.length ≤ 10000 ∧ RetL (nats (foundAt t q)) H Q
def b_found_at (K : PySem.W.Frag) : Ss K :=
  (Ss.cons (Sm.ret (Ex.lc [("place", 2)] (Ir.rng1 (As.cons (Ex.len (As.cons (Ex.v 0) As.nil)) As.nil)) (Tg.v 2) (Ifs.one (Te.cmp Cm.eq (Ex.sl (Ex.v 0) (Op.yes (Ex.v 2)) (Op.yes (Ex.add (Ex.v 2) (Ex.len (As.cons (Ex.v 1) As.nil))))) (Ex.v 1))) (Ex.v 2)))
  Ss.nil)
def N_found_at : List Str := ["text", "pattern", "place"]
theorem rd_found_at (K : PySem.W.Frag) : ∀ vs H Q E, sp_found_at K vs H Q E → (b_found_at K).t { nx := fun _ H' => Q .non H', rt := Q } (start N_found_at vs) H := by
  rintro _ H Q E ⟨t, q, rfl, ht, hq, g⟩
  refine ⟨sz (by rw [len_sv]; omega), _, rfl, by rw [len_sv]; omega, by rw [len_sv]; omega, lc_fltR (lo := 0) (n := t.length) (fun i => decide ((t.drop i).take q.length = q)) iv (by omega) (fun _ => rfl) (fun i _ hi => ⟨?_, ?_⟩) ?_⟩
  · intro H4 e4 Q' q'
    refine ⟨sz (by rw [len_sv]; omega), sz (by rw [len_sv]; omega), ?_⟩
    have ec : cutS ⟨t.toArray⟩ (some (i : Int)) (some ((i : Int) + (((⟨q.toArray⟩ : Str).length : Nat) : Int))) = ⟨((t.drop i).take q.length).toArray⟩ := by
      have := cut_ofN t i (i + q.length)
      have e1 : i + q.length - i = q.length := by omega
      rw [e1] at this
      rw [len_sv]
      exact this
    rw [ec]
    show Q' (decide ((⟨((t.drop i).take q.length).toArray⟩ : Str) = ⟨q.toArray⟩)) H4
    rw [dec_sv]
    exact q' H4 (Xt.refl H4)
  · intro _ H4 e4 Q' q'
    exact q' H4 (Xt.refl H4)
  · intro D H2 hD e2 h2
    rw [← List.range_eq_range'] at h2
    exact g D H2 hD e2 h2
def sp_law_starts (K : PySem.W.Frag) : Sp := fun vs H Q _ => ∃ (t q : List Nat), vs = [sv t, sv q] ∧ t.length ≤ 10000 ∧ q.length ≤ 10000 ∧ RetL (nats (foundAt t q)) H Q
def b_law_starts (K : PySem.W.Frag) : Ss K :=
  (Ss.cons (Sm.ret (Ex.lc [("at", 2)] (Ir.rng1 (As.cons (Ex.len (As.cons (Ex.v 0) As.nil)) As.nil)) (Tg.v 2) (Ifs.one (Te.cmp Cm.eq (Ex.sl (Ex.v 0) (Op.yes (Ex.v 2)) (Op.yes (Ex.add (Ex.v 2) (Ex.len (As.cons (Ex.v 1) As.nil))))) (Ex.v 1))) (Ex.v 2)))
  Ss.nil)
def N_law_starts : List Str := ["text", "pattern", "at"]
theorem rd_law_starts (K : PySem.W.Frag) : ∀ vs H Q E, sp_law_starts K vs H Q E → (b_law_starts K).t { nx := fun _ H' => Q .non H', rt := Q } (start N_law_starts vs) H := rd_found_at K
theorem last_at {xs : List Nat} {y : Nat} (h : xs.getLast? = some y) : atI (nats xs) (-1) = some (iv y) := by
  obtain ⟨ys, rfl⟩ := List.getLast?_eq_some_iff.mp h
  have e : nats (ys ++ [y]) = nats ys ++ [iv y] := by simp [nats]
  rw [e]
  exact atI_last _ _
theorem head_at {xs : List Nat} {y : Nat} (h : xs.head? = some y) : atI (nats xs) 0 = some (iv y) := by
  cases xs with
  | nil => cases h
  | cons x r => cases h; exact atI_nat (j := 0) rfl
def sp_search_on (K : PySem.W.Frag) : Sp := fun vs H Q _ => ∃ (t : List Nat) (p : Nat) (q : List Nat), vs = [sv t, iv p, sv q] ∧ t.length ≤ 10000 ∧ q.length ≤ 10000 ∧ RetV (vo (nextOn (foundAt t q) p)) H Q
def b_search_on (K : PySem.W.Frag) : Ss K :=
  (Ss.cons (Sm.set 3 (Ex.call "found_at" (sp_found_at K) (As.cons (Ex.v 0) (As.cons (Ex.v 2) As.nil))))
  (Ss.cons (Sm.ret (Ex.ifx (Te.w (Tw.or (Te.cmp Cm.eq (Ex.v 3) (Ex.lst As.nil)) (Tw.one (Te.cmp Cm.gt (Ex.ix (Ex.v 3) (Ex.neg 1)) (Ex.v 1))))) (Ex.call "nth_behind" (sp_nth_behind K) (As.cons (Ex.v 3) (As.cons (Ex.v 1) (As.cons (Ex.i 1) As.nil)))) (Ex.ix (Ex.v 3) (Ex.i 0))))
  Ss.nil))
def N_search_on : List Str := ["text", "place", "pattern", "some"]
theorem rd_search_on (K : PySem.W.Frag) : ∀ vs H Q E, sp_search_on K vs H Q E → (b_search_on K).t { nx := fun _ H' => Q .non H', rt := Q } (start N_search_on vs) H := by
  rintro _ H Q E ⟨t, p, q, rfl, ht, hq, g⟩
  refine ⟨t, q, rfl, ht, hq, fun l H1 hl e1 h1 => ?_⟩
  have hlen := found_len t q
  refine ⟨by decide, fun le hle => ?_⟩
  have e2 : Xt H (upd H1 le (.lst [])) := e1.trans (xt_new hle)
  have h2 : (upd H1 le (.lst [])) l = some (.lst (nats (foundAt t q))) := (xt_new hle) l _ h1
  have h2i := h2
  rw [nats_ints] at h2i
  refine ⟨_, _, .lst (SqL.of h2i) (dp_ints _), .lst (SqL.of upd_same) .nil, ints_shaped _, nil_shaped, ?_⟩
  rw [eqv_nil]
  cases hx : foundAt t q with
  | nil =>
    refine ⟨l, foundAt t q, p, 1, rfl, h2, by omega, by decide, fun H3 e3 => ?_⟩
    have := g H3 (e2.trans e3)
    rw [hx] at this ⊢
    exact this
  | cons a r =>
    obtain ⟨y, hy⟩ : ∃ y, (foundAt t q).getLast? = some y := by
      rw [hx]
      cases e : (a :: r).getLast? with
      | none => rw [List.getLast?_eq_none_iff] at e; cases e
      | some y => exact ⟨y, rfl⟩
    refine ⟨_, _, .inl (SqL.of h2), last_at hy, br_d (fun h => ?_) (fun h => ?_)⟩
    · refine ⟨l, foundAt t q, p, 1, rfl, h2, by omega, by decide, fun H3 e3 => ?_⟩
      rw [on_yes hy (by omega)]
      exact g H3 (e2.trans e3)
    · have hd : (foundAt t q).head? = some a := by rw [hx]; rfl
      refine ⟨_, _, .inl (SqL.of h2), head_at hd, ?_⟩
      have := g _ e2
      rw [on_no (found_up t q) hy (by omega), hd] at this
      exact this
def sp_search_back (K : PySem.W.Frag) : Sp := fun vs H Q _ => ∃ (t : List Nat) (p : Nat) (q : List Nat), vs = [sv t, iv p, sv q] ∧ t.length ≤ 10000 ∧ q.length ≤ 10000 ∧ RetV (vo (nextBack (foundAt t q) p)) H Q
def b_search_back (K : PySem.W.Frag) : Ss K :=
  (Ss.cons (Sm.set 3 (Ex.call "found_at" (sp_found_at K) (As.cons (Ex.v 0) (As.cons (Ex.v 2) As.nil))))
  (Ss.cons (Sm.ret (Ex.ifx (Te.w (Tw.or (Te.cmp Cm.eq (Ex.v 3) (Ex.lst As.nil)) (Tw.one (Te.cmp Cm.lt (Ex.ix (Ex.v 3) (Ex.i 0)) (Ex.v 1))))) (Ex.call "nth_ahead" (sp_nth_ahead K) (As.cons (Ex.v 3) (As.cons (Ex.v 1) (As.cons (Ex.i 1) As.nil)))) (Ex.ix (Ex.v 3) (Ex.neg 1))))
  Ss.nil))
def N_search_back : List Str := ["text", "place", "pattern", "some"]
theorem rd_search_back (K : PySem.W.Frag) : ∀ vs H Q E, sp_search_back K vs H Q E → (b_search_back K).t { nx := fun _ H' => Q .non H', rt := Q } (start N_search_back vs) H := by
  rintro _ H Q E ⟨t, p, q, rfl, ht, hq, g⟩
  refine ⟨t, q, rfl, ht, hq, fun l H1 hl e1 h1 => ?_⟩
  have hlen := found_len t q
  refine ⟨by decide, fun le hle => ?_⟩
  have e2 : Xt H (upd H1 le (.lst [])) := e1.trans (xt_new hle)
  have h2 : (upd H1 le (.lst [])) l = some (.lst (nats (foundAt t q))) := (xt_new hle) l _ h1
  have h2i := h2
  rw [nats_ints] at h2i
  refine ⟨_, _, .lst (SqL.of h2i) (dp_ints _), .lst (SqL.of upd_same) .nil, ints_shaped _, nil_shaped, ?_⟩
  rw [eqv_nil]
  cases hx : foundAt t q with
  | nil =>
    refine ⟨l, foundAt t q, p, 1, rfl, h2, by omega, by decide, fun H3 e3 => ?_⟩
    have := g H3 (e2.trans e3)
    rw [hx] at this ⊢
    exact this
  | cons a r =>
    have hd : (foundAt t q).head? = some a := by rw [hx]; rfl
    refine ⟨_, _, .inl (SqL.of h2), head_at hd, br_d (fun h => ?_) (fun h => ?_)⟩
    · refine ⟨l, foundAt t q, p, 1, rfl, h2, by omega, by decide, fun H3 e3 => ?_⟩
      rw [back_yes hd (by omega)]
      exact g H3 (e2.trans e3)
    · obtain ⟨y, hy⟩ : ∃ y, (foundAt t q).getLast? = some y := by
        rw [hx]
        cases e : (a :: r).getLast? with
        | none => rw [List.getLast?_eq_none_iff] at e; cases e
        | some y => exact ⟨y, rfl⟩
      refine ⟨_, _, .inl (SqL.of h2), last_at hy, ?_⟩
      have := g _ e2
      rw [back_no (found_up t q) hd (by omega), hy] at this
      exact this
end Ed

/-! searches by the law -/
namespace Ed
open PySem L2 Cb
open Evl (Ev EvT)
theorem Pairs.to {H H' : Hp} : ∀ {rs : List Addr} {ps : List (Bool × Int)}, Pairs H rs ps → (∀ r p, H r = some (.tup p) → H' r = some (.tup p)) → Pairs H' rs ps
  | [], [], _, _ => trivial
  | r :: rs, p :: ps, h, k => ⟨k _ _ h.1, Pairs.to h.2 k⟩
  | [], _ :: _, h, _ => h.elim
  | _ :: _, [], h, _ => h.elim
theorem Pairs.snoc {H : Hp} {r : Addr} {p : Bool × Int} (hr : H r = some (.tup [.bl p.1, .int p.2])) : ∀ {rs : List Addr} {ps : List (Bool × Int)}, Pairs H rs ps → Pairs H (rs ++ [r]) (ps ++ [p])
  | [], [], _ => ⟨hr, trivial⟩
  | _ :: _, _ :: _, h => ⟨h.1, Pairs.snoc hr h.2⟩
  | [], _ :: _, h => h.elim
  | _ :: _, [], h => h.elim
theorem Pairs.len {H : Hp} : ∀ {rs : List Addr} {ps : List (Bool × Int)}, Pairs H rs ps → rs.length = ps.length
  | [], [], _ => rfl
  | _ :: _, _ :: _, h => by simp [Pairs.len h.2]
  | [], _ :: _, h => h.elim
  | _ :: _, [], h => h.elim
theorem lc_pairs {K : PySem.W.Frag} {a : Addr} (xs : List Nat) (f : Nat → Bool × Int) {k : Nat} {te : TE} {σ : L2.St} {H1 : Hp} {Q : VK}
    (ha : H1 a = some (.lst (nats xs))) (hl : xs.length < 100000) (hw : ∀ v, wipe ((wipe σ [k]).set k v) [k] = wipe σ [k])
    (hs : ∀ y ∈ xs, ∀ (H3 : Hp) (Qd : VK), (∀ T, H3 T = none → Qd (.ref T) (upd H3 T (.tup [.bl (f y).1, .int (f y).2]))) → te ((wipe σ [k]).set k (some (iv y))) H3 Qd)
    (hd : ∀ D H rs, H D = some (.lst (rs.map V.ref)) → Pairs H rs (xs.map f) → Xt H1 H → Q (.ref D) H) :
    LcT (Itl K a) (gName k) tYes te [k] σ H1 Q := by
  refine lc_walkI (walk_list (xs := nats xs)) (fun D i H' => ∃ rs, H' D = some (.lst (rs.map V.ref)) ∧ Pairs H' rs ((xs.take i).map f) ∧ Xt H1 H') ?_ ?_ ?_ ?_
  · intro D hD
    exact ⟨[], upd_same, trivial, xt_new hD⟩
  · rintro D i H hD hi ⟨rs, h1, h2, h3⟩
    exact SqL.of (h3 a _ ha)
  · rintro D i x H H' hD hi ⟨rs, h1, h2, h3⟩ ⟨rfl, hx⟩
    have hi' : i < xs.length := by simpa [nats] using hi
    have hx' : x = iv xs[i] := by
      unfold nats at hx
      rw [List.getElem?_map, List.getElem?_eq_getElem hi'] at hx
      cases hx; rfl
    subst hx'
    refine ⟨hw _, ?_⟩
    show te _ H' _
    refine hs xs[i] (List.getElem_mem hi') H' _ fun T hT => ?_
    have hDT : D ≠ T := fun e => by rw [← e, h1] at hT; cases hT
    have hlen := Pairs.len h2
    refine ⟨rs.map V.ref, ?_, szl ?_, rs ++ [T], ?_, ?_, ?_⟩
    · rw [upd_ne hDT]; exact h1
    · simp at hlen ⊢; omega
    · rw [upd_same]; simp
    · rw [take_snoc (List.getElem?_eq_getElem hi'), List.map_append]
      refine Pairs.snoc ?_ (Pairs.to h2 fun r p hr => ?_)
      · rw [upd_ne (Ne.symm hDT), upd_same]
      · have hrD : r ≠ D := fun e => by rw [e, h1] at hr; cases hr
        rw [upd_ne hrD]
        exact (xt_new hT) r _ hr
    · exact xt_mut (h3.trans (xt_new hT)) hD
  · rintro D H hD ⟨rs, h1, h2, h3⟩
    have : xs.take (nats xs).length = xs := by simp [nats]
    rw [this] at h2
    exact hd D H rs h1 h2 h3
def sp_law_next (K : PySem.W.Frag) : Sp := fun vs H Q _ => ∃ (t : List Nat) (p : Nat) (q : List Nat) (on : Bool), vs = [sv t, iv p, sv q, .bl on] ∧ t.length ≤ 10000 ∧ q.length ≤ 10000 ∧ RetV (vo (if on then nextOn (foundAt t q) p else nextBack (foundAt t q) p)) H Q
def b_law_next (K : PySem.W.Frag) : Ss K :=
  (Ss.cons (Sm.set 4 (Ex.call "_law_starts" (sp_law_starts K) (As.cons (Ex.v 0) (As.cons (Ex.v 2) As.nil))))
  (Ss.cons (Sm.ite (Te.cmp Cm.eq (Ex.v 4) (Ex.lst As.nil))
    (Ss.cons (Sm.ret Ex.none)
    Ss.nil)
    Ss.nil)
  (Ss.cons (Sm.ite (Te.val (Ex.v 3))
    (Ss.cons (Sm.ret (Ex.ix (Ex.minP (As.cons (Ex.lc [("at", 5)] (Ir.list (Ex.v 4)) (Tg.v 5) Ifs.no (Ex.tup (As.cons (Ex.cmp Cm.le (Ex.v 5) (Ex.v 1)) (As.cons (Ex.v 5) As.nil)))) As.nil)) (Ex.i 1)))
    Ss.nil)
    Ss.nil)
  (Ss.cons (Sm.ret (Ex.ix (Ex.maxP (As.cons (Ex.lc [("at", 5)] (Ir.list (Ex.v 4)) (Tg.v 5) Ifs.no (Ex.tup (As.cons (Ex.cmp Cm.lt (Ex.v 5) (Ex.v 1)) (As.cons (Ex.v 5) As.nil)))) As.nil)) (Ex.i 1)))
  Ss.nil))))
def N_law_next : List Str := ["text", "place", "pattern", "on", "some", "at"]
theorem rd_law_next (K : PySem.W.Frag) : ∀ vs H Q E, sp_law_next K vs H Q E → (b_law_next K).t { nx := fun _ H' => Q .non H', rt := Q } (start N_law_next vs) H := by
  rintro _ H Q E ⟨t, p, q, on, rfl, ht, hq, g⟩
  refine ⟨t, q, rfl, ht, hq, fun l H1 hl e1 h1 => ?_⟩
  have hlen := found_len t q
  have hup := found_up t q
  refine ⟨by decide, fun le hle => ?_⟩
  have e2 : Xt H (upd H1 le (.lst [])) := e1.trans (xt_new hle)
  have h2 : (upd H1 le (.lst [])) l = some (.lst (nats (foundAt t q))) := (xt_new hle) l _ h1
  have h2i := h2
  rw [nats_ints] at h2i
  refine ⟨_, _, .lst (SqL.of h2i) (dp_ints _), .lst (SqL.of upd_same) .nil, ints_shaped _, nil_shaped, ?_⟩
  rw [eqv_nil]
  cases hx : foundAt t q with
  | nil =>
    have := g _ e2
    rw [hx] at this
    cases on <;> exact this
  | cons b r =>
    rw [hx] at hup
    cases on with
    | true =>
      obtain ⟨n, n1, n2⟩ := min_on (p := p) hup
      refine ⟨l, rfl, ⟨_, SqL.of h2⟩, lc_pairs (foundAt t q) (fOn p) h2 (by omega) (fun _ => rfl) ?_ ?_⟩
      · intro y hy H3 Qd hQ
        exact ⟨by show 2 ≤ sizeLine; decide, fun T hT => hQ T hT⟩
      · intro D H3 rs d1 d2 d3
        rw [hx, List.map_cons] at d2
        refine ⟨rs, fOn p b, r.map (fOn p), d1, d2, fun T hT => ?_⟩
        rw [n2] at hT
        refine ⟨_, _, .inr (SqT.of hT), atI_nat (j := 1) rfl, ?_⟩
        have := g _ (e2.trans d3)
        rw [hx] at this
        rw [if_pos rfl, n1] at this
        exact this
    | false =>
      obtain ⟨n, n1, n2⟩ := max_fold p r b hup
      refine ⟨l, rfl, ⟨_, SqL.of h2⟩, lc_pairs (foundAt t q) (fBack p) h2 (by omega) (fun _ => rfl) ?_ ?_⟩
      · intro y hy H3 Qd hQ
        exact ⟨by show 2 ≤ sizeLine; decide, fun T hT => hQ T hT⟩
      · intro D H3 rs d1 d2 d3
        rw [hx, List.map_cons] at d2
        refine ⟨rs, fBack p b, r.map (fBack p), d1, d2, fun T hT => ?_⟩
        rw [n2] at hT
        refine ⟨_, _, .inr (SqT.of hT), atI_nat (j := 1) rfl, ?_⟩
        have := g _ (e2.trans d3)
        rw [hx] at this
        rw [if_neg (by decide), n1] at this
        exact this
end Ed

/-! all motions -/
namespace Ed
open PySem L2 Cb
open Evl (Ev EvT)

/-- where a motion leads -/
def goBy (t : List Nat) (p c : Nat) (mk : Nat → Option Nat) (pat : Option (List Nat)) : Mo → Option Nat
  | .left n => if 0 < p then some (p - n) else none
  | .right n => if p < t.length then some (min t.length (p + n)) else none
  | .up n => Tx.toRow t ((Tx.rowOf t p : Int) - n) c
  | .down n => Tx.toRow t ((Tx.rowOf t p : Int) + n) c
  | .word n => goWord t p (.word n)
  | .over n => goWord t p (.over n)
  | .back n => goWord t p (.back n)
  | .mark x => mk x
  | .search q => nextOn (foundAt t q) p
  | .again => match pat with
    | none => none
    | some q => nextOn (foundAt t q) p
  | .before => match pat with
    | none => none
    | some q => nextBack (foundAt t q) p
  | m => goEnd t p m
def pv : Option (List Nat) → V
  | none => .non
  | some q => sv q
def MarkOk (kvs : List (Key × V)) (mk : Nat → Option Nat) : Prop := ∀ c : Nat, (valV kvs (Sum.inr ⟨#[c]⟩)).getD .non = vo (mk c)
def PatOk : Option (List Nat) → Prop
  | none => True
  | some q => q.length ≤ 10000
def sp_place_by (K : PySem.W.Frag) : Sp := fun vs H Q _ => ∃ (t : List Nat) (p : Nat) (a : Addr) (m : Mo) (c : Nat) (d : Addr) (kvs : List (Key × V)) (mk : Nat → Option Nat) (pat : Option (List Nat)), vs = [sv t, iv p, .ref a, iv c, .ref d, pv pat] ∧ H a = some (.tup m.vs) ∧ H d = some (.dK kvs) ∧ MarkOk kvs mk ∧ PatOk pat ∧ m.ok ∧ t.length ≤ 10000 ∧ p ≤ t.length ∧ RetV (vo (goBy t p c mk pat m)) H Q
def b_place_by (K : PySem.W.Frag) : Ss K :=
  (Ss.cons (Sm.set 6 (Ex.ix (Ex.v 2) (Ex.i 0)))
  (Ss.cons (Sm.ite (Te.cmp Cm.eq (Ex.v 6) (Ex.s ⟨#[108, 101, 102, 116]⟩))
    (Ss.cons (Sm.ret (Ex.ifx (Te.cmp Cm.gt (Ex.v 1) (Ex.i 0)) (Ex.max (As.cons (Ex.i 0) (As.cons (Ex.sub (Ex.v 1) (Ex.ix (Ex.v 2) (Ex.i 1))) As.nil))) Ex.none))
    Ss.nil)
    Ss.nil)
  (Ss.cons (Sm.ite (Te.cmp Cm.eq (Ex.v 6) (Ex.s ⟨#[114, 105, 103, 104, 116]⟩))
    (Ss.cons (Sm.ret (Ex.ifx (Te.cmp Cm.lt (Ex.v 1) (Ex.len (As.cons (Ex.v 0) As.nil))) (Ex.min (As.cons (Ex.len (As.cons (Ex.v 0) As.nil)) (As.cons (Ex.add (Ex.v 1) (Ex.ix (Ex.v 2) (Ex.i 1))) As.nil))) Ex.none))
    Ss.nil)
    Ss.nil)
  (Ss.cons (Sm.ite (Te.cmp Cm.isin (Ex.v 6) (Ex.tup (As.cons (Ex.s ⟨#[117, 112]⟩) (As.cons (Ex.s ⟨#[100, 111, 119, 110]⟩) As.nil))))
    (Ss.cons (Sm.set 7 (Ex.ifx (Te.cmp Cm.eq (Ex.v 6) (Ex.s ⟨#[100, 111, 119, 110]⟩)) (Ex.ix (Ex.v 2) (Ex.i 1)) (Ex.sub (Ex.i 0) (Ex.ix (Ex.v 2) (Ex.i 1)))))
    (Ss.cons (Sm.ret (Ex.call "to_row" (sp_to_row K) (As.cons (Ex.v 0) (As.cons (Ex.add (Ex.call "row_of" (sp_row_of K) (As.cons (Ex.v 0) (As.cons (Ex.v 1) As.nil))) (Ex.v 7)) (As.cons (Ex.v 3) As.nil)))))
    Ss.nil))
    Ss.nil)
  (Ss.cons (Sm.ite (Te.cmp Cm.eq (Ex.v 6) (Ex.s ⟨#[119, 111, 114, 100]⟩))
    (Ss.cons (Sm.ret (Ex.call "nth_behind" (sp_nth_behind K) (As.cons (Ex.call "word_begins" (sp_word_begins K) (As.cons (Ex.v 0) As.nil)) (As.cons (Ex.v 1) (As.cons (Ex.ix (Ex.v 2) (Ex.i 1)) As.nil)))))
    Ss.nil)
    Ss.nil)
  (Ss.cons (Sm.ite (Te.cmp Cm.eq (Ex.v 6) (Ex.s ⟨#[98, 97, 99, 107]⟩))
    (Ss.cons (Sm.ret (Ex.call "nth_ahead" (sp_nth_ahead K) (As.cons (Ex.call "word_begins" (sp_word_begins K) (As.cons (Ex.v 0) As.nil)) (As.cons (Ex.v 1) (As.cons (Ex.ix (Ex.v 2) (Ex.i 1)) As.nil)))))
    Ss.nil)
    Ss.nil)
  (Ss.cons (Sm.ite (Te.cmp Cm.eq (Ex.v 6) (Ex.s ⟨#[111, 118, 101, 114]⟩))
    (Ss.cons (Sm.ret (Ex.call "nth_behind" (sp_nth_behind K) (As.cons (Ex.call "word_ends" (sp_word_ends K) (As.cons (Ex.v 0) As.nil)) (As.cons (Ex.v 1) (As.cons (Ex.ix (Ex.v 2) (Ex.i 1)) As.nil)))))
    Ss.nil)
    Ss.nil)
  (Ss.cons (Sm.ite (Te.cmp Cm.eq (Ex.v 6) (Ex.s ⟨#[109, 97, 114, 107]⟩))
    (Ss.cons (Sm.ret (Ex.dget (Ex.v 4) (Ex.ix (Ex.v 2) (Ex.i 1))))
    Ss.nil)
    Ss.nil)
  (Ss.cons (Sm.ite (Te.cmp Cm.eq (Ex.v 6) (Ex.s ⟨#[115, 101, 97, 114, 99, 104]⟩))
    (Ss.cons (Sm.ret (Ex.call "search_on" (sp_search_on K) (As.cons (Ex.v 0) (As.cons (Ex.v 1) (As.cons (Ex.ix (Ex.v 2) (Ex.i 1)) As.nil)))))
    Ss.nil)
    Ss.nil)
  (Ss.cons (Sm.ite (Te.cmp Cm.isin (Ex.v 6) (Ex.tup (As.cons (Ex.s ⟨#[97, 103, 97, 105, 110]⟩) (As.cons (Ex.s ⟨#[98, 101, 102, 111, 114, 101]⟩) As.nil))))
    (Ss.cons (Sm.ite (Te.cmp Cm.is (Ex.v 5) Ex.none)
      (Ss.cons (Sm.ret Ex.none)
      Ss.nil)
      Ss.nil)
    (Ss.cons (Sm.ret (Ex.ifx (Te.cmp Cm.eq (Ex.v 6) (Ex.s ⟨#[97, 103, 97, 105, 110]⟩)) (Ex.call "search_on" (sp_search_on K) (As.cons (Ex.v 0) (As.cons (Ex.v 1) (As.cons (Ex.v 5) As.nil)))) (Ex.call "search_back" (sp_search_back K) (As.cons (Ex.v 0) (As.cons (Ex.v 1) (As.cons (Ex.v 5) As.nil))))))
    Ss.nil))
    Ss.nil)
  (Ss.cons (Sm.ret (Ex.call "within" (sp_within K) (As.cons (Ex.v 0) (As.cons (Ex.v 1) (As.cons (Ex.v 2) As.nil)))))
  Ss.nil)))))))))))
def N_place_by : List Str := ["text", "place", "motion", "column", "marks", "pattern", "word", "step"]
theorem rd_place_by (K : PySem.W.Frag) : ∀ vs H Q E, sp_place_by K vs H Q E → (b_place_by K).t { nx := fun _ H' => Q .non H', rt := Q } (start N_place_by vs) H := by
  rintro _ H Q E ⟨t, p, a, m, c, d, kvs, mk, pat, rfl, ha, hd, hmk, hpat, hok, ht, hp, q⟩
  have hS : SqT K H a m.vs := SqT.of ha
  have h0 : atI m.vs 0 = some (sv m.name) := atI_nat (j := 0) rfl
  refine ⟨_, _, .inr hS, h0, ?_⟩
  cases m with
  | left n =>
    refine br_d (fun h => ?_) (fun h => ?_)
    · have h' : 0 < p := by omega
      have g := q H (Xt.refl H)
      simp only [goBy] at g
      rw [if_pos h'] at g
      refine ⟨_, _, .inr hS, atI_nat (j := 1) rfl, ?_⟩
      show Q (.int (max 0 ((p : Int) - (n : Int)))) H
      have e : max 0 ((p : Int) - (n : Int)) = ((p - n : Nat) : Int) := by omega
      rw [e]; exact g
    · have h' : ¬ 0 < p := by omega
      have g := q H (Xt.refl H)
      simp only [goBy] at g
      rw [if_neg h'] at g
      exact g
  | right n =>
    refine ⟨sz (by rw [len_sv]; omega), br_d (fun h => ?_) (fun h => ?_)⟩
    · rw [len_sv] at h
      have h' : p < t.length := by omega
      have g := q H (Xt.refl H)
      simp only [goBy] at g
      rw [if_pos h'] at g
      refine ⟨sz (by rw [len_sv]; omega), _, _, .inr hS, atI_nat (j := 1) rfl, ?_⟩
      show Q (.int (min (((⟨t.toArray⟩ : Str).length : Nat) : Int) ((p : Int) + (n : Int)))) H
      rw [len_sv]
      have e : min (t.length : Int) ((p : Int) + (n : Int)) = ((min t.length (p + n) : Nat) : Int) := by omega
      rw [e]; exact g
    · rw [len_sv] at h
      have h' : ¬ p < t.length := by omega
      have g := q H (Xt.refl H)
      simp only [goBy] at g
      rw [if_neg h'] at g
      exact g
  | up n =>
    refine ⟨by decide, fun l hl => ⟨l, _, rfl, .inr (SqT.of upd_same), rfl, rfl, ?_⟩⟩
    have e1 : Xt H (upd H l (.tup [sv w_up, sv w_down])) := xt_new hl
    refine ⟨_, _, .inr (SqT.of (e1 a _ ha)), atI_nat (j := 1) rfl, ?_⟩
    refine ⟨t, p, rfl, ht, hp, ?_⟩
    refine ⟨t, _, c, rfl, ht, fun H2 e2 => ?_⟩
    have g := q H2 (e1.trans e2)
    simp only [goBy] at g
    have e : ((Tx.rowOf t p : Nat) : Int) + (0 - (n : Int)) = (Tx.rowOf t p : Int) - n := by omega
    rw [e]; exact g
  | down n =>
    refine ⟨by decide, fun l hl => ⟨l, _, rfl, .inr (SqT.of upd_same), rfl, rfl, ?_⟩⟩
    have e1 : Xt H (upd H l (.tup [sv w_up, sv w_down])) := xt_new hl
    refine ⟨_, _, .inr (SqT.of (e1 a _ ha)), atI_nat (j := 1) rfl, ?_⟩
    refine ⟨t, p, rfl, ht, hp, ?_⟩
    exact ⟨t, _, c, rfl, ht, fun H2 e2 => q H2 (e1.trans e2)⟩
  | word n =>
    refine ⟨by decide, fun l hl => ⟨l, _, rfl, .inr (SqT.of upd_same), rfl, rfl, ?_⟩⟩
    have e1 : Xt H (upd H l (.tup [sv w_up, sv w_down])) := xt_new hl
    refine ⟨t, rfl, ht, fun D H2 hD e2 h2 => ?_⟩
    refine ⟨_, _, .inr (SqT.of ((e1.trans e2) a _ ha)), atI_nat (j := 1) rfl, ?_⟩
    exact ⟨D, wordBegins t, p, n, rfl, h2, by have := begs_len t; omega, hok.1, fun H3 e3 => q H3 ((e1.trans e2).trans e3)⟩
  | back n =>
    refine ⟨by decide, fun l hl => ⟨l, _, rfl, .inr (SqT.of upd_same), rfl, rfl, ?_⟩⟩
    have e1 : Xt H (upd H l (.tup [sv w_up, sv w_down])) := xt_new hl
    refine ⟨t, rfl, ht, fun D H2 hD e2 h2 => ?_⟩
    refine ⟨_, _, .inr (SqT.of ((e1.trans e2) a _ ha)), atI_nat (j := 1) rfl, ?_⟩
    exact ⟨D, wordBegins t, p, n, rfl, h2, by have := begs_len t; omega, hok.1, fun H3 e3 => q H3 ((e1.trans e2).trans e3)⟩
  | over n =>
    refine ⟨by decide, fun l hl => ⟨l, _, rfl, .inr (SqT.of upd_same), rfl, rfl, ?_⟩⟩
    have e1 : Xt H (upd H l (.tup [sv w_up, sv w_down])) := xt_new hl
    refine ⟨t, rfl, ht, fun D H2 hD e2 h2 => ?_⟩
    refine ⟨_, _, .inr (SqT.of ((e1.trans e2) a _ ha)), atI_nat (j := 1) rfl, ?_⟩
    exact ⟨D, wordEnds t, p, n, rfl, h2, by have := ends_len t; omega, hok.1, fun H3 e3 => q H3 ((e1.trans e2).trans e3)⟩
  | begin =>
    refine ⟨by decide, fun l hl => ⟨l, _, rfl, .inr (SqT.of upd_same), rfl, rfl, ?_⟩⟩
    have e1 : Xt H (upd H l (.tup [sv w_up, sv w_down])) := xt_new hl
    refine ⟨by decide, fun l2 hl2 => ⟨l2, _, rfl, .inr (SqT.of upd_same), rfl, rfl, ?_⟩⟩
    have e2 : Xt H (upd (upd H l (.tup [sv w_up, sv w_down])) l2 (.tup [sv w_again, sv w_before])) := e1.trans (xt_new hl2)
    exact ⟨t, p, a, .begin, rfl, e2 a _ ha, trivial, hok, ht, hp, fun H3 e3 => q H3 (e2.trans e3)⟩
  | fin =>
    refine ⟨by decide, fun l hl => ⟨l, _, rfl, .inr (SqT.of upd_same), rfl, rfl, ?_⟩⟩
    have e1 : Xt H (upd H l (.tup [sv w_up, sv w_down])) := xt_new hl
    refine ⟨by decide, fun l2 hl2 => ⟨l2, _, rfl, .inr (SqT.of upd_same), rfl, rfl, ?_⟩⟩
    have e2 : Xt H (upd (upd H l (.tup [sv w_up, sv w_down])) l2 (.tup [sv w_again, sv w_before])) := e1.trans (xt_new hl2)
    exact ⟨t, p, a, .fin, rfl, e2 a _ ha, trivial, hok, ht, hp, fun H3 e3 => q H3 (e2.trans e3)⟩
  | first =>
    refine ⟨by decide, fun l hl => ⟨l, _, rfl, .inr (SqT.of upd_same), rfl, rfl, ?_⟩⟩
    have e1 : Xt H (upd H l (.tup [sv w_up, sv w_down])) := xt_new hl
    refine ⟨by decide, fun l2 hl2 => ⟨l2, _, rfl, .inr (SqT.of upd_same), rfl, rfl, ?_⟩⟩
    have e2 : Xt H (upd (upd H l (.tup [sv w_up, sv w_down])) l2 (.tup [sv w_again, sv w_before])) := e1.trans (xt_new hl2)
    exact ⟨t, p, a, .first, rfl, e2 a _ ha, trivial, hok, ht, hp, fun H3 e3 => q H3 (e2.trans e3)⟩
  | top =>
    refine ⟨by decide, fun l hl => ⟨l, _, rfl, .inr (SqT.of upd_same), rfl, rfl, ?_⟩⟩
    have e1 : Xt H (upd H l (.tup [sv w_up, sv w_down])) := xt_new hl
    refine ⟨by decide, fun l2 hl2 => ⟨l2, _, rfl, .inr (SqT.of upd_same), rfl, rfl, ?_⟩⟩
    have e2 : Xt H (upd (upd H l (.tup [sv w_up, sv w_down])) l2 (.tup [sv w_again, sv w_before])) := e1.trans (xt_new hl2)
    exact ⟨t, p, a, .top, rfl, e2 a _ ha, trivial, hok, ht, hp, fun H3 e3 => q H3 (e2.trans e3)⟩
  | bottom =>
    refine ⟨by decide, fun l hl => ⟨l, _, rfl, .inr (SqT.of upd_same), rfl, rfl, ?_⟩⟩
    have e1 : Xt H (upd H l (.tup [sv w_up, sv w_down])) := xt_new hl
    refine ⟨by decide, fun l2 hl2 => ⟨l2, _, rfl, .inr (SqT.of upd_same), rfl, rfl, ?_⟩⟩
    have e2 : Xt H (upd (upd H l (.tup [sv w_up, sv w_down])) l2 (.tup [sv w_again, sv w_before])) := e1.trans (xt_new hl2)
    exact ⟨t, p, a, .bottom, rfl, e2 a _ ha, trivial, hok, ht, hp, fun H3 e3 => q H3 (e2.trans e3)⟩
  | row r =>
    refine ⟨by decide, fun l hl => ⟨l, _, rfl, .inr (SqT.of upd_same), rfl, rfl, ?_⟩⟩
    have e1 : Xt H (upd H l (.tup [sv w_up, sv w_down])) := xt_new hl
    refine ⟨by decide, fun l2 hl2 => ⟨l2, _, rfl, .inr (SqT.of upd_same), rfl, rfl, ?_⟩⟩
    have e2 : Xt H (upd (upd H l (.tup [sv w_up, sv w_down])) l2 (.tup [sv w_again, sv w_before])) := e1.trans (xt_new hl2)
    exact ⟨t, p, a, .row r, rfl, e2 a _ ha, trivial, hok, ht, hp, fun H3 e3 => q H3 (e2.trans e3)⟩
  | pair =>
    refine ⟨by decide, fun l hl => ⟨l, _, rfl, .inr (SqT.of upd_same), rfl, rfl, ?_⟩⟩
    have e1 : Xt H (upd H l (.tup [sv w_up, sv w_down])) := xt_new hl
    refine ⟨by decide, fun l2 hl2 => ⟨l2, _, rfl, .inr (SqT.of upd_same), rfl, rfl, ?_⟩⟩
    have e2 : Xt H (upd (upd H l (.tup [sv w_up, sv w_down])) l2 (.tup [sv w_again, sv w_before])) := e1.trans (xt_new hl2)
    exact ⟨t, p, a, .pair, rfl, e2 a _ ha, trivial, hok, ht, hp, fun H3 e3 => q H3 (e2.trans e3)⟩
  | find c n =>
    refine ⟨by decide, fun l hl => ⟨l, _, rfl, .inr (SqT.of upd_same), rfl, rfl, ?_⟩⟩
    have e1 : Xt H (upd H l (.tup [sv w_up, sv w_down])) := xt_new hl
    refine ⟨by decide, fun l2 hl2 => ⟨l2, _, rfl, .inr (SqT.of upd_same), rfl, rfl, ?_⟩⟩
    have e2 : Xt H (upd (upd H l (.tup [sv w_up, sv w_down])) l2 (.tup [sv w_again, sv w_before])) := e1.trans (xt_new hl2)
    exact ⟨t, p, a, .find c n, rfl, e2 a _ ha, trivial, hok, ht, hp, fun H3 e3 => q H3 (e2.trans e3)⟩
  | mark x =>
    refine ⟨by decide, fun l hl => ⟨l, _, rfl, .inr (SqT.of upd_same), rfl, rfl, ?_⟩⟩
    have e1 : Xt H (upd H l (.tup [sv w_up, sv w_down])) := xt_new hl
    refine ⟨d, rfl, .inl ⟨kvs, .inl (e1 d _ hd)⟩, _, _, .inr (SqT.of (e1 a _ ha)), atI_nat (j := 1) rfl, _, DGet.k (k := .inr ⟨#[x]⟩) (e1 d _ hd), ?_⟩
    rw [hmk x]
    exact q _ e1
  | search w =>
    refine ⟨by decide, fun l hl => ⟨l, _, rfl, .inr (SqT.of upd_same), rfl, rfl, ?_⟩⟩
    have e1 : Xt H (upd H l (.tup [sv w_up, sv w_down])) := xt_new hl
    exact ⟨_, _, .inr (SqT.of (e1 a _ ha)), atI_nat (j := 1) rfl, t, p, w, rfl, ht, Nat.le_trans hok.2.1 (by decide), fun H3 e3 => q H3 (e1.trans e3)⟩
  | again =>
    refine ⟨by decide, fun l hl => ⟨l, _, rfl, .inr (SqT.of upd_same), rfl, rfl, ?_⟩⟩
    have e1 : Xt H (upd H l (.tup [sv w_up, sv w_down])) := xt_new hl
    refine ⟨by decide, fun l2 hl2 => ⟨l2, _, rfl, .inr (SqT.of upd_same), rfl, rfl, ?_⟩⟩
    have e2 : Xt H (upd (upd H l (.tup [sv w_up, sv w_down])) l2 (.tup [sv w_again, sv w_before])) := e1.trans (xt_new hl2)
    cases pat with
    | none => exact q _ e2
    | some w => exact ⟨t, p, w, rfl, ht, hpat, fun H3 e3 => q H3 (e2.trans e3)⟩
  | before =>
    refine ⟨by decide, fun l hl => ⟨l, _, rfl, .inr (SqT.of upd_same), rfl, rfl, ?_⟩⟩
    have e1 : Xt H (upd H l (.tup [sv w_up, sv w_down])) := xt_new hl
    refine ⟨by decide, fun l2 hl2 => ⟨l2, _, rfl, .inr (SqT.of upd_same), rfl, rfl, ?_⟩⟩
    have e2 : Xt H (upd (upd H l (.tup [sv w_up, sv w_down])) l2 (.tup [sv w_again, sv w_before])) := e1.trans (xt_new hl2)
    cases pat with
    | none => exact q _ e2
    | some w => exact ⟨t, p, w, rfl, ht, hpat, fun H3 e3 => q H3 (e2.trans e3)⟩
def sp_goes (K : PySem.W.Frag) : Sp := fun vs H Q _ => ∃ (t : List Nat) (p : Nat) (a : Addr) (m : Mo), vs = [sv t, iv p, .ref a] ∧ H a = some (.tup m.vs) ∧ m.ok ∧ isText t ∧ p ≤ t.length ∧ RetV (vo (goBy t p (Tx.colOf t p) (fun _ => none) none m)) H Q
def b_goes (K : PySem.W.Frag) : Ss K :=
  (Ss.cons (Sm.ex (Ex.call "need_place" (sp_need_place K) (As.cons (Ex.v 0) (As.cons (Ex.v 1) As.nil))))
  (Ss.cons (Sm.ex (Ex.call "need_motion" (sp_need_motion K) (As.cons (Ex.v 2) As.nil)))
  (Ss.cons (Sm.ret (Ex.call "place_by" (sp_place_by K) (As.cons (Ex.v 0) (As.cons (Ex.v 1) (As.cons (Ex.v 2) (As.cons (Ex.sub (Ex.v 1) (Ex.call "begin_of" (sp_begin_of K) (As.cons (Ex.v 0) (As.cons (Ex.v 1) As.nil)))) (As.cons Ex.dnew (As.cons Ex.none As.nil))))))))
  Ss.nil)))
def N_goes : List Str := ["text", "place", "motion"]
theorem rd_goes (K : PySem.W.Frag) : ∀ vs H Q E, sp_goes K vs H Q E → (b_goes K).t { nx := fun _ H' => Q .non H', rt := Q } (start N_goes vs) H := by
  rintro _ H Q E ⟨t, p, a, m, rfl, ha, hok, ht, hp, q⟩
  refine ⟨t, p, rfl, ht, hp, fun H1 e1 => ?_⟩
  refine ⟨a, m, rfl, e1 a _ ha, hok, fun H2 e2 => ?_⟩
  refine ⟨t, p, rfl, hp, ?_⟩
  intro d hd
  have e3 : Xt H (upd H2 d (.dK [])) := (e1.trans e2).trans (xt_new hd)
  obtain ⟨b1, _, _⟩ := Tx.begin_spec t p hp
  have e4 : (p : Int) - ((Tx.beginOf t p : Nat) : Int) = ((Tx.colOf t p : Nat) : Int) := by unfold Tx.colOf; omega
  refine ⟨t, p, a, m, Tx.colOf t p, d, [], fun _ => none, none, ?_, e3 a _ ha, upd_same, fun _ => rfl, trivial, hok, by have := ht.1; omega, hp, fun H4 e5 => q H4 (e3.trans e5)⟩
  show [sv t, iv p, V.ref a, V.int ((p : Int) - ((Tx.beginOf t p : Nat) : Int)), V.ref d, V.non] = _
  rw [e4]; rfl
def sp_law_goes (K : PySem.W.Frag) : Sp := fun vs H Q _ => ∃ (t : List Nat) (p : Nat) (a : Addr) (m : Mo) (co : Option Nat) (d : Addr) (kvs : List (Key × V)) (mk : Nat → Option Nat) (pat : Option (List Nat)), vs = [sv t, iv p, .ref a, vo co, .ref d, pv pat] ∧ H a = some (.tup m.vs) ∧ H d = some (.dK kvs) ∧ MarkOk kvs mk ∧ PatOk pat ∧ m.ok ∧ t.length ≤ 10000 ∧ p ≤ t.length ∧ RetV (vo (goBy t p (co.getD (Tx.colOf t p)) mk pat m)) H Q
def b_law_goes (K : PySem.W.Frag) : Ss K :=
  (Ss.cons (Sm.set 6 (Ex.ix (Ex.v 2) (Ex.i 0)))
  (Ss.cons (Sm.set 7 (Ex.call "_law_rows" (sp_law_rows K) (As.cons (Ex.v 0) As.nil)))
  (Ss.cons (Sm.asg (Tg.tup (Tgs.cons (Tg.v 8) (Tgs.cons (Tg.v 9) Tgs.nil))) (Ex.call "_law_spot" (sp_law_spot K) (As.cons (Ex.v 0) (As.cons (Ex.v 1) As.nil))))
  (Ss.cons (Sm.ite (Te.cmp Cm.isin (Ex.v 6) (Ex.tup (As.cons (Ex.s ⟨#[108, 101, 102, 116]⟩) (As.cons (Ex.s ⟨#[114, 105, 103, 104, 116]⟩) As.nil))))
    (Ss.cons (Sm.set 10 (Ex.add (Ex.v 1) (Ex.mul (Ex.ix (Ex.v 2) (Ex.i 1)) (Ex.ifx (Te.cmp Cm.eq (Ex.v 6) (Ex.s ⟨#[114, 105, 103, 104, 116]⟩)) (Ex.i 1) (Ex.neg 1)))))
    (Ss.cons (Sm.set 10 (Ex.max (As.cons (Ex.i 0) (As.cons (Ex.min (As.cons (Ex.len (As.cons (Ex.v 0) As.nil)) (As.cons (Ex.v 10) As.nil))) As.nil))))
    (Ss.cons (Sm.ret (Ex.ifx (Te.cmp Cm.ne (Ex.v 10) (Ex.v 1)) (Ex.v 10) Ex.none))
    Ss.nil)))
    Ss.nil)
  (Ss.cons (Sm.ite (Te.cmp Cm.isin (Ex.v 6) (Ex.tup (As.cons (Ex.s ⟨#[117, 112]⟩) (As.cons (Ex.s ⟨#[100, 111, 119, 110]⟩) As.nil))))
    (Ss.cons (Sm.set 10 (Ex.add (Ex.v 8) (Ex.mul (Ex.ix (Ex.v 2) (Ex.i 1)) (Ex.ifx (Te.cmp Cm.eq (Ex.v 6) (Ex.s ⟨#[100, 111, 119, 110]⟩)) (Ex.i 1) (Ex.neg 1)))))
    (Ss.cons (Sm.ret (Ex.ifx (Te.chain Cm.le Cm.lt (Ex.i 0) (Ex.v 10) (Ex.len (As.cons (Ex.v 7) As.nil))) (Ex.call "_law_back" (sp_law_back K) (As.cons (Ex.v 7) (As.cons (Ex.v 10) (As.cons (Ex.ifx (Te.cmp Cm.is (Ex.v 3) Ex.none) (Ex.v 9) (Ex.v 3)) As.nil)))) Ex.none))
    Ss.nil))
    Ss.nil)
  (Ss.cons (Sm.ite (Te.cmp Cm.isin (Ex.v 6) (Ex.tup (As.cons (Ex.s ⟨#[119, 111, 114, 100]⟩) (As.cons (Ex.s ⟨#[98, 97, 99, 107]⟩) (As.cons (Ex.s ⟨#[111, 118, 101, 114]⟩) As.nil)))))
    (Ss.cons (Sm.ret (Ex.call "_law_ends" (sp_law_ends K) (As.cons (Ex.v 0) (As.cons (Ex.v 2) (As.cons (Ex.v 1) As.nil)))))
    Ss.nil)
    Ss.nil)
  (Ss.cons (Sm.ite (Te.cmp Cm.isin (Ex.v 6) (Ex.tup (As.cons (Ex.s ⟨#[98, 101, 103, 105, 110]⟩) (As.cons (Ex.s ⟨#[101, 110, 100]⟩) (As.cons (Ex.s ⟨#[102, 105, 114, 115, 116]⟩) As.nil)))))
    (Ss.cons (Sm.set 11 (Ex.len (As.cons (Ex.lc [("at", 12)] (Ir.rng1 (As.cons (Ex.len (As.cons (Ex.ix (Ex.v 7) (Ex.v 8)) As.nil)) As.nil)) (Tg.v 12) (Ifs.one (Te.cmp Cm.eq (Ex.sl (Ex.ix (Ex.v 7) (Ex.v 8)) Op.no (Op.yes (Ex.add (Ex.v 12) (Ex.i 1)))) (Ex.smul (Ex.s ⟨#[32]⟩) (Ex.add (Ex.v 12) (Ex.i 1))))) (Ex.v 12)) As.nil)))
    (Ss.cons (Sm.ret (Ex.add (Ex.sub (Ex.v 1) (Ex.v 9)) (Ex.dix (Ex.disp (Ps.cons (Ex.s ⟨#[98, 101, 103, 105, 110]⟩) (Ex.i 0) (Ps.cons (Ex.s ⟨#[101, 110, 100]⟩) (Ex.len (As.cons (Ex.ix (Ex.v 7) (Ex.v 8)) As.nil)) (Ps.cons (Ex.s ⟨#[102, 105, 114, 115, 116]⟩) (Ex.v 11) Ps.nil)))) (Ex.v 6))))
    Ss.nil))
    Ss.nil)
  (Ss.cons (Sm.ite (Te.cmp Cm.isin (Ex.v 6) (Ex.tup (As.cons (Ex.s ⟨#[116, 111, 112]⟩) (As.cons (Ex.s ⟨#[98, 111, 116, 116, 111, 109]⟩) As.nil))))
    (Ss.cons (Sm.ret (Ex.mul (Ex.len (As.cons (Ex.v 0) As.nil)) (Ex.int (As.cons (Ex.cmp Cm.eq (Ex.v 6) (Ex.s ⟨#[98, 111, 116, 116, 111, 109]⟩)) As.nil))))
    Ss.nil)
    Ss.nil)
  (Ss.cons (Sm.ite (Te.cmp Cm.eq (Ex.v 6) (Ex.s ⟨#[114, 111, 119]⟩))
    (Ss.cons (Sm.ret (Ex.ifx (Te.cmp Cm.le (Ex.ix (Ex.v 2) (Ex.i 1)) (Ex.len (As.cons (Ex.v 7) As.nil))) (Ex.call "_law_back" (sp_law_back K) (As.cons (Ex.v 7) (As.cons (Ex.sub (Ex.ix (Ex.v 2) (Ex.i 1)) (Ex.i 1)) (As.cons (Ex.i 0) As.nil)))) Ex.none))
    Ss.nil)
    Ss.nil)
  (Ss.cons (Sm.ite (Te.cmp Cm.eq (Ex.v 6) (Ex.s ⟨#[112, 97, 105, 114]⟩))
    (Ss.cons (Sm.ret (Ex.call "_law_pair" (sp_law_pair K) (As.cons (Ex.v 0) (As.cons (Ex.v 1) As.nil))))
    Ss.nil)
    Ss.nil)
  (Ss.cons (Sm.ite (Te.cmp Cm.eq (Ex.v 6) (Ex.s ⟨#[109, 97, 114, 107]⟩))
    (Ss.cons (Sm.ret (Ex.dget (Ex.v 4) (Ex.ix (Ex.v 2) (Ex.i 1))))
    Ss.nil)
    Ss.nil)
  (Ss.cons (Sm.ite (Te.cmp Cm.eq (Ex.v 6) (Ex.s ⟨#[102, 105, 110, 100]⟩))
    (Ss.cons (Sm.setLc 13 [("at", 12)] (Ir.rng2 (As.cons (Ex.add (Ex.v 9) (Ex.i 1)) (As.cons (Ex.len (As.cons (Ex.ix (Ex.v 7) (Ex.v 8)) As.nil)) As.nil))) (Tg.v 12) (Ifs.one (Te.cmp Cm.eq (Ex.ix (Ex.ix (Ex.v 7) (Ex.v 8)) (Ex.v 12)) (Ex.ix (Ex.v 2) (Ex.i 1)))) (Ex.v 12))
    (Ss.cons (Sm.ret (Ex.ifx (Te.cmp Cm.ge (Ex.len (As.cons (Ex.v 13) As.nil)) (Ex.ix (Ex.v 2) (Ex.i 2))) (Ex.add (Ex.sub (Ex.v 1) (Ex.v 9)) (Ex.ix (Ex.v 13) (Ex.sub (Ex.ix (Ex.v 2) (Ex.i 2)) (Ex.i 1)))) Ex.none))
    Ss.nil))
    Ss.nil)
  (Ss.cons (Sm.ite (Te.cmp Cm.eq (Ex.v 6) (Ex.s ⟨#[115, 101, 97, 114, 99, 104]⟩))
    (Ss.cons (Sm.ret (Ex.call "_law_next" (sp_law_next K) (As.cons (Ex.v 0) (As.cons (Ex.v 1) (As.cons (Ex.ix (Ex.v 2) (Ex.i 1)) (As.cons (Ex.b true) As.nil))))))
    Ss.nil)
    Ss.nil)
  (Ss.cons (Sm.ite (Te.cmp Cm.is (Ex.v 5) Ex.none)
    (Ss.cons (Sm.ret Ex.none)
    Ss.nil)
    Ss.nil)
  (Ss.cons (Sm.ret (Ex.call "_law_next" (sp_law_next K) (As.cons (Ex.v 0) (As.cons (Ex.v 1) (As.cons (Ex.v 5) (As.cons (Ex.cmp Cm.eq (Ex.v 6) (Ex.s ⟨#[97, 103, 97, 105, 110]⟩)) As.nil))))))
  Ss.nil)))))))))))))))
def N_law_goes : List Str := ["text", "place", "motion", "column", "marks", "pattern", "word", "rows", "row", "own", "goal", "blanks", "at", "some"]
theorem rows_ok {t : List Nat} (h : t.length ≤ 10000) : (∀ u ∈ Tx.rows t, u.length ≤ 10000) ∧ (Tx.rows t).length ≤ 20000 :=
  ⟨fun u hu => Nat.le_trans (row_short hu) h, by have := rows_len t; omega⟩
/-- the law's up and down -/
theorem back_row {K : PySem.W.Frag} {t : List Nat} {l : Addr} {g : Int} {c : Nat} {H H1 : Hp} {Q : VK} (hl : H1 l = some (.lst ((Tx.rows t).map sv))) (ht : t.length ≤ 10000) (e : Xt H H1) (q : RetV (vo (Tx.toRow t g c)) H Q) :
    br (decide (0 ≤ g)) (∃ xs, (SqL K H1 l xs ∨ SqT K H1 l xs) ∧ br (decide (g < (xs.length : Int))) (sp_law_back K [.ref l, .int g, iv c] H1 Q E0) (Q .non H1)) (Q .non H1) := by
  unfold Tx.toRow at q
  refine br_d (fun h0 => ?_) (fun h0 => ?_)
  · rw [if_pos h0] at q
    obtain ⟨r, rfl⟩ : ∃ i : Nat, g = (i : Int) := ⟨g.toNat, by omega⟩
    have er : (r : Int).toNat = r := by simp
    rw [er] at q
    refine ⟨_, .inl (SqL.of hl), br_d (fun h1 => ?_) (fun h1 => ?_)⟩
    · have hr : r < (Tx.rows t).length := by simp at h1; omega
      rw [List.getElem?_eq_getElem hr] at q
      obtain ⟨o1, o2⟩ := rows_ok ht
      exact ⟨l, Tx.rows t, r, c, (Tx.rows t)[r], rfl, hl, List.getElem?_eq_getElem hr, o1, o2, fun H2 e2 => q H2 (e.trans e2)⟩
    · have hr : ¬ r < (Tx.rows t).length := by simp at h1; omega
      rw [List.getElem?_eq_none (by omega)] at q
      exact q H1 e
  · rw [if_neg h0] at q
    exact q H1 e
/-- the law's begin, end, first -/
def lsig (t : List Nat) (p : Nat) (a l : Addr) (cv x w : V) (m : Mo) : L2.St := [some (sv t), some (iv p), some (.ref a), some cv, some x, some w, some (sv m.name), some (.ref l), some (iv (Tx.rowOf t p)), some (iv (Tx.colOf t p)), none, none, none, none]
def Mo.isBe : Mo → Prop
  | .begin => True | .fin => True | .first => True
  | _ => False
theorem law_be (K : PySem.W.Frag) {t : List Nat} {p : Nat} {a l : Addr} {cv x w : V} {H H6 : Hp} {Q : VK} {D : Ends} (ht : t.length ≤ 10000) (hp : p ≤ t.length) (hl : H6 l = some (.lst ((Tx.rows t).map sv))) (m : Mo) (hm : m.isBe) (hD : D.rt = Q) (e6 : Xt H H6) (q : RetV (vo (goEnd t p m)) H Q) :
    (Ss.cons (Sm.set 11 (Ex.len (As.cons (Ex.lc [("at", 12)] (Ir.rng1 (As.cons (Ex.len (As.cons (Ex.ix (Ex.v 7) (Ex.v 8)) As.nil)) As.nil)) (Tg.v 12) (Ifs.one (Te.cmp Cm.eq (Ex.sl (Ex.ix (Ex.v 7) (Ex.v 8)) Op.no (Op.yes (Ex.add (Ex.v 12) (Ex.i 1)))) (Ex.smul (Ex.s ⟨#[32]⟩) (Ex.add (Ex.v 12) (Ex.i 1))))) (Ex.v 12)) As.nil)))
    (Ss.cons (Sm.ret (Ex.add (Ex.sub (Ex.v 1) (Ex.v 9)) (Ex.dix (Ex.disp (Ps.cons (Ex.s ⟨#[98, 101, 103, 105, 110]⟩) (Ex.i 0) (Ps.cons (Ex.s ⟨#[101, 110, 100]⟩) (Ex.len (As.cons (Ex.ix (Ex.v 7) (Ex.v 8)) As.nil)) (Ps.cons (Ex.s ⟨#[102, 105, 114, 115, 116]⟩) (Ex.v 11) Ps.nil)))) (Ex.v 6))))
    Ss.nil) : Ss K).t D (lsig t p a l cv x w m) H6 := by
  subst hD
  obtain ⟨row, r1, r2, r3, r4⟩ := Tx.row_here hp
  have r2' : row = rowT t p := r2
  obtain ⟨o1, o2⟩ := rows_ok ht
  have hrl : row.length ≤ 10000 := o1 row (List.mem_of_getElem? r1)
  have hat : atI ((Tx.rows t).map sv) ((Tx.rowOf t p : Nat) : Int) = some (sv row) := atI_nat (by rw [List.getElem?_map, r1]; rfl)
  refine ⟨_, _, .inl (SqL.of hl), hat, sz (by rw [len_sv]; omega), _, rfl, by rw [len_sv]; omega, by rw [len_sv]; omega, lc_fltR (lo := 0) (n := row.length) (fun i => decide (row.take (i + 1) = List.replicate (i + 1) 32)) iv (by omega) (fun _ => rfl) (fun i _ hi => ⟨?_, ?_⟩) ?_⟩
  · intro H7 x7 Q' q'
    refine ⟨_, _, .inl (SqL.of (x7 l _ hl)), hat, sz (by rw [len_sv]; omega), ?_⟩
    obtain ⟨m1, m2⟩ := mul_sign 32 (i + 1) (by omega)
    refine ⟨m1, ?_⟩
    show Q' (decide (cutS ⟨row.toArray⟩ none (some ((i + 1 : Nat) : Int)) = Txt.mul ⟨#[32]⟩ ((i + 1 : Nat) : Int))) H7
    rw [m2, cut_toN]
    have e : decide ((⟨(row.take (i + 1)).toArray⟩ : Str) = ⟨(List.replicate (i + 1) 32).toArray⟩) = decide (row.take (i + 1) = List.replicate (i + 1) 32) := by
      by_cases h : row.take (i + 1) = List.replicate (i + 1) 32
      · rw [h, decide_eq_true rfl, decide_eq_true rfl]
      · rw [decide_eq_false h, decide_eq_false]
        intro z
        injection z with z
        exact h (by simpa using congrArg Array.toList z)
    rw [e]
    exact q' H7 (Xt.refl H7)
  · intro _ H7 x7 Q' q'
    exact q' H7 (Xt.refl H7)
  intro D8 H8 hD8 x8 h8
  have hb : (((List.range' 0 row.length).filter fun i => decide (row.take (i + 1) = List.replicate (i + 1) 32)).map iv).length = Tx.lead (rowT t p) := by
    rw [List.length_map, ← List.range_eq_range', Tx.count_lead, r2']
  refine ⟨_, .inl (SqL.of h8), fun d hd => ?_⟩
  have l9 := (xt_new (o := .dK []) hd) l _ (x8 l _ hl)
  refine ⟨_, _, .inl (SqL.of l9), hat, sz (by rw [len_sv]; omega), upd_same, [(.inr ⟨w_begin.toArray⟩, .int 0), (.inr ⟨w_end.toArray⟩, .int (((⟨row.toArray⟩ : Str).length : Nat) : Int)), (.inr ⟨w_first.toArray⟩, .int (((((List.range' 0 row.length).filter fun i => decide (row.take (i + 1) = List.replicate (i + 1) 32)).map iv).length : Nat) : Int))], rfl, by show 3 ≤ 15; decide, ?_⟩
  rw [hb, len_sv]
  have e9 : ∀ o, Xt H (upd (upd H8 d (.dK [])) d o) := fun o => xt_mut ((e6.trans x8).trans (xt_new hd)) (xt_none (e6.trans x8) hd)
  have eb : ∀ k : Nat, (p : Int) - ((Tx.colOf t p : Nat) : Int) + (k : Int) = ((Tx.beginOf t p + k : Nat) : Int) := fun k => by
    unfold Tx.colOf; omega
  cases m with
  | begin =>
    refine ⟨d, .int 0, rfl, .inl ⟨_, .inr ⟨w_begin.toArray⟩, .inl upd_same, rfl, rfl⟩, ?_⟩
    have g := q _ (e9 (.dK (mergeK [] [(.inr ⟨w_begin.toArray⟩, .int 0), (.inr ⟨w_end.toArray⟩, .int (row.length : Int)), (.inr ⟨w_first.toArray⟩, .int (Tx.lead (rowT t p) : Int))])))
    show D.rt (.int ((p : Int) - ((Tx.colOf t p : Nat) : Int) + ((0 : Nat) : Int))) _
    rw [eb]; exact g
  | fin =>
    refine ⟨d, .int (row.length : Int), rfl, .inl ⟨_, .inr ⟨w_end.toArray⟩, .inl upd_same, rfl, rfl⟩, ?_⟩
    have g := q _ (e9 (.dK (mergeK [] [(.inr ⟨w_begin.toArray⟩, .int 0), (.inr ⟨w_end.toArray⟩, .int (row.length : Int)), (.inr ⟨w_first.toArray⟩, .int (Tx.lead (rowT t p) : Int))])))
    show D.rt (.int ((p : Int) - ((Tx.colOf t p : Nat) : Int) + ((row.length : Nat) : Int))) _
    rw [eb, ← r3]; exact g
  | first =>
    refine ⟨d, .int (Tx.lead (rowT t p) : Int), rfl, .inl ⟨_, .inr ⟨w_first.toArray⟩, .inl upd_same, rfl, rfl⟩, ?_⟩
    have g := q _ (e9 (.dK (mergeK [] [(.inr ⟨w_begin.toArray⟩, .int 0), (.inr ⟨w_end.toArray⟩, .int (row.length : Int)), (.inr ⟨w_first.toArray⟩, .int (Tx.lead (rowT t p) : Int))])))
    show D.rt (.int ((p : Int) - ((Tx.colOf t p : Nat) : Int) + ((Tx.lead (rowT t p) : Nat) : Int))) _
    rw [eb]; exact g
  | _ => exact hm.elim
theorem find_law {t : List Nat} {p c : Nat} (hp : p ≤ t.length) : ((List.range' (Tx.colOf t p + 1) ((rowT t p).length - (Tx.colOf t p + 1))).filter fun i => (rowT t p)[i]? == some c).map (fun i => Tx.beginOf t p + i) = findL t p c := by
  obtain ⟨l1, l2, l3⟩ := rowT_len hp
  obtain ⟨b1, _, _⟩ := Tx.begin_spec t p hp
  unfold findL
  have er : List.range' (p + 1) (Tx.endOf t p - (p + 1)) = (List.range' (Tx.colOf t p + 1) ((rowT t p).length - (Tx.colOf t p + 1))).map (fun i => Tx.beginOf t p + i) := by
    have e1 : (rowT t p).length - (Tx.colOf t p + 1) = Tx.endOf t p - (p + 1) := by unfold Tx.colOf; omega
    rw [e1]
    apply List.ext_getElem
    · simp
    · intro i h1 h2
      simp [Tx.colOf]
      omega
  rw [er, List.filter_map]
  congr 1
  apply List.filter_congr
  intro i hi
  have hi' := List.mem_range'_1.mp hi
  have hlt : i < Tx.endOf t p - Tx.beginOf t p := by omega
  show ((rowT t p)[i]? == some c) = (t[Tx.beginOf t p + i]? == some c)
  unfold rowT
  rw [List.getElem?_take_of_lt hlt, List.getElem?_drop]
theorem law_find (K : PySem.W.Frag) {t : List Nat} {p c n : Nat} {a l : Addr} {cv x w : V} {H H6 : Hp} {Q : VK} {D : Ends} (ht : t.length ≤ 10000) (hp : p ≤ t.length) (hl : H6 l = some (.lst ((Tx.rows t).map sv))) (ha : H6 a = some (.tup (Mo.find c n).vs)) (hn : 1 ≤ n) (e6 : Xt H H6) (q : RetV (vo (goEnd t p (.find c n))) H Q) (hD : Q = D.rt) :
    (Ss.cons (Sm.setLc 13 [("at", 12)] (Ir.rng2 (As.cons (Ex.add (Ex.v 9) (Ex.i 1)) (As.cons (Ex.len (As.cons (Ex.ix (Ex.v 7) (Ex.v 8)) As.nil)) As.nil))) (Tg.v 12) (Ifs.one (Te.cmp Cm.eq (Ex.ix (Ex.ix (Ex.v 7) (Ex.v 8)) (Ex.v 12)) (Ex.ix (Ex.v 2) (Ex.i 1)))) (Ex.v 12))
    (Ss.cons (Sm.ret (Ex.ifx (Te.cmp Cm.ge (Ex.len (As.cons (Ex.v 13) As.nil)) (Ex.ix (Ex.v 2) (Ex.i 2))) (Ex.add (Ex.sub (Ex.v 1) (Ex.v 9)) (Ex.ix (Ex.v 13) (Ex.sub (Ex.ix (Ex.v 2) (Ex.i 2)) (Ex.i 1)))) Ex.none))
    Ss.nil) : Ss K).t D (lsig t p a l cv x w (.find c n)) H6 := by
  subst hD
  obtain ⟨row, r1, r2, r3, r4⟩ := Tx.row_here hp
  have r2' : row = rowT t p := r2
  obtain ⟨o1, o2⟩ := rows_ok ht
  have hrl : row.length ≤ 10000 := o1 row (List.mem_of_getElem? r1)
  have hat : atI ((Tx.rows t).map sv) ((Tx.rowOf t p : Nat) : Int) = some (sv row) := atI_nat (by rw [List.getElem?_map, r1]; rfl)
  have hcol : Tx.colOf t p ≤ p := by unfold Tx.colOf; omega
  refine ⟨_, _, .inl (SqL.of hl), hat, sz (by rw [len_sv]; omega), _, _, rfl, ⟨by omega, by omega, by rw [len_sv]; omega, by rw [len_sv]; omega⟩, ?_⟩
  have en : ((((⟨row.toArray⟩ : Str).length : Nat) : Int) - (((Tx.colOf t p : Nat) : Int) + 1)).toNat = row.length - (Tx.colOf t p + 1) := by rw [len_sv]; omega
  rw [en]
  refine lc_fltR (lo := Tx.colOf t p + 1) (n := row.length - (Tx.colOf t p + 1)) (fun i => row[i]? == some c) iv (by omega) (fun _ => rfl) (fun i h1 h2 => ⟨?_, ?_⟩) ?_
  · intro H7 x7 Q' q'
    have hi : i < row.length := by omega
    refine ⟨_, _, .inl (SqL.of (x7 l _ hl)), hat, sz (by rw [len_sv]; omega), row[i], atI_nat (List.getElem?_eq_getElem hi), ?_⟩
    refine ⟨_, _, .inr (SqT.of (x7 a _ ha)), atI_nat (j := 1) rfl, ?_⟩
    show Q' (decide ((⟨#[row[i]]⟩ : Str) = ⟨#[c]⟩)) H7
    rw [dec_sv1]
    have e5 : (row[i]? == some c) = decide (row[i] = c) := by
      rw [List.getElem?_eq_getElem hi]
      by_cases h : row[i] = c <;> simp [h]
    rw [e5] at q'
    exact q' H7 (Xt.refl H7)
  · intro _ H7 x7 Q' q'
    exact q' H7 (Xt.refl H7)
  intro D8 H8 hD8 x8 h8
  have g := q H8 (e6.trans x8)
  simp only [goEnd] at g
  rw [← find_law hp, ← r2'] at g
  revert h8 g
  generalize ((List.range' (Tx.colOf t p + 1) (row.length - (Tx.colOf t p + 1))).filter fun i => row[i]? == some c) = ys
  intro h8 g
  refine ⟨_, .inl (SqL.of h8), _, _, .inr (SqT.of (x8 a _ ha)), atI_nat (j := 2) rfl, br_d (fun h => ?_) (fun h => ?_)⟩
  · have h' : n ≤ ys.length := by simpa using h
    have hlt : n - 1 < ys.length := by omega
    rw [List.getElem?_map, List.getElem?_eq_getElem hlt] at g
    refine ⟨_, _, .inr (SqT.of (x8 a _ ha)), atI_nat (j := 2) rfl, _, iv ys[n - 1], .inl (SqL.of h8), ?_, ?_⟩
    · have e : ((n : Int) - 1) = ((n - 1 : Nat) : Int) := by omega
      rw [e]
      exact atI_nat (by rw [List.getElem?_map, List.getElem?_eq_getElem hlt]; rfl)
    · have e : (p : Int) - ((Tx.colOf t p : Nat) : Int) + ((ys[n - 1] : Nat) : Int) = ((Tx.beginOf t p + ys[n - 1] : Nat) : Int) := by unfold Tx.colOf; omega
      show D.rt (.int _) H8
      rw [e]; exact g
  · have h' : ¬ n ≤ ys.length := by simpa using h
    rw [List.getElem?_map, List.getElem?_eq_none (by omega)] at g
    exact g
theorem rd_law_goes (K : PySem.W.Frag) : ∀ vs H Q E, sp_law_goes K vs H Q E → (b_law_goes K).t { nx := fun _ H' => Q .non H', rt := Q } (start N_law_goes vs) H := by
  rintro _ H Q E ⟨t, p, a, m, co, d, kvs, mk, pat, rfl, ha, hd, hmk, hpat, hok, ht, hp, q⟩
  have h0 : atI m.vs 0 = some (sv m.name) := atI_nat (j := 0) rfl
  refine ⟨_, _, .inr (SqT.of ha), h0, ?_⟩
  refine ⟨t, rfl, ht, fun l H1 hl e1 h1 => ?_⟩
  refine ⟨t, p, rfl, ht, hp, fun s H2 hs e2 h2 => ?_⟩
  refine ⟨s, _, rfl, SqT.of h2, rfl, rfl, ?_⟩
  have e12 : Xt H H2 := e1.trans e2
  cases m with
  | left n =>
    refine ⟨by decide, fun u hu => ⟨u, _, rfl, .inr (SqT.of upd_same), rfl, rfl, ?_⟩⟩
    have e3 : Xt H (upd H2 u (.tup [sv w_left, sv w_right])) := e12.trans (xt_new hu)
    refine ⟨_, _, .inr (SqT.of (e3 a _ ha)), atI_nat (j := 1) rfl, .inr ⟨by decide, by decide⟩, sz (by rw [len_sv]; omega), ?_⟩
    show br (!decide (max 0 (min (((⟨t.toArray⟩ : Str).length : Nat) : Int) ((p : Int) + (n : Int) * -1)) = (p : Int))) (Q (.int (max 0 (min (((⟨t.toArray⟩ : Str).length : Nat) : Int) ((p : Int) + (n : Int) * -1)))) _) (Q .non _)
    rw [len_sv]
    have hn : 1 ≤ n := hok.1
    have g := q _ e3
    simp only [goBy] at g
    by_cases h : 0 < p
    · rw [if_pos h] at g
      have e4 : max 0 (min (t.length : Int) ((p : Int) + (n : Int) * -1)) = ((p - n : Nat) : Int) := by omega
      rw [e4]
      refine br_t ?_ g
      have : ¬ (((p - n : Nat) : Int) = (p : Int)) := by omega
      simp [this]
    · rw [if_neg h] at g
      refine br_f ?_ g
      have : max 0 (min (t.length : Int) ((p : Int) + (n : Int) * -1)) = (p : Int) := by omega
      rw [this, decide_eq_true rfl]; rfl
  | right n =>
    refine ⟨by decide, fun u hu => ⟨u, _, rfl, .inr (SqT.of upd_same), rfl, rfl, ?_⟩⟩
    have e3 : Xt H (upd H2 u (.tup [sv w_left, sv w_right])) := e12.trans (xt_new hu)
    refine ⟨_, _, .inr (SqT.of (e3 a _ ha)), atI_nat (j := 1) rfl, .inr ⟨by decide, by decide⟩, sz (by rw [len_sv]; omega), ?_⟩
    show br (!decide (max 0 (min (((⟨t.toArray⟩ : Str).length : Nat) : Int) ((p : Int) + (n : Int) * 1)) = (p : Int))) (Q (.int (max 0 (min (((⟨t.toArray⟩ : Str).length : Nat) : Int) ((p : Int) + (n : Int) * 1)))) _) (Q .non _)
    rw [len_sv]
    have hn : 1 ≤ n := hok.1
    have g := q _ e3
    simp only [goBy] at g
    by_cases h : p < t.length
    · rw [if_pos h] at g
      have e4 : max 0 (min (t.length : Int) ((p : Int) + (n : Int) * 1)) = ((min t.length (p + n) : Nat) : Int) := by omega
      rw [e4]
      refine br_t ?_ g
      have : ¬ (((min t.length (p + n) : Nat) : Int) = (p : Int)) := by omega
      simp [this]
    · rw [if_neg h] at g
      refine br_f ?_ g
      have : max 0 (min (t.length : Int) ((p : Int) + (n : Int) * 1)) = (p : Int) := by omega
      rw [this, decide_eq_true rfl]; rfl
  | up n =>
    refine ⟨by decide, fun u hu => ⟨u, _, rfl, .inr (SqT.of upd_same), rfl, rfl, ?_⟩⟩
    have e3 : Xt H (upd H2 u (.tup [sv w_left, sv w_right])) := e12.trans (xt_new hu)
    refine ⟨by decide, fun z hz => ⟨z, _, rfl, .inr (SqT.of upd_same), rfl, rfl, ?_⟩⟩
    have e4 : Xt H (upd (upd H2 u (.tup [sv w_left, sv w_right])) z (.tup [sv w_up, sv w_down])) := e3.trans (xt_new hz)
    refine ⟨_, _, .inr (SqT.of (e4 a _ ha)), atI_nat (j := 1) rfl, .inr ⟨by decide, by decide⟩, ?_⟩
    have e5 : ((Tx.rowOf t p : Nat) : Int) + (n : Int) * -1 = (Tx.rowOf t p : Int) - n := by omega
    have hl2 : (upd (upd H2 u (.tup [sv w_left, sv w_right])) z (.tup [sv w_up, sv w_down])) l = some (.lst ((Tx.rows t).map sv)) := (xt_new hz) l _ ((xt_new hu) l _ (e2 l _ h1))
    cases co with
    | none =>
      have g := back_row (K := K) (g := (Tx.rowOf t p : Int) - n) hl2 ht e4 q
      rw [← e5] at g
      exact g
    | some c0 =>
      have g := back_row (K := K) (g := (Tx.rowOf t p : Int) - n) hl2 ht e4 q
      rw [← e5] at g
      exact g
  | down n =>
    refine ⟨by decide, fun u hu => ⟨u, _, rfl, .inr (SqT.of upd_same), rfl, rfl, ?_⟩⟩
    have e3 : Xt H (upd H2 u (.tup [sv w_left, sv w_right])) := e12.trans (xt_new hu)
    refine ⟨by decide, fun z hz => ⟨z, _, rfl, .inr (SqT.of upd_same), rfl, rfl, ?_⟩⟩
    have e4 : Xt H (upd (upd H2 u (.tup [sv w_left, sv w_right])) z (.tup [sv w_up, sv w_down])) := e3.trans (xt_new hz)
    refine ⟨_, _, .inr (SqT.of (e4 a _ ha)), atI_nat (j := 1) rfl, .inr ⟨by decide, by decide⟩, ?_⟩
    have e5 : ((Tx.rowOf t p : Nat) : Int) + (n : Int) * 1 = (Tx.rowOf t p : Int) + n := by omega
    have hl2 : (upd (upd H2 u (.tup [sv w_left, sv w_right])) z (.tup [sv w_up, sv w_down])) l = some (.lst ((Tx.rows t).map sv)) := (xt_new hz) l _ ((xt_new hu) l _ (e2 l _ h1))
    cases co with
    | none =>
      have g := back_row (K := K) (g := (Tx.rowOf t p : Int) + n) hl2 ht e4 q
      rw [← e5] at g
      exact g
    | some c0 =>
      have g := back_row (K := K) (g := (Tx.rowOf t p : Int) + n) hl2 ht e4 q
      rw [← e5] at g
      exact g
  | word n =>
    refine ⟨by decide, fun u hu => ⟨u, _, rfl, .inr (SqT.of upd_same), rfl, rfl, ?_⟩⟩
    have e3 : Xt H (upd H2 u (.tup [sv w_left, sv w_right])) := e12.trans (xt_new hu)
    refine ⟨by decide, fun z hz => ⟨z, _, rfl, .inr (SqT.of upd_same), rfl, rfl, ?_⟩⟩
    have e4 : Xt H (upd (upd H2 u (.tup [sv w_left, sv w_right])) z (.tup [sv w_up, sv w_down])) := e3.trans (xt_new hz)
    refine ⟨by decide, fun y hy => ⟨y, _, rfl, .inr (SqT.of upd_same), rfl, rfl, ?_⟩⟩
    have e5 : Xt H (upd (upd (upd H2 u (.tup [sv w_left, sv w_right])) z (.tup [sv w_up, sv w_down])) y (.tup [sv w_word, sv w_back, sv w_over])) := e4.trans (xt_new hy)
    exact ⟨t, a, p, .word n, rfl, e5 a _ ha, trivial, hok, ht, fun H6 e6 => q H6 (e5.trans e6)⟩
  | back n =>
    refine ⟨by decide, fun u hu => ⟨u, _, rfl, .inr (SqT.of upd_same), rfl, rfl, ?_⟩⟩
    have e3 : Xt H (upd H2 u (.tup [sv w_left, sv w_right])) := e12.trans (xt_new hu)
    refine ⟨by decide, fun z hz => ⟨z, _, rfl, .inr (SqT.of upd_same), rfl, rfl, ?_⟩⟩
    have e4 : Xt H (upd (upd H2 u (.tup [sv w_left, sv w_right])) z (.tup [sv w_up, sv w_down])) := e3.trans (xt_new hz)
    refine ⟨by decide, fun y hy => ⟨y, _, rfl, .inr (SqT.of upd_same), rfl, rfl, ?_⟩⟩
    have e5 : Xt H (upd (upd (upd H2 u (.tup [sv w_left, sv w_right])) z (.tup [sv w_up, sv w_down])) y (.tup [sv w_word, sv w_back, sv w_over])) := e4.trans (xt_new hy)
    exact ⟨t, a, p, .back n, rfl, e5 a _ ha, trivial, hok, ht, fun H6 e6 => q H6 (e5.trans e6)⟩
  | over n =>
    refine ⟨by decide, fun u hu => ⟨u, _, rfl, .inr (SqT.of upd_same), rfl, rfl, ?_⟩⟩
    have e3 : Xt H (upd H2 u (.tup [sv w_left, sv w_right])) := e12.trans (xt_new hu)
    refine ⟨by decide, fun z hz => ⟨z, _, rfl, .inr (SqT.of upd_same), rfl, rfl, ?_⟩⟩
    have e4 : Xt H (upd (upd H2 u (.tup [sv w_left, sv w_right])) z (.tup [sv w_up, sv w_down])) := e3.trans (xt_new hz)
    refine ⟨by decide, fun y hy => ⟨y, _, rfl, .inr (SqT.of upd_same), rfl, rfl, ?_⟩⟩
    have e5 : Xt H (upd (upd (upd H2 u (.tup [sv w_left, sv w_right])) z (.tup [sv w_up, sv w_down])) y (.tup [sv w_word, sv w_back, sv w_over])) := e4.trans (xt_new hy)
    exact ⟨t, a, p, .over n, rfl, e5 a _ ha, trivial, hok, ht, fun H6 e6 => q H6 (e5.trans e6)⟩
  | begin =>
    refine ⟨by decide, fun u hu => ⟨u, _, rfl, .inr (SqT.of upd_same), rfl, rfl, ?_⟩⟩
    have e3 : Xt H (upd H2 u (.tup [sv w_left, sv w_right])) := e12.trans (xt_new hu)
    refine ⟨by decide, fun z hz => ⟨z, _, rfl, .inr (SqT.of upd_same), rfl, rfl, ?_⟩⟩
    have e4 : Xt H (upd (upd H2 u (.tup [sv w_left, sv w_right])) z (.tup [sv w_up, sv w_down])) := e3.trans (xt_new hz)
    refine ⟨by decide, fun y hy => ⟨y, _, rfl, .inr (SqT.of upd_same), rfl, rfl, ?_⟩⟩
    have e5 : Xt H (upd (upd (upd H2 u (.tup [sv w_left, sv w_right])) z (.tup [sv w_up, sv w_down])) y (.tup [sv w_word, sv w_back, sv w_over])) := e4.trans (xt_new hy)
    have x5 : Xt H1 (upd (upd (upd H2 u (.tup [sv w_left, sv w_right])) z (.tup [sv w_up, sv w_down])) y (.tup [sv w_word, sv w_back, sv w_over])) := ((e2.trans (xt_new hu)).trans (xt_new hz)).trans (xt_new hy)
    change Xt H (upd (upd (upd H2 u (HO.tup [V.str ⟨#[108, 101, 102, 116]⟩, V.str ⟨#[114, 105, 103, 104, 116]⟩])) z (HO.tup [V.str ⟨#[117, 112]⟩, V.str ⟨#[100, 111, 119, 110]⟩])) y (HO.tup [V.str ⟨#[119, 111, 114, 100]⟩, V.str ⟨#[98, 97, 99, 107]⟩, V.str ⟨#[111, 118, 101, 114]⟩])) at e5
    change Xt H1 (upd (upd (upd H2 u (HO.tup [V.str ⟨#[108, 101, 102, 116]⟩, V.str ⟨#[114, 105, 103, 104, 116]⟩])) z (HO.tup [V.str ⟨#[117, 112]⟩, V.str ⟨#[100, 111, 119, 110]⟩])) y (HO.tup [V.str ⟨#[119, 111, 114, 100]⟩, V.str ⟨#[98, 97, 99, 107]⟩, V.str ⟨#[111, 118, 101, 114]⟩])) at x5
    revert e5 x5
    generalize (upd (upd (upd H2 u (HO.tup [V.str ⟨#[108, 101, 102, 116]⟩, V.str ⟨#[114, 105, 103, 104, 116]⟩])) z (HO.tup [V.str ⟨#[117, 112]⟩, V.str ⟨#[100, 111, 119, 110]⟩])) y (HO.tup [V.str ⟨#[119, 111, 114, 100]⟩, V.str ⟨#[98, 97, 99, 107]⟩, V.str ⟨#[111, 118, 101, 114]⟩])) = H5
    intro e5 x5
    have l5 := x5 l _ h1
    refine ⟨by decide, fun v hv => ⟨v, _, rfl, .inr (SqT.of upd_same), rfl, rfl, ?_⟩⟩
    have e6 : Xt H (upd H5 v (.tup [sv w_begin, sv w_end, sv w_first])) := e5.trans (xt_new hv)
    have l6 : (upd H5 v (.tup [sv w_begin, sv w_end, sv w_first])) l = some (.lst ((Tx.rows t).map sv)) := (xt_new hv) l _ l5
    change Xt H (upd H5 v (HO.tup [V.str ⟨#[98, 101, 103, 105, 110]⟩, V.str ⟨#[101, 110, 100]⟩, V.str ⟨#[102, 105, 114, 115, 116]⟩])) at e6
    change (upd H5 v (HO.tup [V.str ⟨#[98, 101, 103, 105, 110]⟩, V.str ⟨#[101, 110, 100]⟩, V.str ⟨#[102, 105, 114, 115, 116]⟩])) l = _ at l6
    revert e6 l6
    generalize (upd H5 v (HO.tup [V.str ⟨#[98, 101, 103, 105, 110]⟩, V.str ⟨#[101, 110, 100]⟩, V.str ⟨#[102, 105, 114, 115, 116]⟩])) = H6
    intro e6 l6
    refine law_be (Q := Q) K ht hp l6 (.begin) trivial ?_ e6 q
    rfl
  | fin =>
    refine ⟨by decide, fun u hu => ⟨u, _, rfl, .inr (SqT.of upd_same), rfl, rfl, ?_⟩⟩
    have e3 : Xt H (upd H2 u (.tup [sv w_left, sv w_right])) := e12.trans (xt_new hu)
    refine ⟨by decide, fun z hz => ⟨z, _, rfl, .inr (SqT.of upd_same), rfl, rfl, ?_⟩⟩
    have e4 : Xt H (upd (upd H2 u (.tup [sv w_left, sv w_right])) z (.tup [sv w_up, sv w_down])) := e3.trans (xt_new hz)
    refine ⟨by decide, fun y hy => ⟨y, _, rfl, .inr (SqT.of upd_same), rfl, rfl, ?_⟩⟩
    have e5 : Xt H (upd (upd (upd H2 u (.tup [sv w_left, sv w_right])) z (.tup [sv w_up, sv w_down])) y (.tup [sv w_word, sv w_back, sv w_over])) := e4.trans (xt_new hy)
    have x5 : Xt H1 (upd (upd (upd H2 u (.tup [sv w_left, sv w_right])) z (.tup [sv w_up, sv w_down])) y (.tup [sv w_word, sv w_back, sv w_over])) := ((e2.trans (xt_new hu)).trans (xt_new hz)).trans (xt_new hy)
    change Xt H (upd (upd (upd H2 u (HO.tup [V.str ⟨#[108, 101, 102, 116]⟩, V.str ⟨#[114, 105, 103, 104, 116]⟩])) z (HO.tup [V.str ⟨#[117, 112]⟩, V.str ⟨#[100, 111, 119, 110]⟩])) y (HO.tup [V.str ⟨#[119, 111, 114, 100]⟩, V.str ⟨#[98, 97, 99, 107]⟩, V.str ⟨#[111, 118, 101, 114]⟩])) at e5
    change Xt H1 (upd (upd (upd H2 u (HO.tup [V.str ⟨#[108, 101, 102, 116]⟩, V.str ⟨#[114, 105, 103, 104, 116]⟩])) z (HO.tup [V.str ⟨#[117, 112]⟩, V.str ⟨#[100, 111, 119, 110]⟩])) y (HO.tup [V.str ⟨#[119, 111, 114, 100]⟩, V.str ⟨#[98, 97, 99, 107]⟩, V.str ⟨#[111, 118, 101, 114]⟩])) at x5
    revert e5 x5
    generalize (upd (upd (upd H2 u (HO.tup [V.str ⟨#[108, 101, 102, 116]⟩, V.str ⟨#[114, 105, 103, 104, 116]⟩])) z (HO.tup [V.str ⟨#[117, 112]⟩, V.str ⟨#[100, 111, 119, 110]⟩])) y (HO.tup [V.str ⟨#[119, 111, 114, 100]⟩, V.str ⟨#[98, 97, 99, 107]⟩, V.str ⟨#[111, 118, 101, 114]⟩])) = H5
    intro e5 x5
    have l5 := x5 l _ h1
    refine ⟨by decide, fun v hv => ⟨v, _, rfl, .inr (SqT.of upd_same), rfl, rfl, ?_⟩⟩
    have e6 : Xt H (upd H5 v (.tup [sv w_begin, sv w_end, sv w_first])) := e5.trans (xt_new hv)
    have l6 : (upd H5 v (.tup [sv w_begin, sv w_end, sv w_first])) l = some (.lst ((Tx.rows t).map sv)) := (xt_new hv) l _ l5
    change Xt H (upd H5 v (HO.tup [V.str ⟨#[98, 101, 103, 105, 110]⟩, V.str ⟨#[101, 110, 100]⟩, V.str ⟨#[102, 105, 114, 115, 116]⟩])) at e6
    change (upd H5 v (HO.tup [V.str ⟨#[98, 101, 103, 105, 110]⟩, V.str ⟨#[101, 110, 100]⟩, V.str ⟨#[102, 105, 114, 115, 116]⟩])) l = _ at l6
    revert e6 l6
    generalize (upd H5 v (HO.tup [V.str ⟨#[98, 101, 103, 105, 110]⟩, V.str ⟨#[101, 110, 100]⟩, V.str ⟨#[102, 105, 114, 115, 116]⟩])) = H6
    intro e6 l6
    refine law_be (Q := Q) K ht hp l6 (.fin) trivial ?_ e6 q
    rfl
  | first =>
    refine ⟨by decide, fun u hu => ⟨u, _, rfl, .inr (SqT.of upd_same), rfl, rfl, ?_⟩⟩
    have e3 : Xt H (upd H2 u (.tup [sv w_left, sv w_right])) := e12.trans (xt_new hu)
    refine ⟨by decide, fun z hz => ⟨z, _, rfl, .inr (SqT.of upd_same), rfl, rfl, ?_⟩⟩
    have e4 : Xt H (upd (upd H2 u (.tup [sv w_left, sv w_right])) z (.tup [sv w_up, sv w_down])) := e3.trans (xt_new hz)
    refine ⟨by decide, fun y hy => ⟨y, _, rfl, .inr (SqT.of upd_same), rfl, rfl, ?_⟩⟩
    have e5 : Xt H (upd (upd (upd H2 u (.tup [sv w_left, sv w_right])) z (.tup [sv w_up, sv w_down])) y (.tup [sv w_word, sv w_back, sv w_over])) := e4.trans (xt_new hy)
    have x5 : Xt H1 (upd (upd (upd H2 u (.tup [sv w_left, sv w_right])) z (.tup [sv w_up, sv w_down])) y (.tup [sv w_word, sv w_back, sv w_over])) := ((e2.trans (xt_new hu)).trans (xt_new hz)).trans (xt_new hy)
    change Xt H (upd (upd (upd H2 u (HO.tup [V.str ⟨#[108, 101, 102, 116]⟩, V.str ⟨#[114, 105, 103, 104, 116]⟩])) z (HO.tup [V.str ⟨#[117, 112]⟩, V.str ⟨#[100, 111, 119, 110]⟩])) y (HO.tup [V.str ⟨#[119, 111, 114, 100]⟩, V.str ⟨#[98, 97, 99, 107]⟩, V.str ⟨#[111, 118, 101, 114]⟩])) at e5
    change Xt H1 (upd (upd (upd H2 u (HO.tup [V.str ⟨#[108, 101, 102, 116]⟩, V.str ⟨#[114, 105, 103, 104, 116]⟩])) z (HO.tup [V.str ⟨#[117, 112]⟩, V.str ⟨#[100, 111, 119, 110]⟩])) y (HO.tup [V.str ⟨#[119, 111, 114, 100]⟩, V.str ⟨#[98, 97, 99, 107]⟩, V.str ⟨#[111, 118, 101, 114]⟩])) at x5
    revert e5 x5
    generalize (upd (upd (upd H2 u (HO.tup [V.str ⟨#[108, 101, 102, 116]⟩, V.str ⟨#[114, 105, 103, 104, 116]⟩])) z (HO.tup [V.str ⟨#[117, 112]⟩, V.str ⟨#[100, 111, 119, 110]⟩])) y (HO.tup [V.str ⟨#[119, 111, 114, 100]⟩, V.str ⟨#[98, 97, 99, 107]⟩, V.str ⟨#[111, 118, 101, 114]⟩])) = H5
    intro e5 x5
    have l5 := x5 l _ h1
    refine ⟨by decide, fun v hv => ⟨v, _, rfl, .inr (SqT.of upd_same), rfl, rfl, ?_⟩⟩
    have e6 : Xt H (upd H5 v (.tup [sv w_begin, sv w_end, sv w_first])) := e5.trans (xt_new hv)
    have l6 : (upd H5 v (.tup [sv w_begin, sv w_end, sv w_first])) l = some (.lst ((Tx.rows t).map sv)) := (xt_new hv) l _ l5
    change Xt H (upd H5 v (HO.tup [V.str ⟨#[98, 101, 103, 105, 110]⟩, V.str ⟨#[101, 110, 100]⟩, V.str ⟨#[102, 105, 114, 115, 116]⟩])) at e6
    change (upd H5 v (HO.tup [V.str ⟨#[98, 101, 103, 105, 110]⟩, V.str ⟨#[101, 110, 100]⟩, V.str ⟨#[102, 105, 114, 115, 116]⟩])) l = _ at l6
    revert e6 l6
    generalize (upd H5 v (HO.tup [V.str ⟨#[98, 101, 103, 105, 110]⟩, V.str ⟨#[101, 110, 100]⟩, V.str ⟨#[102, 105, 114, 115, 116]⟩])) = H6
    intro e6 l6
    refine law_be (Q := Q) K ht hp l6 (.first) trivial ?_ e6 q
    rfl
  | top =>
    refine ⟨by decide, fun u hu => ⟨u, _, rfl, .inr (SqT.of upd_same), rfl, rfl, ?_⟩⟩
    have e3 : Xt H (upd H2 u (.tup [sv w_left, sv w_right])) := e12.trans (xt_new hu)
    refine ⟨by decide, fun z hz => ⟨z, _, rfl, .inr (SqT.of upd_same), rfl, rfl, ?_⟩⟩
    have e4 : Xt H (upd (upd H2 u (.tup [sv w_left, sv w_right])) z (.tup [sv w_up, sv w_down])) := e3.trans (xt_new hz)
    refine ⟨by decide, fun y hy => ⟨y, _, rfl, .inr (SqT.of upd_same), rfl, rfl, ?_⟩⟩
    have e5 : Xt H (upd (upd (upd H2 u (.tup [sv w_left, sv w_right])) z (.tup [sv w_up, sv w_down])) y (.tup [sv w_word, sv w_back, sv w_over])) := e4.trans (xt_new hy)
    have x5 : Xt H1 (upd (upd (upd H2 u (.tup [sv w_left, sv w_right])) z (.tup [sv w_up, sv w_down])) y (.tup [sv w_word, sv w_back, sv w_over])) := ((e2.trans (xt_new hu)).trans (xt_new hz)).trans (xt_new hy)
    change Xt H (upd (upd (upd H2 u (HO.tup [V.str ⟨#[108, 101, 102, 116]⟩, V.str ⟨#[114, 105, 103, 104, 116]⟩])) z (HO.tup [V.str ⟨#[117, 112]⟩, V.str ⟨#[100, 111, 119, 110]⟩])) y (HO.tup [V.str ⟨#[119, 111, 114, 100]⟩, V.str ⟨#[98, 97, 99, 107]⟩, V.str ⟨#[111, 118, 101, 114]⟩])) at e5
    change Xt H1 (upd (upd (upd H2 u (HO.tup [V.str ⟨#[108, 101, 102, 116]⟩, V.str ⟨#[114, 105, 103, 104, 116]⟩])) z (HO.tup [V.str ⟨#[117, 112]⟩, V.str ⟨#[100, 111, 119, 110]⟩])) y (HO.tup [V.str ⟨#[119, 111, 114, 100]⟩, V.str ⟨#[98, 97, 99, 107]⟩, V.str ⟨#[111, 118, 101, 114]⟩])) at x5
    revert e5 x5
    generalize (upd (upd (upd H2 u (HO.tup [V.str ⟨#[108, 101, 102, 116]⟩, V.str ⟨#[114, 105, 103, 104, 116]⟩])) z (HO.tup [V.str ⟨#[117, 112]⟩, V.str ⟨#[100, 111, 119, 110]⟩])) y (HO.tup [V.str ⟨#[119, 111, 114, 100]⟩, V.str ⟨#[98, 97, 99, 107]⟩, V.str ⟨#[111, 118, 101, 114]⟩])) = H5
    intro e5 x5
    have l5 := x5 l _ h1
    refine ⟨by decide, fun v hv => ⟨v, _, rfl, .inr (SqT.of upd_same), rfl, rfl, ?_⟩⟩
    have e6 : Xt H (upd H5 v (.tup [sv w_begin, sv w_end, sv w_first])) := e5.trans (xt_new hv)
    have l6 : (upd H5 v (.tup [sv w_begin, sv w_end, sv w_first])) l = some (.lst ((Tx.rows t).map sv)) := (xt_new hv) l _ l5
    change Xt H (upd H5 v (HO.tup [V.str ⟨#[98, 101, 103, 105, 110]⟩, V.str ⟨#[101, 110, 100]⟩, V.str ⟨#[102, 105, 114, 115, 116]⟩])) at e6
    change (upd H5 v (HO.tup [V.str ⟨#[98, 101, 103, 105, 110]⟩, V.str ⟨#[101, 110, 100]⟩, V.str ⟨#[102, 105, 114, 115, 116]⟩])) l = _ at l6
    revert e6 l6
    generalize (upd H5 v (HO.tup [V.str ⟨#[98, 101, 103, 105, 110]⟩, V.str ⟨#[101, 110, 100]⟩, V.str ⟨#[102, 105, 114, 115, 116]⟩])) = H6
    intro e6 l6
    refine ⟨by decide, fun x hx => ⟨x, _, rfl, .inr (SqT.of upd_same), rfl, rfl, ?_⟩⟩
    have e7 : Xt H (upd H6 x (.tup [sv w_top, sv w_bottom])) := e6.trans (xt_new hx)
    refine ⟨sz (by rw [len_sv]; omega), .inr ⟨by decide, by decide⟩, ?_⟩
    have g := q _ e7
    show Q (.int ((((⟨t.toArray⟩ : Str).length : Nat) : Int) * 0)) _
    rw [Int.mul_zero]; exact g
  | bottom =>
    refine ⟨by decide, fun u hu => ⟨u, _, rfl, .inr (SqT.of upd_same), rfl, rfl, ?_⟩⟩
    have e3 : Xt H (upd H2 u (.tup [sv w_left, sv w_right])) := e12.trans (xt_new hu)
    refine ⟨by decide, fun z hz => ⟨z, _, rfl, .inr (SqT.of upd_same), rfl, rfl, ?_⟩⟩
    have e4 : Xt H (upd (upd H2 u (.tup [sv w_left, sv w_right])) z (.tup [sv w_up, sv w_down])) := e3.trans (xt_new hz)
    refine ⟨by decide, fun y hy => ⟨y, _, rfl, .inr (SqT.of upd_same), rfl, rfl, ?_⟩⟩
    have e5 : Xt H (upd (upd (upd H2 u (.tup [sv w_left, sv w_right])) z (.tup [sv w_up, sv w_down])) y (.tup [sv w_word, sv w_back, sv w_over])) := e4.trans (xt_new hy)
    have x5 : Xt H1 (upd (upd (upd H2 u (.tup [sv w_left, sv w_right])) z (.tup [sv w_up, sv w_down])) y (.tup [sv w_word, sv w_back, sv w_over])) := ((e2.trans (xt_new hu)).trans (xt_new hz)).trans (xt_new hy)
    change Xt H (upd (upd (upd H2 u (HO.tup [V.str ⟨#[108, 101, 102, 116]⟩, V.str ⟨#[114, 105, 103, 104, 116]⟩])) z (HO.tup [V.str ⟨#[117, 112]⟩, V.str ⟨#[100, 111, 119, 110]⟩])) y (HO.tup [V.str ⟨#[119, 111, 114, 100]⟩, V.str ⟨#[98, 97, 99, 107]⟩, V.str ⟨#[111, 118, 101, 114]⟩])) at e5
    change Xt H1 (upd (upd (upd H2 u (HO.tup [V.str ⟨#[108, 101, 102, 116]⟩, V.str ⟨#[114, 105, 103, 104, 116]⟩])) z (HO.tup [V.str ⟨#[117, 112]⟩, V.str ⟨#[100, 111, 119, 110]⟩])) y (HO.tup [V.str ⟨#[119, 111, 114, 100]⟩, V.str ⟨#[98, 97, 99, 107]⟩, V.str ⟨#[111, 118, 101, 114]⟩])) at x5
    revert e5 x5
    generalize (upd (upd (upd H2 u (HO.tup [V.str ⟨#[108, 101, 102, 116]⟩, V.str ⟨#[114, 105, 103, 104, 116]⟩])) z (HO.tup [V.str ⟨#[117, 112]⟩, V.str ⟨#[100, 111, 119, 110]⟩])) y (HO.tup [V.str ⟨#[119, 111, 114, 100]⟩, V.str ⟨#[98, 97, 99, 107]⟩, V.str ⟨#[111, 118, 101, 114]⟩])) = H5
    intro e5 x5
    have l5 := x5 l _ h1
    refine ⟨by decide, fun v hv => ⟨v, _, rfl, .inr (SqT.of upd_same), rfl, rfl, ?_⟩⟩
    have e6 : Xt H (upd H5 v (.tup [sv w_begin, sv w_end, sv w_first])) := e5.trans (xt_new hv)
    have l6 : (upd H5 v (.tup [sv w_begin, sv w_end, sv w_first])) l = some (.lst ((Tx.rows t).map sv)) := (xt_new hv) l _ l5
    change Xt H (upd H5 v (HO.tup [V.str ⟨#[98, 101, 103, 105, 110]⟩, V.str ⟨#[101, 110, 100]⟩, V.str ⟨#[102, 105, 114, 115, 116]⟩])) at e6
    change (upd H5 v (HO.tup [V.str ⟨#[98, 101, 103, 105, 110]⟩, V.str ⟨#[101, 110, 100]⟩, V.str ⟨#[102, 105, 114, 115, 116]⟩])) l = _ at l6
    revert e6 l6
    generalize (upd H5 v (HO.tup [V.str ⟨#[98, 101, 103, 105, 110]⟩, V.str ⟨#[101, 110, 100]⟩, V.str ⟨#[102, 105, 114, 115, 116]⟩])) = H6
    intro e6 l6
    refine ⟨by decide, fun x hx => ⟨x, _, rfl, .inr (SqT.of upd_same), rfl, rfl, ?_⟩⟩
    have e7 : Xt H (upd H6 x (.tup [sv w_top, sv w_bottom])) := e6.trans (xt_new hx)
    refine ⟨sz (by rw [len_sv]; omega), .inr ⟨by decide, by decide⟩, ?_⟩
    have g := q _ e7
    show Q (.int ((((⟨t.toArray⟩ : Str).length : Nat) : Int) * 1)) _
    rw [Int.mul_one, len_sv]; exact g
  | row r =>
    refine ⟨by decide, fun u hu => ⟨u, _, rfl, .inr (SqT.of upd_same), rfl, rfl, ?_⟩⟩
    have e3 : Xt H (upd H2 u (.tup [sv w_left, sv w_right])) := e12.trans (xt_new hu)
    refine ⟨by decide, fun z hz => ⟨z, _, rfl, .inr (SqT.of upd_same), rfl, rfl, ?_⟩⟩
    have e4 : Xt H (upd (upd H2 u (.tup [sv w_left, sv w_right])) z (.tup [sv w_up, sv w_down])) := e3.trans (xt_new hz)
    refine ⟨by decide, fun y hy => ⟨y, _, rfl, .inr (SqT.of upd_same), rfl, rfl, ?_⟩⟩
    have e5 : Xt H (upd (upd (upd H2 u (.tup [sv w_left, sv w_right])) z (.tup [sv w_up, sv w_down])) y (.tup [sv w_word, sv w_back, sv w_over])) := e4.trans (xt_new hy)
    have x5 : Xt H1 (upd (upd (upd H2 u (.tup [sv w_left, sv w_right])) z (.tup [sv w_up, sv w_down])) y (.tup [sv w_word, sv w_back, sv w_over])) := ((e2.trans (xt_new hu)).trans (xt_new hz)).trans (xt_new hy)
    change Xt H (upd (upd (upd H2 u (HO.tup [V.str ⟨#[108, 101, 102, 116]⟩, V.str ⟨#[114, 105, 103, 104, 116]⟩])) z (HO.tup [V.str ⟨#[117, 112]⟩, V.str ⟨#[100, 111, 119, 110]⟩])) y (HO.tup [V.str ⟨#[119, 111, 114, 100]⟩, V.str ⟨#[98, 97, 99, 107]⟩, V.str ⟨#[111, 118, 101, 114]⟩])) at e5
    change Xt H1 (upd (upd (upd H2 u (HO.tup [V.str ⟨#[108, 101, 102, 116]⟩, V.str ⟨#[114, 105, 103, 104, 116]⟩])) z (HO.tup [V.str ⟨#[117, 112]⟩, V.str ⟨#[100, 111, 119, 110]⟩])) y (HO.tup [V.str ⟨#[119, 111, 114, 100]⟩, V.str ⟨#[98, 97, 99, 107]⟩, V.str ⟨#[111, 118, 101, 114]⟩])) at x5
    revert e5 x5
    generalize (upd (upd (upd H2 u (HO.tup [V.str ⟨#[108, 101, 102, 116]⟩, V.str ⟨#[114, 105, 103, 104, 116]⟩])) z (HO.tup [V.str ⟨#[117, 112]⟩, V.str ⟨#[100, 111, 119, 110]⟩])) y (HO.tup [V.str ⟨#[119, 111, 114, 100]⟩, V.str ⟨#[98, 97, 99, 107]⟩, V.str ⟨#[111, 118, 101, 114]⟩])) = H5
    intro e5 x5
    have l5 := x5 l _ h1
    refine ⟨by decide, fun v hv => ⟨v, _, rfl, .inr (SqT.of upd_same), rfl, rfl, ?_⟩⟩
    have e6 : Xt H (upd H5 v (.tup [sv w_begin, sv w_end, sv w_first])) := e5.trans (xt_new hv)
    have l6 : (upd H5 v (.tup [sv w_begin, sv w_end, sv w_first])) l = some (.lst ((Tx.rows t).map sv)) := (xt_new hv) l _ l5
    change Xt H (upd H5 v (HO.tup [V.str ⟨#[98, 101, 103, 105, 110]⟩, V.str ⟨#[101, 110, 100]⟩, V.str ⟨#[102, 105, 114, 115, 116]⟩])) at e6
    change (upd H5 v (HO.tup [V.str ⟨#[98, 101, 103, 105, 110]⟩, V.str ⟨#[101, 110, 100]⟩, V.str ⟨#[102, 105, 114, 115, 116]⟩])) l = _ at l6
    revert e6 l6
    generalize (upd H5 v (HO.tup [V.str ⟨#[98, 101, 103, 105, 110]⟩, V.str ⟨#[101, 110, 100]⟩, V.str ⟨#[102, 105, 114, 115, 116]⟩])) = H6
    intro e6 l6
    refine ⟨by decide, fun x hx => ⟨x, _, rfl, .inr (SqT.of upd_same), rfl, rfl, ?_⟩⟩
    have e7 : Xt H (upd H6 x (.tup [sv w_top, sv w_bottom])) := e6.trans (xt_new hx)
    have l7 := (xt_new (o := .tup [sv w_top, sv w_bottom]) hx) l _ l6
    have hr1 : 1 ≤ r := hok.1
    refine ⟨_, _, .inr (SqT.of (e7 a _ ha)), atI_nat (j := 1) rfl, _, .inl (SqL.of l7), br_d (fun h => ?_) (fun h => ?_)⟩
    · have h' : r ≤ (Tx.rows t).length := by simp at h; omega
      have hlt : r - 1 < (Tx.rows t).length := by omega
      refine ⟨_, _, .inr (SqT.of (e7 a _ ha)), atI_nat (j := 1) rfl, ?_⟩
      obtain ⟨o1, o2⟩ := rows_ok ht
      have e8 : ((r : Int) - 1) = ((r - 1 : Nat) : Int) := by omega
      refine ⟨l, Tx.rows t, r - 1, 0, (Tx.rows t)[r - 1], ?_, l7, List.getElem?_eq_getElem hlt, o1, o2, fun H8 x8 => ?_⟩
      · show [V.ref l, V.int ((r : Int) - 1), V.int 0] = _
        rw [e8]; rfl
      · have g := q _ (e7.trans x8)
        simp only [goBy, goEnd, Tx.toRow] at g
        rw [if_pos (by omega), e8] at g
        have e9 : ((r - 1 : Nat) : Int).toNat = r - 1 := by simp
        rw [e9, List.getElem?_eq_getElem hlt] at g
        exact g
    · have h' : ¬ r ≤ (Tx.rows t).length := by simp at h; omega
      have g := q _ e7
      simp only [goBy, goEnd, Tx.toRow] at g
      rw [if_pos (by omega)] at g
      have e9 : ((r : Int) - 1).toNat = r - 1 := by omega
      rw [e9, List.getElem?_eq_none (by omega)] at g
      exact g
  | pair =>
    refine ⟨by decide, fun u hu => ⟨u, _, rfl, .inr (SqT.of upd_same), rfl, rfl, ?_⟩⟩
    have e3 : Xt H (upd H2 u (.tup [sv w_left, sv w_right])) := e12.trans (xt_new hu)
    refine ⟨by decide, fun z hz => ⟨z, _, rfl, .inr (SqT.of upd_same), rfl, rfl, ?_⟩⟩
    have e4 : Xt H (upd (upd H2 u (.tup [sv w_left, sv w_right])) z (.tup [sv w_up, sv w_down])) := e3.trans (xt_new hz)
    refine ⟨by decide, fun y hy => ⟨y, _, rfl, .inr (SqT.of upd_same), rfl, rfl, ?_⟩⟩
    have e5 : Xt H (upd (upd (upd H2 u (.tup [sv w_left, sv w_right])) z (.tup [sv w_up, sv w_down])) y (.tup [sv w_word, sv w_back, sv w_over])) := e4.trans (xt_new hy)
    have x5 : Xt H1 (upd (upd (upd H2 u (.tup [sv w_left, sv w_right])) z (.tup [sv w_up, sv w_down])) y (.tup [sv w_word, sv w_back, sv w_over])) := ((e2.trans (xt_new hu)).trans (xt_new hz)).trans (xt_new hy)
    change Xt H (upd (upd (upd H2 u (HO.tup [V.str ⟨#[108, 101, 102, 116]⟩, V.str ⟨#[114, 105, 103, 104, 116]⟩])) z (HO.tup [V.str ⟨#[117, 112]⟩, V.str ⟨#[100, 111, 119, 110]⟩])) y (HO.tup [V.str ⟨#[119, 111, 114, 100]⟩, V.str ⟨#[98, 97, 99, 107]⟩, V.str ⟨#[111, 118, 101, 114]⟩])) at e5
    change Xt H1 (upd (upd (upd H2 u (HO.tup [V.str ⟨#[108, 101, 102, 116]⟩, V.str ⟨#[114, 105, 103, 104, 116]⟩])) z (HO.tup [V.str ⟨#[117, 112]⟩, V.str ⟨#[100, 111, 119, 110]⟩])) y (HO.tup [V.str ⟨#[119, 111, 114, 100]⟩, V.str ⟨#[98, 97, 99, 107]⟩, V.str ⟨#[111, 118, 101, 114]⟩])) at x5
    revert e5 x5
    generalize (upd (upd (upd H2 u (HO.tup [V.str ⟨#[108, 101, 102, 116]⟩, V.str ⟨#[114, 105, 103, 104, 116]⟩])) z (HO.tup [V.str ⟨#[117, 112]⟩, V.str ⟨#[100, 111, 119, 110]⟩])) y (HO.tup [V.str ⟨#[119, 111, 114, 100]⟩, V.str ⟨#[98, 97, 99, 107]⟩, V.str ⟨#[111, 118, 101, 114]⟩])) = H5
    intro e5 x5
    have l5 := x5 l _ h1
    refine ⟨by decide, fun v hv => ⟨v, _, rfl, .inr (SqT.of upd_same), rfl, rfl, ?_⟩⟩
    have e6 : Xt H (upd H5 v (.tup [sv w_begin, sv w_end, sv w_first])) := e5.trans (xt_new hv)
    have l6 : (upd H5 v (.tup [sv w_begin, sv w_end, sv w_first])) l = some (.lst ((Tx.rows t).map sv)) := (xt_new hv) l _ l5
    change Xt H (upd H5 v (HO.tup [V.str ⟨#[98, 101, 103, 105, 110]⟩, V.str ⟨#[101, 110, 100]⟩, V.str ⟨#[102, 105, 114, 115, 116]⟩])) at e6
    change (upd H5 v (HO.tup [V.str ⟨#[98, 101, 103, 105, 110]⟩, V.str ⟨#[101, 110, 100]⟩, V.str ⟨#[102, 105, 114, 115, 116]⟩])) l = _ at l6
    revert e6 l6
    generalize (upd H5 v (HO.tup [V.str ⟨#[98, 101, 103, 105, 110]⟩, V.str ⟨#[101, 110, 100]⟩, V.str ⟨#[102, 105, 114, 115, 116]⟩])) = H6
    intro e6 l6
    refine ⟨by decide, fun x hx => ⟨x, _, rfl, .inr (SqT.of upd_same), rfl, rfl, ?_⟩⟩
    have e7 : Xt H (upd H6 x (.tup [sv w_top, sv w_bottom])) := e6.trans (xt_new hx)
    have l7 := (xt_new (o := .tup [sv w_top, sv w_bottom]) hx) l _ l6
    refine ⟨t, p, rfl, ht, fun H8 e8 => ?_⟩
    rw [Tx.pair_law]
    exact q H8 (e7.trans e8)
  | find c n =>
    refine ⟨by decide, fun u hu => ⟨u, _, rfl, .inr (SqT.of upd_same), rfl, rfl, ?_⟩⟩
    have e3 : Xt H (upd H2 u (.tup [sv w_left, sv w_right])) := e12.trans (xt_new hu)
    refine ⟨by decide, fun z hz => ⟨z, _, rfl, .inr (SqT.of upd_same), rfl, rfl, ?_⟩⟩
    have e4 : Xt H (upd (upd H2 u (.tup [sv w_left, sv w_right])) z (.tup [sv w_up, sv w_down])) := e3.trans (xt_new hz)
    refine ⟨by decide, fun y hy => ⟨y, _, rfl, .inr (SqT.of upd_same), rfl, rfl, ?_⟩⟩
    have e5 : Xt H (upd (upd (upd H2 u (.tup [sv w_left, sv w_right])) z (.tup [sv w_up, sv w_down])) y (.tup [sv w_word, sv w_back, sv w_over])) := e4.trans (xt_new hy)
    have x5 : Xt H1 (upd (upd (upd H2 u (.tup [sv w_left, sv w_right])) z (.tup [sv w_up, sv w_down])) y (.tup [sv w_word, sv w_back, sv w_over])) := ((e2.trans (xt_new hu)).trans (xt_new hz)).trans (xt_new hy)
    change Xt H (upd (upd (upd H2 u (HO.tup [V.str ⟨#[108, 101, 102, 116]⟩, V.str ⟨#[114, 105, 103, 104, 116]⟩])) z (HO.tup [V.str ⟨#[117, 112]⟩, V.str ⟨#[100, 111, 119, 110]⟩])) y (HO.tup [V.str ⟨#[119, 111, 114, 100]⟩, V.str ⟨#[98, 97, 99, 107]⟩, V.str ⟨#[111, 118, 101, 114]⟩])) at e5
    change Xt H1 (upd (upd (upd H2 u (HO.tup [V.str ⟨#[108, 101, 102, 116]⟩, V.str ⟨#[114, 105, 103, 104, 116]⟩])) z (HO.tup [V.str ⟨#[117, 112]⟩, V.str ⟨#[100, 111, 119, 110]⟩])) y (HO.tup [V.str ⟨#[119, 111, 114, 100]⟩, V.str ⟨#[98, 97, 99, 107]⟩, V.str ⟨#[111, 118, 101, 114]⟩])) at x5
    revert e5 x5
    generalize (upd (upd (upd H2 u (HO.tup [V.str ⟨#[108, 101, 102, 116]⟩, V.str ⟨#[114, 105, 103, 104, 116]⟩])) z (HO.tup [V.str ⟨#[117, 112]⟩, V.str ⟨#[100, 111, 119, 110]⟩])) y (HO.tup [V.str ⟨#[119, 111, 114, 100]⟩, V.str ⟨#[98, 97, 99, 107]⟩, V.str ⟨#[111, 118, 101, 114]⟩])) = H5
    intro e5 x5
    have l5 := x5 l _ h1
    refine ⟨by decide, fun v hv => ⟨v, _, rfl, .inr (SqT.of upd_same), rfl, rfl, ?_⟩⟩
    have e6 : Xt H (upd H5 v (.tup [sv w_begin, sv w_end, sv w_first])) := e5.trans (xt_new hv)
    have l6 : (upd H5 v (.tup [sv w_begin, sv w_end, sv w_first])) l = some (.lst ((Tx.rows t).map sv)) := (xt_new hv) l _ l5
    change Xt H (upd H5 v (HO.tup [V.str ⟨#[98, 101, 103, 105, 110]⟩, V.str ⟨#[101, 110, 100]⟩, V.str ⟨#[102, 105, 114, 115, 116]⟩])) at e6
    change (upd H5 v (HO.tup [V.str ⟨#[98, 101, 103, 105, 110]⟩, V.str ⟨#[101, 110, 100]⟩, V.str ⟨#[102, 105, 114, 115, 116]⟩])) l = _ at l6
    revert e6 l6
    generalize (upd H5 v (HO.tup [V.str ⟨#[98, 101, 103, 105, 110]⟩, V.str ⟨#[101, 110, 100]⟩, V.str ⟨#[102, 105, 114, 115, 116]⟩])) = H6
    intro e6 l6
    refine ⟨by decide, fun x hx => ⟨x, _, rfl, .inr (SqT.of upd_same), rfl, rfl, ?_⟩⟩
    have e7 : Xt H (upd H6 x (.tup [sv w_top, sv w_bottom])) := e6.trans (xt_new hx)
    have l7 := (xt_new (o := .tup [sv w_top, sv w_bottom]) hx) l _ l6
    exact law_find K ht hp l7 (e7 a _ ha) hok.2.1 e7 q rfl
  | mark x =>
    refine ⟨by decide, fun u hu => ⟨u, _, rfl, .inr (SqT.of upd_same), rfl, rfl, ?_⟩⟩
    have e3 : Xt H (upd H2 u (.tup [sv w_left, sv w_right])) := e12.trans (xt_new hu)
    refine ⟨by decide, fun z hz => ⟨z, _, rfl, .inr (SqT.of upd_same), rfl, rfl, ?_⟩⟩
    have e4 : Xt H (upd (upd H2 u (.tup [sv w_left, sv w_right])) z (.tup [sv w_up, sv w_down])) := e3.trans (xt_new hz)
    refine ⟨by decide, fun y hy => ⟨y, _, rfl, .inr (SqT.of upd_same), rfl, rfl, ?_⟩⟩
    have e5 : Xt H (upd (upd (upd H2 u (.tup [sv w_left, sv w_right])) z (.tup [sv w_up, sv w_down])) y (.tup [sv w_word, sv w_back, sv w_over])) := e4.trans (xt_new hy)
    have x5 : Xt H1 (upd (upd (upd H2 u (.tup [sv w_left, sv w_right])) z (.tup [sv w_up, sv w_down])) y (.tup [sv w_word, sv w_back, sv w_over])) := ((e2.trans (xt_new hu)).trans (xt_new hz)).trans (xt_new hy)
    change Xt H (upd (upd (upd H2 u (HO.tup [V.str ⟨#[108, 101, 102, 116]⟩, V.str ⟨#[114, 105, 103, 104, 116]⟩])) z (HO.tup [V.str ⟨#[117, 112]⟩, V.str ⟨#[100, 111, 119, 110]⟩])) y (HO.tup [V.str ⟨#[119, 111, 114, 100]⟩, V.str ⟨#[98, 97, 99, 107]⟩, V.str ⟨#[111, 118, 101, 114]⟩])) at e5
    change Xt H1 (upd (upd (upd H2 u (HO.tup [V.str ⟨#[108, 101, 102, 116]⟩, V.str ⟨#[114, 105, 103, 104, 116]⟩])) z (HO.tup [V.str ⟨#[117, 112]⟩, V.str ⟨#[100, 111, 119, 110]⟩])) y (HO.tup [V.str ⟨#[119, 111, 114, 100]⟩, V.str ⟨#[98, 97, 99, 107]⟩, V.str ⟨#[111, 118, 101, 114]⟩])) at x5
    revert e5 x5
    generalize (upd (upd (upd H2 u (HO.tup [V.str ⟨#[108, 101, 102, 116]⟩, V.str ⟨#[114, 105, 103, 104, 116]⟩])) z (HO.tup [V.str ⟨#[117, 112]⟩, V.str ⟨#[100, 111, 119, 110]⟩])) y (HO.tup [V.str ⟨#[119, 111, 114, 100]⟩, V.str ⟨#[98, 97, 99, 107]⟩, V.str ⟨#[111, 118, 101, 114]⟩])) = H5
    intro e5 x5
    have l5 := x5 l _ h1
    refine ⟨by decide, fun v hv => ⟨v, _, rfl, .inr (SqT.of upd_same), rfl, rfl, ?_⟩⟩
    have e6 : Xt H (upd H5 v (.tup [sv w_begin, sv w_end, sv w_first])) := e5.trans (xt_new hv)
    have l6 : (upd H5 v (.tup [sv w_begin, sv w_end, sv w_first])) l = some (.lst ((Tx.rows t).map sv)) := (xt_new hv) l _ l5
    change Xt H (upd H5 v (HO.tup [V.str ⟨#[98, 101, 103, 105, 110]⟩, V.str ⟨#[101, 110, 100]⟩, V.str ⟨#[102, 105, 114, 115, 116]⟩])) at e6
    change (upd H5 v (HO.tup [V.str ⟨#[98, 101, 103, 105, 110]⟩, V.str ⟨#[101, 110, 100]⟩, V.str ⟨#[102, 105, 114, 115, 116]⟩])) l = _ at l6
    revert e6 l6
    generalize (upd H5 v (HO.tup [V.str ⟨#[98, 101, 103, 105, 110]⟩, V.str ⟨#[101, 110, 100]⟩, V.str ⟨#[102, 105, 114, 115, 116]⟩])) = H6
    intro e6 l6
    refine ⟨by decide, fun xx hx => ⟨xx, _, rfl, .inr (SqT.of upd_same), rfl, rfl, ?_⟩⟩
    have e7 : Xt H (upd H6 xx (.tup [sv w_top, sv w_bottom])) := e6.trans (xt_new hx)
    have l7 := (xt_new (o := .tup [sv w_top, sv w_bottom]) hx) l _ l6
    refine ⟨d, rfl, .inl ⟨kvs, .inl (e7 d _ hd)⟩, _, _, .inr (SqT.of (e7 a _ ha)), atI_nat (j := 1) rfl, _, DGet.k (k := .inr ⟨#[x]⟩) (e7 d _ hd), ?_⟩
    rw [hmk x]
    exact q _ e7
  | search w =>
    refine ⟨by decide, fun u hu => ⟨u, _, rfl, .inr (SqT.of upd_same), rfl, rfl, ?_⟩⟩
    have e3 : Xt H (upd H2 u (.tup [sv w_left, sv w_right])) := e12.trans (xt_new hu)
    refine ⟨by decide, fun z hz => ⟨z, _, rfl, .inr (SqT.of upd_same), rfl, rfl, ?_⟩⟩
    have e4 : Xt H (upd (upd H2 u (.tup [sv w_left, sv w_right])) z (.tup [sv w_up, sv w_down])) := e3.trans (xt_new hz)
    refine ⟨by decide, fun y hy => ⟨y, _, rfl, .inr (SqT.of upd_same), rfl, rfl, ?_⟩⟩
    have e5 : Xt H (upd (upd (upd H2 u (.tup [sv w_left, sv w_right])) z (.tup [sv w_up, sv w_down])) y (.tup [sv w_word, sv w_back, sv w_over])) := e4.trans (xt_new hy)
    have x5 : Xt H1 (upd (upd (upd H2 u (.tup [sv w_left, sv w_right])) z (.tup [sv w_up, sv w_down])) y (.tup [sv w_word, sv w_back, sv w_over])) := ((e2.trans (xt_new hu)).trans (xt_new hz)).trans (xt_new hy)
    change Xt H (upd (upd (upd H2 u (HO.tup [V.str ⟨#[108, 101, 102, 116]⟩, V.str ⟨#[114, 105, 103, 104, 116]⟩])) z (HO.tup [V.str ⟨#[117, 112]⟩, V.str ⟨#[100, 111, 119, 110]⟩])) y (HO.tup [V.str ⟨#[119, 111, 114, 100]⟩, V.str ⟨#[98, 97, 99, 107]⟩, V.str ⟨#[111, 118, 101, 114]⟩])) at e5
    change Xt H1 (upd (upd (upd H2 u (HO.tup [V.str ⟨#[108, 101, 102, 116]⟩, V.str ⟨#[114, 105, 103, 104, 116]⟩])) z (HO.tup [V.str ⟨#[117, 112]⟩, V.str ⟨#[100, 111, 119, 110]⟩])) y (HO.tup [V.str ⟨#[119, 111, 114, 100]⟩, V.str ⟨#[98, 97, 99, 107]⟩, V.str ⟨#[111, 118, 101, 114]⟩])) at x5
    revert e5 x5
    generalize (upd (upd (upd H2 u (HO.tup [V.str ⟨#[108, 101, 102, 116]⟩, V.str ⟨#[114, 105, 103, 104, 116]⟩])) z (HO.tup [V.str ⟨#[117, 112]⟩, V.str ⟨#[100, 111, 119, 110]⟩])) y (HO.tup [V.str ⟨#[119, 111, 114, 100]⟩, V.str ⟨#[98, 97, 99, 107]⟩, V.str ⟨#[111, 118, 101, 114]⟩])) = H5
    intro e5 x5
    have l5 := x5 l _ h1
    refine ⟨by decide, fun v hv => ⟨v, _, rfl, .inr (SqT.of upd_same), rfl, rfl, ?_⟩⟩
    have e6 : Xt H (upd H5 v (.tup [sv w_begin, sv w_end, sv w_first])) := e5.trans (xt_new hv)
    have l6 : (upd H5 v (.tup [sv w_begin, sv w_end, sv w_first])) l = some (.lst ((Tx.rows t).map sv)) := (xt_new hv) l _ l5
    change Xt H (upd H5 v (HO.tup [V.str ⟨#[98, 101, 103, 105, 110]⟩, V.str ⟨#[101, 110, 100]⟩, V.str ⟨#[102, 105, 114, 115, 116]⟩])) at e6
    change (upd H5 v (HO.tup [V.str ⟨#[98, 101, 103, 105, 110]⟩, V.str ⟨#[101, 110, 100]⟩, V.str ⟨#[102, 105, 114, 115, 116]⟩])) l = _ at l6
    revert e6 l6
    generalize (upd H5 v (HO.tup [V.str ⟨#[98, 101, 103, 105, 110]⟩, V.str ⟨#[101, 110, 100]⟩, V.str ⟨#[102, 105, 114, 115, 116]⟩])) = H6
    intro e6 l6
    refine ⟨by decide, fun x hx => ⟨x, _, rfl, .inr (SqT.of upd_same), rfl, rfl, ?_⟩⟩
    have e7 : Xt H (upd H6 x (.tup [sv w_top, sv w_bottom])) := e6.trans (xt_new hx)
    have l7 := (xt_new (o := .tup [sv w_top, sv w_bottom]) hx) l _ l6
    exact ⟨_, _, .inr (SqT.of (e7 a _ ha)), atI_nat (j := 1) rfl, t, p, w, true, rfl, ht, Nat.le_trans hok.2.1 (by decide), fun H8 e8 => q H8 (e7.trans e8)⟩
  | again =>
    refine ⟨by decide, fun u hu => ⟨u, _, rfl, .inr (SqT.of upd_same), rfl, rfl, ?_⟩⟩
    have e3 : Xt H (upd H2 u (.tup [sv w_left, sv w_right])) := e12.trans (xt_new hu)
    refine ⟨by decide, fun z hz => ⟨z, _, rfl, .inr (SqT.of upd_same), rfl, rfl, ?_⟩⟩
    have e4 : Xt H (upd (upd H2 u (.tup [sv w_left, sv w_right])) z (.tup [sv w_up, sv w_down])) := e3.trans (xt_new hz)
    refine ⟨by decide, fun y hy => ⟨y, _, rfl, .inr (SqT.of upd_same), rfl, rfl, ?_⟩⟩
    have e5 : Xt H (upd (upd (upd H2 u (.tup [sv w_left, sv w_right])) z (.tup [sv w_up, sv w_down])) y (.tup [sv w_word, sv w_back, sv w_over])) := e4.trans (xt_new hy)
    have x5 : Xt H1 (upd (upd (upd H2 u (.tup [sv w_left, sv w_right])) z (.tup [sv w_up, sv w_down])) y (.tup [sv w_word, sv w_back, sv w_over])) := ((e2.trans (xt_new hu)).trans (xt_new hz)).trans (xt_new hy)
    change Xt H (upd (upd (upd H2 u (HO.tup [V.str ⟨#[108, 101, 102, 116]⟩, V.str ⟨#[114, 105, 103, 104, 116]⟩])) z (HO.tup [V.str ⟨#[117, 112]⟩, V.str ⟨#[100, 111, 119, 110]⟩])) y (HO.tup [V.str ⟨#[119, 111, 114, 100]⟩, V.str ⟨#[98, 97, 99, 107]⟩, V.str ⟨#[111, 118, 101, 114]⟩])) at e5
    change Xt H1 (upd (upd (upd H2 u (HO.tup [V.str ⟨#[108, 101, 102, 116]⟩, V.str ⟨#[114, 105, 103, 104, 116]⟩])) z (HO.tup [V.str ⟨#[117, 112]⟩, V.str ⟨#[100, 111, 119, 110]⟩])) y (HO.tup [V.str ⟨#[119, 111, 114, 100]⟩, V.str ⟨#[98, 97, 99, 107]⟩, V.str ⟨#[111, 118, 101, 114]⟩])) at x5
    revert e5 x5
    generalize (upd (upd (upd H2 u (HO.tup [V.str ⟨#[108, 101, 102, 116]⟩, V.str ⟨#[114, 105, 103, 104, 116]⟩])) z (HO.tup [V.str ⟨#[117, 112]⟩, V.str ⟨#[100, 111, 119, 110]⟩])) y (HO.tup [V.str ⟨#[119, 111, 114, 100]⟩, V.str ⟨#[98, 97, 99, 107]⟩, V.str ⟨#[111, 118, 101, 114]⟩])) = H5
    intro e5 x5
    have l5 := x5 l _ h1
    refine ⟨by decide, fun v hv => ⟨v, _, rfl, .inr (SqT.of upd_same), rfl, rfl, ?_⟩⟩
    have e6 : Xt H (upd H5 v (.tup [sv w_begin, sv w_end, sv w_first])) := e5.trans (xt_new hv)
    have l6 : (upd H5 v (.tup [sv w_begin, sv w_end, sv w_first])) l = some (.lst ((Tx.rows t).map sv)) := (xt_new hv) l _ l5
    change Xt H (upd H5 v (HO.tup [V.str ⟨#[98, 101, 103, 105, 110]⟩, V.str ⟨#[101, 110, 100]⟩, V.str ⟨#[102, 105, 114, 115, 116]⟩])) at e6
    change (upd H5 v (HO.tup [V.str ⟨#[98, 101, 103, 105, 110]⟩, V.str ⟨#[101, 110, 100]⟩, V.str ⟨#[102, 105, 114, 115, 116]⟩])) l = _ at l6
    revert e6 l6
    generalize (upd H5 v (HO.tup [V.str ⟨#[98, 101, 103, 105, 110]⟩, V.str ⟨#[101, 110, 100]⟩, V.str ⟨#[102, 105, 114, 115, 116]⟩])) = H6
    intro e6 l6
    refine ⟨by decide, fun x hx => ⟨x, _, rfl, .inr (SqT.of upd_same), rfl, rfl, ?_⟩⟩
    have e7 : Xt H (upd H6 x (.tup [sv w_top, sv w_bottom])) := e6.trans (xt_new hx)
    have l7 := (xt_new (o := .tup [sv w_top, sv w_bottom]) hx) l _ l6
    cases pat with
    | none => exact q _ e7
    | some w => exact ⟨t, p, w, true, rfl, ht, hpat, fun H8 e8 => q H8 (e7.trans e8)⟩
  | before =>
    refine ⟨by decide, fun u hu => ⟨u, _, rfl, .inr (SqT.of upd_same), rfl, rfl, ?_⟩⟩
    have e3 : Xt H (upd H2 u (.tup [sv w_left, sv w_right])) := e12.trans (xt_new hu)
    refine ⟨by decide, fun z hz => ⟨z, _, rfl, .inr (SqT.of upd_same), rfl, rfl, ?_⟩⟩
    have e4 : Xt H (upd (upd H2 u (.tup [sv w_left, sv w_right])) z (.tup [sv w_up, sv w_down])) := e3.trans (xt_new hz)
    refine ⟨by decide, fun y hy => ⟨y, _, rfl, .inr (SqT.of upd_same), rfl, rfl, ?_⟩⟩
    have e5 : Xt H (upd (upd (upd H2 u (.tup [sv w_left, sv w_right])) z (.tup [sv w_up, sv w_down])) y (.tup [sv w_word, sv w_back, sv w_over])) := e4.trans (xt_new hy)
    have x5 : Xt H1 (upd (upd (upd H2 u (.tup [sv w_left, sv w_right])) z (.tup [sv w_up, sv w_down])) y (.tup [sv w_word, sv w_back, sv w_over])) := ((e2.trans (xt_new hu)).trans (xt_new hz)).trans (xt_new hy)
    change Xt H (upd (upd (upd H2 u (HO.tup [V.str ⟨#[108, 101, 102, 116]⟩, V.str ⟨#[114, 105, 103, 104, 116]⟩])) z (HO.tup [V.str ⟨#[117, 112]⟩, V.str ⟨#[100, 111, 119, 110]⟩])) y (HO.tup [V.str ⟨#[119, 111, 114, 100]⟩, V.str ⟨#[98, 97, 99, 107]⟩, V.str ⟨#[111, 118, 101, 114]⟩])) at e5
    change Xt H1 (upd (upd (upd H2 u (HO.tup [V.str ⟨#[108, 101, 102, 116]⟩, V.str ⟨#[114, 105, 103, 104, 116]⟩])) z (HO.tup [V.str ⟨#[117, 112]⟩, V.str ⟨#[100, 111, 119, 110]⟩])) y (HO.tup [V.str ⟨#[119, 111, 114, 100]⟩, V.str ⟨#[98, 97, 99, 107]⟩, V.str ⟨#[111, 118, 101, 114]⟩])) at x5
    revert e5 x5
    generalize (upd (upd (upd H2 u (HO.tup [V.str ⟨#[108, 101, 102, 116]⟩, V.str ⟨#[114, 105, 103, 104, 116]⟩])) z (HO.tup [V.str ⟨#[117, 112]⟩, V.str ⟨#[100, 111, 119, 110]⟩])) y (HO.tup [V.str ⟨#[119, 111, 114, 100]⟩, V.str ⟨#[98, 97, 99, 107]⟩, V.str ⟨#[111, 118, 101, 114]⟩])) = H5
    intro e5 x5
    have l5 := x5 l _ h1
    refine ⟨by decide, fun v hv => ⟨v, _, rfl, .inr (SqT.of upd_same), rfl, rfl, ?_⟩⟩
    have e6 : Xt H (upd H5 v (.tup [sv w_begin, sv w_end, sv w_first])) := e5.trans (xt_new hv)
    have l6 : (upd H5 v (.tup [sv w_begin, sv w_end, sv w_first])) l = some (.lst ((Tx.rows t).map sv)) := (xt_new hv) l _ l5
    change Xt H (upd H5 v (HO.tup [V.str ⟨#[98, 101, 103, 105, 110]⟩, V.str ⟨#[101, 110, 100]⟩, V.str ⟨#[102, 105, 114, 115, 116]⟩])) at e6
    change (upd H5 v (HO.tup [V.str ⟨#[98, 101, 103, 105, 110]⟩, V.str ⟨#[101, 110, 100]⟩, V.str ⟨#[102, 105, 114, 115, 116]⟩])) l = _ at l6
    revert e6 l6
    generalize (upd H5 v (HO.tup [V.str ⟨#[98, 101, 103, 105, 110]⟩, V.str ⟨#[101, 110, 100]⟩, V.str ⟨#[102, 105, 114, 115, 116]⟩])) = H6
    intro e6 l6
    refine ⟨by decide, fun x hx => ⟨x, _, rfl, .inr (SqT.of upd_same), rfl, rfl, ?_⟩⟩
    have e7 : Xt H (upd H6 x (.tup [sv w_top, sv w_bottom])) := e6.trans (xt_new hx)
    have l7 := (xt_new (o := .tup [sv w_top, sv w_bottom]) hx) l _ l6
    cases pat with
    | none => exact q _ e7
    | some w => exact ⟨t, p, w, false, rfl, ht, hpat, fun H8 e8 => q H8 (e7.trans e8)⟩
end Ed

/-! the law's motions -/
namespace Ed
open PySem L2 Cb
open Evl (Ev EvT)
theorem str_ok {c : Nat} (h : okSign [] c = true) : PyData.strOk ⟨#[c]⟩ = true := by
  have h1 : ∀ c ∈ lWORD ++ lOTHERS ++ [], PyData.strOk ⟨#[c]⟩ = true := by decide +kernel
  exact h1 c (of_decide_eq_true h)
theorem shaped3 {x y : Str} (i : Int) (hx : PyData.strOk x = true) (hy : PyData.strOk y = true) : SeqAt.shaped (.tuple [.str x, .str y, .int i]) = true := by
  show (PyData.canLay0 (.tuple [.str x, .str y, .int i]) && decide (PyData.depth (.tuple [.str x, .str y, .int i]) ≤ 64)) = true
  simp [PyData.canLay0, PyData.depth, PyData.canLayAll0, PyData.depthAll, hx, hy]
theorem rp_nl : ((⟨#[10]⟩ : Str) == ⟨#[]⟩) = false := by decide
theorem repl_nl : ∀ l : List Nat, PySem.StrLaws.replL [10] [] l = l.filter fun c => decide (c ≠ 10)
  | [] => PySem.StrLaws.replL_nil
  | c :: r => by
    have ih := repl_nl r
    by_cases h : c = 10
    · subst h
      rw [PySem.StrLaws.replL_hit (by simp) (by simp)]
      simp [ih]
    · rw [PySem.StrLaws.replL_miss (by simpa using h), ih]
      simp [h]
/-- the text without its line feeds -/
def noNl (t : List Nat) : List Nat := t.filter fun c => decide (c ≠ 10)
theorem replace_nl (t : List Nat) : Txt.replace ⟨t.toArray⟩ ⟨#[10]⟩ ⟨#[]⟩ = ⟨(noNl t).toArray⟩ := by
  have h := PySem.StrLaws.replace_list (x := ⟨t.toArray⟩) (y := ⟨#[10]⟩) (z := ⟨#[]⟩) (by decide)
  have h2 : (Txt.replace ⟨t.toArray⟩ ⟨#[10]⟩ ⟨#[]⟩).cps.toList = noNl t := by
    rw [h]; exact repl_nl t
  exact TL.ext_tl h2
theorem noNl_ok {t : List Nat} (h : isText t) : ∀ c ∈ noNl t, okSign [] c = true := by
  intro c hc
  obtain ⟨h1, h2⟩ := List.mem_filter.mp hc
  have h3 := h.2 c h1
  have h4 : c ≠ 10 := of_decide_eq_true h2
  unfold okSign at h3 ⊢
  have h5 := of_decide_eq_true h3
  apply decide_eq_true
  simp at h5 ⊢
  rcases h5 with h5 | h5 | h5
  · exact .inl h5
  · exact .inr h5
  · exact absurd h5 h4
theorem noNl_len (t : List Nat) : (noNl t).length ≤ t.length := List.length_filter_le _ _

theorem repl_fits {t : List Nat} (h : t.length ≤ 10000) : (⟨t.toArray⟩ : Str).length + ((⟨t.toArray⟩ : Str).length + 1) * (⟨#[]⟩ : Str).length ≤ 16777216 := by
  show (⟨t.toArray⟩ : Str).length + ((⟨t.toArray⟩ : Str).length + 1) * 0 ≤ 16777216
  rw [len_sv]; omega
theorem er_nat (r : Nat) : (1 + (r : Int)) = ((1 + r : Nat) : Int) := by omega
theorem two_at {H : Hp} {T : Addr} {x : V} {r : Nat} : (upd H T (.tup [x, .int (1 + (r : Int))])) T = some (.tup [x, iv (1 + r)]) := by
  rw [upd_same, er_nat]
theorem three_at {H : Hp} {T : Addr} {x y : V} {r : Nat} : (upd H T (.tup [x, y, .int (1 + (r : Int))])) T = some (.tup [x, y, iv (1 + r)]) := by
  rw [upd_same, er_nat]
/-- what a drawn motion is -/
abbrev RetM (K : PySem.W.Frag) (a w : Addr) (ns : List Int) (n : Nat) (H : Hp) (Q : VK) : Prop := ∀ (m : Mo) (s : Addr) (n' : Nat) (H' : Hp), m.ok → n' ≤ n + 10 → Dr K a w ns n' H' → Ch w H H' → H' s = some (.tup m.vs) → Q (.ref s) H'
def sp_law_motion (K : PySem.W.Frag) : Sp := fun vs H Q _ => ∃ (a w : Addr) (ns : List Int) (n : Nat) (t : List Nat), vs = [.ref a, .ref w, sv t] ∧ Dr K a w ns n H ∧ n + 20 < 90000 ∧ isText t ∧ RetM K a w ns n H Q
def b_law_motion (K : PySem.W.Frag) : Ss K :=
  (Ss.tok 3 1 (Ex.call "_law_draw" (sp_law_draw K) (As.cons (Ex.v 0) (As.cons (Ex.v 1) (As.cons (Ex.call "_law_pick" (sp_law_pick K) (As.cons (Ex.v 0) (As.cons (Ex.v 1) (As.cons (Ex.lst (As.cons (Ex.i 1) (As.cons (Ex.i 2) (As.cons (Ex.i 3) (As.cons (Ex.i 9) As.nil))))) As.nil)))) As.nil))))
  (SsT.cons (SmT.of (Sm.set 4 (Ex.call "_law_pick" (sp_law_pick K) (As.cons (Ex.v 0) (As.cons (Ex.v 1) (As.cons (Ex.add (Ex.lrng (Ex.i 20)) (Ex.lst (As.cons (Ex.i 2) (As.cons (Ex.i 3) (As.cons (Ex.i 2) (As.cons (Ex.i 3) (As.cons (Ex.i 2) (As.cons (Ex.i 3) (As.cons (Ex.i 2) (As.cons (Ex.i 3) As.nil)))))))))) As.nil))))))
  (SsT.cons (SmT.of (Sm.ite (Te.cmp Cm.lt (Ex.v 4) (Ex.i 7))
    (Ss.cons (Sm.ret (Ex.tup (As.cons (Ex.ix (Ex.lst (As.cons (Ex.s ⟨#[108, 101, 102, 116]⟩) (As.cons (Ex.s ⟨#[114, 105, 103, 104, 116]⟩) (As.cons (Ex.s ⟨#[117, 112]⟩) (As.cons (Ex.s ⟨#[100, 111, 119, 110]⟩) (As.cons (Ex.s ⟨#[119, 111, 114, 100]⟩) (As.cons (Ex.s ⟨#[111, 118, 101, 114]⟩) (As.cons (Ex.s ⟨#[98, 97, 99, 107]⟩) As.nil)))))))) (Ex.v 4)) (As.cons (Ex.v 3) As.nil))))
    Ss.nil)
    Ss.nil))
  (SsT.cons (SmT.of (Sm.ite (Te.cmp Cm.lt (Ex.v 4) (Ex.i 12))
    (Ss.cons (Sm.ret (Ex.tup (As.cons (Ex.ix (Ex.lst (As.cons (Ex.s ⟨#[98, 101, 103, 105, 110]⟩) (As.cons (Ex.s ⟨#[101, 110, 100]⟩) (As.cons (Ex.s ⟨#[102, 105, 114, 115, 116]⟩) (As.cons (Ex.s ⟨#[116, 111, 112]⟩) (As.cons (Ex.s ⟨#[98, 111, 116, 116, 111, 109]⟩) As.nil)))))) (Ex.sub (Ex.v 4) (Ex.i 7))) As.nil)))
    Ss.nil)
    Ss.nil))
  (SsT.cons (SmT.of (Sm.ite (Te.cmp Cm.eq (Ex.v 4) (Ex.i 12))
    (Ss.cons (Sm.ret (Ex.tup (As.cons (Ex.s ⟨#[114, 111, 119]⟩) (As.cons (Ex.add (Ex.i 1) (Ex.call "_law_draw" (sp_law_draw K) (As.cons (Ex.v 0) (As.cons (Ex.v 1) (As.cons (Ex.call "_law_pick" (sp_law_pick K) (As.cons (Ex.v 0) (As.cons (Ex.v 1) (As.cons (Ex.lst (As.cons (Ex.i 3) (As.cons (Ex.i 6) (As.cons (Ex.i 99) As.nil)))) As.nil)))) As.nil))))) As.nil))))
    Ss.nil)
    Ss.nil))
  (SsT.cons (SmT.ite (Te.cmp Cm.eq (Ex.v 4) (Ex.i 13))
    (SsT.cons (SmT.set 5 (ExT.add (ExT.repl (Ex.v 2) ⟨#[10]⟩ ⟨#[]⟩ rp_nl) (Ex.s ⟨#[97, 41]⟩)))
    (SsT.cons (SmT.of (Sm.ret (Ex.tup (As.cons (Ex.s ⟨#[102, 105, 110, 100]⟩) (As.cons (Ex.ix (Ex.v 5) (Ex.call "_law_draw" (sp_law_draw K) (As.cons (Ex.v 0) (As.cons (Ex.v 1) (As.cons (Ex.len (As.cons (Ex.v 5) As.nil)) As.nil))))) (As.cons (Ex.v 3) As.nil))))))
    (SsT.of Ss.nil)))
    (SsT.of Ss.nil))
  (SsT.cons (SmT.of (Sm.ite (Te.cmp Cm.lt (Ex.v 4) (Ex.i 16))
    (Ss.cons (Sm.ret (Ex.tup (As.cons (Ex.s ⟨#[112, 97, 105, 114]⟩) As.nil)))
    Ss.nil)
    Ss.nil))
  (SsT.cons (SmT.of (Sm.ite (Te.cmp Cm.eq (Ex.v 4) (Ex.i 16))
    (Ss.cons (Sm.ret (Ex.tup (As.cons (Ex.s ⟨#[109, 97, 114, 107]⟩) (As.cons (Ex.call "_law_pick" (sp_law_pick K) (As.cons (Ex.v 0) (As.cons (Ex.v 1) (As.cons (Ex.lst (As.cons (Ex.s ⟨#[97]⟩) (As.cons (Ex.s ⟨#[98]⟩) (As.cons (Ex.s ⟨#[99]⟩) (As.cons (Ex.s ⟨#[100]⟩) As.nil))))) As.nil)))) As.nil))))
    Ss.nil)
    Ss.nil))
  (SsT.cons (SmT.ite (Te.cmp Cm.lt (Ex.v 4) (Ex.i 19))
    (SsT.cons (SmT.of (Sm.set 6 (Ex.call "_law_draw" (sp_law_draw K) (As.cons (Ex.v 0) (As.cons (Ex.v 1) (As.cons (Ex.add (Ex.len (As.cons (Ex.v 2) As.nil)) (Ex.i 1)) As.nil))))))
    (SsT.cons (SmT.set 7 (ExT.repl (Ex.sl (Ex.v 2) (Op.yes (Ex.v 6)) (Op.yes (Ex.add (Ex.add (Ex.v 6) (Ex.i 1)) (Ex.call "_law_draw" (sp_law_draw K) (As.cons (Ex.v 0) (As.cons (Ex.v 1) (As.cons (Ex.i 3) As.nil))))))) ⟨#[10]⟩ ⟨#[]⟩ rp_nl))
    (SsT.cons (SmT.of (Sm.ret (Ex.tup (As.cons (Ex.s ⟨#[115, 101, 97, 114, 99, 104]⟩) (As.cons (Ex.ifx (Te.cmp Cm.ne (Ex.v 7) (Ex.s ⟨#[]⟩)) (Ex.v 7) (Ex.s ⟨#[97]⟩)) As.nil)))))
    (SsT.of Ss.nil))))
    (SsT.of Ss.nil))
  (SsT.cons (SmT.of (Sm.ret (Ex.call "_law_pick" (sp_law_pick K) (As.cons (Ex.v 0) (As.cons (Ex.v 1) (As.cons (Ex.lst (As.cons (Ex.tup (As.cons (Ex.s ⟨#[97, 103, 97, 105, 110]⟩) As.nil)) (As.cons (Ex.tup (As.cons (Ex.s ⟨#[98, 101, 102, 111, 114, 101]⟩) As.nil)) As.nil))) As.nil))))))
  (SsT.of Ss.nil)))))))))))
def N_law_motion : List Str := ["script", "town", "text", "many", "kind", "signs", "at", "piece"]
theorem kind_ok {v : V} (h : v ∈ rgV 0 20 ++ [.int 2, .int 3, .int 2, .int 3, .int 2, .int 3, .int 2, .int 3]) : ∃ k : Nat, v = iv k ∧ k < 20 := by
  rcases List.mem_append.mp h with h | h
  · unfold rgV at h
    obtain ⟨i, hi, rfl⟩ := List.mem_map.mp h
    have hi' : i < 20 := by simpa using hi
    exact ⟨i, by simp, hi'⟩
  · simp at h
    rcases h with rfl | rfl | rfl | rfl | rfl | rfl | rfl | rfl <;> first | exact ⟨2, rfl, by decide⟩ | exact ⟨3, rfl, by decide⟩
theorem rd_law_motion (K : PySem.W.Frag) : ∀ vs H Q E, sp_law_motion K vs H Q E → (b_law_motion K).t { nx := fun _ H' => Q .non H', rt := Q } (start N_law_motion vs) H := by
  rintro _ H Q E ⟨a, w, ns, n, t, rfl, d, hn, ht, q⟩
  have htl : t.length ≤ 200 := ht.1
  refine ⟨by decide, fun l hl => ?_⟩
  have x0 := xt_new (o := .lst [.int 1, .int 2, .int 3, .int 9]) hl
  refine ⟨a, w, l, ns, n, _, rfl, d.xt x0, by omega, d.fresh hl, upd_same, by simp, fun v H5 hv d5 c5 => ?_⟩
  have hv' : ∃ k : Nat, v = iv k ∧ 1 ≤ k ∧ k ≤ 9 := by
    simp at hv
    rcases hv with rfl | rfl | rfl | rfl
    · exact ⟨1, rfl, by decide, by decide⟩
    · exact ⟨2, rfl, by decide, by decide⟩
    · exact ⟨3, rfl, by decide, by decide⟩
    · exact ⟨9, rfl, by decide, by decide⟩
  obtain ⟨k, rfl, hk1, hk9⟩ := hv'
  have g5 : Ch w H H5 := (Ch.of x0).trans c5
  refine ⟨a, w, ns, n + 1, k, rfl, d5, by omega, by omega, fun r H6 r0 r1 d6 c6 => ?_⟩
  obtain ⟨r, rfl⟩ : ∃ i : Nat, r = (i : Int) := ⟨r.toNat, by omega⟩
  have g6 := g5.trans c6
  have hr : nOk (1 + r) := ⟨by omega, by omega⟩
  refine ⟨RgOk.of_le (by decide) (by decide) (by decide) (by decide), fun l1 hl1 => ?_⟩
  have x1 := xt_new (o := .lst (rgV 0 20)) hl1
  refine ⟨by decide, fun l2 hl2 => ?_⟩
  have x2 := xt_new (o := .lst [.int 2, .int 3, .int 2, .int 3, .int 2, .int 3, .int 2, .int 3]) hl2
  refine .inl ⟨l1, l2, _, _, rfl, rfl, x2 l1 _ upd_same, upd_same, sz (by decide), fun l3 hl3 => ?_⟩
  have x3 := xt_new (o := .lst (rgV 0 20 ++ [.int 2, .int 3, .int 2, .int 3, .int 2, .int 3, .int 2, .int 3])) hl3
  have y6 := (d6.xt x1).xt x2
  refine ⟨a, w, l3, ns, n + 2, _, rfl, y6.xt x3, by omega, y6.fresh hl3, upd_same, by simp, fun v H7 hv d7 c7 => ?_⟩
  obtain ⟨kd, rfl, hkd⟩ := kind_ok hv
  have g7 : Ch w H H7 := g6.trans ((Ch.of ((x1.trans x2).trans x3)).trans c7)
  clear hv x0 x1 x2 x3 y6 c5 c6 c7 g5 g6 d5 d6
  refine br_d (fun hq => ?_) (fun hq => ?_)
  · have hc : kd = 0 ∨ kd = 1 ∨ kd = 2 ∨ kd = 3 ∨ kd = 4 ∨ kd = 5 ∨ kd = 6 := by omega
    refine ⟨by decide, fun l4 hl4 => ?_⟩
    have x4 := xt_new (o := .lst [sv w_left, sv w_right, sv w_up, sv w_down, sv w_word, sv w_over, sv w_back]) hl4
    rcases hc with rfl | rfl | rfl | rfl | rfl | rfl | rfl
    · exact ⟨_, sv w_left, .inl (SqL.of upd_same), atI_nat (j := 0) rfl, by show 2 ≤ sizeLine; decide, fun T hT => q (.left (1 + r)) T (n + 3) _ hr (by omega) ((d7.xt x4).xt (xt_new hT)) (g7.trans (Ch.of (x4.trans (xt_new hT)))) two_at⟩
    · exact ⟨_, sv w_right, .inl (SqL.of upd_same), atI_nat (j := 1) rfl, by show 2 ≤ sizeLine; decide, fun T hT => q (.right (1 + r)) T (n + 3) _ hr (by omega) ((d7.xt x4).xt (xt_new hT)) (g7.trans (Ch.of (x4.trans (xt_new hT)))) two_at⟩
    · exact ⟨_, sv w_up, .inl (SqL.of upd_same), atI_nat (j := 2) rfl, by show 2 ≤ sizeLine; decide, fun T hT => q (.up (1 + r)) T (n + 3) _ hr (by omega) ((d7.xt x4).xt (xt_new hT)) (g7.trans (Ch.of (x4.trans (xt_new hT)))) two_at⟩
    · exact ⟨_, sv w_down, .inl (SqL.of upd_same), atI_nat (j := 3) rfl, by show 2 ≤ sizeLine; decide, fun T hT => q (.down (1 + r)) T (n + 3) _ hr (by omega) ((d7.xt x4).xt (xt_new hT)) (g7.trans (Ch.of (x4.trans (xt_new hT)))) two_at⟩
    · exact ⟨_, sv w_word, .inl (SqL.of upd_same), atI_nat (j := 4) rfl, by show 2 ≤ sizeLine; decide, fun T hT => q (.word (1 + r)) T (n + 3) _ hr (by omega) ((d7.xt x4).xt (xt_new hT)) (g7.trans (Ch.of (x4.trans (xt_new hT)))) two_at⟩
    · exact ⟨_, sv w_over, .inl (SqL.of upd_same), atI_nat (j := 5) rfl, by show 2 ≤ sizeLine; decide, fun T hT => q (.over (1 + r)) T (n + 3) _ hr (by omega) ((d7.xt x4).xt (xt_new hT)) (g7.trans (Ch.of (x4.trans (xt_new hT)))) two_at⟩
    · exact ⟨_, sv w_back, .inl (SqL.of upd_same), atI_nat (j := 6) rfl, by show 2 ≤ sizeLine; decide, fun T hT => q (.back (1 + r)) T (n + 3) _ hr (by omega) ((d7.xt x4).xt (xt_new hT)) (g7.trans (Ch.of (x4.trans (xt_new hT)))) two_at⟩
  refine br_d (fun hq2 => ?_) (fun hq2 => ?_)
  · have hc : kd = 7 ∨ kd = 8 ∨ kd = 9 ∨ kd = 10 ∨ kd = 11 := by omega
    refine ⟨by decide, fun l4 hl4 => ?_⟩
    have x4 := xt_new (o := .lst [sv w_begin, sv w_end, sv w_first, sv w_top, sv w_bottom]) hl4
    rcases hc with rfl | rfl | rfl | rfl | rfl
    · exact ⟨_, sv w_begin, .inl (SqL.of upd_same), atI_nat (j := 0) rfl, by show 1 ≤ sizeLine; decide, fun T hT => q .begin T (n + 3) _ trivial (by omega) ((d7.xt x4).xt (xt_new hT)) (g7.trans (Ch.of (x4.trans (xt_new hT)))) upd_same⟩
    · exact ⟨_, sv w_end, .inl (SqL.of upd_same), atI_nat (j := 1) rfl, by show 1 ≤ sizeLine; decide, fun T hT => q .fin T (n + 3) _ trivial (by omega) ((d7.xt x4).xt (xt_new hT)) (g7.trans (Ch.of (x4.trans (xt_new hT)))) upd_same⟩
    · exact ⟨_, sv w_first, .inl (SqL.of upd_same), atI_nat (j := 2) rfl, by show 1 ≤ sizeLine; decide, fun T hT => q .first T (n + 3) _ trivial (by omega) ((d7.xt x4).xt (xt_new hT)) (g7.trans (Ch.of (x4.trans (xt_new hT)))) upd_same⟩
    · exact ⟨_, sv w_top, .inl (SqL.of upd_same), atI_nat (j := 3) rfl, by show 1 ≤ sizeLine; decide, fun T hT => q .top T (n + 3) _ trivial (by omega) ((d7.xt x4).xt (xt_new hT)) (g7.trans (Ch.of (x4.trans (xt_new hT)))) upd_same⟩
    · exact ⟨_, sv w_bottom, .inl (SqL.of upd_same), atI_nat (j := 4) rfl, by show 1 ≤ sizeLine; decide, fun T hT => q .bottom T (n + 3) _ trivial (by omega) ((d7.xt x4).xt (xt_new hT)) (g7.trans (Ch.of (x4.trans (xt_new hT)))) upd_same⟩
  refine br_d (fun hq3 => ?_) (fun hq3 => ?_)
  · refine ⟨by decide, fun l4 hl4 => ?_⟩
    have x4 := xt_new (o := .lst [.int 3, .int 6, .int 99]) hl4
    refine ⟨a, w, l4, ns, n + 3, _, rfl, d7.xt x4, by omega, d7.fresh hl4, upd_same, by simp, fun v H8 hv8 d8 c8 => ?_⟩
    have hv' : ∃ k : Nat, v = iv k ∧ 1 ≤ k ∧ k ≤ 99 := by
      simp at hv8
      rcases hv8 with rfl | rfl | rfl
      · exact ⟨3, rfl, by decide, by decide⟩
      · exact ⟨6, rfl, by decide, by decide⟩
      · exact ⟨99, rfl, by decide, by decide⟩
    obtain ⟨k2, rfl, hk3, hk4⟩ := hv'
    refine ⟨a, w, ns, n + 4, k2, rfl, d8, by omega, by omega, fun r2 H9 s0 s1 d9 c9 => ?_⟩
    obtain ⟨r2, rfl⟩ : ∃ i : Nat, r2 = (i : Int) := ⟨r2.toNat, by omega⟩
    exact ⟨by show 2 ≤ sizeLine; decide, fun T hT => q (.row (1 + r2)) T (n + 5) _ ⟨by omega, by omega⟩ (by omega) (d9.xt (xt_new hT)) (g7.trans ((Ch.of x4).trans (c8.trans (c9.trans (Ch.of (xt_new hT)))))) two_at⟩
  refine br_d (fun hq4 => ?_) (fun hq4 => ?_)
  · have hnl := noNl_len t
    refine ⟨repl_fits (by omega), ?_⟩
    rw [replace_nl]
    refine ⟨sz (by rw [len_sv]; show (noNl t).length + 2 ≤ 100000; omega), ?_⟩
    have ea : ((⟨(noNl t).toArray⟩ : Str) ++ ⟨#[97, 41]⟩) = ⟨(noNl t ++ [97, 41]).toArray⟩ := sv_app (noNl t) [97, 41]
    rw [ea]
    refine ⟨sz (by rw [len_sv]; simp; omega), a, w, ns, n + 3, _, rfl, d7, by omega, by rw [len_sv]; simp; omega, fun u H8 u0 u1 d8 c8 => ?_⟩
    rw [len_sv] at u1
    obtain ⟨u, rfl⟩ : ∃ i : Nat, u = (i : Int) := ⟨u.toNat, by omega⟩
    have hu : u < (noNl t ++ [97, 41]).length := by omega
    refine ⟨sz (by rw [len_sv]; simp; omega), (noNl t ++ [97, 41])[u], atI_nat (List.getElem?_eq_getElem hu), ?_⟩
    have hok1 : okSign [] (noNl t ++ [97, 41])[u] = true := by
      have hm : (noNl t ++ [97, 41])[u] ∈ noNl t ++ [97, 41] := List.getElem_mem hu
      rcases List.mem_append.mp hm with h | h
      · exact noNl_ok ht _ h
      · have h' : ∀ c ∈ ([97, 41] : List Nat), okSign [] c = true := by decide
        exact h' _ h
    exact ⟨by show 3 ≤ sizeLine; decide, fun T hT => q (.find (noNl t ++ [97, 41])[u] (1 + r)) T (n + 4) _ ⟨hok1, hr⟩ (by omega) (d8.xt (xt_new hT)) (g7.trans (c8.trans (Ch.of (xt_new hT)))) three_at⟩
  refine br_d (fun hq5 => ?_) (fun hq5 => ?_)
  · exact ⟨by show 1 ≤ sizeLine; decide, fun T hT => q .pair T (n + 3) _ trivial (by omega) (d7.xt (xt_new hT)) (g7.trans (Ch.of (xt_new hT))) upd_same⟩
  refine br_d (fun hq6 => ?_) (fun hq6 => ?_)
  · refine ⟨by decide, fun l4 hl4 => ?_⟩
    have x4 := xt_new (o := .lst [sv [97], sv [98], sv [99], sv [100]]) hl4
    refine ⟨a, w, l4, ns, n + 3, _, rfl, d7.xt x4, by omega, d7.fresh hl4, upd_same, by simp, fun v H8 hv8 d8 c8 => ?_⟩
    have hv' : ∃ c : Nat, v = sv [c] ∧ c ∈ [97, 98, 99, 100] := by
      simp at hv8
      rcases hv8 with rfl | rfl | rfl | rfl
      · exact ⟨97, rfl, by decide⟩
      · exact ⟨98, rfl, by decide⟩
      · exact ⟨99, rfl, by decide⟩
      · exact ⟨100, rfl, by decide⟩
    obtain ⟨c, rfl, hcm⟩ := hv'
    exact ⟨by show 2 ≤ sizeLine; decide, fun T hT => q (.mark c) T (n + 4) _ hcm (by omega) (d8.xt (xt_new hT)) (g7.trans ((Ch.of x4).trans (c8.trans (Ch.of (xt_new hT))))) upd_same⟩
  refine br_d (fun hq7 => ?_) (fun hq7 => ?_)
  · refine ⟨sz (by rw [len_sv]; omega), a, w, ns, n + 3, _, rfl, d7, by omega, by rw [len_sv]; omega, fun u H8 u0 u1 d8 c8 => ?_⟩
    rw [len_sv] at u1
    obtain ⟨u, rfl⟩ : ∃ i : Nat, u = (i : Int) := ⟨u.toNat, by omega⟩
    refine ⟨a, w, ns, n + 4, 3, rfl, d8, by omega, by omega, fun r2 H9 s0 s1 d9 c9 => ?_⟩
    obtain ⟨r2, rfl⟩ : ∃ i : Nat, r2 = (i : Int) := ⟨r2.toNat, by omega⟩
    have ec : cutS ⟨t.toArray⟩ (some (u : Int)) (some ((u : Int) + 1 + (r2 : Int))) = ⟨((t.drop u).take (1 + r2)).toArray⟩ := by
      have := cut_ofN t u (u + 1 + r2)
      have e1 : u + 1 + r2 - u = 1 + r2 := by omega
      rw [e1] at this
      exact this
    refine ⟨sz (by rw [len_sv]; omega), ?_⟩
    rw [ec]
    have hcl : ((t.drop u).take (1 + r2)).length ≤ 3 := by simp; omega
    refine ⟨repl_fits (by omega), ?_⟩
    rw [replace_nl]
    have hsub : ∀ c ∈ noNl ((t.drop u).take (1 + r2)), okSign [] c = true := by
      intro c hc
      obtain ⟨h1, h2⟩ := List.mem_filter.mp hc
      exact noNl_ok ht c (List.mem_filter.mpr ⟨List.mem_of_mem_drop (List.mem_of_mem_take h1), h2⟩)
    have hpl := noNl_len ((t.drop u).take (1 + r2))
    generalize noNl ((t.drop u).take (1 + r2)) = pc at hsub hpl ⊢
    show br (!decide ((⟨pc.toArray⟩ : Str) = ⟨([] : List Nat).toArray⟩)) _ _
    rw [dec_sv]
    by_cases hp0 : pc = []
    · refine br_f (by rw [decide_eq_true hp0]; rfl) ?_
      exact ⟨by show 2 ≤ sizeLine; decide, fun T hT => q (.search [97]) T (n + 5) _ ⟨by decide, by decide, by decide⟩ (by omega) (d9.xt (xt_new hT)) (g7.trans (c8.trans (c9.trans (Ch.of (xt_new hT))))) upd_same⟩
    · refine br_t (by rw [decide_eq_false hp0]; rfl) ?_
      have h1 : 1 ≤ pc.length := List.length_pos_iff.mpr hp0
      exact ⟨by show 2 ≤ sizeLine; decide, fun T hT => q (.search pc) T (n + 5) _ ⟨h1, by omega, hsub⟩ (by omega) (d9.xt (xt_new hT)) (g7.trans (c8.trans (c9.trans (Ch.of (xt_new hT))))) upd_same⟩
  · refine ⟨by decide, fun l4 hl4 => ?_⟩
    refine ⟨by decide, fun l5 hl5 => ?_⟩
    refine ⟨by show 2 ≤ sizeLine; decide, fun L hL => ?_⟩
    have x4 := xt_new (o := .tup [sv w_again]) hl4
    have x5 := xt_new (o := .tup [sv w_before]) hl5
    have xL := xt_new (o := .lst [.ref l4, .ref l5]) hL
    have z5 := xL l5 _ upd_same
    have z4 := (x5.trans xL) l4 _ upd_same
    have n4 : l4 ≠ w := Dr.fresh d7 hl4
    have y4 := Dr.xt d7 x4
    have n5 : l5 ≠ w := Dr.fresh y4 hl5
    have y5 := Dr.xt y4 x5
    have nL : L ≠ w := Dr.fresh y5 hL
    have yL := Dr.xt y5 xL
    refine ⟨a, w, L, ns, n + 3, _, rfl, yL, by omega, nL, upd_same, by simp, fun v H8 hv8 d8 c8 => ?_⟩
    have g8 : Ch w H H8 := g7.trans ((Ch.of (x4.trans (x5.trans xL))).trans c8)
    simp at hv8
    rcases hv8 with rfl | rfl
    · exact q .again l4 (n + 4) _ trivial (by omega) d8 g8 (c8 l4 _ n4 z4)
    · exact q .before l5 (n + 4) _ trivial (by omega) d8 g8 (c8 l5 _ n5 z5)
end Ed

/-! areas: the plain laws -/
namespace Ed
/-! ### the word around a place -/
def wBeg (t : List Nat) : Nat → Nat
  | 0 => 0
  | p + 1 => if wAt t p then wBeg t p else p + 1
def wEnd (t : List Nat) : Nat → Nat → Nat
  | 0, p => p
  | f + 1, p => if wAt t p then wEnd t f (p + 1) else p
theorem wBeg_spec (t : List Nat) : ∀ p, wBeg t p ≤ p ∧ (∀ i, wBeg t p ≤ i → i < p → wAt t i = true) ∧ fB t (wBeg t p) = false
  | 0 => ⟨Nat.le_refl _, fun i _ h => by omega, rfl⟩
  | p + 1 => by
    obtain ⟨h1, h2, h3⟩ := wBeg_spec t p
    unfold wBeg
    by_cases h : wAt t p = true
    · rw [if_pos h]
      refine ⟨by omega, fun i hi1 hi2 => ?_, h3⟩
      by_cases hip : i = p
      · rw [hip]; exact h
      · exact h2 i hi1 (by omega)
    · rw [if_neg h]
      refine ⟨Nat.le_refl _, fun i _ _ => by omega, ?_⟩
      show wAt t p = false
      simpa using h
theorem wEnd_spec (t : List Nat) : ∀ f p, t.length ≤ p + f → p ≤ wEnd t f p ∧ (∀ i, p ≤ i → i < wEnd t f p → wAt t i = true) ∧ wAt t (wEnd t f p) = false ∧ (p ≤ t.length → wEnd t f p ≤ t.length)
  | 0, p, h => ⟨Nat.le_refl _, fun i _ hi => by unfold wEnd at hi; omega, wAt_none (show t.length ≤ p by omega), fun h => h⟩
  | f + 1, p, h => by
    unfold wEnd
    by_cases hw : wAt t p = true
    · obtain ⟨h1, h2, h3, h4⟩ := wEnd_spec t f (p + 1) (by omega)
      rw [if_pos hw]
      refine ⟨by omega, fun i hi1 hi2 => ?_, h3, fun hp => h4 ?_⟩
      · by_cases hip : i = p
        · rw [hip]; exact hw
        · exact h2 i (by omega) hi2
      · by_cases hpl : p < t.length
        · omega
        · rw [wAt_none (by omega)] at hw; cases hw
    · rw [if_neg hw]
      exact ⟨Nat.le_refl _, fun i _ _ => by omega, by simpa using hw, fun h => h⟩
def wordAt (t : List Nat) (p : Nat) : Option (Nat × Nat) := if wBeg t p < wEnd t (t.length - p) p then some (wBeg t p, wEnd t (t.length - p) p) else none
/-- what the law asks of a word's begin and end -/
def isWd (t : List Nat) (p b e : Nat) : Prop := b ≤ p ∧ p ≤ e ∧ (∀ i, b ≤ i → i < e → wAt t i = true) ∧ fB t b = false ∧ wAt t e = false
theorem fB_pos {t : List Nat} {b : Nat} (h : fB t b = false) (h0 : 0 < b) : wAt t (b - 1) = false := by
  obtain ⟨k, rfl⟩ : ∃ k, b = k + 1 := ⟨b - 1, by omega⟩
  exact h
theorem wd_uniq {t : List Nat} {p b e : Nat} (hp : p ≤ t.length) (hbe : b < e) (h : isWd t p b e) : wordAt t p = some (b, e) := by
  obtain ⟨h1, h2, h3, h4, h5⟩ := h
  obtain ⟨b1, b2, b3⟩ := wBeg_spec t p
  obtain ⟨e1, e2, e3, e4⟩ := wEnd_spec t (t.length - p) p (by omega)
  have eb : wBeg t p = b := by
    rcases Nat.lt_trichotomy (wBeg t p) b with h | h | h
    · have z := b2 (b - 1) (by omega) (by omega)
      rw [fB_pos h4 (by omega)] at z; cases z
    · exact h
    · have z := h3 (wBeg t p - 1) (by omega) (by omega)
      rw [fB_pos b3 (by omega)] at z; cases z
  have ee : wEnd t (t.length - p) p = e := by
    rcases Nat.lt_trichotomy (wEnd t (t.length - p) p) e with h | h | h
    · have z := h3 (wEnd t (t.length - p) p) (by omega) h
      rw [e3] at z; cases z
    · exact h
    · have z := e2 e h2 h
      rw [h5] at z; cases z
  unfold wordAt
  rw [eb, ee, if_pos hbe]
theorem wd_some {t : List Nat} {p b e : Nat} (hp : p ≤ t.length) (h : wordAt t p = some (b, e)) : b < e ∧ e ≤ t.length ∧ isWd t p b e := by
  obtain ⟨b1, b2, b3⟩ := wBeg_spec t p
  obtain ⟨e1, e2, e3, e4⟩ := wEnd_spec t (t.length - p) p (by omega)
  unfold wordAt at h
  split at h
  · rename_i hlt
    injection h with h
    injection h with h1 h2
    subst h1 h2
    refine ⟨hlt, e4 hp, b1, e1, fun i hi1 hi2 => ?_, b3, e3⟩
    by_cases hip : i < p
    · exact b2 i hi1 hip
    · exact e2 i (by omega) hi2
  · cases h
end Ed
namespace Tx
/-! ### inside brackets -/
def inGo (o c p : Nat) : List Nat → Nat → List Nat → Option (Nat × Nat) → Option (Nat × Nat)
  | [], _, _, best => best
  | x :: r, i, st, best =>
    if x = c then
      match (if x = o then i :: st else st) with
      | f :: st2 => inGo o c p r (i + 1) st2 (if f < p ∧ p ≤ i ∧ best = none then some (f + 1, i) else best)
      | [] => inGo o c p r (i + 1) [] best
    else inGo o c p r (i + 1) (if x = o then i :: st else st) best
theorem in_o {o c p : Nat} (h : o ≠ c) (r : List Nat) (i : Nat) (st : List Nat) (b : Option (Nat × Nat)) : inGo o c p (o :: r) i st b = inGo o c p r (i + 1) (i :: st) b := by
  simp [inGo, h]
theorem in_c {o c p : Nat} (h : o ≠ c) (r : List Nat) (i f : Nat) (st : List Nat) (b : Option (Nat × Nat)) : inGo o c p (c :: r) i (f :: st) b = inGo o c p r (i + 1) st (if f < p ∧ p ≤ i ∧ b = none then some (f + 1, i) else b) := by
  have : c ≠ o := fun e => h e.symm
  simp [inGo, this]
theorem in_c0 {o c p : Nat} (h : o ≠ c) (r : List Nat) (i : Nat) (b : Option (Nat × Nat)) : inGo o c p (c :: r) i [] b = inGo o c p r (i + 1) [] b := by
  have : c ≠ o := fun e => h e.symm
  simp [inGo, this]
theorem in_x {o c p x : Nat} (h1 : x ≠ o) (h2 : x ≠ c) (r : List Nat) (i : Nat) (st : List Nat) (b : Option (Nat × Nat)) : inGo o c p (x :: r) i st b = inGo o c p r (i + 1) st b := by
  simp [inGo, h1, h2]
/-- once found, kept -/
theorem in_keep {o c p : Nat} (h : o ≠ c) (z : Nat × Nat) : ∀ (r : List Nat) (i : Nat) (st : List Nat), inGo o c p r i st (some z) = some z
  | [], _, _ => rfl
  | x :: r, i, st => by
    by_cases h1 : x = o
    · subst h1; rw [in_o h]; exact in_keep h z r _ _
    · by_cases h2 : x = c
      · subst h2
        cases st with
        | nil => rw [in_c0 h]; exact in_keep h z r _ _
        | cons f st =>
          rw [in_c h, if_neg (by simp)]
          exact in_keep h z r _ _
      · rw [in_x h1 h2]; exact in_keep h z r _ _
/-- all that is stacked is at p or behind: none -/
theorem in_none {o c p : Nat} (h : o ≠ c) : ∀ (r : List Nat) (i : Nat) (st : List Nat), p ≤ i → (∀ f ∈ st, p ≤ f) → inGo o c p r i st none = none
  | [], _, _, _, _ => rfl
  | x :: r, i, st, hi, hs => by
    by_cases h1 : x = o
    · subst h1
      rw [in_o h]
      refine in_none h r _ _ (by omega) fun f hf => ?_
      rcases List.mem_cons.mp hf with e | e
      · omega
      · exact hs f e
    · by_cases h2 : x = c
      · subst h2
        cases st with
        | nil => rw [in_c0 h]; exact in_none h r _ _ (by omega) hs
        | cons f st =>
          have := hs f (List.mem_cons_self ..)
          rw [in_c h, if_neg (by omega)]
          exact in_none h r _ _ (by omega) fun g hg => hs g (List.mem_cons_of_mem _ hg)
      · rw [in_x h1 h2]; exact in_none h r _ _ (by omega) hs
theorem in_pre {o c p : Nat} (h : o ≠ c) : ∀ (u v w : List Nat), w.length + u.length ≤ p → inGo o c p (u ++ v) w.length (stk o c w) none = inGo o c p v (w.length + u.length) (stk o c (u.reverse ++ w)) none
  | [], v, w, _ => rfl
  | x :: u, v, w, hp => by
    have e1 : (x :: u).reverse ++ w = u.reverse ++ (x :: w) := by simp
    have e2 : w.length + (x :: u).length = (x :: w).length + u.length := by simp; omega
    have ih := in_pre (p := p) h u v (x :: w) (by rw [← e2]; exact hp)
    rw [e1, e2, ← ih]
    show inGo o c p (x :: (u ++ v)) w.length (stk o c w) none = inGo o c p (u ++ v) (w.length + 1) (stk o c (x :: w)) none
    by_cases h1 : x = o
    · subst h1
      rw [in_o h]; simp [stk]
    · by_cases h2 : x = c
      · subst h2
        have hs : stk o x (x :: w) = (stk o x w).tail := by simp [stk, h1]
        rw [hs]
        cases e : stk o x w with
        | nil => rw [in_c0 h]; rfl
        | cons f st =>
          rw [in_c h, if_neg (by simp at hp; omega)]; rfl
      · rw [in_x h1 h2]; simp [stk, h1, h2]
theorem in_fwd {o c p f : Nat} (h : o ≠ c) (hf : f < p) : ∀ (r : List Nat) (i : Nat) (ys st : List Nat), p ≤ i → (∀ y ∈ ys, p ≤ y) → inGo o c p r i (ys ++ f :: st) none = (fwdL o c r i ((ys.length : Int) + 1)).map fun e => (f + 1, e)
  | [], i, ys, st, _, _ => rfl
  | x :: r, i, ys, st, hi, hy => by
    by_cases h1 : x = o
    · subst h1
      have e : (((ys.length : Nat) : Int) + 1 + b1 x x - b1 x c) = (((i :: ys).length : Nat) : Int) + 1 := by simp [b1, h]
      unfold fwdL
      rw [in_o h, e, if_neg (by simp; omega)]
      exact in_fwd h hf r (i + 1) (i :: ys) st (by omega) (fun y hm => by
        rcases List.mem_cons.mp hm with e | e
        · omega
        · exact hy y e)
    · by_cases h2 : x = c
      · subst h2
        have e : (((ys.length : Nat) : Int) + 1 + b1 x o - b1 x x) = ((ys.length : Nat) : Int) := by simp [b1, h1]
        unfold fwdL
        rw [e]
        cases ys with
        | nil =>
          rw [List.nil_append, in_c h, if_pos ⟨hf, hi, rfl⟩, in_keep h]
          simp
        | cons y ys =>
          rw [List.cons_append, in_c h]
          have := hy y (List.mem_cons_self ..)
          rw [if_neg (by omega), if_neg (by simp; omega)]
          have e2 : (((y :: ys).length : Nat) : Int) = ((ys.length : Nat) : Int) + 1 := by simp
          rw [e2]
          exact in_fwd h hf r (i + 1) ys st (by omega) (fun z hz => hy z (List.mem_cons_of_mem _ hz))
      · have e : (((ys.length : Nat) : Int) + 1 + b1 x o - b1 x c) = ((ys.length : Nat) : Int) + 1 := by simp [b1, h1, h2]
        unfold fwdL
        rw [e, if_neg (by omega), in_x h1 h2]
        exact in_fwd h hf r (i + 1) ys st (by omega) hy
/-- the innermost pair around p, by counting -/
def insideOf (o c : Nat) (t : List Nat) (p : Nat) : Option (Nat × Nat) := match bwdL c o ((t.take p).reverse) 1 with
  | none => none
  | some f => (fwdL o c (t.drop p) p 1).map fun e => (f + 1, e)
theorem inside_law {o c : Nat} (h : o ≠ c) {t : List Nat} {p : Nat} (hp : p ≤ t.length) : inGo o c p t 0 [] none = insideOf o c t p := by
  have e2 := in_pre (p := p) h (t.take p) (t.drop p) [] (by simp; omega)
  rw [List.take_append_drop] at e2
  have e3 : ([] : List Nat).length + (t.take p).length = p := by simp; omega
  rw [e3] at e2
  have e4 : stk o c ([] : List Nat) = [] := rfl
  rw [e4, List.append_nil] at e2
  show inGo o c p t ([] : List Nat).length [] none = _
  rw [e2]
  have e5 := bwd_stk h (t.take p).reverse 0
  have e6 : (((0 : Nat) : Int) + 1) = 1 := rfl
  rw [e6] at e5
  unfold insideOf
  rw [e5]
  cases e : stk o c (t.take p).reverse with
  | nil => exact in_none h _ _ _ (Nat.le_refl _) (by simp)
  | cons f st =>
    have hf := stk_lt o c _ f (by rw [e]; exact List.mem_cons_self ..)
    have hf' : f < p := by simp at hf; omega
    have := in_fwd (p := p) h hf' (t.drop p) p [] st (Nat.le_refl _) (by simp)
    rw [List.nil_append] at this
    rw [this]
    rfl
end Tx

/-! areas: the program -/
namespace Ed
open PySem L2 Cb
open Evl (Ev EvT)
/-- a pair, or None -/
def RetO (o : Option (Nat × Nat)) (H : Hp) (Q : VK) : Prop := (o = none → RetV .non H Q) ∧ ∀ b e, o = some (b, e) → ∀ p H', Xt H H' → H' p = some (.tup [iv b, iv e]) → Q (.ref p) H'
theorem RetO.to {o : Option (Nat × Nat)} {H H' : Hp} {Q : VK} (h : RetO o H Q) (e : Xt H H') : RetO o H' Q :=
  ⟨fun z H2 e2 => h.1 z H2 (e.trans e2), fun b f z p H2 e2 => h.2 b f z p H2 (e.trans e2)⟩
def sp_word_at (K : PySem.W.Frag) : Sp := fun vs H Q _ => ∃ (t : List Nat) (p : Nat), vs = [sv t, iv p] ∧ t.length ≤ 10000 ∧ p ≤ t.length ∧ RetO (wordAt t p) H Q
def b_word_at (K : PySem.W.Frag) : Ss K :=
  (Ss.cons (Sm.set 2 (Ex.v 1))
  (Ss.cons (Sm.whl (Te.w (Tw.and (Te.cmp Cm.gt (Ex.v 2) (Ex.i 0)) (Tw.one (Te.cmp Cm.isin (Ex.ix (Ex.v 0) (Ex.sub (Ex.v 2) (Ex.i 1))) (Ex.g "WORD" (.str cWORD))))))
    (Ss.cons (Sm.set 2 (Ex.sub (Ex.v 2) (Ex.i 1)))
    Ss.nil))
  (Ss.cons (Sm.set 3 (Ex.v 1))
  (Ss.cons (Sm.whl (Te.w (Tw.and (Te.cmp Cm.lt (Ex.v 3) (Ex.len (As.cons (Ex.v 0) As.nil))) (Tw.one (Te.cmp Cm.isin (Ex.ix (Ex.v 0) (Ex.v 3)) (Ex.g "WORD" (.str cWORD))))))
    (Ss.cons (Sm.set 3 (Ex.add (Ex.v 3) (Ex.i 1)))
    Ss.nil))
  (Ss.cons (Sm.ret (Ex.ifx (Te.cmp Cm.lt (Ex.v 2) (Ex.v 3)) (Ex.tup (As.cons (Ex.v 2) (As.cons (Ex.v 3) As.nil))) Ex.none))
  Ss.nil)))))
def N_word_at : List Str := ["text", "place", "begin", "end"]
theorem rd_word_at (K : PySem.W.Frag) : ∀ vs H Q E, sp_word_at K vs H Q E → (b_word_at K).t { nx := fun _ H' => Q .non H', rt := Q } (start N_word_at vs) H := by
  rintro _ H Q E ⟨t, p, rfl, ht, hp, q⟩
  have second : ∀ bg : Nat, wBeg t p = bg → (Ss.cons (Sm.set 3 (Ex.v 1))
      (Ss.cons (Sm.whl (Te.w (Tw.and (Te.cmp Cm.lt (Ex.v 3) (Ex.len (As.cons (Ex.v 0) As.nil))) (Tw.one (Te.cmp Cm.isin (Ex.ix (Ex.v 0) (Ex.v 3)) (Ex.g "WORD" (.str cWORD))))))
        (Ss.cons (Sm.set 3 (Ex.add (Ex.v 3) (Ex.i 1)))
        Ss.nil))
      (Ss.cons (Sm.ret (Ex.ifx (Te.cmp Cm.lt (Ex.v 2) (Ex.v 3)) (Ex.tup (As.cons (Ex.v 2) (As.cons (Ex.v 3) As.nil))) Ex.none))
      Ss.nil)) : Ss K).t { nx := fun _ H' => Q .non H', rt := Q } [some (sv t), some (iv p), some (iv bg), none] H := by
    intro bg hbg
    refine ⟨fun m σ H' => H' = H ∧ ∃ e : Nat, σ = [some (sv t), some (iv p), some (iv bg), some (iv e)] ∧ m = t.length - e ∧ e ≤ t.length ∧ wEnd t (t.length - e) e = wEnd t (t.length - p) p, ⟨_, rfl, p, rfl, rfl, hp, rfl⟩, ?_⟩
    rintro m σ H' ⟨rfl, e, rfl, rfl, he, hw⟩
    have done : wEnd t (t.length - e) e = e → ∀ c : Bool, c = false → (if c = true then (∃ N : L2.St → Hp → Prop, (∀ σ' H', N σ' H' → ∃ m', m' < t.length - e ∧ (H' = H' ∧ True)) ∧ True) else True) → (br (decide ((bg : Int) < (e : Int))) (2 ≤ sizeLine ∧ ∀ T, H' T = none → Q (.ref T) (upd H' T (.tup [iv bg, iv e]))) (Q .non H')) := by
      intro hd c _ _
      rw [hd] at hw
      refine br_d (fun h => ⟨by decide, fun T hT => ?_⟩) (fun h => ?_)
      · refine q.2 bg e ?_ T _ (xt_new hT) upd_same
        unfold wordAt
        rw [hbg, ← hw, if_pos (by omega)]
      · refine q.1 ?_ H' (Xt.refl H')
        unfold wordAt
        rw [hbg, ← hw, if_neg (by omega)]
    refine ⟨sz (by rw [len_sv]; omega), br_d (fun h => ?_) (fun h => ?_)⟩
    · rw [len_sv] at h
      have hel : e < t.length := by omega
      refine ⟨sz (by rw [len_sv]; omega), t[e], atI_nat (List.getElem?_eq_getElem hel), ?_⟩
      have hwa : wAt t e = decide (t[e] ∈ lWORD) := wAt_some (List.getElem?_eq_getElem hel)
      have en : t.length - e = (t.length - (e + 1)) + 1 := by omega
      show if decide (t[e] ∈ lWORD) = true then _ else _
      by_cases hm : t[e] ∈ lWORD
      · rw [if_pos (decide_eq_true hm)]
        refine ⟨fun σ' H2 => H2 = H' ∧ σ' = [some (sv t), some (iv p), some (iv bg), some (.int ((e : Int) + 1))], ?_, rfl, rfl⟩
        rintro σ' H2 ⟨rfl, rfl⟩
        refine ⟨t.length - (e + 1), by omega, rfl, e + 1, rfl, rfl, by omega, ?_⟩
        rw [← hw, en]
        conv => rhs; unfold wEnd
        rw [hwa, decide_eq_true hm, if_pos rfl]
      · rw [if_neg (by simpa using hm)]
        refine done ?_ false rfl trivial
        rw [en]
        unfold wEnd
        rw [hwa, decide_eq_false hm, if_neg Bool.false_ne_true]
    · rw [len_sv] at h
      have hel : e = t.length := by omega
      refine done ?_ false rfl trivial
      subst hel
      rw [Nat.sub_self]; rfl
  refine ⟨fun m σ H' => H' = H ∧ ∃ b : Nat, σ = [some (sv t), some (iv p), some (iv b), none] ∧ m = b ∧ wBeg t b = wBeg t p ∧ b ≤ p, ⟨p, rfl, p, rfl, rfl, rfl, Nat.le_refl _⟩, ?_⟩
  rintro m σ H' ⟨rfl, b, rfl, rfl, hb, hbp⟩
  cases m with
  | zero => exact second 0 hb.symm
  | succ b =>
    refine br_d (fun h => ?_) (fun h => absurd (show (0 : Int) < ((b + 1 : Nat) : Int) by omega) h)
    have hbl : b < t.length := by omega
    have ei : (((b + 1 : Nat) : Int) - 1) = (b : Int) := by omega
    refine ⟨sz (by rw [len_sv]; omega), t[b], by rw [ei]; exact atI_nat (List.getElem?_eq_getElem hbl), ?_⟩
    have hwa : wAt t b = decide (t[b] ∈ lWORD) := wAt_some (List.getElem?_eq_getElem hbl)
    show if decide (t[b] ∈ lWORD) = true then _ else _
    by_cases hm : t[b] ∈ lWORD
    · rw [if_pos (decide_eq_true hm)]
      refine ⟨fun σ' H2 => H2 = H' ∧ σ' = [some (sv t), some (iv p), some (.int (((b + 1 : Nat) : Int) - 1)), none], ?_, rfl, rfl⟩
      rintro σ' H2 ⟨rfl, rfl⟩
      rw [ei]
      refine ⟨b, by omega, rfl, b, rfl, rfl, ?_, by omega⟩
      rw [← hb]
      conv => rhs; unfold wBeg
      rw [hwa, decide_eq_true hm, if_pos rfl]
    · rw [if_neg (by simpa using hm)]
      refine second (b + 1) ?_
      rw [← hb]
      unfold wBeg
      rw [hwa, decide_eq_false hm, if_neg Bool.false_ne_true]
abbrev in_tail (K : PySem.W.Frag) : Ss K := (Ss.cons (Sm.set 4 (Ex.i 1))
  (Ss.cons (Sm.set 6 (Ex.v 1))
  (Ss.cons (Sm.whl (Te.cmp Cm.lt (Ex.v 6) (Ex.len (As.cons (Ex.v 0) As.nil)))
    (Ss.cons (Sm.set 4 (Ex.sub (Ex.add (Ex.v 4) (Ex.int (As.cons (Ex.cmp Cm.eq (Ex.ix (Ex.v 0) (Ex.v 6)) (Ex.v 2)) As.nil))) (Ex.int (As.cons (Ex.cmp Cm.eq (Ex.ix (Ex.v 0) (Ex.v 6)) (Ex.v 3)) As.nil))))
    (Ss.cons (Sm.ite (Te.cmp Cm.eq (Ex.v 4) (Ex.i 0))
      (Ss.cons (Sm.ret (Ex.tup (As.cons (Ex.add (Ex.v 5) (Ex.i 1)) (As.cons (Ex.v 6) As.nil))))
      Ss.nil)
      Ss.nil)
    (Ss.cons (Sm.set 6 (Ex.add (Ex.v 6) (Ex.i 1)))
    Ss.nil))))
  (Ss.cons (Sm.ret Ex.none)
  Ss.nil))))
abbrev in_mid (K : PySem.W.Frag) : Ss K := (Ss.cons (Sm.set 4 (Ex.i 1))
  (Ss.cons (Sm.set 5 (Ex.v 1))
  (Ss.cons (Sm.whl (Te.w (Tw.and (Te.cmp Cm.gt (Ex.v 5) (Ex.i 0)) (Tw.one (Te.cmp Cm.gt (Ex.v 4) (Ex.i 0)))))
    (Ss.cons (Sm.set 5 (Ex.sub (Ex.v 5) (Ex.i 1)))
    (Ss.cons (Sm.set 4 (Ex.sub (Ex.add (Ex.v 4) (Ex.int (As.cons (Ex.cmp Cm.eq (Ex.ix (Ex.v 0) (Ex.v 5)) (Ex.v 3)) As.nil))) (Ex.int (As.cons (Ex.cmp Cm.eq (Ex.ix (Ex.v 0) (Ex.v 5)) (Ex.v 2)) As.nil))))
    Ss.nil)))
  (Ss.cons (Sm.ite (Te.cmp Cm.gt (Ex.v 4) (Ex.i 0))
    (Ss.cons (Sm.ret Ex.none)
    Ss.nil)
    Ss.nil)
  (Ss.cons (Sm.set 4 (Ex.i 1))
  (Ss.cons (Sm.set 6 (Ex.v 1))
  (Ss.cons (Sm.whl (Te.cmp Cm.lt (Ex.v 6) (Ex.len (As.cons (Ex.v 0) As.nil)))
    (Ss.cons (Sm.set 4 (Ex.sub (Ex.add (Ex.v 4) (Ex.int (As.cons (Ex.cmp Cm.eq (Ex.ix (Ex.v 0) (Ex.v 6)) (Ex.v 2)) As.nil))) (Ex.int (As.cons (Ex.cmp Cm.eq (Ex.ix (Ex.v 0) (Ex.v 6)) (Ex.v 3)) As.nil))))
    (Ss.cons (Sm.ite (Te.cmp Cm.eq (Ex.v 4) (Ex.i 0))
      (Ss.cons (Sm.ret (Ex.tup (As.cons (Ex.add (Ex.v 5) (Ex.i 1)) (As.cons (Ex.v 6) As.nil))))
      Ss.nil)
      Ss.nil)
    (Ss.cons (Sm.set 6 (Ex.add (Ex.v 6) (Ex.i 1)))
    Ss.nil))))
  (Ss.cons (Sm.ret Ex.none)
  Ss.nil))))))))
def isKind (o c : Nat) : Prop := (o = 40 ∧ c = 41) ∨ (o = 91 ∧ c = 93) ∨ (o = 123 ∧ c = 125)
def sp_inside (K : PySem.W.Frag) : Sp := fun vs H Q _ => ∃ (t : List Nat) (p o c : Nat), vs = [sv t, iv p, .str ⟨#[o]⟩] ∧ isKind o c ∧ t.length ≤ 10000 ∧ p ≤ t.length ∧ RetO (Tx.insideOf o c t p) H Q
def b_inside (K : PySem.W.Frag) : Ss K :=
  (Ss.cons (Sm.set 3 (Ex.ix (Ex.g "SHUT" (.str cSHUT)) (Ex.sm Ms.index (Ex.g "OPEN" (.str cOPEN)) (As.cons (Ex.v 2) As.nil))))
  (Ss.cons (Sm.set 4 (Ex.i 1))
  (Ss.cons (Sm.set 5 (Ex.v 1))
  (Ss.cons (Sm.whl (Te.w (Tw.and (Te.cmp Cm.gt (Ex.v 5) (Ex.i 0)) (Tw.one (Te.cmp Cm.gt (Ex.v 4) (Ex.i 0)))))
    (Ss.cons (Sm.set 5 (Ex.sub (Ex.v 5) (Ex.i 1)))
    (Ss.cons (Sm.set 4 (Ex.sub (Ex.add (Ex.v 4) (Ex.int (As.cons (Ex.cmp Cm.eq (Ex.ix (Ex.v 0) (Ex.v 5)) (Ex.v 3)) As.nil))) (Ex.int (As.cons (Ex.cmp Cm.eq (Ex.ix (Ex.v 0) (Ex.v 5)) (Ex.v 2)) As.nil))))
    Ss.nil)))
  (Ss.cons (Sm.ite (Te.cmp Cm.gt (Ex.v 4) (Ex.i 0))
    (Ss.cons (Sm.ret Ex.none)
    Ss.nil)
    Ss.nil)
  (Ss.cons (Sm.set 4 (Ex.i 1))
  (Ss.cons (Sm.set 6 (Ex.v 1))
  (Ss.cons (Sm.whl (Te.cmp Cm.lt (Ex.v 6) (Ex.len (As.cons (Ex.v 0) As.nil)))
    (Ss.cons (Sm.set 4 (Ex.sub (Ex.add (Ex.v 4) (Ex.int (As.cons (Ex.cmp Cm.eq (Ex.ix (Ex.v 0) (Ex.v 6)) (Ex.v 2)) As.nil))) (Ex.int (As.cons (Ex.cmp Cm.eq (Ex.ix (Ex.v 0) (Ex.v 6)) (Ex.v 3)) As.nil))))
    (Ss.cons (Sm.ite (Te.cmp Cm.eq (Ex.v 4) (Ex.i 0))
      (Ss.cons (Sm.ret (Ex.tup (As.cons (Ex.add (Ex.v 5) (Ex.i 1)) (As.cons (Ex.v 6) As.nil))))
      Ss.nil)
      Ss.nil)
    (Ss.cons (Sm.set 6 (Ex.add (Ex.v 6) (Ex.i 1)))
    Ss.nil))))
  (Ss.cons (Sm.ret Ex.none)
  Ss.nil)))))))))
def N_inside : List Str := ["text", "place", "sign", "other", "deep", "begin", "end"]
theorem rd_in_tail (K : PySem.W.Frag) {t : List Nat} {p o c f : Nat} {d : V} {H : Hp} {Q : VK} {D : Ends} {z : Option V} (ht : t.length ≤ 10000) (hp : p ≤ t.length) (hD : D.rt = Q) (q : RetO ((Tx.fwdL o c (t.drop p) p 1).map fun e => (f + 1, e)) H Q) :
    (in_tail K).t D [some (sv t), some (iv p), some (.str ⟨#[o]⟩), some (.str ⟨#[c]⟩), some d, some (iv f), z] H := by
  subst hD
  refine ⟨fun m σ H' => H' = H ∧ ∃ (e : Nat) (d : Int), σ = [some (sv t), some (iv p), some (.str ⟨#[o]⟩), some (.str ⟨#[c]⟩), some (.int d), some (iv f), some (iv e)] ∧ m = t.length - e ∧ e ≤ t.length ∧ Tx.fwdL o c (t.drop e) e d = Tx.fwdL o c (t.drop p) p 1, ⟨_, rfl, p, 1, rfl, rfl, hp, rfl⟩, ?_⟩
  rintro m σ H' ⟨rfl, e, d, rfl, rfl, he, hw⟩
  refine ⟨sz (by rw [len_sv]; omega), ?_⟩
  show if decide ((e : Int) < (((⟨t.toArray⟩ : Str).length : Nat) : Int)) = true then _ else _
  rw [len_sv]
  by_cases h1 : e < t.length
  · rw [if_pos (decide_eq_true (by omega))]
    have hx : t[e]? = some t[e] := List.getElem?_eq_getElem h1
    refine ⟨fun σ' H2 => H2 = H' ∧ (d + Tx.b1 t[e] o - Tx.b1 t[e] c ≠ 0 ∧ σ' = [some (sv t), some (iv p), some (.str ⟨#[o]⟩), some (.str ⟨#[c]⟩), some (.int (d + Tx.b1 t[e] o - Tx.b1 t[e] c)), some (iv f), some (.int ((e : Int) + 1))]), ?_, ?_⟩
    · rintro σ' H2 ⟨rfl, hne, rfl⟩
      refine ⟨t.length - (e + 1), by omega, rfl, e + 1, _, rfl, rfl, by omega, ?_⟩
      rw [← hw]
      conv => rhs; rw [List.drop_eq_getElem_cons h1]; unfold Tx.fwdL
      rw [if_neg hne]
    · refine ⟨sz (by rw [len_sv]; omega), t[e], atI_nat hx, sz (by rw [len_sv]; omega), t[e], atI_nat hx, ?_⟩
      show br (decide (d + (if decide ((⟨#[t[e]]⟩ : Str) = ⟨#[o]⟩) = true then (1 : Int) else 0) - (if decide ((⟨#[t[e]]⟩ : Str) = ⟨#[c]⟩) = true then (1 : Int) else 0) = 0)) _ _
      refine br_d (fun hz => ?_) (fun hz => ?_)
      · rw [int_b1, int_b1] at hz
        refine ⟨by show 2 ≤ sizeLine; decide, fun T hT => ?_⟩
        refine q.2 (f + 1) e ?_ T _ (xt_new hT) upd_same
        rw [← hw, List.drop_eq_getElem_cons h1]
        unfold Tx.fwdL
        rw [if_pos hz]; rfl
      · have hz' := hz
        rw [int_b1, int_b1] at hz'
        refine ⟨rfl, hz', ?_⟩
        rw [← int_b1, ← int_b1]
        rfl
  · rw [if_neg (by simp; omega)]
    have hel : e = t.length := by omega
    subst hel
    refine q.1 ?_ H' (Xt.refl H')
    rw [← hw, List.drop_length]; rfl
theorem bwd_cons (s o x : Nat) (r : List Nat) (d : Int) : Tx.bwdL s o (x :: r) d = if d + Tx.b1 x s - Tx.b1 x o = 0 then some r.length else Tx.bwdL s o r (d + Tx.b1 x s - Tx.b1 x o) := rfl
theorem b1_01 (x y : Nat) : Tx.b1 x y = 0 ∨ Tx.b1 x y = 1 := by unfold Tx.b1; split <;> simp
theorem rd_in_mid (K : PySem.W.Frag) {t : List Nat} {p o c : Nat} {H : Hp} {Q : VK} {D : Ends} {z4 z5 z6 : Option V} (ht : t.length ≤ 10000) (hp : p ≤ t.length) (hoc : o ≠ c) (hD : D.rt = Q) (q : RetO (Tx.insideOf o c t p) H Q) :
    (in_mid K).t D [some (sv t), some (iv p), some (.str ⟨#[o]⟩), some (.str ⟨#[c]⟩), z4, z5, z6] H := by
  refine ⟨fun m σ H' => H' = H ∧ ∃ (b : Nat) (d : Int), σ = [some (sv t), some (iv p), some (.str ⟨#[o]⟩), some (.str ⟨#[c]⟩), some (.int d), some (iv b), z6] ∧ m = b ∧ b ≤ p ∧ ((0 < d ∧ Tx.bwdL c o ((t.take b).reverse) d = Tx.bwdL c o ((t.take p).reverse) 1) ∨ (d = 0 ∧ Tx.bwdL c o ((t.take p).reverse) 1 = some b)), ⟨_, rfl, p, 1, rfl, rfl, Nat.le_refl _, .inl ⟨by decide, rfl⟩⟩, ?_⟩
  rintro m σ H' ⟨rfl, b, d, rfl, rfl, hbp, hw⟩
  have out0 : d = 0 → Tx.bwdL c o ((t.take p).reverse) 1 = some m → (Ss.cons (Sm.ite (Te.cmp Cm.gt (Ex.v 4) (Ex.i 0)) (Ss.cons (Sm.ret Ex.none) Ss.nil) Ss.nil) (in_tail K)).t D [some (sv t), some (iv p), some (.str ⟨#[o]⟩), some (.str ⟨#[c]⟩), some (.int d), some (iv m), z6] H' := by
    intro h0 h1
    subst h0
    refine rd_in_tail K ht hp hD ?_
    unfold Tx.insideOf at q
    rw [h1] at q
    exact q
  have outp : 0 < d → Tx.bwdL c o ((t.take p).reverse) 1 = none → (Ss.cons (Sm.ite (Te.cmp Cm.gt (Ex.v 4) (Ex.i 0)) (Ss.cons (Sm.ret Ex.none) Ss.nil) Ss.nil) (in_tail K)).t D [some (sv t), some (iv p), some (.str ⟨#[o]⟩), some (.str ⟨#[c]⟩), some (.int d), some (iv m), z6] H' := by
    intro h0 h1
    subst hD
    refine br_t (decide_eq_true h0) ?_
    refine q.1 ?_ H' (Xt.refl H')
    unfold Tx.insideOf
    rw [h1]
  cases m with
  | zero =>
    rcases hw with ⟨h0, hw⟩ | ⟨h0, hw⟩
    · exact outp h0 hw.symm
    · exact out0 h0 hw
  | succ b =>
    refine br_d (fun h => ?_) (fun h => absurd (show (0 : Int) < ((b + 1 : Nat) : Int) by omega) h)
    show if decide (0 < d) = true then _ else _
    rcases hw with ⟨h0, hw⟩ | ⟨h0, hw⟩
    · rw [if_pos (decide_eq_true h0)]
      have hb : b < t.length := by omega
      have hx : t[b]? = some t[b] := List.getElem?_eq_getElem hb
      have ei : (((b + 1 : Nat) : Int) - 1) = (b : Int) := by omega
      have et : (t.take (b + 1)).reverse = t[b] :: (t.take b).reverse := by
        rw [List.take_add_one, hx]; simp
      rw [et] at hw
      rw [bwd_cons] at hw
      refine ⟨fun σ' H2 => H2 = H' ∧ σ' = [some (sv t), some (iv p), some (.str ⟨#[o]⟩), some (.str ⟨#[c]⟩), some (.int (d + Tx.b1 t[b] c - Tx.b1 t[b] o)), some (.int (((b + 1 : Nat) : Int) - 1)), z6], ?_, ?_⟩
      · rintro σ' H2 ⟨rfl, rfl⟩
        rw [ei]
        refine ⟨b, by omega, rfl, b, _, rfl, rfl, by omega, ?_⟩
        by_cases hz : d + Tx.b1 t[b] c - Tx.b1 t[b] o = 0
        · rw [if_pos hz] at hw
          refine .inr ⟨hz, ?_⟩
          rw [← hw]; simp; omega
        · rw [if_neg hz] at hw
          refine .inl ⟨?_, hw⟩
          rcases b1_01 t[b] c with h1 | h1 <;> rcases b1_01 t[b] o with h2 | h2 <;> omega
      · refine ⟨sz (by rw [len_sv]; omega), t[b], by rw [ei]; exact atI_nat hx, sz (by rw [len_sv]; omega), t[b], by rw [ei]; exact atI_nat hx, ?_⟩
        rw [← int_b1, ← int_b1]
        exact ⟨rfl, rfl⟩
    · rw [if_neg (by simp; omega)]
      exact out0 h0 hw
theorem rd_inside (K : PySem.W.Frag) : ∀ vs H Q E, sp_inside K vs H Q E → (b_inside K).t { nx := fun _ H' => Q .non H', rt := Q } (start N_inside vs) H := by
  rintro _ H Q E ⟨t, p, o, c, rfl, hk, ht, hp, q⟩
  rcases hk with ⟨rfl, rfl⟩ | ⟨rfl, rfl⟩ | ⟨rfl, rfl⟩
  · exact ⟨0, [], by decide +kernel, by decide, 41, by decide +kernel, rd_in_mid K ht hp (by decide) rfl q⟩
  · exact ⟨1, [], by decide +kernel, by decide, 93, by decide +kernel, rd_in_mid K ht hp (by decide) rfl q⟩
  · exact ⟨2, [], by decide +kernel, by decide, 125, by decide +kernel, rd_in_mid K ht hp (by decide) rfl q⟩
end Ed

/-! areas: the program, whole -/
namespace Ed
open PySem L2 Cb
open Evl (Ev EvT)
def w_by : List Nat := [98, 121]
def w_rows : List Nat := [114, 111, 119, 115]
def w_inside : List Nat := [105, 110, 115, 105, 100, 101]
def w_chosen : List Nat := [99, 104, 111, 115, 101, 110]
def w_signs : List Nat := [115, 105, 103, 110, 115]
inductive Ar where
  | mot (m : Mo) | rows (n : Nat) | word | inside (o c : Nat) | chosen
def ArAt (H : Hp) (a : Addr) : Ar → Prop
  | .mot m => ∃ s, H a = some (.tup [sv w_by, .ref s]) ∧ H s = some (.tup m.vs)
  | .rows n => H a = some (.tup [sv w_rows, iv n])
  | .word => H a = some (.tup [sv w_word])
  | .inside o _ => H a = some (.tup [sv w_inside, .str ⟨#[o]⟩])
  | .chosen => H a = some (.tup [sv w_chosen])
def Ar.ok : Ar → Prop
  | .mot m => m.ok
  | .rows n => nOk n
  | .inside o c => isKind o c
  | _ => True
theorem ArAt.to {H H' : Hp} {a : Addr} {r : Ar} (h : ArAt H a r) (e : Xt H H') : ArAt H' a r := by
  cases r with
  | mot m => obtain ⟨s, h1, h2⟩ := h; exact ⟨s, e a _ h1, e s _ h2⟩
  | rows n => exact e a _ h
  | word => exact e a _ h
  | inside o c => exact e a _ h
  | chosen => exact e a _ h
def sp_is_area (K : PySem.W.Frag) : Sp := fun vs H Q _ => ∃ (a : Addr) (r : Ar), vs = [.ref a] ∧ ArAt H a r ∧ r.ok ∧ RetV (.bl true) H Q
def b_is_area (K : PySem.W.Frag) : Ss K :=
  (Ss.cons (Sm.ite (Te.w (Tw.or (Te.not (Te.val (Ex.isi (As.cons (Ex.v 0) (As.cons (Ex.ty "tuple" "tuple" boot_tuple) As.nil))))) (Tw.or (Te.cmp Cm.eq (Ex.len (As.cons (Ex.v 0) As.nil)) (Ex.i 0)) (Tw.one (Te.not (Te.val (Ex.isi (As.cons (Ex.ix (Ex.v 0) (Ex.i 0)) (As.cons (Ex.ty "str" "str" boot_str) As.nil)))))))))
    (Ss.cons (Sm.ret (Ex.b false))
    Ss.nil)
    Ss.nil)
  (Ss.cons (Sm.ite (Te.cmp Cm.isin (Ex.ix (Ex.v 0) (Ex.i 0)) (Ex.tup (As.cons (Ex.s ⟨#[119, 111, 114, 100]⟩) (As.cons (Ex.s ⟨#[99, 104, 111, 115, 101, 110]⟩) As.nil))))
    (Ss.cons (Sm.ret (Ex.cmp Cm.eq (Ex.len (As.cons (Ex.v 0) As.nil)) (Ex.i 1)))
    Ss.nil)
    Ss.nil)
  (Ss.cons (Sm.ite (Te.cmp Cm.ne (Ex.len (As.cons (Ex.v 0) As.nil)) (Ex.i 2))
    (Ss.cons (Sm.ret (Ex.b false))
    Ss.nil)
    Ss.nil)
  (Ss.cons (Sm.ite (Te.cmp Cm.eq (Ex.ix (Ex.v 0) (Ex.i 0)) (Ex.s ⟨#[98, 121]⟩))
    (Ss.cons (Sm.ret (Ex.call "is_motion" (sp_is_motion K) (As.cons (Ex.ix (Ex.v 0) (Ex.i 1)) As.nil)))
    Ss.nil)
    Ss.nil)
  (Ss.cons (Sm.ite (Te.cmp Cm.eq (Ex.ix (Ex.v 0) (Ex.i 0)) (Ex.s ⟨#[114, 111, 119, 115]⟩))
    (Ss.cons (Sm.ret (Ex.call "is_whole" (sp_is_whole K) (As.cons (Ex.ix (Ex.v 0) (Ex.i 1)) (As.cons (Ex.i 1) (As.cons (Ex.g "TIMES_areas" (.int 9)) As.nil)))))
    Ss.nil)
    Ss.nil)
  (Ss.cons (Sm.ret (Ex.and (Ex.cmp Cm.eq (Ex.ix (Ex.v 0) (Ex.i 0)) (Ex.s ⟨#[105, 110, 115, 105, 100, 101]⟩)) (Ex.and (Ex.isi (As.cons (Ex.ix (Ex.v 0) (Ex.i 1)) (As.cons (Ex.ty "str" "str" boot_str) As.nil))) (Ex.and (Ex.cmp Cm.eq (Ex.len (As.cons (Ex.ix (Ex.v 0) (Ex.i 1)) As.nil)) (Ex.i 1)) (Ex.one (Ex.cmp Cm.isin (Ex.ix (Ex.v 0) (Ex.i 1)) (Ex.g "OPEN" (.str cOPEN))))))))
  Ss.nil))))))
def N_is_area : List Str := ["thing"]
theorem rd_is_area (K : PySem.W.Frag) : ∀ vs H Q E, sp_is_area K vs H Q E → (b_is_area K).t { nx := fun _ H' => Q .non H', rt := Q } (start N_is_area vs) H := by
  rintro _ H Q E ⟨a, r, rfl, ha, hok, q⟩
  cases r with
  | mot m =>
    obtain ⟨s, h1, h2⟩ := ha
    have hS : SqT K H a [sv w_by, .ref s] := SqT.of h1
    refine ⟨rfl, _, _, h1, rfl, _, .inr hS, _, _, .inr hS, atI_nat (j := 0) rfl, rfl, _, rfl, ?_⟩
    refine ⟨_, _, .inr hS, atI_nat (j := 0) rfl, by decide, fun l hl => ⟨l, _, rfl, .inr (SqT.of upd_same), rfl, rfl, ?_⟩⟩
    have e1 : Xt H (upd H l (.tup [sv w_word, sv w_chosen])) := xt_new hl
    refine ⟨_, .inr (SqT.of (e1 a _ h1)), _, _, .inr (SqT.of (e1 a _ h1)), atI_nat (j := 0) rfl, ?_⟩
    exact ⟨_, _, .inr (SqT.of (e1 a _ h1)), atI_nat (j := 1) rfl, s, m, rfl, e1 s _ h2, hok, fun H2 e2 => q H2 (e1.trans e2)⟩
  | rows n =>
    have hS : SqT K H a [sv w_rows, iv n] := SqT.of ha
    refine ⟨rfl, _, _, ha, rfl, _, .inr hS, _, _, .inr hS, atI_nat (j := 0) rfl, rfl, _, rfl, ?_⟩
    refine ⟨_, _, .inr hS, atI_nat (j := 0) rfl, by decide, fun l hl => ⟨l, _, rfl, .inr (SqT.of upd_same), rfl, rfl, ?_⟩⟩
    have e1 : Xt H (upd H l (.tup [sv w_word, sv w_chosen])) := xt_new hl
    have hS1 : SqT K (upd H l (.tup [sv w_word, sv w_chosen])) a [sv w_rows, iv n] := SqT.of (e1 a _ ha)
    refine ⟨_, .inr hS1, _, _, .inr hS1, atI_nat (j := 0) rfl, _, _, .inr hS1, atI_nat (j := 0) rfl, _, _, .inr hS1, atI_nat (j := 1) rfl, iv n, 1, 9, rfl, trivial, ?_⟩
    have e : isWhole (iv n) 1 9 = true := by
      show (decide ((1 : Int) ≤ (n : Int)) && decide ((n : Int) ≤ 9)) = true
      have h9 : nOk n := hok
      unfold nOk at h9
      simp; omega
    rw [e]; exact q _ e1
  | word =>
    have hS : SqT K H a [sv w_word] := SqT.of ha
    refine ⟨rfl, _, _, ha, rfl, _, .inr hS, _, _, .inr hS, atI_nat (j := 0) rfl, rfl, _, rfl, ?_⟩
    refine ⟨_, _, .inr hS, atI_nat (j := 0) rfl, by decide, fun l hl => ⟨l, _, rfl, .inr (SqT.of upd_same), rfl, rfl, ?_⟩⟩
    have e1 : Xt H (upd H l (.tup [sv w_word, sv w_chosen])) := xt_new hl
    exact ⟨_, .inr (SqT.of (e1 a _ ha)), q _ e1⟩
  | inside o c =>
    have hS : SqT K H a [sv w_inside, .str ⟨#[o]⟩] := SqT.of ha
    refine ⟨rfl, _, _, ha, rfl, _, .inr hS, _, _, .inr hS, atI_nat (j := 0) rfl, rfl, _, rfl, ?_⟩
    refine ⟨_, _, .inr hS, atI_nat (j := 0) rfl, by decide, fun l hl => ⟨l, _, rfl, .inr (SqT.of upd_same), rfl, rfl, ?_⟩⟩
    have e1 : Xt H (upd H l (.tup [sv w_word, sv w_chosen])) := xt_new hl
    have hS1 : SqT K (upd H l (.tup [sv w_word, sv w_chosen])) a [sv w_inside, .str ⟨#[o]⟩] := SqT.of (e1 a _ ha)
    refine ⟨_, .inr hS1, _, _, .inr hS1, atI_nat (j := 0) rfl, _, _, .inr hS1, atI_nat (j := 0) rfl, _, _, .inr hS1, atI_nat (j := 0) rfl, _, _, .inr hS1, atI_nat (j := 1) rfl, rfl, _, rfl, ?_⟩
    refine ⟨_, _, .inr hS1, atI_nat (j := 1) rfl, by show 1 ≤ sizeLine; decide, _, _, .inr hS1, atI_nat (j := 1) rfl, ?_⟩
    have g := q _ e1
    have hk : isKind o c := hok
    rcases hk with ⟨rfl, rfl⟩ | ⟨rfl, rfl⟩ | ⟨rfl, rfl⟩ <;> exact g
  | chosen =>
    have hS : SqT K H a [sv w_chosen] := SqT.of ha
    refine ⟨rfl, _, _, ha, rfl, _, .inr hS, _, _, .inr hS, atI_nat (j := 0) rfl, rfl, _, rfl, ?_⟩
    refine ⟨_, _, .inr hS, atI_nat (j := 0) rfl, by decide, fun l hl => ⟨l, _, rfl, .inr (SqT.of upd_same), rfl, rfl, ?_⟩⟩
    have e1 : Xt H (upd H l (.tup [sv w_word, sv w_chosen])) := xt_new hl
    exact ⟨_, .inr (SqT.of (e1 a _ ha)), q _ e1⟩
/-- the rows from a place on -/
def lastRow (t : List Nat) (p n : Nat) : Nat := min ((Tx.rows t).length - 1) (Tx.rowOf t p + n - 1)
def rowsA (t : List Nat) (p n : Nat) : Nat × Nat := (Tx.offs (Tx.rows t) (Tx.rowOf t p), Tx.endOf t (Tx.offs (Tx.rows t) (lastRow t p n)))
def sp_rows_from (K : PySem.W.Frag) : Sp := fun vs H Q _ => ∃ (t : List Nat) (p n : Nat), vs = [sv t, iv p, iv n] ∧ t.length ≤ 10000 ∧ p ≤ t.length ∧ 1 ≤ n ∧ RetT [iv (rowsA t p n).1, iv (rowsA t p n).2] H Q
def b_rows_from (K : PySem.W.Frag) : Ss K :=
  (Ss.cons (Sm.set 3 (Ex.call "begins" (sp_begins K) (As.cons (Ex.v 0) As.nil)))
  (Ss.cons (Sm.set 4 (Ex.call "row_of" (sp_row_of K) (As.cons (Ex.v 0) (As.cons (Ex.v 1) As.nil))))
  (Ss.cons (Sm.set 5 (Ex.min (As.cons (Ex.sub (Ex.len (As.cons (Ex.v 3) As.nil)) (Ex.i 1)) (As.cons (Ex.sub (Ex.add (Ex.v 4) (Ex.v 2)) (Ex.i 1)) As.nil))))
  (Ss.cons (Sm.ret (Ex.tup (As.cons (Ex.ix (Ex.v 3) (Ex.v 4)) (As.cons (Ex.call "end_of" (sp_end_of K) (As.cons (Ex.v 0) (As.cons (Ex.ix (Ex.v 3) (Ex.v 5)) As.nil))) As.nil))))
  Ss.nil))))
def N_rows_from : List Str := ["text", "place", "many", "some", "first", "last"]
theorem rd_rows_from (K : PySem.W.Frag) : ∀ vs H Q E, sp_rows_from K vs H Q E → (b_rows_from K).t { nx := fun _ H' => Q .non H', rt := Q } (start N_rows_from vs) H := by
  rintro _ H Q E ⟨t, p, n, rfl, ht, hp, hn, q⟩
  have hrow := Tx.row_lt hp
  have hbl := Tx.begins_length t
  have hlast : lastRow t p n < (Tx.rows t).length := by unfold lastRow; omega
  refine ⟨t, rfl, ht, fun l H1 hl e1 h1 => ?_⟩
  refine ⟨t, p, rfl, ht, hp, ?_⟩
  refine ⟨_, .inl (SqL.of h1), ?_⟩
  have ell : (nats (Tx.begins t)).length = (Tx.rows t).length := by simp [nats, hbl]
  have em : min (((nats (Tx.begins t)).length : Int) - 1) (((Tx.rowOf t p : Nat) : Int) + (n : Int) - 1) = ((lastRow t p n : Nat) : Int) := by
    rw [ell]; unfold lastRow; omega
  have hb : ∀ r, r < (Tx.rows t).length → atI (nats (Tx.begins t)) (r : Int) = some (iv (Tx.offs (Tx.rows t) r)) := fun r hr => atI_nat (by unfold nats; rw [List.getElem?_map, Tx.begins_at t r hr]; rfl)
  refine ⟨_, _, .inl (SqL.of h1), hb _ hrow, ?_⟩
  refine ⟨_, iv (Tx.offs (Tx.rows t) (lastRow t p n)), .inl (SqL.of h1), ?_, ?_⟩
  · rw [em]; exact hb _ hlast
  · obtain ⟨w, hw⟩ : ∃ w, (Tx.rows t)[lastRow t p n]? = some w := ⟨_, List.getElem?_eq_getElem hlast⟩
    have := Tx.offs_le t _ w hw
    refine ⟨t, _, rfl, ht, by omega, by show 2 ≤ sizeLine; decide, fun T hT => ?_⟩
    exact q T _ (xt_none e1 hT) (e1.trans (xt_new hT)) upd_same
def span (p g : Nat) : Nat × Nat := (min p g, max p g)
def signsA : Option (Nat × Nat) → Option (List V)
  | none => none
  | some (b, e) => if b = e then none else some [sv w_signs, iv b, iv e]
/-- the area by a place -/
def areaBy (t : List Nat) (p c : Nat) (mk : Nat → Option Nat) (pat : Option (List Nat)) (an : Option Nat) : Ar → Option (List V)
  | .rows n => some [sv w_rows, iv (rowsA t p n).1, iv (rowsA t p n).2]
  | .mot m => signsA ((goBy t p c mk pat m).map (span p))
  | .word => signsA (wordAt t p)
  | .inside o s => signsA (Tx.insideOf o s t p)
  | .chosen => signsA (an.map (span p))
def RetA (o : Option (List V)) (H : Hp) (Q : VK) : Prop := (o = none → RetV .non H Q) ∧ ∀ vs, o = some vs → RetT vs H Q
theorem RetA.to {o : Option (List V)} {H H' : Hp} {Q : VK} (h : RetA o H Q) (e : Xt H H') : RetA o H' Q :=
  ⟨fun z H2 e2 => h.1 z H2 (e.trans e2), fun vs z p H2 hp e2 => h.2 vs z p H2 (xt_none e hp) (e.trans e2)⟩
def FoundAt (H : Hp) (v : V) : Option (Nat × Nat) → Prop
  | none => v = .non
  | some (b, e) => ∃ q, v = .ref q ∧ H q = some (.tup [iv b, iv e])
/-- by what is asked of a found pair to what is returned -/
theorem retO_of {o : Option (Nat × Nat)} {H : Hp} {Q : VK} (h : ∀ v H', Xt H H' → FoundAt H' v o → Q v H') : RetO o H Q := by
  constructor
  · intro z H' e
    subst z
    exact h _ _ e rfl
  · intro b e z p H' x hq
    subst z
    exact h _ _ x ⟨p, rfl, hq⟩
theorem max_nat (a b : Nat) : max (a : Int) (b : Int) = ((max a b : Nat) : Int) := by omega
theorem min_nat (a b : Nat) : min (a : Int) (b : Int) = ((min a b : Nat) : Int) := by omega
theorem rd_fin9 (K : PySem.W.Frag) {f : Option (Nat × Nat)} {v : V} {H : Hp} {Q : VK} {D : Ends} {a0 a1 a2 a3 a4 a5 a6 a7 a8 a10 : Option V} (hv : FoundAt H v f) (q : RetA (signsA f) H Q) (hD : D.rt = Q) :
    (Ss.cons (Sm.ite (Te.w (Tw.or (Te.cmp Cm.is (Ex.v 9) Ex.none) (Tw.one (Te.cmp Cm.eq (Ex.ix (Ex.v 9) (Ex.i 0)) (Ex.ix (Ex.v 9) (Ex.i 1))))))
    (Ss.cons (Sm.ret Ex.none)
    Ss.nil)
    Ss.nil)
  (Ss.cons (Sm.ret (Ex.add (Ex.tup (As.cons (Ex.s ⟨#[115, 105, 103, 110, 115]⟩) As.nil)) (Ex.v 9)))
  Ss.nil) : Ss K).t D [a0, a1, a2, a3, a4, a5, a6, a7, a8, some v, a10] H := by
  subst hD
  cases f with
  | none =>
    cases (show v = .non from hv)
    exact q.1 rfl H (Xt.refl H)
  | some be =>
    obtain ⟨b, e⟩ := be
    obtain ⟨l, rfl, hl⟩ := hv
    have hS : SqT K H l [iv b, iv e] := SqT.of hl
    refine ⟨_, _, .inr hS, atI_nat (j := 0) rfl, _, _, .inr hS, atI_nat (j := 1) rfl, ?_⟩
    refine br_d (fun h => ?_) (fun h => ?_)
    · refine q.1 ?_ H (Xt.refl H)
      simp only [signsA]
      rw [if_pos (by omega)]
    · refine ⟨by decide, fun l2 hl2 => ?_⟩
      have x2 := xt_new (o := .tup [sv w_signs]) hl2
      refine .inr ⟨l2, l, [sv w_signs], [iv b, iv e], rfl, rfl, SqT.of upd_same, SqT.of (x2 l _ hl), by simp, by show 3 ≤ sizeLine; decide, fun z => by simp at z, fun _ p hp => ?_⟩
      refine q.2 _ ?_ p _ (xt_none x2 hp) (x2.trans (xt_new hp)) upd_same
      simp only [signsA]
      rw [if_neg (by omega)]
      rfl
theorem rd_fin3 (K : PySem.W.Frag) {f : Option (Nat × Nat)} {v : V} {H : Hp} {Q : VK} {D : Ends} {a0 a1 a2 a4 a5 a6 a7 a8 : Option V} (hv : FoundAt H v f) (q : RetA (signsA f) H Q) (hD : D.rt = Q) :
    (Ss.cons (Sm.ite (Te.w (Tw.or (Te.cmp Cm.is (Ex.v 3) Ex.none) (Tw.one (Te.cmp Cm.eq (Ex.ix (Ex.v 3) (Ex.i 0)) (Ex.ix (Ex.v 3) (Ex.i 1))))))
    (Ss.cons (Sm.ret Ex.none)
    Ss.nil)
    Ss.nil)
  (Ss.cons (Sm.ret (Ex.add (Ex.tup (As.cons (Ex.s ⟨#[115, 105, 103, 110, 115]⟩) As.nil)) (Ex.v 3)))
  Ss.nil) : Ss K).t D [a0, a1, a2, some v, a4, a5, a6, a7, a8] H := by
  subst hD
  cases f with
  | none =>
    cases (show v = .non from hv)
    exact q.1 rfl H (Xt.refl H)
  | some be =>
    obtain ⟨b, e⟩ := be
    obtain ⟨l, rfl, hl⟩ := hv
    have hS : SqT K H l [iv b, iv e] := SqT.of hl
    refine ⟨_, _, .inr hS, atI_nat (j := 0) rfl, _, _, .inr hS, atI_nat (j := 1) rfl, ?_⟩
    refine br_d (fun h => ?_) (fun h => ?_)
    · refine q.1 ?_ H (Xt.refl H)
      simp only [signsA]
      rw [if_pos (by omega)]
    · refine ⟨by decide, fun l2 hl2 => ?_⟩
      have x2 := xt_new (o := .tup [sv w_signs]) hl2
      refine .inr ⟨l2, l, [sv w_signs], [iv b, iv e], rfl, rfl, SqT.of upd_same, SqT.of (x2 l _ hl), by simp, by show 3 ≤ sizeLine; decide, fun z => by simp at z, fun _ p hp => ?_⟩
      refine q.2 _ ?_ p _ (xt_none x2 hp) (x2.trans (xt_new hp)) upd_same
      simp only [signsA]
      rw [if_neg (by omega)]
      rfl
def sp_area_by (K : PySem.W.Frag) : Sp := fun vs H Q _ => ∃ (t : List Nat) (p : Nat) (a : Addr) (r : Ar) (an : Option Nat) (c : Nat) (d : Addr) (kvs : List (Key × V)) (mk : Nat → Option Nat) (pat : Option (List Nat)), vs = [sv t, iv p, .ref a, vo an, iv c, .ref d, pv pat] ∧ ArAt H a r ∧ r.ok ∧ H d = some (.dK kvs) ∧ MarkOk kvs mk ∧ PatOk pat ∧ t.length ≤ 10000 ∧ p ≤ t.length ∧ RetA (areaBy t p c mk pat an r) H Q
def b_area_by (K : PySem.W.Frag) : Ss K :=
  (Ss.cons (Sm.ite (Te.cmp Cm.eq (Ex.ix (Ex.v 2) (Ex.i 0)) (Ex.s ⟨#[114, 111, 119, 115]⟩))
    (Ss.cons (Sm.asg (Tg.tup (Tgs.cons (Tg.v 7) (Tgs.cons (Tg.v 8) Tgs.nil))) (Ex.call "rows_from" (sp_rows_from K) (As.cons (Ex.v 0) (As.cons (Ex.v 1) (As.cons (Ex.ix (Ex.v 2) (Ex.i 1)) As.nil)))))
    (Ss.cons (Sm.ret (Ex.tup (As.cons (Ex.s ⟨#[114, 111, 119, 115]⟩) (As.cons (Ex.v 7) (As.cons (Ex.v 8) As.nil)))))
    Ss.nil))
    Ss.nil)
  (Ss.cons (Sm.set 9 Ex.none)
  (Ss.cons (Sm.ite (Te.cmp Cm.eq (Ex.ix (Ex.v 2) (Ex.i 0)) (Ex.s ⟨#[98, 121]⟩))
    (Ss.cons (Sm.set 10 (Ex.call "place_by" (sp_place_by K) (As.cons (Ex.v 0) (As.cons (Ex.v 1) (As.cons (Ex.ix (Ex.v 2) (Ex.i 1)) (As.cons (Ex.v 4) (As.cons (Ex.v 5) (As.cons (Ex.v 6) As.nil))))))))
    (Ss.cons (Sm.set 9 (Ex.ifx (Te.cmp Cm.is (Ex.v 10) Ex.none) Ex.none (Ex.tup (As.cons (Ex.min (As.cons (Ex.v 1) (As.cons (Ex.v 10) As.nil))) (As.cons (Ex.max (As.cons (Ex.v 1) (As.cons (Ex.v 10) As.nil))) As.nil)))))
    Ss.nil))
    (Ss.cons (Sm.ite (Te.cmp Cm.eq (Ex.ix (Ex.v 2) (Ex.i 0)) (Ex.s ⟨#[119, 111, 114, 100]⟩))
      (Ss.cons (Sm.set 9 (Ex.call "word_at" (sp_word_at K) (As.cons (Ex.v 0) (As.cons (Ex.v 1) As.nil))))
      Ss.nil)
      (Ss.cons (Sm.ite (Te.cmp Cm.eq (Ex.ix (Ex.v 2) (Ex.i 0)) (Ex.s ⟨#[105, 110, 115, 105, 100, 101]⟩))
        (Ss.cons (Sm.set 9 (Ex.call "inside" (sp_inside K) (As.cons (Ex.v 0) (As.cons (Ex.v 1) (As.cons (Ex.ix (Ex.v 2) (Ex.i 1)) As.nil)))))
        Ss.nil)
        (Ss.cons (Sm.ite (Te.cmp Cm.isNot (Ex.v 3) Ex.none)
          (Ss.cons (Sm.set 9 (Ex.tup (As.cons (Ex.min (As.cons (Ex.v 1) (As.cons (Ex.v 3) As.nil))) (As.cons (Ex.max (As.cons (Ex.v 1) (As.cons (Ex.v 3) As.nil))) As.nil))))
          Ss.nil)
          Ss.nil)
        Ss.nil))
      Ss.nil))
    Ss.nil))
  (Ss.cons (Sm.ite (Te.w (Tw.or (Te.cmp Cm.is (Ex.v 9) Ex.none) (Tw.one (Te.cmp Cm.eq (Ex.ix (Ex.v 9) (Ex.i 0)) (Ex.ix (Ex.v 9) (Ex.i 1))))))
    (Ss.cons (Sm.ret Ex.none)
    Ss.nil)
    Ss.nil)
  (Ss.cons (Sm.ret (Ex.add (Ex.tup (As.cons (Ex.s ⟨#[115, 105, 103, 110, 115]⟩) As.nil)) (Ex.v 9)))
  Ss.nil)))))
def N_area_by : List Str := ["text", "place", "area", "anchor", "column", "marks", "pattern", "begin", "end", "found", "goal"]
theorem rd_area_by (K : PySem.W.Frag) : ∀ vs H Q E, sp_area_by K vs H Q E → (b_area_by K).t { nx := fun _ H' => Q .non H', rt := Q } (start N_area_by vs) H := by
  rintro _ H Q E ⟨t, p, a, r, an, c, d, kvs, mk, pat, rfl, ha, hok, hd, hmk, hpat, ht, hp, q⟩
  cases r with
  | rows n =>
    have hS : SqT K H a [sv w_rows, iv n] := SqT.of ha
    refine ⟨_, _, .inr hS, atI_nat (j := 0) rfl, _, _, .inr hS, atI_nat (j := 1) rfl, t, p, n, rfl, ht, hp, (show nOk n from hok).1, fun s H1 hs e1 h1 => ?_⟩
    refine ⟨s, _, rfl, SqT.of h1, rfl, rfl, by show 3 ≤ sizeLine; decide, fun T hT => ?_⟩
    exact q.2 _ rfl T _ (xt_none e1 hT) (e1.trans (xt_new hT)) upd_same
  | mot m =>
    obtain ⟨s, h1, h2⟩ := ha
    have hS : SqT K H a [sv w_by, .ref s] := SqT.of h1
    refine ⟨_, _, .inr hS, atI_nat (j := 0) rfl, _, _, .inr hS, atI_nat (j := 0) rfl, _, _, .inr hS, atI_nat (j := 1) rfl, ?_⟩
    refine ⟨t, p, s, m, c, d, kvs, mk, pat, rfl, h2, hd, hmk, hpat, hok, ht, hp, fun H1 e1 => ?_⟩
    have g := q.to e1
    simp only [areaBy] at g
    cases hg : goBy t p c mk pat m with
    | none =>
      rw [hg] at g
      exact g.1 rfl H1 (Xt.refl H1)
    | some k =>
      rw [hg] at g
      refine ⟨by show 2 ≤ sizeLine; decide, fun T hT => ?_⟩
      refine rd_fin9 K (f := some (span p k)) ⟨T, rfl, ?_⟩ (g.to (xt_new hT)) rfl
      rw [upd_same, min_nat, max_nat]
  | word =>
    have hS : SqT K H a [sv w_word] := SqT.of ha
    refine ⟨_, _, .inr hS, atI_nat (j := 0) rfl, _, _, .inr hS, atI_nat (j := 0) rfl, _, _, .inr hS, atI_nat (j := 0) rfl, ?_⟩
    refine ⟨t, p, rfl, ht, hp, retO_of fun v H1 e1 hv => ?_⟩
    exact rd_fin9 K hv (q.to e1) rfl
  | inside o s =>
    have hS : SqT K H a [sv w_inside, .str ⟨#[o]⟩] := SqT.of ha
    refine ⟨_, _, .inr hS, atI_nat (j := 0) rfl, _, _, .inr hS, atI_nat (j := 0) rfl, _, _, .inr hS, atI_nat (j := 0) rfl, _, _, .inr hS, atI_nat (j := 0) rfl, _, _, .inr hS, atI_nat (j := 1) rfl, ?_⟩
    refine ⟨t, p, o, s, rfl, hok, ht, hp, retO_of fun v H1 e1 hv => ?_⟩
    exact rd_fin9 K hv (q.to e1) rfl
  | chosen =>
    have hS : SqT K H a [sv w_chosen] := SqT.of ha
    refine ⟨_, _, .inr hS, atI_nat (j := 0) rfl, _, _, .inr hS, atI_nat (j := 0) rfl, _, _, .inr hS, atI_nat (j := 0) rfl, _, _, .inr hS, atI_nat (j := 0) rfl, ?_⟩
    cases an with
    | none =>
      exact q.1 rfl H (Xt.refl H)
    | some k =>
      refine ⟨by show 2 ≤ sizeLine; decide, fun T hT => ?_⟩
      refine rd_fin9 K (f := some (span p k)) ⟨T, rfl, ?_⟩ (q.to (xt_new hT)) rfl
      rw [upd_same, min_nat, max_nat]
def sp_area_of (K : PySem.W.Frag) : Sp := fun vs H Q _ => ∃ (t : List Nat) (p : Nat) (a : Addr) (r : Ar), vs = [sv t, iv p, .ref a] ∧ ArAt H a r ∧ r.ok ∧ isText t ∧ p ≤ t.length ∧ RetA (areaBy t p (Tx.colOf t p) (fun _ => none) none none r) H Q
def b_area_of (K : PySem.W.Frag) : Ss K :=
  (Ss.cons (Sm.ex (Ex.call "need_place" (sp_need_place K) (As.cons (Ex.v 0) (As.cons (Ex.v 1) As.nil))))
  (Ss.cons (Sm.ite (Te.not (Te.val (Ex.call "is_area" (sp_is_area K) (As.cons (Ex.v 2) As.nil))))
    (Ss.cons Sm.never
    Ss.nil)
    Ss.nil)
  (Ss.cons (Sm.ret (Ex.call "area_by" (sp_area_by K) (As.cons (Ex.v 0) (As.cons (Ex.v 1) (As.cons (Ex.v 2) (As.cons Ex.none (As.cons (Ex.sub (Ex.v 1) (Ex.call "begin_of" (sp_begin_of K) (As.cons (Ex.v 0) (As.cons (Ex.v 1) As.nil)))) (As.cons Ex.dnew (As.cons Ex.none As.nil)))))))))
  Ss.nil)))
def N_area_of : List Str := ["text", "place", "area"]
theorem rd_area_of (K : PySem.W.Frag) : ∀ vs H Q E, sp_area_of K vs H Q E → (b_area_of K).t { nx := fun _ H' => Q .non H', rt := Q } (start N_area_of vs) H := by
  rintro _ H Q E ⟨t, p, a, r, rfl, ha, hok, ht, hp, q⟩
  refine ⟨t, p, rfl, ht, hp, fun H1 e1 => ?_⟩
  refine ⟨a, r, rfl, ha.to e1, hok, fun H2 e2 => ?_⟩
  refine ⟨t, p, rfl, hp, ?_⟩
  intro d hd
  have e3 : Xt H (upd H2 d (.dK [])) := (e1.trans e2).trans (xt_new hd)
  obtain ⟨b1, _, _⟩ := Tx.begin_spec t p hp
  have e4 : (p : Int) - ((Tx.beginOf t p : Nat) : Int) = ((Tx.colOf t p : Nat) : Int) := by unfold Tx.colOf; omega
  refine ⟨t, p, a, r, none, Tx.colOf t p, d, [], fun _ => none, none, ?_, ha.to e3, hok, upd_same, fun _ => rfl, trivial, by have := ht.1; omega, hp, q.to e3⟩
  show [sv t, iv p, V.ref a, V.non, V.int ((p : Int) - ((Tx.beginOf t p : Nat) : Int)), V.ref d, V.non] = _
  rw [e4]; rfl
end Ed

/-! there and back: the plain laws -/
namespace Tx
/-- the pairs that the law's stack makes -/
def prs (o c : Nat) : List Nat → Nat → List Nat → List (Nat × Nat)
  | [], _, _ => []
  | x :: r, i, st => if x = o then prs o c r (i + 1) (i :: st) else if x = c then (match st with
    | f :: st2 => (f, i) :: prs o c r (i + 1) st2
    | [] => prs o c r (i + 1) []) else prs o c r (i + 1) st
def firstOf (p : Nat) : List (Nat × Nat) → Option Nat
  | [] => none
  | (f, i) :: r => if p = f ∨ p = i then some (i + f - p) else firstOf p r
theorem go_prs {o c p : Nat} (h : o ≠ c) : ∀ (r : List Nat) (i : Nat) (st : List Nat), lawGo o c p r i st = firstOf p (prs o c r i st)
  | [], _, _ => rfl
  | x :: r, i, st => by
    by_cases h1 : x = o
    · subst h1
      rw [go_o h, go_prs h]; simp [prs]
    · by_cases h2 : x = c
      · subst h2
        cases st with
        | nil => rw [go_c0 h, go_prs h]; simp [prs, h1]
        | cons f st =>
          rw [go_c h, go_prs h]
          simp [prs, h1, firstOf]
      · rw [go_x h1 h2, go_prs h]; simp [prs, h1, h2]
/-- no place stands in two pairs -/
theorem prs_in {o c : Nat} : ∀ (r : List Nat) (i : Nat) (st : List Nat) (f e : Nat), (∀ s ∈ st, s < i) → (f, e) ∈ prs o c r i st → f < e ∧ i ≤ e ∧ (f ∈ st ∨ i ≤ f)
  | [], _, _, _, _, _, h => by simp [prs] at h
  | x :: r, i, st, f, e, hs, h => by
    unfold prs at h
    split at h
    · obtain ⟨h1, h2, h3⟩ := prs_in r (i + 1) (i :: st) f e (fun s hs' => by
        rcases List.mem_cons.mp hs' with z | z
        · omega
        · have := hs s z; omega) h
      refine ⟨h1, by omega, ?_⟩
      rcases h3 with z | z
      · rcases List.mem_cons.mp z with z | z
        · exact .inr (by omega)
        · exact .inl z
      · exact .inr (by omega)
    · split at h
      · cases st with
        | nil =>
          obtain ⟨h1, h2, h3⟩ := prs_in r (i + 1) [] f e (by simp) h
          refine ⟨h1, by omega, .inr ?_⟩
          rcases h3 with z | z
          · cases z
          · omega
        | cons g st2 =>
          rcases List.mem_cons.mp h with z | z
          · injection z with z1 z2
            subst z1 z2
            exact ⟨hs f (List.mem_cons_self ..), Nat.le_refl _, .inl (List.mem_cons_self ..)⟩
          · obtain ⟨h1, h2, h3⟩ := prs_in r (i + 1) st2 f e (fun s hs' => by have := hs s (List.mem_cons_of_mem _ hs'); omega) z
            refine ⟨h1, by omega, ?_⟩
            rcases h3 with z | z
            · exact .inl (List.mem_cons_of_mem _ z)
            · exact .inr (by omega)
      · obtain ⟨h1, h2, h3⟩ := prs_in r (i + 1) st f e (fun s hs' => by have := hs s hs'; omega) h
        refine ⟨h1, by omega, ?_⟩
        rcases h3 with z | z
        · exact .inl z
        · exact .inr (by omega)
/-- what comes later stands apart from a pair -/
theorem prs_uniq {o c : Nat} : ∀ (r : List Nat) (i : Nat) (st : List Nat), (∀ s ∈ st, s < i) → st.Nodup → ∀ f e g k, (f, e) ∈ prs o c r i st → (g, k) ∈ prs o c r i st → (f = g ∨ f = k ∨ e = g ∨ e = k) → f = g ∧ e = k
  | [], _, _, _, _, f, e, g, k, h, _, _ => by simp [prs] at h
  | x :: r, i, st, hs, hn, f, e, g, k, h, h', ho => by
    unfold prs at h h'
    split at h
    · rename_i hx
      rw [if_pos hx] at h'
      exact prs_uniq r (i + 1) (i :: st) (fun s hs' => by
        rcases List.mem_cons.mp hs' with z | z
        · omega
        · have := hs s z; omega) (List.nodup_cons.mpr ⟨fun z => by have := hs i z; omega, hn⟩) f e g k h h' ho
    · rename_i hx
      rw [if_neg hx] at h'
      split at h
      · rename_i hc
        rw [if_pos hc] at h'
        cases st with
        | nil => exact prs_uniq r (i + 1) [] (by simp) (by simp) f e g k h h' ho
        | cons q st2 =>
          have hs2 : ∀ s ∈ st2, s < i + 1 := fun s hs' => by have := hs s (List.mem_cons_of_mem _ hs'); omega
          have hq := hs q (List.mem_cons_self ..)
          have hqn : q ∉ st2 := (List.nodup_cons.mp hn).1
          have apart : ∀ a b, (a, b) ∈ prs o c r (i + 1) st2 → a ≠ q ∧ a ≠ i ∧ b ≠ q ∧ b ≠ i := fun a b hab => by
            obtain ⟨p1, p2, p3⟩ := prs_in r (i + 1) st2 a b hs2 hab
            refine ⟨fun z => ?_, fun z => ?_, by omega, by omega⟩
            · rcases p3 with p3 | p3
              · exact hqn (z ▸ p3)
              · omega
            · rcases p3 with p3 | p3
              · have := hs a (List.mem_cons_of_mem _ p3); omega
              · omega
          rcases List.mem_cons.mp h with z | z <;> rcases List.mem_cons.mp h' with z' | z'
          · injection z with z1 z2
            injection z' with z3 z4
            exact ⟨z1.trans z3.symm, z2.trans z4.symm⟩
          · injection z with z1 z2
            obtain ⟨a1, a2, a3, a4⟩ := apart g k z'
            omega
          · injection z' with z1 z2
            obtain ⟨a1, a2, a3, a4⟩ := apart f e z
            omega
          · exact prs_uniq r (i + 1) st2 hs2 (List.nodup_cons.mp hn).2 f e g k z z' ho
      · rename_i hc
        rw [if_neg hc] at h'
        exact prs_uniq r (i + 1) st (fun s hs' => by have := hs s hs'; omega) hn f e g k h h' ho
theorem first_some {p q : Nat} : ∀ (l : List (Nat × Nat)), firstOf p l = some q → ∃ f e, (f, e) ∈ l ∧ (p = f ∨ p = e) ∧ q = e + f - p
  | [], h => by cases h
  | (f, e) :: r, h => by
    unfold firstOf at h
    split at h
    · rename_i hp
      injection h with h
      exact ⟨f, e, List.mem_cons_self .., hp, h.symm⟩
    · obtain ⟨g, k, h1, h2, h3⟩ := first_some r h
      exact ⟨g, k, List.mem_cons_of_mem _ h1, h2, h3⟩
theorem first_mem {q f e : Nat} : ∀ (l : List (Nat × Nat)), (f, e) ∈ l → (q = f ∨ q = e) → ∃ g k, (g, k) ∈ l ∧ (q = g ∨ q = k) ∧ firstOf q l = some (k + g - q)
  | [], h, _ => by cases h
  | (g, k) :: r, h, hq => by
    unfold firstOf
    by_cases hp : q = g ∨ q = k
    · exact ⟨g, k, List.mem_cons_self .., hp, by rw [if_pos hp]⟩
    · rcases List.mem_cons.mp h with z | z
      · injection z with z1 z2
        subst z1 z2
        exact absurd hq hp
      · obtain ⟨a, b, h1, h2, h3⟩ := first_mem r z hq
        exact ⟨a, b, List.mem_cons_of_mem _ h1, h2, by rw [if_neg hp, h3]⟩
theorem go_back {o c p q : Nat} (h : o ≠ c) {t : List Nat} (hp : lawGo o c p t 0 [] = some q) : lawGo o c q t 0 [] = some p ∧ q ≠ p := by
  rw [go_prs h] at hp ⊢
  obtain ⟨f, e, h1, h2, h3⟩ := first_some _ hp
  obtain ⟨p1, _, _⟩ := prs_in t 0 [] f e (by simp) h1
  have hq : q = f ∨ q = e := by omega
  obtain ⟨g, k, g1, g2, g3⟩ := first_mem _ h1 hq
  obtain ⟨u1, u2⟩ := prs_uniq t 0 [] (by simp) (by simp) f e g k h1 g1 (by omega)
  subst u1 u2
  refine ⟨?_, by omega⟩
  rw [g3]
  congr 1
  omega
end Tx

/-! k27, plain -/
namespace Tx
theorem pair_back {t : List Nat} {p q : Nat} (h : pairOf t p = some q) : pairOf t q = some p ∧ q ≠ p := by
  rw [← pair_law] at h ⊢
  have at_ : ∀ o c, o ≠ c → ∀ p q, lawGo o c p t 0 [] = some q → ∃ x, t[p]? = some x ∧ (x = o ∨ x = c) := by
    intro o c hoc p q hg
    by_cases hx : ∃ x, t[p]? = some x ∧ (x = o ∨ x = c)
    · exact hx
    · rw [go_none hoc t 0 [] (by simp) (fun k x hk he => by
        have : k = p := by omega
        subst this
        exact ⟨fun z => hx ⟨x, hk, .inl z⟩, fun z => hx ⟨x, hk, .inr z⟩⟩)] at hg
      cases hg
  have no : ∀ o c, o ≠ c → ∀ p x, t[p]? = some x → x ≠ o → x ≠ c → lawGo o c p t 0 [] = none := by
    intro o c hoc p x hx h1 h2
    refine go_none hoc t 0 [] (by simp) (fun k y hk he => ?_)
    have : k = p := by omega
    subst this
    rw [hx] at hk
    cases hk
    exact ⟨h1, h2⟩
  unfold lawPair at h ⊢
  cases h1 : lawGo 40 41 p t 0 [] with
  | some y =>
    rw [h1] at h
    simp only at h
    injection h with h
    subst h
    obtain ⟨b1, b2⟩ := go_back (by decide) h1
    rw [b1]
    exact ⟨rfl, b2⟩
  | none =>
    rw [h1] at h
    simp only at h
    cases h2 : lawGo 91 93 p t 0 [] with
    | some y =>
      rw [h2] at h
      simp only at h
      injection h with h
      subst h
      obtain ⟨b1, b2⟩ := go_back (by decide) h2
      obtain ⟨x, hx, hx2⟩ := at_ 91 93 (by decide) _ _ b1
      rw [no 40 41 (by decide) _ x hx (by omega) (by omega)]
      simp only
      rw [b1]
      exact ⟨rfl, b2⟩
    | none =>
      rw [h2] at h
      simp only at h
      obtain ⟨b1, b2⟩ := go_back (by decide) h
      obtain ⟨x, hx, hx2⟩ := at_ 123 125 (by decide) _ _ b1
      rw [no 40 41 (by decide) _ x hx (by omega) (by omega), no 91 93 (by decide) _ x hx (by omega) (by omega)]
      exact ⟨b1, b2⟩
/-! rows as split makes them -/
theorem spl_rows : ∀ (t acc : List Nat), ∃ a r, rows t = a :: r ∧ TL.spl [10] 0 acc t = (acc ++ a) :: r
  | [], acc => ⟨[], [], rfl, by simp [TL.spl]⟩
  | c :: t, acc => by
    by_cases hc : c = 10
    · subst hc
      obtain ⟨a, r, h1, h2⟩ := spl_rows t []
      refine ⟨[], rows t, rows_nl t, ?_⟩
      have hp : TL.pre [10] (10 :: t) = true := by simp [TL.pre]
      simp only [TL.spl, hp, if_true]
      show acc :: TL.spl [10] 0 [] t = _
      rw [h2, h1]; simp
    · obtain ⟨a, r, h1, h2⟩ := rows_other hc t
      obtain ⟨a', r', h3, h4⟩ := spl_rows t (acc ++ [c])
      have hp : TL.pre [10] (c :: t) = false := by
        simp [TL.pre, hc]
      refine ⟨c :: a, r, h2, ?_⟩
      simp only [TL.spl, hp]
      rw [h1] at h3
      injection h3 with h5 h6
      subst h5 h6
      simp only [Bool.false_eq_true, if_false]
      rw [h4]; simp
theorem spl_eq (t : List Nat) : TL.spl [10] 0 [] t = rows t := by
  obtain ⟨a, r, h1, h2⟩ := spl_rows t []
  rw [h2, h1]; rfl
theorem joinL_len : ∀ ps : List (List Nat), (TL.joinL [10] ps).length + (if ps = [] then 0 else 1) = (ps.map fun l => l.length + 1).sum
  | [] => rfl
  | [p] => by simp [TL.joinL]
  | p :: q :: r => by
    have ih := joinL_len (q :: r)
    simp only [TL.joinL] at ih ⊢
    simp at ih ⊢
    omega
theorem rows_count (t : List Nat) : (rows t).length = t.count 10 + 1 := by
  induction t with
  | nil => rfl
  | cons c t ih =>
    by_cases hc : c = 10
    · subst hc; rw [rows_nl]; simp [ih]
    · obtain ⟨a, r, h1, h2⟩ := rows_other hc t
      rw [h2]
      rw [h1] at ih
      simp at ih ⊢
      rw [List.count_cons_of_ne (fun z => hc (by simpa using z)), ih]
theorem row_offs {t : List Nat} : ∀ r, r < (rows t).length → rowOf t (offs (rows t) r) = r := by
  induction t with
  | nil =>
    intro r hr
    have : r = 0 := by simp [rows] at hr; exact hr
    subst this; rfl
  | cons c t ih =>
    intro r hr
    by_cases hc : c = 10
    · subst hc
      rw [rows_nl] at hr ⊢
      cases r with
      | zero => simp [offs, rowOf]
      | succ r =>
        have e : offs ([] :: rows t) (r + 1) = offs (rows t) r + 1 := by simp [offs]; omega
        rw [e]
        have := ih r (by simpa using hr)
        rw [row_count] at this ⊢
        simp [this]
    · obtain ⟨a, q, h1, h2⟩ := rows_other hc t
      rw [h2] at hr ⊢
      cases r with
      | zero => simp [offs, rowOf]
      | succ r =>
        have e : offs ((c :: a) :: q) (r + 1) = offs (a :: q) (r + 1) + 1 := by simp [offs]; omega
        rw [e]
        rw [h1] at ih
        have := ih (r + 1) (by simpa using hr)
        rw [row_count] at this ⊢
        simp only [List.take_succ_cons]
        rw [List.count_cons_of_ne (fun z => hc (by simpa using z)), this]
end Tx
namespace Ed
theorem wb_up (t : List Nat) : Up (wordBegins t) := List.Pairwise.filter _ List.pairwise_lt_range
theorem up_behind {xs : List Nat} (h : Up xs) : ∀ {i p : Nat}, xs[i]? = some p → xs.filter (fun o => decide (p < o)) = xs.drop (i + 1) := by
  induction xs with
  | nil => intro i p hi; simp at hi
  | cons x xs ih =>
    intro i p hi
    have hx := List.pairwise_cons.mp h
    cases i with
    | zero =>
      simp at hi
      subst hi
      rw [List.filter_cons_of_neg (by simp)]
      simp
      exact hx.1
    | succ i =>
      simp at hi
      have hp : x < p := hx.1 p (List.mem_of_getElem? hi)
      rw [List.filter_cons_of_neg (by simp; omega), ih hx.2 hi]
      simp
theorem up_ahead {xs : List Nat} (h : Up xs) : ∀ {i p : Nat}, xs[i]? = some p → xs.filter (fun o => decide (o < p)) = xs.take i := by
  induction xs with
  | nil => intro i p hi; simp at hi
  | cons x xs ih =>
    intro i p hi
    have hx := List.pairwise_cons.mp h
    cases i with
    | zero =>
      simp at hi
      subst hi
      rw [List.filter_cons_of_neg (by simp)]
      simp
      intro a ha
      have := hx.1 a ha
      omega
    | succ i =>
      simp at hi
      have hp : x < p := hx.1 p (List.mem_of_getElem? hi)
      rw [List.filter_cons_of_pos (by simp; omega), ih hx.2 hi]
      simp
theorem next_word {xs : List Nat} (h : Up xs) {i p : Nat} (hi : xs[i]? = some p) : nthBehind xs p 1 = xs[i + 1]? := by
  unfold nthBehind
  rw [up_behind h hi]; simp
theorem next_back {xs : List Nat} (h : Up xs) {i p : Nat} (hi : xs.reverse[i]? = some p) : nthAhead xs p 1 = xs.reverse[i + 1]? := by
  unfold nthAhead
  have hl : i < xs.length := by
    have := (List.getElem?_eq_some_iff.mp hi).1
    simpa using this
  have h2 : xs[xs.length - 1 - i]? = some p := by
    rw [List.getElem?_reverse hl] at hi; exact hi
  rw [up_ahead h h2]
  show (xs.take (xs.length - 1 - i)).reverse[0]? = _
  by_cases h3 : i + 1 < xs.length
  · rw [List.getElem?_reverse (by simp; omega), List.getElem?_reverse h3]
    simp only [List.length_take]
    rw [List.getElem?_take]
    have e1 : min (xs.length - 1 - i) xs.length - 1 - 0 = xs.length - 1 - (i + 1) := by omega
    rw [e1, if_pos (by omega)]
  · have e1 : xs.length - 1 - i = 0 := by omega
    rw [e1]
    rw [List.getElem?_eq_none (l := xs.reverse) (by simp; omega)]
    simp
theorem first_word {xs : List Nat} (h : Up xs) : (if nthAhead xs 1 1 = some 0 then some 0 else nthBehind xs 0 1) = xs[0]? := by
  cases xs with
  | nil => simp [nthAhead, nthBehind]
  | cons x xs =>
    have hx := List.pairwise_cons.mp h
    have e2 : xs.filter (fun o => decide (o < 1)) = [] := by
      rw [List.filter_eq_nil_iff]
      intro a ha
      have := hx.1 a ha
      simp; omega
    by_cases h0 : x = 0
    · subst h0
      have : nthAhead (0 :: xs) 1 1 = some 0 := by
        unfold nthAhead
        rw [List.filter_cons_of_pos (by simp), e2]
        rfl
      rw [if_pos this]; rfl
    · have : nthAhead (x :: xs) 1 1 = none := by
        unfold nthAhead
        rw [List.filter_cons_of_neg (by simp; omega), e2]
        rfl
      rw [this, if_neg (by simp)]
      unfold nthBehind
      rw [List.filter_cons_of_pos (by simp; omega)]
      rfl
theorem last_word {xs : List Nat} {n : Nat} (hn : ∀ x ∈ xs, x < n) : nthAhead xs n 1 = xs.reverse[0]? := by
  unfold nthAhead
  rw [List.filter_eq_self.mpr (by simpa using hn)]
/-! searching on and on -/
theorem on_at {xs : List Nat} (h : Up xs) (hne : 0 < xs.length) (p : Nat) : ∃ j, j < xs.length ∧ nextOn xs p = xs[j]? := by
  unfold nextOn
  split
  · rename_i y r e
    have hy : y ∈ xs := (List.mem_filter.mp (e ▸ List.mem_cons_self ..)).1
    obtain ⟨j, hj, hjj⟩ := List.mem_iff_getElem.mp hy
    exact ⟨j, hj, by rw [List.getElem?_eq_getElem hj, hjj]⟩
  · exact ⟨0, hne, by rw [List.head?_eq_getElem?]⟩
theorem on_next {xs : List Nat} (h : Up xs) {j p : Nat} (hj : xs[j]? = some p) : nextOn xs p = xs[(j + 1) % xs.length]? := by
  have hl := (List.getElem?_eq_some_iff.mp hj).1
  unfold nextOn
  rw [up_behind h hj]
  by_cases h1 : j + 1 < xs.length
  · rw [Nat.mod_eq_of_lt h1, List.drop_eq_getElem_cons h1]
    simp
  · have : j + 1 = xs.length := by omega
    rw [this, Nat.mod_self, List.drop_length]
    simp [List.head?_eq_getElem?]
/-- what is met behind k turns, from the j-th on -/
def metL (xs : List Nat) (j k : Nat) : List Nat := (List.range k).map fun i => xs[(j + i) % xs.length]?.getD 0
theorem metL_len (xs : List Nat) (j k : Nat) : (metL xs j k).length = k := by simp [metL]
theorem metL_succ (xs : List Nat) (j k : Nat) : metL xs j (k + 1) = metL xs j k ++ [xs[(j + k) % xs.length]?.getD 0] := by
  simp [metL, List.range_succ]
theorem metL_lt {xs : List Nat} (h : Up xs) {j k : Nat} (hk : k < xs.length) : (metL xs j (k + 1)).count (xs[(j + k) % xs.length]?.getD 0) = 1 := by
  rw [metL_succ, List.count_append, List.count_eq_zero.mpr]
  · simp
  intro hm
  obtain ⟨i, hi, he⟩ := List.mem_map.mp hm
  have hi' : i < k := by simpa using hi
  have hn : 0 < xs.length := by omega
  have l1 : (j + i) % xs.length < xs.length := Nat.mod_lt _ hn
  have l2 : (j + k) % xs.length < xs.length := Nat.mod_lt _ hn
  rw [List.getElem?_eq_getElem l1, List.getElem?_eq_getElem l2] at he
  simp at he
  have nd : xs.Nodup := List.Pairwise.imp (fun h => Nat.ne_of_lt h) h
  have e : (j + i) % xs.length = (j + k) % xs.length := by
    rcases Nat.lt_trichotomy ((j + i) % xs.length) ((j + k) % xs.length) with z | z | z
    · have := List.pairwise_iff_getElem.mp h _ _ l1 l2 z; omega
    · exact z
    · have := List.pairwise_iff_getElem.mp h _ _ l2 l1 z; omega
  have d1 := Nat.div_add_mod (j + i) xs.length
  have d2 := Nat.div_add_mod (j + k) xs.length
  rw [e] at d1
  have hd : (j + i) / xs.length = (j + k) / xs.length := by
    rcases Nat.lt_trichotomy ((j + i) / xs.length) ((j + k) / xs.length) with z | z | z
    · have : xs.length * ((j + i) / xs.length) + xs.length ≤ xs.length * ((j + k) / xs.length) := by
        rw [← Nat.mul_succ]; exact Nat.mul_le_mul_left _ z
      omega
    · exact z
    · have : xs.length * ((j + k) / xs.length) ≤ xs.length * ((j + i) / xs.length) := Nat.mul_le_mul_left _ (Nat.le_of_lt z)
      omega
  rw [hd] at d1
  omega
theorem metL_end {xs : List Nat} {j : Nat} (hn : 0 < xs.length) : 2 ≤ (metL xs j (xs.length + 1)).count (xs[(j + xs.length) % xs.length]?.getD 0) := by
  rw [metL_succ, List.count_append]
  have h1 : 0 < (metL xs j xs.length).count (xs[(j + xs.length) % xs.length]?.getD 0) := by
    apply List.count_pos_iff.mpr
    refine List.mem_map.mpr ⟨0, by simpa using hn, ?_⟩
    simp
  rw [List.count_singleton_self]
  omega
end Ed

namespace Cb
open PySem L2
def Ml.count : Ml where
  name := "count"
  id := "list.count"
  slot := PySem.F.slot_list_count
  ty := PySem.F.type_list_count
  r := fun K l vs H Q => match vs with
    | [.int k] => ∃ ns : List Int, SqL K H l (ns.map V.int) ∧ Q (.int (ns.count k : Nat)) H
    | _ => False
  ok := fun X _ pins s σ H x xs v us Q I rx rs h => by
    obtain ⟨z, rfl, h⟩ := onR_i h
    split at h
    · obtain ⟨ns, h1, q⟩ := h
      exact mt_lcount pins s σ H _ _ v us Q I rx rs ⟨_, ns, _, rfl, rfl, h1, q⟩
    · exact h.elim
def Ms.split : Ms where
  name := "split"
  id := "str.split"
  slot := PySem.F.slot_str_split
  ty := PySem.F.type_str_split
  r := fun _ z vs H Q => match vs with
    | [.str b] => (b.length == 0) = false ∧ z.length + 2 ≤ sizeLine ∧ rNewStrs (Txt.split z b) H Q
    | _ => False
  ok := fun X _ pins s σ H x xs v us Q I rx rs h => by
    obtain ⟨z, rfl, h⟩ := onS_i h
    split at h
    · exact mt_split pins s σ H _ _ v us Q I rx rs ⟨_, _, rfl, rfl, h.1, h.2.1, h.2.2⟩
    · exact h.elim
end Cb

/-! classes: fields, methods, new instances -/
namespace Cb
open PySem L2
variable {K : PySem.W.Frag}
theorem eval_meth {o : Expr} {m : Str} {apos pos : Pos} {es : List Expr} {env : Env} (hb : attributeBase o m env (eval o env) = eval o env)
    (hfew : methodCallForm (es.length + ([] : List Keyword).length) (backTo pos (starEach es env)) (backToKw pos (keywordEach [] env)) = true) (hline : (apos.endLine == pos.line) = true) :
    eval (.Call (.Attribute o m apos) es [] pos) env = (do
      let ov ← eval o env
      standAt apos.atName
      let (f, first) ← holding [ov] (getMethod ov m (do return (← importBound o env).getD true))
      callWith pos f first (backTo pos (starEach es env)) (backToKw pos (keywordEach [] env))) := by
  rw [PySem.arm_eval_Call, hb]
  simp only [methodCall, calleeOf, methodCallPos, hfew, hline, Bool.not_true, Bool.false_or, if_true]
  rfl
def cl (K : PySem.W.Frag) (x : Str) : Addr := He.ga K x
/-- the class's facts -/
structure HasCl (h : Hx) (x : Str) : Prop where
  c : Cls h.K (cl h.K x)
def HasNo (h : Hx) (x f : Str) : Prop := Cls h.K (cl h.K x) ∧ NoAttr h.K (cl h.K x) f
/-- o.f, o an instance of the class x -/
def Ex.fld (x : Str) (o : Ex K) (f : Str) : Ex K where
  t := fun σ H Q => o.t σ H (onR fun a H1 => ∃ dx fs v, H1 a = some (.ins (cl K x) dx fs) ∧ fs.lookup f = some v ∧ Q v H1)
  chk := fun Γ e => match e with
    | .Attribute y g _ => decide (g = f) && o.chk Γ y && nsup y
    | _ => false
  has := fun h => HasNo h x f ∧ o.has h
  sound := by
    intro X Γ h e c hk hh hc
    cases e <;> try exact absurd hc Bool.false_ne_true
    rename_i y g pos
    obtain ⟨h1, h2, h3⟩ := and3 hc
    have e := of_decide_eq_true h1
    subst e
    have ek : X.K = K := c.K.trans hk
    obtain ⟨⟨n1, n2⟩, ho⟩ := hh
    rw [hk] at n1 n2
    subst ek
    refine PE.imp (pe_fld (PE.mono (o.sound c hk ho h2)) (base_of h3)) fun σ H Q q => ⟨_, q, fun v H' z => ?_⟩
    obtain ⟨a, rfl, dx, fs, w, z1, z2, z3⟩ := onR_i z
    exact ⟨a, _, dx, fs, w, rfl, z1, n1, n2, z2, z3⟩
/-- o.f = e -/
def Sm.fld (x : Str) (o : Ex K) (f : Str) (a : Ex K) : Sm K where
  t := fun D σ H => a.t σ H fun y H1 => o.t σ H1 (onR fun p H2 => ∃ dx fs, H2 p = some (.ins (cl K x) dx fs) ∧ fs.length < 1000 ∧ D.nx σ (upd H2 p (.ins (cl K x) dx (putF f y fs))))
  chk := fun Γ s => match s with
    | .Assign [.Attribute y g _] e _ => decide (g = f) && o.chk Γ y && a.chk Γ e && ncomp e
    | _ => false
  has := fun h => HasNo h x f ∧ o.has h ∧ a.has h
  sound := by
    intro X Γ h s c hk hh hc
    cases s <;> try exact absurd hc Bool.false_ne_true
    rename_i ts e pos
    rcases ts with _ | ⟨t, _ | ⟨_, _⟩⟩
    · exact absurd hc Bool.false_ne_true
    · cases t <;> try exact absurd hc Bool.false_ne_true
      rename_i y g pos2
      obtain ⟨h1, h2, h3, h4⟩ := and4 hc
      have e := of_decide_eq_true h1
      subst e
      have ek : X.K = K := c.K.trans hk
      obtain ⟨⟨n1, n2⟩, ho, ha⟩ := hh
      rw [hk] at n1 n2
      subst ek
      obtain ⟨p⟩ := ps_fld (pos := pos) (pos' := pos2) (f := g) (PE.mono (o.sound c hk ho h2)) (PE.mono (a.sound c hk ha h3)) (noswap h4)
      refine ⟨fun pins s σ H D I q => p pins s σ H D I ⟨_, q, fun v H' z => ⟨_, z, fun v' H2 z2 => ?_⟩⟩⟩
      obtain ⟨a, rfl, dx, fs, z1, z2, z3⟩ := onR_i z2
      exact ⟨a, _, dx, fs, rfl, z1, n1, n2, z2, z3⟩
    · cases t <;> exact absurd hc Bool.false_ne_true
/-- the promise of a method -/
structure HasM (h : Hx) (x m : Str) (sp : Sp) : Prop where
  ex : ∃ (f : Addr) (fd : FuncData) (ps : List Str), Cls h.K (cl h.K x) ∧ Meth h.K (cl h.K x) m f ∧ FnOk h.P h.w h.K h.mg h.base CX0 h.k f fd ps sp ∧ Binds h.K fd ps []
theorem HasM.mono {h : Hx} {x m : Str} {sp : Sp} {k : Nat} (p : HasM h x m sp) (hk : h.k ≤ k) : HasM { h with k := k } x m sp := by
  obtain ⟨f, fd, ps, c, M, F, b⟩ := p.ex
  exact ⟨f, fd, ps, c, M, F.mono hk, b⟩
theorem few_of {es : List Expr} {env : Env} {pos : Pos} (al : es.all nst = true) (hl : es.length < 30) : methodCallForm (es.length + ([] : List Keyword).length) (backTo pos (starEach es env)) (backToKw pos (keywordEach [] env)) = true := by
  unfold methodCallForm
  rw [star_all al]
  show (true && true && decide (es.length + 0 + 0 < 30)) = true
  simpa using hl
theorem PA.mono {X : Cx} {es : List Expr} {t : TA} (p : PA X es t) : PA X es (fun σ H Q => ∃ Q' : List V → Hp → Prop, t σ H Q' ∧ ∀ vs H', Q' vs H' → Q vs H') :=
  ⟨fun pos pins s σ H Q I ⟨Q', h, m⟩ => thn (p.run pos pins s σ H Q' I h) fun u s' ⟨vs, H', I', r, q⟩ => ⟨vs, H', I', r, m vs H' q⟩⟩
/-- o.m(..), o an instance of the class x -/
def Ex.meth (x : Str) (o : Ex K) (m : Str) (sp : Sp) (a : As K) : Ex K where
  t := fun σ H Q => o.t σ H (onR fun p H1 => ∃ dx fs, H1 p = some (.ins (cl K x) dx fs) ∧ fs.lookup m = Option.none ∧ a.t σ H1 fun vs H2 => sp (.ref p :: vs) H2 Q E0)
  chk := fun Γ e => match e with
    | .Call (.Attribute y g ap) es [] cp => decide (g = m) && o.chk Γ y && nsup y && (ap.endLine == cp.line && (a.chk Γ es && !es.isEmpty && decide (es.length < 30)))
    | _ => false
  has := fun h => HasM h x m sp ∧ o.has h ∧ a.has h
  sound := by
    intro X Γ h e c hk hh hc
    cases e <;> try exact absurd hc Bool.false_ne_true
    rename_i fn es kws pos
    cases fn <;> try exact absurd hc Bool.false_ne_true
    rename_i y g ap
    cases kws <;> try exact absurd hc Bool.false_ne_true
    obtain ⟨h1, h2, h3, h40⟩ := and4 hc
    obtain ⟨h4, h50⟩ := and2 h40
    obtain ⟨h5, h5', h6⟩ := and3 h50
    have e := of_decide_eq_true h1
    subst e
    obtain ⟨hM, ho, ha⟩ := hh
    obtain ⟨f, fd, ps, cC, M, F, b⟩ := hM.ex
    obtain ⟨pa, al⟩ := a.sound c hk ha h5
    have po := o.sound c hk ho h2
    have hfew := few_of (env := X.env) (pos := pos) al (of_decide_eq_true h6)
    have := c.prog; have := c.w; have := c.K; have := c.mg; have := c.base
    have hroom := c.room
    obtain ⟨P, w, K', mg, base, k⟩ := h
    subst_vars
    cases es with
    | nil => exact absurd h5' Bool.false_ne_true
    | cons e es =>
      rw [List.all_cons] at al
      obtain ⟨al1, al2⟩ := and2 al
      refine PE.imp (pe_meth (dvs := []) (ds := []) (E := E0) (PE.mono po) cC M F hroom b .nil pass0 (PA.mono pa) (star_cons al1) (star_any al2) (eval_meth (base_of h3) hfew h4)) fun σ H Q q => ⟨_, q, fun v H' z => ?_⟩
      obtain ⟨p, rfl, dx, fs, z1, z2, z3⟩ := onR_i z
      refine ⟨p, dx, fs, rfl, z1, z2, _, z3, fun vs H2 z4 => ?_⟩
      show sp (V.ref p :: (vs ++ [])) H2 Q E0
      rw [List.append_nil]; exact z4
/-- o.m() -/
def Ex.meth0 (x : Str) (o : Ex K) (m : Str) (sp : Sp) : Ex K where
  t := fun σ H Q => o.t σ H (onR fun p H1 => ∃ dx fs, H1 p = some (.ins (cl K x) dx fs) ∧ fs.lookup m = Option.none ∧ sp [.ref p] H1 Q E0)
  chk := fun Γ e => match e with
    | .Call (.Attribute y g ap) [] [] cp => decide (g = m) && o.chk Γ y && nsup y && (ap.endLine == cp.line)
    | _ => false
  has := fun h => HasM h x m sp ∧ o.has h
  sound := by
    intro X Γ h e c hk hh hc
    split at hc
    · rename_i y g ap cp
      obtain ⟨h1, h2, h3, h4⟩ := and4 hc
      have e := of_decide_eq_true h1
      subst e
      obtain ⟨hM, ho⟩ := hh
      obtain ⟨f, fd, ps, cC, M, F, b⟩ := hM.ex
      have po := o.sound c hk ho h2
      have hfew := few_of (es := []) (env := X.env) (pos := cp) rfl (by decide)
      have := c.prog; have := c.w; have := c.K; have := c.mg; have := c.base
      have hroom := c.room
      obtain ⟨P, w, K', mg, base, k⟩ := h
      subst_vars
      refine PE.imp (pe_meth0 (dvs := []) (ds := []) (E := E0) (PE.mono po) cC M F hroom b .nil pass0 (eval_meth (base_of h3) hfew h4)) fun σ H Q q => ⟨_, q, fun v H' z => ?_⟩
      obtain ⟨p, rfl, dx, fs, z1, z2, z3⟩ := onR_i z
      exact ⟨p, dx, fs, rfl, z1, z2, z3⟩
    · exact absurd hc Bool.false_ne_true
/-- the promise of a class's making -/
structure HasMk (h : Hx) (x : Str) (sp : Sp) : Prop where
  ex : ∃ (f : Addr) (fd : FuncData) (ps : List Str) (j : Nat), j + 1 ≤ h.k ∧ Mk h.K (cl h.K x) f ∧ h.mg x = some (.ref (cl h.K x)) ∧ FnOk h.P h.w h.K h.mg h.base CX0 j f fd ps sp ∧ Binds h.K fd ps []
theorem HasMk.mono {h : Hx} {x : Str} {sp : Sp} {k : Nat} (p : HasMk h x sp) (hk : h.k ≤ k) : HasMk { h with k := k } x sp := by
  obtain ⟨f, fd, ps, j, hj, r⟩ := p.ex
  exact ⟨f, fd, ps, j, Nat.le_trans hj hk, r⟩
/-- x(..), a new instance of the class x -/
def Ex.make (x : Str) (sp : Sp) (a : As K) : Ex K where
  t := fun σ H Q => a.t σ H fun vs H1 => ∀ p dx, H1 p = Option.none → H1 dx = Option.none → dx ≠ p → sp (.ref p :: vs) (upd (upd H1 dx (.own p)) p (.ins (cl K x) dx [])) (fun v H2 => v = .non ∧ Q (.ref p) H2) E0
  chk := fun Γ e => match e with
    | .Call (.Name y _) es [] _ => decide (y = x) && isGl (Γ.names.lookup y) && okN y && (a.chk Γ es && !es.isEmpty)
    | _ => false
  has := fun h => HasMk h x sp ∧ a.has h
  sound := by
    intro X Γ h e c hk hh hc
    cases e <;> try exact absurd hc Bool.false_ne_true
    rename_i fn es kws pos
    cases fn <;> try exact absurd hc Bool.false_ne_true
    rename_i y p
    cases kws <;> try exact absurd hc Bool.false_ne_true
    obtain ⟨h1, h2, h3, h4⟩ := and4 hc
    obtain ⟨h4, h5⟩ := and2 h4
    have e := of_decide_eq_true h1
    subst e
    obtain ⟨hM, ha⟩ := hh
    obtain ⟨f, fd, ps, j, hj, M, hm, F, b⟩ := hM.ex
    obtain ⟨pa, al⟩ := a.sound c hk ha h4
    cases es with
    | nil => exact absurd h5 Bool.false_ne_true
    | cons e es =>
    rw [List.all_cons] at al
    obtain ⟨al1, al2⟩ := and2 al
    have := c.prog; have := c.w; have := c.K; have := c.mg; have := c.base
    have hroom := c.room
    obtain ⟨P, w, K', mg, base, k⟩ := h
    subst_vars
    refine PE.imp (pe_make (dvs := []) (ds := []) (E := E0) M F (hroom.mono hj) (gl_of c h2) hm b .nil pass0 (PA.mono pa) (okN_d h3) (star_cons al1) (star_any al2)) fun σ H Q q => ⟨_, q, fun vs H1 z p dx hp hdx hne => ?_⟩
    show sp (V.ref p :: (vs ++ [])) _ _ E0
    rw [List.append_nil]
    exact z p dx hp hdx hne
/-! ### dicts that are tracked -/
/-- d[k] = v -/
def Sm.dput (d k v : Ex K) : Sm K where
  t := sDPut d.t k.t v.t
  chk := fun Γ s => match s with
    | .Assign [.Subscript x y _] e _ => d.chk Γ x && k.chk Γ y && v.chk Γ e && ncomp e
    | _ => false
  has := fun h => d.has h ∧ k.has h ∧ v.has h
  sound := by
    intro X Γ h s c hk hh hc
    cases s <;> try exact absurd hc Bool.false_ne_true
    rename_i ts e pos
    rcases ts with _ | ⟨t, _ | ⟨_, _⟩⟩
    · exact absurd hc Bool.false_ne_true
    · cases t <;> try exact absurd hc Bool.false_ne_true
      obtain ⟨h1, h2, h3, h4⟩ := and4 hc
      exact ps_dput (by have := c.room.units; omega) (d.sound c hk hh.1 h1) (k.sound c hk hh.2.1 h2) (v.sound c hk hh.2.2 h3) (noswap h4)
    · cases t <;> exact absurd hc Bool.false_ne_true
/-- k in d, k not in d, as tests -/
def Te.din (k d : Ex K) : Te K where
  t := fun σ H Q => tDIn k.t d.t σ H (onB Q)
  chk := fun Γ e => match e with
    | .Compare x [.In] [y] _ => k.chk Γ x && d.chk Γ y && pln y
    | _ => false
  has := fun h => k.has h ∧ d.has h
  sound := by
    intro X Γ h e c hk hh hc
    split at hc
    · obtain ⟨h1, h2, h3⟩ := and3 hc
      refine PT.imp (pt_cmp (pc_din (by have := c.room.units; omega) (k.sound c hk hh.1 h1) (d.sound c hk hh.2 h2)) (unmark h3)) fun σ H Q q => ?_
      rw [onB_eq] at q; exact q
    · exact absurd hc Bool.false_ne_true
def Te.dnotin (k d : Ex K) : Te K where
  t := fun σ H Q => tDNotIn k.t d.t σ H (onB Q)
  chk := fun Γ e => match e with
    | .Compare x [.NotIn] [y] _ => k.chk Γ x && d.chk Γ y && pln y
    | _ => false
  has := fun h => k.has h ∧ d.has h
  sound := by
    intro X Γ h e c hk hh hc
    split at hc
    · obtain ⟨h1, h2, h3⟩ := and3 hc
      refine PT.imp (pt_cmp (pc_dnotin (by have := c.room.units; omega) (k.sound c hk hh.1 h1) (d.sound c hk hh.2 h2)) (unmark h3)) fun σ H Q q => ?_
      rw [onB_eq] at q; exact q
    · exact absurd hc Bool.false_ne_true
theorem boot_dict : bootBuiltins "dict" = some (.type "dict") := by decide +kernel
/-- dict(d) of a dict; dict(ps) of a list of pairs -/
def rDictD (_ : PySem.W.Frag) : List V → Hp → VK → Prop := fun vs H Q => match vs with
  | [.ref a] => ∃ kvs : List (Key × V), Rd H a (.dK kvs) ∧ ∀ p, H p = none → Q (.ref p) (upd H p (.dK kvs))
  | _ => False
theorem cr_dictD (X : Cx) (k : Nat) (_ : Room k X.A) (_ : X.calm = true) : CallR X (.type "dict") (rDictD X.K) := by
  intro pins s σ H xs us Q I r h
  unfold rDictD at h
  split at h
  · obtain ⟨kvs, h1, q⟩ := h
    exact call_dictD pins s σ H _ us Q I r ⟨_, kvs, rfl, h1, q⟩
  · exact h.elim
def Ex.dictD (a : As K) : Ex K := Ex.cty "dict" "dict" rDictD boot_dict cr_dictD a
def rDictP (K : PySem.W.Frag) : List V → Hp → VK → Prop := fun vs H Q => match vs with
  | [.ref a] => ∃ (ps : List Addr) (kvs : List (Key × V)), SqL K H a (ps.map V.ref) ∧ Paired (fun p kv => SqT K H p [kV kv.1, kv.2]) ps kvs ∧ ∀ p, H p = none → Q (.ref p) (upd H p (.dK (mergeK [] kvs)))
  | _ => False
theorem cr_dictP (X : Cx) (k : Nat) (_ : Room k X.A) (hc : X.calm = true) : CallR X (.type "dict") (rDictP X.K) := by
  intro pins s σ H xs us Q I r h
  unfold rDictP at h
  split at h
  · obtain ⟨ps, kvs, h1, h2, q⟩ := h
    exact call_dictP hc pins s σ H _ us Q I r ⟨_, ps, kvs, rfl, h1, h2, q⟩
  · exact h.elim
def Ex.dictP (a : As K) : Ex K := Ex.cty "dict" "dict" rDictP boot_dict cr_dictP a
/-- while it is made a dict is locked -/
def Ex.lock (a : Ex K) : Ex K where
  t := tLockE a.t
  chk := a.chk
  has := a.has
  sound := fun c hk hh hc => pe_lock (a.sound c hk hh hc)
def Sm.lock (a : Sm K) : Sm K where
  t := tLock a.t
  chk := a.chk
  has := a.has
  sound := fun c hk hh hc => ps_lock (a.sound c hk hh hc)
/-- a dict by its keys -/
def Ir.keys (a : Ex K) : Ir K where
  t := iKeys a.t
  chk := fun Γ _ e => a.chk Γ e
  has := a.has
  sound := by
    intro X Γ h tg e c hk hh hc
    exact pi_keys (a.sound c hk hh hc)
/-- tuple(list), list(list) -/
def rTupX (K : PySem.W.Frag) : List V → Hp → VK → Prop := fun vs H Q => match vs with
  | [.ref p] => ∃ ys, SqL K H p ys ∧ ∀ l, H l = none → Q (.ref l) (upd H l (.tup ys))
  | _ => False
theorem cr_tupX (X : Cx) (k : Nat) (_ : Room k X.A) (_ : X.calm = true) : CallR X (.type "tuple") (rTupX X.K) := by
  intro pins s σ H xs us Q I r h
  unfold rTupX at h
  split at h
  · obtain ⟨ys, h1, q⟩ := h
    exact call_tuple_of pins s σ H _ us Q I r ⟨_, ys, rfl, .inl ⟨h1, q⟩⟩
  · exact h.elim
def Ex.tuple (a : As K) : Ex K := Ex.cty "tuple" "tuple" rTupX boot_tuple cr_tupX a
def rListX (K : PySem.W.Frag) : List V → Hp → VK → Prop := fun vs H Q => match vs with
  | [.ref p] => ∃ ys, (SqL K H p ys ∨ SqT K H p ys) ∧ ∀ l, H l = none → Q (.ref l) (upd H l (.lst ys))
  | _ => False
theorem cr_listX (X : Cx) (k : Nat) (_ : Room k X.A) (_ : X.calm = true) : CallR X (.type "list") (rListX X.K) := by
  intro pins s σ H xs us Q I r h
  unfold rListX at h
  split at h
  · obtain ⟨ys, h1, q⟩ := h
    exact call_list_of pins s σ H _ us Q I r ⟨_, ys, rfl, h1, q⟩
  · exact h.elim
def Ex.list (a : As K) : Ex K := Ex.cty "list" "list" rListX boot_list cr_listX a
end Cb

/-! written tuples of texts, dicts of them; zip of tuples -/
namespace Cb
open PySem L2
variable {K : PySem.W.Frag}
/-- the tuple at p is written, of these texts -/
def TupK (K : PySem.W.Frag) (p : Addr) (zs : List Str) : Prop := ∀ H, SqT K H p (zs.map V.str)
theorem strsB_ok : ∀ {us : List Value} {zs : List Str}, strsB us zs = true → Vals (zs.map V.str) us
  | [], [], _ => .nil
  | v :: r, z :: zs, h => by
    obtain ⟨h1, h2⟩ := and2 h
    split at h1
    · rename_i y t
      have e := of_decide_eq_true h1
      subst e
      exact .cons ⟨t, rfl⟩ (strsB_ok h2)
    · cases h1
  | [], _ :: _, h => by cases h
  | _ :: _, [], h => by cases h
theorem tupB_ok {p : Addr} {zs : List Str} (h : tupB K p zs = true) : TupK K p zs := by
  intro H
  unfold tupB at h
  split at h
  · rename_i o e
    obtain ⟨h1, h2⟩ := and2 h
    split at h2
    · rename_i its n ed
      obtain ⟨h3, h4⟩ := and2 h2
      exact .inr ⟨o, its, n, e, of_decide_eq_true h1, ed, Nat.le_trans (of_decide_eq_true h3) (by decide), strsB_ok h4⟩
    · cases h2
  · cases h
/-- a module's name that holds a written tuple -/
def HasT (h : Hx) (x : Str) (zs : List Str) : Prop := ∃ p, h.mg x = some (.ref p) ∧ TupK h.K p zs
def Ex.gtup (x : Str) (zs : List Str) : Ex K where
  t := fun _ H Q => ∀ p, TupK K p zs → Q (.ref p) H
  chk := fun Γ e => match e with
    | .Name y _ => decide (y = x) && isGl (Γ.names.lookup y) && okN y
    | _ => false
  has := fun h => HasT h x zs
  sound := by
    intro X Γ h e c hk hh hc
    cases e <;> try exact absurd hc Bool.false_ne_true
    rename_i y pos
    obtain ⟨h1, h2, h3⟩ := and3 hc
    have e := of_decide_eq_true h1
    subst e
    obtain ⟨p, hp, ht⟩ := hh
    rw [hk] at ht
    exact PE.imp (pe_glob (v := .ref p) (gl_of c h2) (by rw [c.mg]; exact hp) rfl (okN_d h3)) fun σ H Q q => q p ht
/-- a dict of the module whose values are written tuples of texts -/
def HasDT (h : Hx) (x : Str) (kvs : List (Str × List Str)) : Prop := ∃ a es n, h.mg x = some (.ref a) ∧ h.K.lookup a = some ⟨.type "dict", none, .dict es n, #[]⟩ ∧ PySem.W.KeysLit h.w.params es.toList ∧ (a == sysModules) = false ∧
  ∀ z r, kvs.lookup z = some r → ∃ p, PySem.W.nsIn h.K a z = some (some (.ref p)) ∧ TupK h.K p r
def Ex.kixT (x : Str) (kvs : List (Str × List Str)) (k : Ex K) : Ex K where
  t := fun σ H Q => k.t σ H (onS fun z H1 => match kvs.lookup z with
    | some r => ∀ p, TupK K p r → Q (.ref p) H1
    | _ => False)
  chk := fun Γ e => match e with
    | .Subscript (.Name y _) i _ => decide (y = x) && isGl (Γ.names.lookup y) && okN y && (k.chk Γ i && pln i)
    | _ => false
  has := fun h => HasDT h x kvs ∧ k.has h
  sound := by
    intro X Γ h e c hk hh hc
    cases e <;> try exact absurd hc Bool.false_ne_true
    rename_i o i pos
    cases o <;> try exact absurd hc Bool.false_ne_true
    rename_i y p
    obtain ⟨h1, h2, h3, h40⟩ := and4 hc
    obtain ⟨h4, h5⟩ := and2 h40
    have e := of_decide_eq_true h1
    subst e
    obtain ⟨⟨a, es, n, hm, hl, hkl, hsy, hv⟩, hhk⟩ := hh
    refine PE.imp (pe_ix ix_kdict (pe_glob (v := .ref a) (gl_of c h2) (by rw [c.mg]; exact hm) rfl (okN_d h3)) (PE.mono (k.sound c hk hhk h4)) (plainIx h5)) fun σ H Q q => ?_
    refine ⟨_, q, fun v H' q => ?_⟩
    obtain ⟨z, rfl, q2⟩ := onS_i q
    split at q2
    · rename_i v e
      obtain ⟨u, ho, ro⟩ := hv z _ e
      rw [hk] at ro
      exact ⟨a, z, .ref u, rfl, rfl, ⟨es, n, .ref u, by rw [c.K]; exact hl, by rw [c.w]; exact hkl, by rw [c.K]; exact ho, rfl⟩, q2 u ro⟩
    · exact q2.elim
/-- k not in D, where it is in D -/
def Te.knotInT (k : Ex K) (x : Str) (kvs : List (Str × List Str)) : Te K where
  t := fun σ H Q => k.t σ H (onS fun z H1 => match kvs.lookup z with
    | some _ => Q false H1
    | Option.none => False)
  chk := fun Γ e => match e with
    | .Compare i [.NotIn] [.Name y _] _ => decide (y = x) && isGl (Γ.names.lookup y) && okN y && k.chk Γ i
    | _ => false
  has := fun h => HasDT h x kvs ∧ k.has h
  sound := by
    intro X Γ h e c hk hh hc
    split at hc
    · rename_i i y p pos
      obtain ⟨h1, h2, h3, h4⟩ := and4 hc
      have e := of_decide_eq_true h1
      subst e
      obtain ⟨⟨a, es, n, hm, hl, hkl, hsy, hv⟩, hhk⟩ := hh
      refine PT.imp (pt_cmpR (op_notInK (a := a) (es := es) (n := n) (by rw [c.K]; exact hl) (by rw [c.w]; exact hkl) hsy) (PE.mono (k.sound c hk hhk h4)) (pe_glob (v := .ref a) (gl_of c h2) (by rw [c.mg]; exact hm) rfl (okN_d h3)) rfl) fun σ H Q q => ?_
      refine ⟨_, q, fun v H' q => ?_⟩
      obtain ⟨z, rfl, q2⟩ := onS_i q
      split at q2
      · rename_i v e
        obtain ⟨u, ho, ro⟩ := hv z _ e
        exact ⟨z, some (.ref u), rfl, rfl, by rw [c.K]; exact ho, _, rfl, q2⟩
      · exact q2.elim
    · exact absurd hc Bool.false_ne_true
theorem lookup_memT {α : Type} : ∀ {l : List (Str × α)} {z : Str} {r : α}, l.lookup z = some r → (z, r) ∈ l
  | [], z, r, h => by simp at h
  | (k, v) :: l, z, r, h => by
    rw [List.lookup_cons] at h
    split at h
    · rename_i e
      have e' : z = k := by simpa using e
      cases h; rw [e']; exact List.mem_cons_self ..
    · exact List.mem_cons_of_mem _ (lookup_memT h)
theorem tabT_has {h : Hx} {x : Str} {kvs : List (Str × List Str)} (hm : h.mg x = some (.ref (He.ga h.K x))) (ht : ∃ es n, KDict h.K h.w (He.ga h.K x) es n) (hv : tabTB h.K (He.ga h.K x) kvs = true) : HasDT h x kvs := by
  obtain ⟨es, n, hd⟩ := ht
  refine ⟨He.ga h.K x, es, n, hm, hd.at_, hd.lit, hd.low, fun z r e => ?_⟩
  have hs := List.all_eq_true.mp hv _ (lookup_memT e)
  dsimp only at hs
  split at hs
  · rename_i p ep
    exact ⟨p, ep, tupB_ok hs⟩
  · cases hs
/-- zip of two tuples -/
def Ir.zipTT (a : As K) : Ir K where
  t := fun σ H R => a.t σ H fun vs H1 => match vs with
    | [.ref p, .ref q] => ∃ xs ys, SqT K H1 p xs ∧ SqT K H1 q ys ∧ R (RZ.ItzT K p q) H1
    | _ => False
  chk := fun Γ tg e => match tg, e with
    | .Tuple _ _ _, .Call (.Name x _) [b, d] [] _ => decide (x = "zip") && isGl (Γ.names.lookup x) && a.chk Γ [b, d]
    | _, _ => false
  has := fun h => HasB h "zip" ∧ a.has h
  sound := by
    intro X Γ h tg e c hk hh hc
    cases tg <;> try exact absurd hc Bool.false_ne_true
    cases e <;> try exact absurd hc Bool.false_ne_true
    rename_i fn es kws pos
    cases fn <;> try exact absurd hc Bool.false_ne_true
    rcases es with _ | ⟨b, _ | ⟨d, _ | ⟨_, _⟩⟩⟩ <;> try exact absurd hc Bool.false_ne_true
    cases kws <;> try exact absurd hc Bool.false_ne_true
    obtain ⟨h1, h2, h3⟩ := and3 hc
    have e := of_decide_eq_true h1
    subst e
    obtain ⟨p, al⟩ := a.sound c hk hh.2 h3
    rw [List.all_cons] at al
    obtain ⟨a1, a2⟩ := and2 al
    have ek : X.K = K := c.K.trans hk
    subst ek
    obtain ⟨r⟩ := RZ.pi_zipA (gl_of c h2) (by rw [c.mg]; exact hh.1) (PA.mono p) (star_cons a1) (star_any a2)
    refine ⟨fun pins s σ H R I q => r pins s σ H R I ⟨_, q, fun vs H' z => ?_⟩⟩
    split at z
    · obtain ⟨xs, ys, z1, z2, z3⟩ := z
      exact ⟨_, _, xs, ys, rfl, .inr ⟨z1, z2, z3⟩⟩
    · exact z.elim
theorem walk_zipTT {p q : Addr} {xs ys : List V} {n : Nat} (hn : n = min xs.length ys.length) : Walk (RZ.ItzT K p q) n (fun H => SqT K H p xs ∧ SqT K H q ys) (fun i H v H' => ∃ T x y, v = .ref T ∧ H T = none ∧ H' = upd H T (.tup [x, y]) ∧ xs[i]? = some x ∧ ys[i]? = some y) where
  goes := fun i H hi hG => by
    have h1 : i < xs.length := by omega
    have h2 : i < ys.length := by omega
    exact ⟨xs, ys, _, _, hG.1, hG.2, List.getElem?_eq_getElem h1, List.getElem?_eq_getElem h2⟩
  stops := fun H hG => ⟨xs, ys, hG.1, hG.2, by omega⟩
  yields := fun i H v H' _ hG ⟨T, x, y, h1, h2, h3, h4, h5⟩ => ⟨T, x, y, h1, h2, h3, h4 xs hG.1, h5 ys hG.2⟩
end Cb

/-! deeds, editors: how they lie in the heap -/
namespace Ed
open PySem L2 Cb
open Evl (Ev EvT)
/-! ### words -/
def w_great : List Nat := [103, 114, 101, 97, 116]
def w_small : List Nat := [115, 109, 97, 108, 108]
def w_in : List Nat := [105, 110]
def w_out : List Nat := [111, 117, 116]
def w_no : List Nat := [110, 111]
/-! ### deeds -/
inductive Pt where
  | mot (m : Mo) | area (r : Ar) | name (n : Nat) | case (g : Bool) | side (i : Bool) | times (k : Nat) | signs (s : List Nat) | state (k : Nat) | window (k : Nat)
inductive De where
  | go (m : Mo) | choose | cut (r : Ar) (n : Nat) | copy (r : Ar) (n : Nat) | turn (r : Ar) (g : Bool) | shift (r : Ar) (i : Bool) | put (n k : Nat) | write (s : List Nat) | mark (n : Nat)
  | undo | redo | to (k : Nat) | record (n : Nat) | stop | play (n k : Nat) | dot | opn | window (k : Nat) | close
def De.word : De → List Nat
  | .go _ => w_go | .choose => w_choose | .cut _ _ => w_cut | .copy _ _ => w_copy | .turn _ _ => w_turn | .shift _ _ => w_shift | .put _ _ => w_put | .write _ => w_write | .mark _ => w_mark
  | .undo => w_undo | .redo => w_redo | .to _ => w_to | .record _ => w_record | .stop => w_stop | .play _ _ => w_play | .dot => w_dot | .opn => w_open | .window _ => w_window | .close => w_close
def De.parts : De → List Pt
  | .go m => [.mot m] | .choose => [] | .cut r n => [.area r, .name n] | .copy r n => [.area r, .name n] | .turn r g => [.area r, .case g] | .shift r i => [.area r, .side i] | .put n k => [.name n, .times k] | .write s => [.signs s] | .mark n => [.name n]
  | .undo => [] | .redo => [] | .to k => [.state k] | .record n => [.name n] | .stop => [] | .play n k => [.name n, .times k] | .dot => [] | .opn => [] | .window k => [.window k] | .close => []
def isName (n : Nat) : Prop := n ∈ [97, 98, 99, 100]
def Pt.ok : Pt → Prop
  | .mot m => m.ok
  | .area r => r.ok
  | .name n => isName n
  | .case _ => True
  | .side _ => True
  | .times k => 1 ≤ k ∧ k ≤ 4
  | .signs s => 1 ≤ s.length ∧ s.length ≤ 10 ∧ ∀ c ∈ s, okSign [10] c = true
  | .state k => k ≤ 999
  | .window k => k ≤ 2
def De.ok (d : De) : Prop := ∀ p ∈ d.parts, p.ok
def PtAt (H : Hp) (x : V) : Pt → Prop
  | .mot m => ∃ s, x = .ref s ∧ H s = some (.tup m.vs)
  | .area r => ∃ s, x = .ref s ∧ ArAt H s r
  | .name n => x = sv [n]
  | .case g => x = sv (if g then w_great else w_small)
  | .side i => x = sv (if i then w_in else w_out)
  | .times k => x = iv k
  | .signs s => x = sv s
  | .state k => x = iv k
  | .window k => x = iv k
def PtsAt (H : Hp) : List V → List Pt → Prop
  | [], [] => True
  | x :: xs, p :: ps => PtAt H x p ∧ PtsAt H xs ps
  | _, _ => False
def DeAt (H : Hp) (x : V) (d : De) : Prop := ∃ a ps, x = .ref a ∧ H a = some (.tup (sv d.word :: ps)) ∧ PtsAt H ps d.parts
/-- all tuples stand as they stood -/
def Tk (H H' : Hp) : Prop := ∀ p xs, H p = some (.tup xs) → H' p = some (.tup xs)
theorem Tk.refl {H : Hp} : Tk H H := fun _ _ h => h
theorem Tk.trans {H H1 H2 : Hp} (a : Tk H H1) (b : Tk H1 H2) : Tk H H2 := fun p xs h => b p xs (a p xs h)
theorem Tk.of {H H' : Hp} (e : Xt H H') : Tk H H' := fun p xs h => e p _ h
theorem ArAt.tk {H H' : Hp} {a : Addr} {r : Ar} (h : ArAt H a r) (e : Tk H H') : ArAt H' a r := by
  cases r with
  | mot m => obtain ⟨s, h1, h2⟩ := h; exact ⟨s, e a _ h1, e s _ h2⟩
  | rows n => exact e a _ h
  | word => exact e a _ h
  | inside o c => exact e a _ h
  | chosen => exact e a _ h
theorem PtAt.tk {H H' : Hp} {x : V} {p : Pt} (h : PtAt H x p) (e : Tk H H') : PtAt H' x p := by
  cases p with
  | mot m => obtain ⟨s, h1, h2⟩ := h; exact ⟨s, h1, e s _ h2⟩
  | area r => obtain ⟨s, h1, h2⟩ := h; exact ⟨s, h1, h2.tk e⟩
  | _ => exact h
theorem PtsAt.tk {H H' : Hp} (e : Tk H H') : ∀ {xs : List V} {ps : List Pt}, PtsAt H xs ps → PtsAt H' xs ps
  | [], [], _ => trivial
  | x :: xs, p :: ps, h => ⟨h.1.tk e, PtsAt.tk e h.2⟩
  | [], _ :: _, h => h.elim
  | _ :: _, [], h => h.elim
theorem DeAt.tk {H H' : Hp} {x : V} {d : De} (h : DeAt H x d) (e : Tk H H') : DeAt H' x d := by
  obtain ⟨a, ps, h1, h2, h3⟩ := h
  exact ⟨a, ps, h1, e a _ h2, h3.tk e⟩
/-! ### editors -/
structure Win where
  spot : Nat
  anchor : Option Nat
  column : Option Nat
structure Reg where
  rows : Bool
  text : List Nat
structure EdS where
  text : List Nat
  wins : List Win
  active : Nat
  marks : List (Nat × Nat)
  regs : List (Nat × Reg)
  pat : Option (List Nat)
  macros : List (Nat × List De)
  taking : Option Nat
  taken : List De
  last : Option De
  states : List (Option Nat × List Nat)
  state : Nat
  deep : Nat
  played : Nat
structure EdA where
  dx : Addr
  ws : Addr
  wa : List (Addr × Addr)
  mks : Addr
  rg : Addr
  ma : Addr
  tk : Addr
  st : Addr
  last : V
def nm : Option Nat → V
  | none => .non
  | some c => sv [c]
def winF (w : Win) : List (Str × V) := [("spot", iv w.spot), ("anchor", vo w.anchor), ("column", vo w.column)]
def edF (A : EdA) (S : EdS) : List (Str × V) := [("text", sv S.text), ("windows", .ref A.ws), ("active", iv S.active), ("marks", .ref A.mks), ("registers", .ref A.rg), ("pattern", pv S.pat), ("macros", .ref A.ma), ("taking", nm S.taking), ("taken", .ref A.tk), ("last", A.last), ("states", .ref A.st), ("state", iv S.state), ("deep", iv S.deep), ("played", iv S.played)]
def kindW (b : Bool) : List Nat := if b then w_rows else w_signs
abbrev key (n : Nat) : Key := Sum.inr ⟨#[n]⟩
def mksK (ms : List (Nat × Nat)) : List (Key × V) := ms.map fun q => (key q.1, iv q.2)
def WinAt (K : PySem.W.Frag) (H : Hp) (p : Addr × Addr) (w : Win) : Prop := H p.1 = some (.ins (cl K "Window") p.2 (winF w))
def RegAt (H : Hp) (kv : Key × V) (r : Nat × Reg) : Prop := kv.1 = key r.1 ∧ ∃ p, kv.2 = .ref p ∧ H p = some (.tup [sv (kindW r.2.rows), sv r.2.text])
def MacAt (H : Hp) (kv : Key × V) (r : Nat × List De) : Prop := kv.1 = key r.1 ∧ ∃ p xs, kv.2 = .ref p ∧ H p = some (.tup xs) ∧ Paired (DeAt H) xs r.2
def StaAt (H : Hp) (x : V) (s : Option Nat × List Nat) : Prop := ∃ p, x = .ref p ∧ H p = some (.tup [vo s.1, sv s.2])
def LastAt (H : Hp) (x : V) : Option De → Prop
  | none => x = .non
  | some d => DeAt H x d
def fp (e : Addr) (A : EdA) : List Addr := e :: A.ws :: A.mks :: A.rg :: A.ma :: A.tk :: A.st :: A.wa.map (·.1)
structure EdAt (K : PySem.W.Frag) (H : Hp) (e : Addr) (A : EdA) (S : EdS) : Prop where
  own : H e = some (.ins (cl K "Editor") A.dx (edF A S))
  ws : H A.ws = some (.lst (A.wa.map fun p => V.ref p.1))
  wins : Paired (WinAt K H) A.wa S.wins
  mks : H A.mks = some (.dK (mksK S.marks))
  rg : ∃ kvs, H A.rg = some (.dK kvs) ∧ Paired (RegAt H) kvs S.regs
  ma : ∃ kvs, H A.ma = some (.dK kvs) ∧ Paired (MacAt H) kvs S.macros
  tk : ∃ xs, H A.tk = some (.lst xs) ∧ Paired (DeAt H) xs S.taken
  la : LastAt H A.last S.last
  st : ∃ xs, H A.st = some (.lst xs) ∧ Paired (StaAt H) xs S.states
  nd : (fp e A).Nodup
theorem _root_.PySem.Paired.imp {α β : Type} {F G : α → β → Prop} {l : List α} {r : List β} (h : Paired F l r) (m : ∀ a b, F a b → G a b) : Paired G l r := Paired.mapP h m
theorem RegAt.tk {H H' : Hp} {kv : Key × V} {r : Nat × Reg} (h : RegAt H kv r) (e : Tk H H') : RegAt H' kv r := by
  obtain ⟨h1, p, h2, h3⟩ := h
  exact ⟨h1, p, h2, e p _ h3⟩
theorem MacAt.tk {H H' : Hp} {kv : Key × V} {r : Nat × List De} (h : MacAt H kv r) (e : Tk H H') : MacAt H' kv r := by
  obtain ⟨h1, p, xs, h2, h3, h4⟩ := h
  exact ⟨h1, p, xs, h2, e p _ h3, h4.imp fun _ _ z => z.tk e⟩
theorem StaAt.tk {H H' : Hp} {x : V} {s : Option Nat × List Nat} (h : StaAt H x s) (e : Tk H H') : StaAt H' x s := by
  obtain ⟨p, h1, h2⟩ := h
  exact ⟨p, h1, e p _ h2⟩
theorem LastAt.tk {H H' : Hp} {x : V} {o : Option De} (h : LastAt H x o) (e : Tk H H') : LastAt H' x o := by
  cases o with
  | none => exact h
  | some d => exact DeAt.tk h e
/-- what the editor leans on stands still: it does, too -/
theorem EdAt.to {K : PySem.W.Frag} {H H' : Hp} {e : Addr} {A : EdA} {S : EdS} (h : EdAt K H e A S) (t : Tk H H') (f : ∀ p ∈ fp e A, ∀ o, H p = some o → H' p = some o) : EdAt K H' e A S where
  own := f _ (by simp [fp]) _ h.own
  ws := f _ (by simp [fp]) _ h.ws
  wins := by
    have hm : ∀ q ∈ A.wa, q.1 ∈ fp e A := fun q hq => by
      simp only [fp, List.mem_cons, List.mem_map]
      exact .inr (.inr (.inr (.inr (.inr (.inr (.inr ⟨q, hq, rfl⟩))))))
    have hw := h.wins
    clear h
    generalize S.wins = ws at hw
    revert hm hw
    generalize A.wa = wa
    intro hm hw
    induction hw with
    | nil => exact .nil
    | cons h1 _ ih => exact .cons (f _ (hm _ (List.mem_cons_self ..)) _ h1) (ih fun q hq => hm q (List.mem_cons_of_mem _ hq))
  mks := f _ (by simp [fp]) _ h.mks
  rg := let ⟨kvs, h1, h2⟩ := h.rg; ⟨kvs, f _ (by simp [fp]) _ h1, h2.imp fun _ _ z => z.tk t⟩
  ma := let ⟨kvs, h1, h2⟩ := h.ma; ⟨kvs, f _ (by simp [fp]) _ h1, h2.imp fun _ _ z => z.tk t⟩
  tk := let ⟨xs, h1, h2⟩ := h.tk; ⟨xs, f _ (by simp [fp]) _ h1, h2.imp fun _ _ z => z.tk t⟩
  la := h.la.tk t
  st := let ⟨xs, h1, h2⟩ := h.st; ⟨xs, f _ (by simp [fp]) _ h1, h2.imp fun _ _ z => z.tk t⟩
  nd := h.nd
theorem EdAt.xt {K : PySem.W.Frag} {H H' : Hp} {e : Addr} {A : EdA} {S : EdS} (h : EdAt K H e A S) (x : Xt H H') : EdAt K H' e A S := h.to (Tk.of x) fun p _ o => x p o
/-- what it leans on is no tuple -/
theorem EdAt.notup {K : PySem.W.Frag} {H : Hp} {e : Addr} {A : EdA} {S : EdS} (h : EdAt K H e A S) : ∀ p ∈ fp e A, ∃ o, H p = some o ∧ ∀ xs, o ≠ .tup xs := by
  intro p hp
  simp only [fp, List.mem_cons, List.mem_map] at hp
  rcases hp with rfl | rfl | rfl | rfl | rfl | rfl | rfl | ⟨q, hq, rfl⟩
  · exact ⟨_, h.own, fun _ z => nomatch z⟩
  · exact ⟨_, h.ws, fun _ z => nomatch z⟩
  · exact ⟨_, h.mks, fun _ z => nomatch z⟩
  · obtain ⟨_, z, _⟩ := h.rg; exact ⟨_, z, fun _ z => nomatch z⟩
  · obtain ⟨_, z, _⟩ := h.ma; exact ⟨_, z, fun _ z => nomatch z⟩
  · obtain ⟨_, z, _⟩ := h.tk; exact ⟨_, z, fun _ z => nomatch z⟩
  · obtain ⟨_, z, _⟩ := h.st; exact ⟨_, z, fun _ z => nomatch z⟩
  · have hw := h.wins
    generalize S.wins = ws at hw
    revert hq hw
    generalize A.wa = wa
    intro hq hw
    induction hw with
    | nil => cases hq
    | cons h1 _ ih =>
      rcases List.mem_cons.mp hq with rfl | hq
      · exact ⟨_, h1, fun _ z => nomatch z⟩
      · exact ih hq
theorem EdAt.tup_off {K : PySem.W.Frag} {H : Hp} {e : Addr} {A : EdA} {S : EdS} (h : EdAt K H e A S) {p : Addr} {xs : List V} (hp : H p = some (.tup xs)) : p ∉ fp e A := fun z => by
  obtain ⟨o, h1, h2⟩ := h.notup p z
  rw [hp] at h1
  cases h1
  exact h2 _ rfl
theorem EdAt.new_off {K : PySem.W.Frag} {H : Hp} {e : Addr} {A : EdA} {S : EdS} (h : EdAt K H e A S) {p : Addr} (hp : H p = none) : p ∉ fp e A := fun z => by
  obtain ⟨o, h1, h2⟩ := h.notup p z
  rw [hp] at h1
  cases h1
/-- all stands as it stood, but what the editor leans on -/
def Off (L : List Addr) (H H' : Hp) : Prop := ∀ p o, p ∉ L → H p = some o → H' p = some o
theorem Off.refl {L : List Addr} {H : Hp} : Off L H H := fun _ _ _ h => h
theorem Off.trans {L : List Addr} {H H1 H2 : Hp} (a : Off L H H1) (b : Off L H1 H2) : Off L H H2 := fun p o h e => b p o h (a p o h e)
theorem Off.of {L : List Addr} {H H' : Hp} (e : Xt H H') : Off L H H' := fun p o _ h => e p o h
theorem Off.at_ {L : List Addr} {H : Hp} {p : Addr} {o : HO} (hp : p ∈ L) : Off L H (upd H p o) := fun q u hq h => by
  have hne : q ≠ p := fun e => hq (by rw [e]; exact hp)
  rw [upd_ne hne]; exact h
theorem Off.tk {K : PySem.W.Frag} {H H' : Hp} {e : Addr} {A : EdA} {S : EdS} (h : EdAt K H e A S) (f : Off (fp e A) H H') : Tk H H' := fun p xs hp => f p _ (h.tup_off hp) hp
/-- the editor leans on what it leant on, or on what is new -/
def Newer (H : Hp) (L L' : List Addr) : Prop := ∀ p ∈ L', p ∈ L ∨ H p = none
theorem Newer.refl {H : Hp} {L : List Addr} : Newer H L L := fun p h => .inl h
/-- a step of the editor -/
structure Step (K : PySem.W.Frag) (e : Addr) (A : EdA) (H : Hp) (A' : EdA) (S' : EdS) (H' : Hp) : Prop where
  at_ : EdAt K H' e A' S'
  off : Off (fp e A) H H'
  new : Newer H (fp e A) (fp e A')
theorem Step.refl {K : PySem.W.Frag} {e : Addr} {A : EdA} {H : Hp} {S : EdS} (h : EdAt K H e A S) : Step K e A H A S H := ⟨h, .refl, .refl⟩
theorem Step.trans {K : PySem.W.Frag} {e : Addr} {A A1 A2 : EdA} {H H1 H2 : Hp} {S1 S2 : EdS} (a : Step K e A H A1 S1 H1) (b : Step K e A1 H1 A2 S2 H2) : Step K e A H A2 S2 H2 where
  at_ := b.at_
  off := fun p o hp h => b.off p o (fun z => by
    rcases a.new p z with z | z
    · exact hp z
    · rw [h] at z; cases z) (a.off p o hp h)
  new := fun p hp => by
    rcases b.new p hp with z | z
    · exact a.new p z
    · by_cases hq : p ∈ fp e A
      · exact .inl hq
      · cases hH : H p with
        | none => exact .inr rfl
        | some o =>
          have := a.off p o hq hH
          rw [z] at this; cases this
theorem Step.xt {K : PySem.W.Frag} {e : Addr} {A A1 : EdA} {H H1 H2 : Hp} {S1 : EdS} (a : Step K e A H A1 S1 H1) (x : Xt H1 H2) : Step K e A H A1 S1 H2 := a.trans ⟨a.at_.xt x, .of x, .refl⟩
theorem Step.tk {K : PySem.W.Frag} {e : Addr} {A A1 : EdA} {H H1 : Hp} {S S1 : EdS} (h : EdAt K H e A S) (a : Step K e A H A1 S1 H1) : Tk H H1 := a.off.tk h
end Ed

/-! editors: stores -/
namespace Ed
open PySem L2 Cb
open Evl (Ev EvT)
def fq (A : EdA) : List Addr := A.ws :: A.mks :: A.rg :: A.ma :: A.tk :: A.st :: A.wa.map (·.1)
theorem fp_eq (e : Addr) (A : EdA) : fp e A = e :: fq A := rfl
/-- all but the editor's own thing -/
structure EdB (K : PySem.W.Frag) (H : Hp) (A : EdA) (S : EdS) : Prop where
  ws : H A.ws = some (.lst (A.wa.map fun p => V.ref p.1))
  wins : Paired (WinAt K H) A.wa S.wins
  mks : H A.mks = some (.dK (mksK S.marks))
  rg : ∃ kvs, H A.rg = some (.dK kvs) ∧ Paired (RegAt H) kvs S.regs
  ma : ∃ kvs, H A.ma = some (.dK kvs) ∧ Paired (MacAt H) kvs S.macros
  tk : ∃ xs, H A.tk = some (.lst xs) ∧ Paired (DeAt H) xs S.taken
  la : LastAt H A.last S.last
  st : ∃ xs, H A.st = some (.lst xs) ∧ Paired (StaAt H) xs S.states
variable {K : PySem.W.Frag} {H H' : Hp} {e : Addr} {A A' : EdA} {S S' : EdS}
theorem EdAt.b (h : EdAt K H e A S) : EdB K H A S := ⟨h.ws, h.wins, h.mks, h.rg, h.ma, h.tk, h.la, h.st⟩
theorem EdB.at_ (b : EdB K H A S) (own : H e = some (.ins (cl K "Editor") A.dx (edF A S))) (nd : (fp e A).Nodup) : EdAt K H e A S := ⟨own, b.ws, b.wins, b.mks, b.rg, b.ma, b.tk, b.la, b.st, nd⟩
theorem wins_keep {K : PySem.W.Frag} {H H' : Hp} : ∀ {wa : List (Addr × Addr)} {ws : List Win}, Paired (WinAt K H) wa ws → (∀ q ∈ wa, H' q.1 = H q.1) → Paired (WinAt K H') wa ws := by
  intro wa ws h
  induction h with
  | nil => intro _; exact .nil
  | cons h1 _ ih => intro hm; exact .cons (by unfold WinAt; rw [hm _ (List.mem_cons_self ..)]; exact h1) (ih fun q hq => hm q (List.mem_cons_of_mem _ hq))
theorem EdB.to (h : EdB K H A S) (t : Tk H H') (f : ∀ p ∈ fq A, H' p = H p) : EdB K H' A S where
  ws := (f _ (by simp [fq])).trans h.ws
  wins := wins_keep h.wins fun q hq => f _ (by
    simp only [fq, List.mem_cons, List.mem_map]
    exact .inr (.inr (.inr (.inr (.inr (.inr ⟨q, hq, rfl⟩))))))
  mks := (f _ (by simp [fq])).trans h.mks
  rg := let ⟨kvs, h1, h2⟩ := h.rg; ⟨kvs, (f _ (by simp [fq])).trans h1, h2.imp fun _ _ z => z.tk t⟩
  ma := let ⟨kvs, h1, h2⟩ := h.ma; ⟨kvs, (f _ (by simp [fq])).trans h1, h2.imp fun _ _ z => z.tk t⟩
  tk := let ⟨xs, h1, h2⟩ := h.tk; ⟨xs, (f _ (by simp [fq])).trans h1, h2.imp fun _ _ z => z.tk t⟩
  la := h.la.tk t
  st := let ⟨xs, h1, h2⟩ := h.st; ⟨xs, (f _ (by simp [fq])).trans h1, h2.imp fun _ _ z => z.tk t⟩
theorem tk_upd {H : Hp} {p : Addr} {o o' : HO} (h : H p = some o) (hn : ∀ xs, o ≠ .tup xs) : Tk H (upd H p o') := fun q xs hq => by
  have hne : q ≠ p := fun e => by
    rw [e, h] at hq
    injection hq with hq
    exact hn _ hq
  rw [upd_ne hne]; exact hq
/-- a store into the editor itself -/
theorem EdB.setE {o : HO} (b : EdB K H A' S') (ho : H e = some o) (hn : ∀ xs, o ≠ .tup xs) (nd : (fp e A').Nodup) : EdAt K (upd H e (.ins (cl K "Editor") A'.dx (edF A' S'))) e A' S' := by
  refine (b.to (tk_upd ho hn) fun p hp => ?_).at_ upd_same nd
  rw [fp_eq] at nd
  have hne : p ≠ e := fun z => (List.nodup_cons.mp nd).1 (by rw [← z]; exact hp)
  rw [upd_ne hne]
theorem EdAt.stepE (h : EdAt K H e A S) (b : EdB K H A' S') (hd : A'.dx = A.dx) (nd : (fp e A').Nodup) (nw : Newer H (fp e A) (fp e A')) : Step K e A H A' S' (upd H e (.ins (cl K "Editor") A.dx (edF A' S'))) := by
  refine ⟨?_, .at_ (by simp [fp]), nw⟩
  rw [← hd]
  exact b.setE h.own (fun _ z => nomatch z) nd
/-- one of the editor's plain things is stored -/
theorem EdAt.stepP (h : EdAt K H e A S) (hw : S'.wins = S.wins) (hm : S'.marks = S.marks) (hr : S'.regs = S.regs) (hc : S'.macros = S.macros) (ht : S'.taken = S.taken) (hs : S'.states = S.states) {v : V} (hl : LastAt H v S'.last) :
    Step K e A H { A with last := v } S' (upd H e (.ins (cl K "Editor") A.dx (edF { A with last := v } S'))) := by
  refine h.stepE ⟨h.ws, by rw [hw]; exact h.wins, by rw [hm]; exact h.mks, by rw [hr]; exact h.rg, by rw [hc]; exact h.ma, by rw [ht]; exact h.tk, hl, by rw [hs]; exact h.st⟩ rfl h.nd .refl
/-- .. not the last change -/
theorem EdAt.stepQ (h : EdAt K H e A S) (hw : S'.wins = S.wins) (hm : S'.marks = S.marks) (hr : S'.regs = S.regs) (hc : S'.macros = S.macros) (ht : S'.taken = S.taken) (hs : S'.states = S.states) (hl : S'.last = S.last) :
    Step K e A H A S' (upd H e (.ins (cl K "Editor") A.dx (edF A S'))) := by
  refine h.stepE ⟨h.ws, by rw [hw]; exact h.wins, by rw [hm]; exact h.mks, by rw [hr]; exact h.rg, by rw [hc]; exact h.ma, by rw [ht]; exact h.tk, by rw [hl]; exact h.la, by rw [hs]; exact h.st⟩ rfl h.nd .refl
/-! ### stores into the things it leans on -/
theorem nd_off {l : List Addr} (h : l.Nodup) {i j : Nat} {a b : Addr} (hi : l[i]? = some a) (hj : l[j]? = some b) (hij : i ≠ j) : a ≠ b := by
  obtain ⟨h1, rfl⟩ := List.getElem?_eq_some_iff.mp hi
  obtain ⟨h2, rfl⟩ := List.getElem?_eq_some_iff.mp hj
  intro e
  rcases Nat.lt_or_gt_of_ne hij with z | z
  · exact (List.pairwise_iff_getElem.mp h i j h1 h2 z) e
  · exact (List.pairwise_iff_getElem.mp h j i h2 h1 z) e.symm
theorem wa_at {e : Addr} {A : EdA} {i : Nat} {q : Addr × Addr} (h : A.wa[i]? = some q) : (fp e A)[i + 7]? = some q.1 := by
  simp only [fp, List.getElem?_cons_succ, List.getElem?_map, h]; rfl
theorem mem_wa {e : Addr} {A : EdA} {q : Addr × Addr} (h : q ∈ A.wa) : ∃ i, (fp e A)[i + 7]? = some q.1 := by
  obtain ⟨i, hi, rfl⟩ := List.mem_iff_getElem.mp h
  exact ⟨i, wa_at (List.getElem?_eq_getElem hi)⟩
theorem fp_ne (nd : (fp e A).Nodup) {i : Nat} {p : Addr} (hp : (fp e A)[i]? = some p) : (i ≠ 0 → e ≠ p) ∧ (i ≠ 1 → A.ws ≠ p) ∧ (i ≠ 2 → A.mks ≠ p) ∧ (i ≠ 3 → A.rg ≠ p) ∧ (i ≠ 4 → A.ma ≠ p) ∧ (i ≠ 5 → A.tk ≠ p) ∧ (i ≠ 6 → A.st ≠ p) ∧ (i < 7 → ∀ q ∈ A.wa, q.1 ≠ p) := by
  have at_ : ∀ j a, (fp e A)[j]? = some a → i ≠ j → a ≠ p := fun j a ha hij => nd_off nd ha hp (Ne.symm hij)
  refine ⟨at_ 0 _ rfl, at_ 1 _ rfl, at_ 2 _ rfl, at_ 3 _ rfl, at_ 4 _ rfl, at_ 5 _ rfl, at_ 6 _ rfl, fun hi q hq => ?_⟩
  obtain ⟨j, hj⟩ := mem_wa (e := e) hq
  exact at_ _ _ hj (by omega)
theorem wins_set {K : PySem.W.Frag} {H H' : Hp} : ∀ {wa : List (Addr × Addr)} {ws : List Win}, Paired (WinAt K H) wa ws → ∀ (i : Nat) (q : Addr × Addr) (w' : Win), wa[i]? = some q → (wa.map (·.1)).Nodup → H' = upd H q.1 (.ins (cl K "Window") q.2 (winF w')) → Paired (WinAt K H') wa (ws.set i w') := by
  intro wa ws h
  induction h with
  | nil => intro i q w' hi; simp at hi
  | @cons p w ps ws' h1 h2 ih =>
    intro i q w' hi nd hH
    have nd' : p.1 ∉ ps.map (·.1) ∧ (ps.map (·.1)).Nodup := List.nodup_cons.mp nd
    cases i with
    | zero =>
      simp at hi
      subst hi
      refine .cons ?_ (wins_keep h2 fun r hr => ?_)
      · unfold WinAt; rw [hH, upd_same]
      · rw [hH, upd_ne (fun z => nd'.1 (by rw [← z]; exact List.mem_map.mpr ⟨r, hr, rfl⟩))]
    | succ i =>
      simp at hi
      have hq : q.1 ∈ ps.map (·.1) := List.mem_map.mpr ⟨q, List.mem_of_getElem? hi, rfl⟩
      refine .cons ?_ (ih i q w' hi nd'.2 hH)
      unfold WinAt
      rw [hH, upd_ne (fun z => nd'.1 (by rw [z]; exact hq))]
      exact h1
theorem EdAt.winAt (h : EdAt K H e A S) {i : Nat} {w : Win} (hw : S.wins[i]? = some w) : ∃ q, A.wa[i]? = some q ∧ WinAt K H q w := by
  have hp := h.wins
  generalize S.wins = ws at hp hw
  revert hw
  generalize A.wa = wa at hp
  induction hp generalizing i with
  | nil => intro hw; simp at hw
  | cons h1 _ ih =>
    intro hw
    cases i with
    | zero => simp at hw; subst hw; exact ⟨_, rfl, h1⟩
    | succ i => simp at hw; exact ih hw
theorem EdAt.wa_len (h : EdAt K H e A S) : A.wa.length = S.wins.length := h.wins.length
theorem nd_wa (nd : (fp e A).Nodup) : (A.wa.map (·.1)).Nodup := by
  unfold fp at nd
  simp only [List.nodup_cons] at nd
  exact nd.2.2.2.2.2.2.2
/-- a window is stored into -/
theorem EdAt.stepW (h : EdAt K H e A S) {i : Nat} {q : Addr × Addr} (w' : Win) (hq : A.wa[i]? = some q) (hi : i < S.wins.length) : Step K e A H A { S with wins := S.wins.set i w' } (upd H q.1 (.ins (cl K "Window") q.2 (winF w'))) := by
  have hf := wa_at (e := e) hq
  obtain ⟨n0, n1, n2, n3, n4, n5, n6, _⟩ := fp_ne h.nd hf
  obtain ⟨q', hq', hw⟩ := h.winAt (List.getElem?_eq_getElem hi)
  rw [hq] at hq'
  cases hq'
  have t : Tk H (upd H q.1 (.ins (cl K "Window") q.2 (winF w'))) := tk_upd hw fun _ z => nomatch z
  refine ⟨⟨?_, ?_, ?_, ?_, ?_, ?_, ?_, h.la.tk t, ?_, h.nd⟩, .at_ (List.mem_of_getElem? hf), .refl⟩
  · rw [upd_ne (n0 (by omega))]; exact h.own
  · rw [upd_ne (n1 (by omega))]; exact h.ws
  · exact wins_set h.wins i q w' hq (nd_wa h.nd) rfl
  · rw [upd_ne (n2 (by omega))]; exact h.mks
  · obtain ⟨kvs, z1, z2⟩ := h.rg
    exact ⟨kvs, by rw [upd_ne (n3 (by omega))]; exact z1, z2.imp fun _ _ z => z.tk t⟩
  · obtain ⟨kvs, z1, z2⟩ := h.ma
    exact ⟨kvs, by rw [upd_ne (n4 (by omega))]; exact z1, z2.imp fun _ _ z => z.tk t⟩
  · obtain ⟨kvs, z1, z2⟩ := h.tk
    exact ⟨kvs, by rw [upd_ne (n5 (by omega))]; exact z1, z2.imp fun _ _ z => z.tk t⟩
  · obtain ⟨kvs, z1, z2⟩ := h.st
    exact ⟨kvs, by rw [upd_ne (n6 (by omega))]; exact z1, z2.imp fun _ _ z => z.tk t⟩
/-- the marks, the registers, the macros, what is taken, the states are stored into -/
theorem EdAt.stepM (h : EdAt K H e A S) (ms : List (Nat × Nat)) : Step K e A H A { S with marks := ms } (upd H A.mks (.dK (mksK ms))) := by
  obtain ⟨n0, n1, n2, n3, n4, n5, n6, n7⟩ := fp_ne (i := 2) h.nd (p := A.mks) rfl
  have t : Tk H (upd H A.mks (.dK (mksK ms))) := tk_upd h.mks fun _ z => nomatch z
  refine ⟨⟨?_, ?_, ?_, upd_same, ?_, ?_, ?_, h.la.tk t, ?_, h.nd⟩, .at_ (by simp [fp]), .refl⟩
  · rw [upd_ne (n0 (by omega))]; exact h.own
  · rw [upd_ne (n1 (by omega))]; exact h.ws
  · exact wins_keep h.wins fun q hq => upd_ne (n7 (by omega) q hq)
  · obtain ⟨kvs, z1, z2⟩ := h.rg
    exact ⟨kvs, by rw [upd_ne (n3 (by omega))]; exact z1, z2.imp fun _ _ z => z.tk t⟩
  · obtain ⟨kvs, z1, z2⟩ := h.ma
    exact ⟨kvs, by rw [upd_ne (n4 (by omega))]; exact z1, z2.imp fun _ _ z => z.tk t⟩
  · obtain ⟨kvs, z1, z2⟩ := h.tk
    exact ⟨kvs, by rw [upd_ne (n5 (by omega))]; exact z1, z2.imp fun _ _ z => z.tk t⟩
  · obtain ⟨kvs, z1, z2⟩ := h.st
    exact ⟨kvs, by rw [upd_ne (n6 (by omega))]; exact z1, z2.imp fun _ _ z => z.tk t⟩
theorem EdAt.stepR (h : EdAt K H e A S) (rs : List (Nat × Reg)) (kvs : List (Key × V)) (hr : Paired (RegAt H) kvs rs) : Step K e A H A { S with regs := rs } (upd H A.rg (.dK kvs)) := by
  obtain ⟨n0, n1, n2, n3, n4, n5, n6, n7⟩ := fp_ne (i := 3) h.nd (p := A.rg) rfl
  have t : Tk H (upd H A.rg (.dK kvs)) := by
    obtain ⟨k0, z, _⟩ := h.rg
    exact tk_upd z fun _ z => nomatch z
  refine ⟨⟨?_, ?_, ?_, ?_, ⟨kvs, upd_same, hr.imp fun _ _ z => z.tk t⟩, ?_, ?_, h.la.tk t, ?_, h.nd⟩, .at_ (by simp [fp]), .refl⟩
  · rw [upd_ne (n0 (by omega))]; exact h.own
  · rw [upd_ne (n1 (by omega))]; exact h.ws
  · exact wins_keep h.wins fun q hq => upd_ne (n7 (by omega) q hq)
  · rw [upd_ne (n2 (by omega))]; exact h.mks
  · obtain ⟨kvs, z1, z2⟩ := h.ma
    exact ⟨kvs, by rw [upd_ne (n4 (by omega))]; exact z1, z2.imp fun _ _ z => z.tk t⟩
  · obtain ⟨kvs, z1, z2⟩ := h.tk
    exact ⟨kvs, by rw [upd_ne (n5 (by omega))]; exact z1, z2.imp fun _ _ z => z.tk t⟩
  · obtain ⟨kvs, z1, z2⟩ := h.st
    exact ⟨kvs, by rw [upd_ne (n6 (by omega))]; exact z1, z2.imp fun _ _ z => z.tk t⟩
theorem EdAt.stepC (h : EdAt K H e A S) (rs : List (Nat × List De)) (kvs : List (Key × V)) (hr : Paired (MacAt H) kvs rs) : Step K e A H A { S with macros := rs } (upd H A.ma (.dK kvs)) := by
  obtain ⟨n0, n1, n2, n3, n4, n5, n6, n7⟩ := fp_ne (i := 4) h.nd (p := A.ma) rfl
  have t : Tk H (upd H A.ma (.dK kvs)) := by
    obtain ⟨k0, z, _⟩ := h.ma
    exact tk_upd z fun _ z => nomatch z
  refine ⟨⟨?_, ?_, ?_, ?_, ?_, ⟨kvs, upd_same, hr.imp fun _ _ z => z.tk t⟩, ?_, h.la.tk t, ?_, h.nd⟩, .at_ (by simp [fp]), .refl⟩
  · rw [upd_ne (n0 (by omega))]; exact h.own
  · rw [upd_ne (n1 (by omega))]; exact h.ws
  · exact wins_keep h.wins fun q hq => upd_ne (n7 (by omega) q hq)
  · rw [upd_ne (n2 (by omega))]; exact h.mks
  · obtain ⟨kvs, z1, z2⟩ := h.rg
    exact ⟨kvs, by rw [upd_ne (n3 (by omega))]; exact z1, z2.imp fun _ _ z => z.tk t⟩
  · obtain ⟨kvs, z1, z2⟩ := h.tk
    exact ⟨kvs, by rw [upd_ne (n5 (by omega))]; exact z1, z2.imp fun _ _ z => z.tk t⟩
  · obtain ⟨kvs, z1, z2⟩ := h.st
    exact ⟨kvs, by rw [upd_ne (n6 (by omega))]; exact z1, z2.imp fun _ _ z => z.tk t⟩
theorem EdAt.stepT (h : EdAt K H e A S) (ds : List De) (xs : List V) (hr : Paired (DeAt H) xs ds) : Step K e A H A { S with taken := ds } (upd H A.tk (.lst xs)) := by
  obtain ⟨n0, n1, n2, n3, n4, n5, n6, n7⟩ := fp_ne (i := 5) h.nd (p := A.tk) rfl
  have t : Tk H (upd H A.tk (.lst xs)) := by
    obtain ⟨k0, z, _⟩ := h.tk
    exact tk_upd z fun _ z => nomatch z
  refine ⟨⟨?_, ?_, ?_, ?_, ?_, ?_, ⟨xs, upd_same, hr.imp fun _ _ z => z.tk t⟩, h.la.tk t, ?_, h.nd⟩, .at_ (by simp [fp]), .refl⟩
  · rw [upd_ne (n0 (by omega))]; exact h.own
  · rw [upd_ne (n1 (by omega))]; exact h.ws
  · exact wins_keep h.wins fun q hq => upd_ne (n7 (by omega) q hq)
  · rw [upd_ne (n2 (by omega))]; exact h.mks
  · obtain ⟨kvs, z1, z2⟩ := h.rg
    exact ⟨kvs, by rw [upd_ne (n3 (by omega))]; exact z1, z2.imp fun _ _ z => z.tk t⟩
  · obtain ⟨kvs, z1, z2⟩ := h.ma
    exact ⟨kvs, by rw [upd_ne (n4 (by omega))]; exact z1, z2.imp fun _ _ z => z.tk t⟩
  · obtain ⟨kvs, z1, z2⟩ := h.st
    exact ⟨kvs, by rw [upd_ne (n6 (by omega))]; exact z1, z2.imp fun _ _ z => z.tk t⟩
theorem EdAt.stepS (h : EdAt K H e A S) (ss : List (Option Nat × List Nat)) (xs : List V) (hr : Paired (StaAt H) xs ss) : Step K e A H A { S with states := ss } (upd H A.st (.lst xs)) := by
  obtain ⟨n0, n1, n2, n3, n4, n5, n6, n7⟩ := fp_ne (i := 6) h.nd (p := A.st) rfl
  have t : Tk H (upd H A.st (.lst xs)) := by
    obtain ⟨k0, z, _⟩ := h.st
    exact tk_upd z fun _ z => nomatch z
  refine ⟨⟨?_, ?_, ?_, ?_, ?_, ?_, ?_, h.la.tk t, ⟨xs, upd_same, hr.imp fun _ _ z => z.tk t⟩, h.nd⟩, .at_ (by simp [fp]), .refl⟩
  · rw [upd_ne (n0 (by omega))]; exact h.own
  · rw [upd_ne (n1 (by omega))]; exact h.ws
  · exact wins_keep h.wins fun q hq => upd_ne (n7 (by omega) q hq)
  · rw [upd_ne (n2 (by omega))]; exact h.mks
  · obtain ⟨kvs, z1, z2⟩ := h.rg
    exact ⟨kvs, by rw [upd_ne (n3 (by omega))]; exact z1, z2.imp fun _ _ z => z.tk t⟩
  · obtain ⟨kvs, z1, z2⟩ := h.ma
    exact ⟨kvs, by rw [upd_ne (n4 (by omega))]; exact z1, z2.imp fun _ _ z => z.tk t⟩
  · obtain ⟨kvs, z1, z2⟩ := h.tk
    exact ⟨kvs, by rw [upd_ne (n5 (by omega))]; exact z1, z2.imp fun _ _ z => z.tk t⟩
/-! ### dicts by names -/
def aput {α : Type} : List (Nat × α) → Nat → α → List (Nat × α)
  | [], n, x => [(n, x)]
  | (m, y) :: r, n, x => if m = n then (m, x) :: r else (m, y) :: aput r n x
def aget {α : Type} : List (Nat × α) → Nat → Option α
  | [], _ => none
  | (m, y) :: r, n => if m = n then some y else aget r n
theorem key_inj {m n : Nat} : key m = key n ↔ m = n := by
  constructor
  · intro h
    have h1 : (⟨#[m]⟩ : Str) = ⟨#[n]⟩ := Sum.inr.inj h
    have := congrArg (fun s : Str => s.cps.toList) h1
    simpa using this
  · intro h; rw [h]
theorem valV_marks (ms : List (Nat × Nat)) (n : Nat) : valV (mksK ms) (key n) = (aget ms n).map iv := by
  induction ms with
  | nil => rfl
  | cons p r ih =>
    obtain ⟨m, y⟩ := p
    unfold mksK at ih ⊢
    rw [List.map_cons]
    by_cases h : m = n
    · subst h
      rw [valV_pos rfl]
      simp [aget]
    · rw [valV_neg (fun z => h (key_inj.mp z)), ih]
      simp [aget, h]
theorem putK_cons {κ : Type} [DecidableEq κ] (p : κ × V) (r : List (κ × V)) (k : κ) (v : V) (nd : ((p :: r).map (·.1)).Nodup) : putK (p :: r) k v = if p.1 = k then (p.1, v) :: r else p :: putK r k v := by
  have nd' := List.nodup_cons.mp (show (p.1 :: r.map (·.1)).Nodup from nd)
  unfold putK
  by_cases h : p.1 = k
  · rw [if_pos h, List.any_cons, decide_eq_true h, Bool.true_or, if_pos rfl, List.map_cons, if_pos h]
    congr 1
    have : r.map (fun kv => if kv.1 = k then (kv.1, v) else kv) = r.map id := by
      apply List.map_congr_left
      intro q hq
      have : q.1 ≠ k := fun z => nd'.1 (by rw [h, ← z]; exact List.mem_map.mpr ⟨q, hq, rfl⟩)
      simp [this]
    rw [this, List.map_id]
  · rw [if_neg h, List.any_cons, decide_eq_false h, Bool.false_or, List.map_cons, if_neg h]
    by_cases h2 : (r.any fun kv => decide (kv.1 = k)) = true
    · rw [if_pos h2, if_pos h2]
    · rw [if_neg h2, if_neg h2]; rfl
theorem keys_nd {ms : List (Nat × Nat)} (nd : (ms.map (·.1)).Nodup) : ((mksK ms).map (·.1)).Nodup := by
  have e : (mksK ms).map (·.1) = (ms.map (·.1)).map key := by simp [mksK]
  rw [e]
  refine List.Pairwise.map _ (fun a b h z => h (key_inj.mp z)) nd
theorem putK_marks : ∀ (ms : List (Nat × Nat)) (n p : Nat), (ms.map (·.1)).Nodup → putK (mksK ms) (key n) (iv p) = mksK (aput ms n p)
  | [], n, p, _ => rfl
  | (m, y) :: r, n, p, nd => by
    have nd2 := (List.nodup_cons.mp (show (m :: r.map (·.1)).Nodup from nd)).2
    have e : mksK ((m, y) :: r) = (key m, iv y) :: mksK r := rfl
    rw [e, putK_cons _ _ _ _ (by rw [← e]; exact keys_nd nd)]
    by_cases h : m = n
    · subst h
      rw [if_pos rfl]
      simp [aput, mksK]
    · rw [if_neg (fun z => h (key_inj.mp z)), putK_marks r n p nd2]
      simp [aput, h, mksK]
theorem aput_keys {α : Type} : ∀ (ms : List (Nat × α)) (n : Nat) (x : α), (ms.map (·.1)).Nodup → ((aput ms n x).map (·.1)).Nodup ∧ ∀ k ∈ (aput ms n x).map (·.1), k = n ∨ k ∈ ms.map (·.1)
  | [], n, x, _ => by simp [aput]
  | (m, y) :: r, n, x, nd => by
    have nd2 := List.nodup_cons.mp (show (m :: r.map (·.1)).Nodup from nd)
    obtain ⟨h1, h2⟩ := aput_keys r n x nd2.2
    by_cases h : m = n
    · subst h
      have e : (aput ((m, y) :: r) m x).map (·.1) = m :: r.map (·.1) := by simp [aput]
      rw [e]
      exact ⟨nd, fun k hk => .inr hk⟩
    · have e : (aput ((m, y) :: r) n x).map (·.1) = m :: (aput r n x).map (·.1) := by simp [aput, h]
      rw [e]
      refine ⟨List.nodup_cons.mpr ⟨fun z => ?_, h1⟩, fun k hk => ?_⟩
      · rcases h2 m z with z | z
        · exact h z
        · exact nd2.1 z
      · rcases List.mem_cons.mp hk with z | z
        · exact .inr (by rw [z]; exact List.mem_cons_self ..)
        · rcases h2 k z with z | z
          · exact .inl z
          · exact .inr (List.mem_cons_of_mem _ z)
end Ed

/-! deeds: the program -/
namespace Ed
open PySem L2 Cb
open Evl (Ev EvT)
def Pt.kind : Pt → List Nat
  | .mot _ => kn_motion | .area _ => kn_area | .name _ => kn_name | .case _ => kn_case | .side _ => kn_side | .times _ => kn_times | .signs _ => kn_signs | .state _ => kn_state | .window _ => kn_window
theorem shapes_de (d : De) : kSHAPES.lookup ⟨d.word.toArray⟩ = some (d.parts.map fun p => ss p.kind) := by
  cases d <;> (simp only [De.word, De.parts, List.map_cons, List.map_nil, Pt.kind]; decide +kernel)
/-! is_part, is_motion by their names here -/
def sp_is_part_motions (K : PySem.W.Frag) : Sp := sp_is_part K
def b_is_part_motions (K : PySem.W.Frag) : Ss K :=
  (Ss.cons (Sm.ite (Te.cmp Cm.eq (Ex.v 0) (Ex.s ⟨#[110]⟩))
    (Ss.cons (Sm.ret (Ex.call "is_whole" (sp_is_whole K) (As.cons (Ex.v 1) (As.cons (Ex.i 1) (As.cons (Ex.g "TIMES_motions" (.int 9)) As.nil)))))
    Ss.nil)
    Ss.nil)
  (Ss.cons (Sm.ite (Te.cmp Cm.eq (Ex.v 0) (Ex.s ⟨#[114]⟩))
    (Ss.cons (Sm.ret (Ex.call "is_whole" (sp_is_whole K) (As.cons (Ex.v 1) (As.cons (Ex.i 1) (As.cons (Ex.g "ROWS" (.int 99)) As.nil)))))
    Ss.nil)
    Ss.nil)
  (Ss.cons (Sm.ite (Te.cmp Cm.eq (Ex.v 0) (Ex.s ⟨#[115]⟩))
    (Ss.cons (Sm.ret (Ex.call "is_named" (sp_is_named K) (As.cons (Ex.v 1) (As.cons (Ex.add (Ex.g "WORD" (.str cWORD)) (Ex.g "OTHERS" (.str cOTHERS))) As.nil))))
    Ss.nil)
    Ss.nil)
  (Ss.cons (Sm.ite (Te.cmp Cm.eq (Ex.v 0) (Ex.s ⟨#[109]⟩))
    (Ss.cons (Sm.ret (Ex.call "is_named" (sp_is_named K) (As.cons (Ex.v 1) (As.cons (Ex.s ⟨#[97, 98, 99, 100]⟩) As.nil))))
    Ss.nil)
    Ss.nil)
  (Ss.cons (Sm.ret (Ex.call "are_signs" (sp_are_signs K) (As.cons (Ex.v 1) (As.cons (Ex.i 1) (As.cons (Ex.i 5) (As.cons (Ex.s ⟨#[]⟩) As.nil))))))
  Ss.nil)))))
def N_is_part_motions : List Str := ["sign", "thing"]
theorem rd_is_part_motions (K : PySem.W.Frag) : ∀ vs H Q E, sp_is_part_motions K vs H Q E → (b_is_part_motions K).t { nx := fun _ H' => Q .non H', rt := Q } (start N_is_part_motions vs) H := rd_is_part K
def sp_is_motion8 (K : PySem.W.Frag) : Sp := sp_is_motion K
def b_is_motion8 (K : PySem.W.Frag) : Ss K :=
  (Ss.cons (Sm.ite (Te.w (Tw.or (Te.not (Te.val (Ex.isi (As.cons (Ex.v 0) (As.cons (Ex.ty "tuple" "tuple" boot_tuple) As.nil))))) (Tw.or (Te.cmp Cm.eq (Ex.len (As.cons (Ex.v 0) As.nil)) (Ex.i 0)) (Tw.or (Te.not (Te.val (Ex.isi (As.cons (Ex.ix (Ex.v 0) (Ex.i 0)) (As.cons (Ex.ty "str" "str" boot_str) As.nil))))) (Tw.one (Te.knotIn (Ex.ix (Ex.v 0) (Ex.i 0)) "SIZES" kSIZES))))))
    (Ss.cons (Sm.ret (Ex.b false))
    Ss.nil)
    Ss.nil)
  (Ss.cons (Sm.set 1 (Ex.kix "SIZES" kSIZES (Ex.ix (Ex.v 0) (Ex.i 0))))
  (Ss.cons (Sm.ret (Ex.and (Ex.cmp Cm.eq (Ex.len (As.cons (Ex.v 0) As.nil)) (Ex.add (Ex.len (As.cons (Ex.v 1) As.nil)) (Ex.i 1))) (Ex.one (Ex.all (As.cons (Ex.lc [("sign", 2), ("part", 3)] (Ir.zipST (As.cons (Ex.v 1) (As.cons (Ex.sl (Ex.v 0) (Op.yes (Ex.i 1)) Op.no) As.nil))) (Tg.tup (Tgs.cons (Tg.v 2) (Tgs.cons (Tg.v 3) Tgs.nil))) Ifs.no (Ex.call "is_part_motions" (sp_is_part_motions K) (As.cons (Ex.v 2) (As.cons (Ex.v 3) As.nil)))) As.nil)))))
  Ss.nil)))
def N_is_motion8 : List Str := ["thing", "shape", "sign", "part"]
theorem rd_is_motion8 (K : PySem.W.Frag) : ∀ vs H Q E, sp_is_motion8 K vs H Q E → (b_is_motion8 K).t { nx := fun _ H' => Q .non H', rt := Q } (start N_is_motion8 vs) H := rd_is_motion K
/-! a part of a deed -/
def sp_is_part_deeds (K : PySem.W.Frag) : Sp := fun vs H Q _ => ∃ (p : Pt) (x : V), vs = [sv p.kind, x] ∧ PtAt H x p ∧ p.ok ∧ RetV (.bl true) H Q
def b_is_part_deeds (K : PySem.W.Frag) : Ss K :=
  (Ss.cons (Sm.ite (Te.cmp Cm.eq (Ex.v 0) (Ex.s ⟨#[109, 111, 116, 105, 111, 110]⟩))
    (Ss.cons (Sm.ret (Ex.call "is_motion" (sp_is_motion K) (As.cons (Ex.v 1) As.nil)))
    Ss.nil)
    Ss.nil)
  (Ss.cons (Sm.ite (Te.cmp Cm.eq (Ex.v 0) (Ex.s ⟨#[97, 114, 101, 97]⟩))
    (Ss.cons (Sm.ret (Ex.call "is_area" (sp_is_area K) (As.cons (Ex.v 1) As.nil)))
    Ss.nil)
    Ss.nil)
  (Ss.cons (Sm.ite (Te.cmp Cm.eq (Ex.v 0) (Ex.s ⟨#[110, 97, 109, 101]⟩))
    (Ss.cons (Sm.ret (Ex.call "is_named" (sp_is_named K) (As.cons (Ex.v 1) (As.cons (Ex.g "NAMES" (.str cNAMES)) As.nil))))
    Ss.nil)
    Ss.nil)
  (Ss.cons (Sm.ite (Te.cmp Cm.eq (Ex.v 0) (Ex.s ⟨#[99, 97, 115, 101]⟩))
    (Ss.cons (Sm.ret (Ex.and (Ex.isi (As.cons (Ex.v 1) (As.cons (Ex.ty "str" "str" boot_str) As.nil))) (Ex.one (Ex.cmp Cm.isin (Ex.v 1) (Ex.tup (As.cons (Ex.s ⟨#[103, 114, 101, 97, 116]⟩) (As.cons (Ex.s ⟨#[115, 109, 97, 108, 108]⟩) As.nil)))))))
    Ss.nil)
    Ss.nil)
  (Ss.cons (Sm.ite (Te.cmp Cm.eq (Ex.v 0) (Ex.s ⟨#[115, 105, 100, 101]⟩))
    (Ss.cons (Sm.ret (Ex.and (Ex.isi (As.cons (Ex.v 1) (As.cons (Ex.ty "str" "str" boot_str) As.nil))) (Ex.one (Ex.cmp Cm.isin (Ex.v 1) (Ex.tup (As.cons (Ex.s ⟨#[105, 110]⟩) (As.cons (Ex.s ⟨#[111, 117, 116]⟩) As.nil)))))))
    Ss.nil)
    Ss.nil)
  (Ss.cons (Sm.ite (Te.cmp Cm.eq (Ex.v 0) (Ex.s ⟨#[116, 105, 109, 101, 115]⟩))
    (Ss.cons (Sm.ret (Ex.call "is_whole" (sp_is_whole K) (As.cons (Ex.v 1) (As.cons (Ex.i 1) (As.cons (Ex.i 4) As.nil)))))
    Ss.nil)
    Ss.nil)
  (Ss.cons (Sm.ite (Te.cmp Cm.eq (Ex.v 0) (Ex.s ⟨#[115, 105, 103, 110, 115]⟩))
    (Ss.cons (Sm.ret (Ex.call "are_signs" (sp_are_signs K) (As.cons (Ex.v 1) (As.cons (Ex.i 1) (As.cons (Ex.i 10) (As.cons (Ex.s ⟨#[10]⟩) As.nil))))))
    Ss.nil)
    Ss.nil)
  (Ss.cons (Sm.ite (Te.cmp Cm.eq (Ex.v 0) (Ex.s ⟨#[115, 116, 97, 116, 101]⟩))
    (Ss.cons (Sm.ret (Ex.call "is_whole" (sp_is_whole K) (As.cons (Ex.v 1) (As.cons (Ex.i 0) (As.cons (Ex.i 999) As.nil)))))
    Ss.nil)
    Ss.nil)
  (Ss.cons (Sm.ret (Ex.call "is_whole" (sp_is_whole K) (As.cons (Ex.v 1) (As.cons (Ex.i 0) (As.cons (Ex.i 2) As.nil)))))
  Ss.nil)))))))))
def N_is_part_deeds : List Str := ["kind", "thing"]
theorem br_sv {a b : List Nat} {A B : Prop} (h1 : a = b → A) (h2 : a ≠ b → B) : br (decide ((⟨a.toArray⟩ : Str) = ⟨b.toArray⟩)) A B := by
  rw [dec_sv]
  exact br_d h1 h2
theorem rd_is_part_deeds (K : PySem.W.Frag) : ∀ vs H Q E, sp_is_part_deeds K vs H Q E → (b_is_part_deeds K).t { nx := fun _ H' => Q .non H', rt := Q } (start N_is_part_deeds vs) H := by
  rintro _ H Q E ⟨p, x, rfl, hp, hok, q⟩
  cases p with
  | mot m =>
    obtain ⟨s, rfl, hs⟩ := hp
    exact ⟨s, m, rfl, hs, hok, q⟩
  | area r =>
    obtain ⟨s, rfl, hs⟩ := hp
    exact ⟨s, r, rfl, hs, hok, q⟩
  | name n =>
    obtain rfl : x = sv [n] := hp
    have hn : isName n := hok
    refine ⟨_, _, rfl, trivial, by show (1 : Nat) ≤ 10000; decide, ?_⟩
    have e : isNamed (sv [n]) cNAMES.cps.toList = true := decide_eq_true hn
    rw [e]; exact q H (Xt.refl H)
  | case g =>
    obtain rfl : x = sv (if g then w_great else w_small) := hp
    cases g with
    | true => exact ⟨rfl, _, rfl, by decide, fun l hl => ⟨l, _, rfl, .inr (SqT.of upd_same), rfl, rfl, q _ (xt_new hl)⟩⟩
    | false => exact ⟨rfl, _, rfl, by decide, fun l hl => ⟨l, _, rfl, .inr (SqT.of upd_same), rfl, rfl, q _ (xt_new hl)⟩⟩
  | side i =>
    obtain rfl : x = sv (if i then w_in else w_out) := hp
    cases i with
    | true => exact ⟨rfl, _, rfl, by decide, fun l hl => ⟨l, _, rfl, .inr (SqT.of upd_same), rfl, rfl, q _ (xt_new hl)⟩⟩
    | false => exact ⟨rfl, _, rfl, by decide, fun l hl => ⟨l, _, rfl, .inr (SqT.of upd_same), rfl, rfl, q _ (xt_new hl)⟩⟩
  | times k =>
    obtain rfl : x = iv k := hp
    have hk : 1 ≤ k ∧ k ≤ 4 := hok
    refine ⟨_, _, _, rfl, trivial, ?_⟩
    have e : isWhole (iv k) 1 4 = true := by
      show (decide ((1 : Int) ≤ (k : Int)) && decide ((k : Int) ≤ 4)) = true
      simp; omega
    rw [e]; exact q H (Xt.refl H)
  | signs s =>
    obtain rfl : x = sv s := hp
    obtain ⟨h1, h2, h3⟩ : 1 ≤ s.length ∧ s.length ≤ 10 ∧ ∀ c ∈ s, okSign [10] c = true := hok
    refine ⟨_, _, _, [10], rfl, trivial, by show (⟨s.toArray⟩ : Str).length ≤ 10000; rw [len_sv]; omega, by decide, ?_⟩
    have e : areSigns (sv s) 1 10 [10] = true := by
      show (decide ((1 : Int) ≤ ((⟨s.toArray⟩ : Str).length : Int)) && decide (((⟨s.toArray⟩ : Str).length : Int) ≤ 10) && s.all (okSign [10])) = true
      rw [len_sv]
      simp only [Bool.and_eq_true, decide_eq_true_eq, List.all_eq_true]
      exact ⟨⟨by omega, by omega⟩, h3⟩
    rw [e]; exact q
  | state k =>
    obtain rfl : x = iv k := hp
    have hk : k ≤ 999 := hok
    refine ⟨_, _, _, rfl, trivial, ?_⟩
    have e : isWhole (iv k) 0 999 = true := by
      show (decide ((0 : Int) ≤ (k : Int)) && decide ((k : Int) ≤ 999)) = true
      simp; omega
    rw [e]; exact q H (Xt.refl H)
  | window k =>
    obtain rfl : x = iv k := hp
    have hk : k ≤ 2 := hok
    refine ⟨_, _, _, rfl, trivial, ?_⟩
    have e : isWhole (iv k) 0 2 = true := by
      show (decide ((0 : Int) ≤ (k : Int)) && decide ((k : Int) ≤ 2)) = true
      simp; omega
    rw [e]; exact q H (Xt.refl H)
/-! a deed -/
def sp_is_deed (K : PySem.W.Frag) : Sp := fun vs H Q _ => ∃ (x : V) (d : De), vs = [x] ∧ DeAt H x d ∧ d.ok ∧ RetV (.bl true) H Q
def b_is_deed (K : PySem.W.Frag) : Ss K :=
  (Ss.cons (Sm.ite (Te.w (Tw.or (Te.not (Te.val (Ex.isi (As.cons (Ex.v 0) (As.cons (Ex.ty "tuple" "tuple" boot_tuple) As.nil))))) (Tw.or (Te.cmp Cm.eq (Ex.len (As.cons (Ex.v 0) As.nil)) (Ex.i 0)) (Tw.or (Te.not (Te.val (Ex.isi (As.cons (Ex.ix (Ex.v 0) (Ex.i 0)) (As.cons (Ex.ty "str" "str" boot_str) As.nil))))) (Tw.one (Te.knotInT (Ex.ix (Ex.v 0) (Ex.i 0)) "SHAPES" kSHAPES))))))
    (Ss.cons (Sm.ret (Ex.b false))
    Ss.nil)
    Ss.nil)
  (Ss.cons (Sm.set 1 (Ex.kixT "SHAPES" kSHAPES (Ex.ix (Ex.v 0) (Ex.i 0))))
  (Ss.cons (Sm.ret (Ex.and (Ex.cmp Cm.eq (Ex.len (As.cons (Ex.v 0) As.nil)) (Ex.add (Ex.len (As.cons (Ex.v 1) As.nil)) (Ex.i 1))) (Ex.one (Ex.all (As.cons (Ex.lc [("kind", 2), ("part", 3)] (Ir.zipTT (As.cons (Ex.v 1) (As.cons (Ex.sl (Ex.v 0) (Op.yes (Ex.i 1)) Op.no) As.nil))) (Tg.tup (Tgs.cons (Tg.v 2) (Tgs.cons (Tg.v 3) Tgs.nil))) Ifs.no (Ex.call "is_part_deeds" (sp_is_part_deeds K) (As.cons (Ex.v 2) (As.cons (Ex.v 3) As.nil)))) As.nil)))))
  Ss.nil)))
def N_is_deed : List Str := ["thing", "shape", "kind", "part"]
theorem PtsAt.len {H : Hp} : ∀ {xs : List V} {ps : List Pt}, PtsAt H xs ps → xs.length = ps.length
  | [], [], _ => rfl
  | _ :: xs, _ :: ps, h => by simp [PtsAt.len h.2]
  | [], _ :: _, h => h.elim
  | _ :: _, [], h => h.elim
theorem PtsAt.get {H : Hp} : ∀ {xs : List V} {ps : List Pt} {i : Nat} {x : V} {p : Pt}, PtsAt H xs ps → xs[i]? = some x → ps[i]? = some p → PtAt H x p
  | x :: xs, p :: ps, 0, y, q, h, hx, hp => by simp at hx hp; subst hx hp; exact h.1
  | x :: xs, p :: ps, i + 1, y, q, h, hx, hp => by simp at hx hp; exact PtsAt.get h.2 hx hp
  | [], [], _, _, _, _, hx, _ => by simp at hx
  | [], _ :: _, _, _, _, h, _, _ => h.elim
  | _ :: _, [], _, _, _, h, _, _ => h.elim
theorem parts_le (d : De) : d.parts.length ≤ 2 := by cases d <;> simp [De.parts]
theorem rd_is_deed (K : PySem.W.Frag) : ∀ vs H Q E, sp_is_deed K vs H Q E → (b_is_deed K).t { nx := fun _ H' => Q .non H', rt := Q } (start N_is_deed vs) H := by
  rintro _ H Q E ⟨x, d, rfl, ⟨a, ps, rfl, ha, hps⟩, hok, q⟩
  have hlen := hps.len
  have hle := parts_le d
  have hS : SqT K H a (sv d.word :: ps) := SqT.of ha
  have h0 : atI (sv d.word :: ps) 0 = some (sv d.word) := atI_nat (j := 0) rfl
  refine ⟨rfl, _, _, ha, rfl, _, .inr hS, ?_⟩
  refine ⟨_, _, .inr hS, h0, rfl, _, rfl, ?_⟩
  refine ⟨_, _, .inr hS, h0, ?_⟩
  show (match kSHAPES.lookup ⟨d.word.toArray⟩ with
    | some _ => _
    | Option.none => False)
  rw [shapes_de]
  refine ⟨_, _, .inr hS, h0, ?_⟩
  show (match kSHAPES.lookup ⟨d.word.toArray⟩ with
    | some r => _
    | _ => False)
  rw [shapes_de]
  intro sp hsp
  refine ⟨_, .inr hS, _, .inr (hsp H), ?_⟩
  refine br_t (decide_eq_true (by show (((sv d.word :: ps).length : Nat) : Int) = ((((d.parts.map fun p => ss p.kind).map V.str).length : Nat) : Int) + 1; simp; omega)) ?_
  have hnw : ¬ (HT.sIx (sv d.word :: ps).length 0 (some 1) = 0 ∧ HT.sIx (sv d.word :: ps).length (sv d.word :: ps).length none = (sv d.word :: ps).length) := by
    have e : HT.sIx (sv d.word :: ps).length 0 (some ((1 : Nat) : Int)) = min 1 (sv d.word :: ps).length := HT.sIx_nat _ _ 1
    have e' : HT.sIx (sv d.word :: ps).length 0 (some 1) = min 1 (sv d.word :: ps).length := e
    rw [e']
    simp
  refine .inr ⟨a, _, rfl, hS, fun h => absurd h hnw, fun _ b hb => ?_⟩
  have ecut : cutV (sv d.word :: ps) (some 1) none = ps := by
    unfold cutV
    have e : HT.sIx (sv d.word :: ps).length 0 (some ((1 : Nat) : Int)) = min 1 (sv d.word :: ps).length := HT.sIx_nat _ _ 1
    have e' : HT.sIx (sv d.word :: ps).length 0 (some 1) = min 1 (sv d.word :: ps).length := e
    rw [e', HT.sIx_none]
    have e2 : min 1 (sv d.word :: ps).length = 1 := by simp
    rw [e2]
    simp
  rw [ecut]
  have eb : Xt H (upd H b (.tup ps)) := xt_new hb
  refine ⟨_, _, hsp _, SqT.of upd_same, ?_⟩
  refine lc_walk (walk_zipTT (xs := (d.parts.map fun p => ss p.kind).map V.str) (ys := ps) rfl) (fun i => List.replicate i (V.bl true)) rfl ?_ (fun H' e => ⟨hsp H', SqT.of (e b _ upd_same)⟩) ?_ (mono_two K 2 3) ?_
  · intro i hi
    simp at hi ⊢
    omega
  · rintro i x H2 H3 D hi ⟨c1, c2, c3⟩ ⟨T, c, y, rfl, hT, rfl, hc, hy⟩
    rw [List.getElem?_map, List.getElem?_map] at hc
    obtain ⟨c', hc1, rfl⟩ := Option.map_eq_some_iff.mp hc
    obtain ⟨p, hp, rfl⟩ := Option.map_eq_some_iff.mp hc1
    have hpo := hok p (List.mem_of_getElem? hp)
    have hpa := hps.get hy hp
    refine ⟨T, _, rfl, SqT.of upd_same, rfl, rfl, rfl, true, .bl true, xt_mut c2 (xt_none c2 hT), ?_, evT_yes, fun _ => ?_, ?_⟩
    · rw [upd_ne (ne_of_none c3 hT)]; exact c3
    · intro H4 e4 Q' q'
      exact ⟨p, y, rfl, hpa.tk (Tk.of (eb.trans e4)), hpo, fun H5 e5 => q' H5 e5⟩
    · simp [List.replicate_succ']
  · intro p H2 h1 e2 hp2
    refine ⟨_, SqL.of (by rw [hp2, rep_bl]), ?_⟩
    rw [all_rep]
    exact q H2 (eb.trans e2)
end Ed

/-! editors: made, told of -/
namespace Ed
open PySem L2 Cb
open Evl (Ev EvT)
/-! ### an editor that is as it should be -/
def De.isCh : De → Bool
  | .cut _ _ => true | .turn _ _ => true | .shift _ _ => true | .put _ _ => true | .write _ => true
  | _ => false
def PatIs (o : Option (List Nat)) : Prop := ∀ q, o = some q → 1 ≤ q.length ∧ q.length ≤ 5 ∧ ∀ c ∈ q, okSign [] c = true
structure EdS.ok (S : EdS) : Prop where
  txt : isText S.text
  act : S.active < S.wins.length
  few : S.wins.length ≤ 3
  win : ∀ w ∈ S.wins, w.spot ≤ S.text.length ∧ ∀ a, w.anchor = some a → a ≤ S.text.length
  mkn : (S.marks.map (·.1)).Nodup
  mkp : ∀ q ∈ S.marks, isName q.1 ∧ q.2 ≤ S.text.length
  rgn : (S.regs.map (·.1)).Nodup
  rgp : ∀ q ∈ S.regs, isName q.1 ∧ isText q.2.text
  pat : PatIs S.pat
  mcn : (S.macros.map (·.1)).Nodup
  mcp : ∀ q ∈ S.macros, isName q.1 ∧ q.2.length ≤ 30 ∧ ∀ d ∈ q.2, d.ok
  tkn : ∀ n, S.taking = some n → isName n
  tkd : ∀ d ∈ S.taken, d.ok
  lst : ∀ d, S.last = some d → d.ok ∧ d.isCh = true
  stl : S.states.length ≤ 60
  stt : ∀ s ∈ S.states, isText s.2
  sta : ∃ b, S.states[S.state]? = some (b, S.text)
  stp : ∀ (i : Nat) (b : Nat) (t : List Nat), S.states[i]? = some (some b, t) → b < i
def win0 : Win := ⟨0, none, none⟩
def EdS.cw (S : EdS) : Win := S.wins[S.active]?.getD win0
theorem EdS.ok.cw {S : EdS} (o : S.ok) : S.wins[S.active]? = some S.cw := by
  unfold EdS.cw
  rw [List.getElem?_eq_getElem o.act]; rfl
theorem EdS.ok.cwm {S : EdS} (o : S.ok) : S.cw ∈ S.wins := List.mem_of_getElem? o.cw
theorem EdS.ok.spot {S : EdS} (o : S.ok) : S.cw.spot ≤ S.text.length := (o.win _ o.cwm).1
def edNew (t : List Nat) : EdS := ⟨t, [win0], 0, [], [], none, [], none, [], none, [(none, t)], 0, 0, 0⟩
theorem edNew_ok {t : List Nat} (h : isText t) : (edNew t).ok where
  txt := h
  act := by show (0 : Nat) < 1; decide
  few := by show (1 : Nat) ≤ 3; decide
  win := by intro w hw; simp [edNew] at hw; subst hw; exact ⟨Nat.zero_le _, fun a z => nomatch z⟩
  mkn := by simp [edNew]
  mkp := by simp [edNew]
  rgn := by simp [edNew]
  rgp := by simp [edNew]
  pat := by intro q z; cases z
  mcn := by simp [edNew]
  mcp := by simp [edNew]
  tkn := by intro n z; cases z
  tkd := by simp [edNew]
  lst := by intro n z; cases z
  stl := by show (1 : Nat) ≤ 60; decide
  stt := by intro s hs; simp [edNew] at hs; subst hs; exact h
  sta := ⟨none, rfl⟩
  stp := by
    intro i b t' hi
    cases i with
    | zero => cases hi
    | succ i => simp [edNew] at hi
inductive Told where
  | done | no | cut
def tv : Told → V
  | .done => .non
  | .no => sv w_no
  | .cut => sv w_cut
/-- what a method of the editor does -/
abbrev RetS (K : PySem.W.Frag) (e : Addr) (A : EdA) (H : Hp) (r : Told × EdS) (Q : VK) : Prop := ∀ A' H', Step K e A H A' r.2 H' → Q (tv r.1) H'
/-! ### fields -/
section
variable {K : PySem.W.Frag} {H : Hp} {e : Addr} {A : EdA} {S : EdS} {Q : V → Prop}
theorem EdAt.f_text (h : EdAt K H e A S) (q : Q (sv S.text)) : ∃ dx fs v, H e = some (.ins (cl K "Editor") dx fs) ∧ fs.lookup ("text" : Str) = some v ∧ Q v := ⟨_, _, _, h.own, rfl, q⟩
theorem EdAt.f_windows (h : EdAt K H e A S) (q : Q (.ref A.ws)) : ∃ dx fs v, H e = some (.ins (cl K "Editor") dx fs) ∧ fs.lookup ("windows" : Str) = some v ∧ Q v := ⟨_, _, _, h.own, rfl, q⟩
theorem EdAt.f_active (h : EdAt K H e A S) (q : Q (iv S.active)) : ∃ dx fs v, H e = some (.ins (cl K "Editor") dx fs) ∧ fs.lookup ("active" : Str) = some v ∧ Q v := ⟨_, _, _, h.own, rfl, q⟩
theorem EdAt.f_marks (h : EdAt K H e A S) (q : Q (.ref A.mks)) : ∃ dx fs v, H e = some (.ins (cl K "Editor") dx fs) ∧ fs.lookup ("marks" : Str) = some v ∧ Q v := ⟨_, _, _, h.own, rfl, q⟩
theorem EdAt.f_registers (h : EdAt K H e A S) (q : Q (.ref A.rg)) : ∃ dx fs v, H e = some (.ins (cl K "Editor") dx fs) ∧ fs.lookup ("registers" : Str) = some v ∧ Q v := ⟨_, _, _, h.own, rfl, q⟩
theorem EdAt.f_pattern (h : EdAt K H e A S) (q : Q (pv S.pat)) : ∃ dx fs v, H e = some (.ins (cl K "Editor") dx fs) ∧ fs.lookup ("pattern" : Str) = some v ∧ Q v := ⟨_, _, _, h.own, rfl, q⟩
theorem EdAt.f_macros (h : EdAt K H e A S) (q : Q (.ref A.ma)) : ∃ dx fs v, H e = some (.ins (cl K "Editor") dx fs) ∧ fs.lookup ("macros" : Str) = some v ∧ Q v := ⟨_, _, _, h.own, rfl, q⟩
theorem EdAt.f_taking (h : EdAt K H e A S) (q : Q (nm S.taking)) : ∃ dx fs v, H e = some (.ins (cl K "Editor") dx fs) ∧ fs.lookup ("taking" : Str) = some v ∧ Q v := ⟨_, _, _, h.own, rfl, q⟩
theorem EdAt.f_taken (h : EdAt K H e A S) (q : Q (.ref A.tk)) : ∃ dx fs v, H e = some (.ins (cl K "Editor") dx fs) ∧ fs.lookup ("taken" : Str) = some v ∧ Q v := ⟨_, _, _, h.own, rfl, q⟩
theorem EdAt.f_last (h : EdAt K H e A S) (q : Q A.last) : ∃ dx fs v, H e = some (.ins (cl K "Editor") dx fs) ∧ fs.lookup ("last" : Str) = some v ∧ Q v := ⟨_, _, _, h.own, rfl, q⟩
theorem EdAt.f_states (h : EdAt K H e A S) (q : Q (.ref A.st)) : ∃ dx fs v, H e = some (.ins (cl K "Editor") dx fs) ∧ fs.lookup ("states" : Str) = some v ∧ Q v := ⟨_, _, _, h.own, rfl, q⟩
theorem EdAt.f_state (h : EdAt K H e A S) (q : Q (iv S.state)) : ∃ dx fs v, H e = some (.ins (cl K "Editor") dx fs) ∧ fs.lookup ("state" : Str) = some v ∧ Q v := ⟨_, _, _, h.own, rfl, q⟩
theorem EdAt.f_deep (h : EdAt K H e A S) (q : Q (iv S.deep)) : ∃ dx fs v, H e = some (.ins (cl K "Editor") dx fs) ∧ fs.lookup ("deep" : Str) = some v ∧ Q v := ⟨_, _, _, h.own, rfl, q⟩
theorem EdAt.f_played (h : EdAt K H e A S) (q : Q (iv S.played)) : ∃ dx fs v, H e = some (.ins (cl K "Editor") dx fs) ∧ fs.lookup ("played" : Str) = some v ∧ Q v := ⟨_, _, _, h.own, rfl, q⟩
variable {p : Addr × Addr} {w : Win}
theorem WinAt.f_spot (h : WinAt K H p w) (q : Q (iv w.spot)) : ∃ dx fs v, H p.1 = some (.ins (cl K "Window") dx fs) ∧ fs.lookup ("spot" : Str) = some v ∧ Q v := ⟨_, _, _, h, rfl, q⟩
theorem WinAt.f_anchor (h : WinAt K H p w) (q : Q (vo w.anchor)) : ∃ dx fs v, H p.1 = some (.ins (cl K "Window") dx fs) ∧ fs.lookup ("anchor" : Str) = some v ∧ Q v := ⟨_, _, _, h, rfl, q⟩
theorem WinAt.f_column (h : WinAt K H p w) (q : Q (vo w.column)) : ∃ dx fs v, H p.1 = some (.ins (cl K "Window") dx fs) ∧ fs.lookup ("column" : Str) = some v ∧ Q v := ⟨_, _, _, h, rfl, q⟩
/-- self.windows[self.active] -/
theorem EdAt.ixw (h : EdAt K H e A S) (o : S.ok) {Q : V → Prop} (q : ∀ p, A.wa[S.active]? = some p → WinAt K H p S.cw → Q (.ref p.1)) : ∃ xs v, (SqL K H A.ws xs ∨ SqT K H A.ws xs) ∧ atI xs (S.active : Int) = some v ∧ Q v := by
  obtain ⟨p, hp, hw⟩ := h.winAt o.cw
  exact ⟨_, .ref p.1, .inl (SqL.of h.ws), atI_nat (by rw [List.getElem?_map, hp]; rfl), q p hp hw⟩
end
theorem putF_le (f : Str) (v : V) : ∀ fs : List (Str × V), (putF f v fs).length ≤ fs.length + 1
  | [] => by simp [putF]
  | (g, x) :: r => by
    have := putF_le f v r
    unfold putF
    split <;> simp <;> omega
/-! ### a window is made -/
def sp_Window_init (K : PySem.W.Frag) : Sp := fun vs H Q _ => ∃ (x dx : Addr) (c : Nat), vs = [.ref x, iv c] ∧ H x = some (.ins (cl K "Window") dx []) ∧ Q .non (upd H x (.ins (cl K "Window") dx (winF ⟨c, none, none⟩)))
def b_Window_init (K : PySem.W.Frag) : Ss K :=
  (Ss.cons (Sm.fld "Window" (Ex.v 0) "spot" (Ex.v 1))
  (Ss.cons (Sm.fld "Window" (Ex.v 0) "anchor" Ex.none)
  (Ss.cons (Sm.fld "Window" (Ex.v 0) "column" Ex.none)
  Ss.nil)))
def N_Window_init : List Str := ["self", "cursor"]
theorem upd_upd {H : Hp} {p : Addr} {o o' : HO} : upd (upd H p o) p o' = upd H p o' := by
  funext q
  unfold upd
  split <;> rfl
theorem rd_Window_init (K : PySem.W.Frag) : ∀ vs H Q E, sp_Window_init K vs H Q E → (b_Window_init K).t { nx := fun _ H' => Q .non H', rt := Q } (start N_Window_init vs) H := by
  rintro _ H Q E ⟨x, dx, c, rfl, hx, q⟩
  refine ⟨dx, _, hx, by decide, dx, _, upd_same, Nat.lt_of_le_of_lt (putF_le _ _ _) (by decide), dx, _, upd_same, Nat.lt_of_le_of_lt (Nat.le_trans (putF_le _ _ _) (Nat.succ_le_succ (putF_le _ _ _))) (by decide), ?_⟩
  rw [upd_upd, upd_upd]
  exact q
/-! ### an editor is made -/
def sp_Editor_init (K : PySem.W.Frag) : Sp := fun vs H Q _ => ∃ (x dx : Addr) (t : List Nat), vs = [.ref x, sv t] ∧ H x = some (.ins (cl K "Editor") dx []) ∧ isText t ∧
  ∀ A H', EdAt K H' x A (edNew t) → (∀ p o, p ≠ x → H p = some o → H' p = some o) → (∀ p ∈ fp x A, p = x ∨ H p = none) → Q .non H'
def b_Editor_init (K : PySem.W.Frag) : Ss K :=
  (Ss.cons (Sm.ex (Ex.call "need_text" (sp_need_text K) (As.cons (Ex.v 1) As.nil)))
  (Ss.cons (Sm.fld "Editor" (Ex.v 0) "text" (Ex.v 1))
  (Ss.cons (Sm.fld "Editor" (Ex.v 0) "windows" (Ex.lst (As.cons (Ex.make "Window" (sp_Window_init K) (As.cons (Ex.i 0) As.nil)) As.nil)))
  (Ss.cons (Sm.fld "Editor" (Ex.v 0) "active" (Ex.i 0))
  (Ss.cons (Sm.fld "Editor" (Ex.v 0) "marks" Ex.dnew)
  (Ss.cons (Sm.fld "Editor" (Ex.v 0) "registers" Ex.dnew)
  (Ss.cons (Sm.fld "Editor" (Ex.v 0) "pattern" Ex.none)
  (Ss.cons (Sm.fld "Editor" (Ex.v 0) "macros" Ex.dnew)
  (Ss.cons (Sm.fld "Editor" (Ex.v 0) "taking" Ex.none)
  (Ss.cons (Sm.fld "Editor" (Ex.v 0) "taken" (Ex.lst As.nil))
  (Ss.cons (Sm.fld "Editor" (Ex.v 0) "last" Ex.none)
  (Ss.cons (Sm.fld "Editor" (Ex.v 0) "states" (Ex.lst (As.cons (Ex.tup (As.cons Ex.none (As.cons (Ex.v 1) As.nil))) As.nil)))
  (Ss.cons (Sm.fld "Editor" (Ex.v 0) "state" (Ex.i 0))
  (Ss.cons (Sm.fld "Editor" (Ex.v 0) "deep" (Ex.i 0))
  (Ss.cons (Sm.fld "Editor" (Ex.v 0) "played" (Ex.i 0))
  Ss.nil)))))))))))))))
def N_Editor_init : List Str := ["self", "text"]
structure Ini (n : Nat) (C dx x : Addr) (H Hc : Hp) (fs : List (Str × V)) (L : List (Addr × HO)) : Prop where
  len : fs.length ≤ n
  own : Hc x = some (.ins C dx fs)
  keep : ∀ p o, p ≠ x → H p = some o → Hc p = some o
  has : ∀ q ∈ L, Hc q.1 = some q.2
  off : ∀ q ∈ L, q.1 ≠ x ∧ H q.1 = none
  nd : (L.map (·.1)).Nodup
theorem Ini.begin {C dx x : Addr} {H H0 : Hp} (h : H x = some (.ins C dx [])) (e : Xt H H0) : Ini 0 C dx x H H0 [] [] := ⟨Nat.le_refl _, e x _ h, fun p o _ hp => e p o hp, by simp, by simp, by simp⟩
theorem Ini.few {n : Nat} {C dx x : Addr} {H Hc : Hp} {fs : List (Str × V)} {L : List (Addr × HO)} (i : Ini n C dx x H Hc fs L) (h : n < 1000) : fs.length < 1000 := Nat.lt_of_le_of_lt i.len h
theorem Ini.store {n : Nat} {C dx x : Addr} {H Hc : Hp} {fs : List (Str × V)} {L : List (Addr × HO)} (i : Ini n C dx x H Hc fs L) (f : Str) (v : V) : Ini (n + 1) C dx x H (upd Hc x (.ins C dx (putF f v fs))) (putF f v fs) L where
  len := Nat.le_trans (putF_le f v fs) (Nat.succ_le_succ i.len)
  own := upd_same
  keep := fun p o hp h => by rw [upd_ne hp]; exact i.keep p o hp h
  has := fun q hq => by rw [upd_ne (i.off q hq).1]; exact i.has q hq
  off := i.off
  nd := i.nd
theorem Ini.new {n : Nat} {C dx x : Addr} {H Hc : Hp} {fs : List (Str × V)} {L : List (Addr × HO)} {p : Addr} (i : Ini n C dx x H Hc fs L) (hp : Hc p = none) (o : HO) : Ini n C dx x H (upd Hc p o) fs ((p, o) :: L) := by
  have hx : p ≠ x := fun z => by rw [z, i.own] at hp; cases hp
  have hH : H p = none := by
    cases h : H p with
    | none => rfl
    | some o' => rw [i.keep p o' hx h] at hp; cases hp
  have hL : ∀ q ∈ L, q.1 ≠ p := fun q hq z => by rw [← z, i.has q hq] at hp; cases hp
  refine ⟨i.len, by rw [upd_ne (Ne.symm hx)]; exact i.own, fun q o' hq h => ?_, fun q hq => ?_, fun q hq => ?_, ?_⟩
  · rw [upd_ne (fun z => by rw [z, hH] at h; cases h)]; exact i.keep q o' hq h
  · rcases List.mem_cons.mp hq with rfl | hq
    · exact upd_same
    · rw [upd_ne (hL q hq)]; exact i.has q hq
  · rcases List.mem_cons.mp hq with rfl | hq
    · exact ⟨hx, hH⟩
    · exact i.off q hq
  · refine List.nodup_cons.mpr ⟨fun z => ?_, i.nd⟩
    obtain ⟨q, hq, e⟩ := List.mem_map.mp z
    exact hL q hq e
theorem ini_fs (t : List Nat) (dx ws w dw d1 d2 d3 l st : Addr) : putF "played" (iv 0) (putF "deep" (iv 0) (putF "state" (iv 0) (putF "states" (.ref st) (putF "last" .non (putF "taken" (.ref l) (putF "taking" .non (putF "macros" (.ref d3) (putF "pattern" .non (putF "registers" (.ref d2) (putF "marks" (.ref d1) (putF "active" (iv 0) (putF "windows" (.ref ws) (putF "text" (sv t) []))))))))))))) = edF ⟨dx, ws, [(w, dw)], d1, d2, d3, l, st, .non⟩ (edNew t) := by rfl
theorem rd_Editor_init (K : PySem.W.Frag) : ∀ vs H Q E, sp_Editor_init K vs H Q E → (b_Editor_init K).t { nx := fun _ H' => Q .non H', rt := Q } (start N_Editor_init vs) H := by
  rintro _ H Q E ⟨x, dx, t, rfl, hx, ht, q⟩
  refine ⟨t, rfl, ht, fun H0 e0 => ?_⟩
  have i0 := Ini.begin hx e0
  refine ⟨dx, _, i0.own, i0.few (by decide), ?_⟩
  have i1 := i0.store "text" (sv t)
  intro w dw hw hdw hne
  have i2 := (i1.new hdw (.own w)).new (p := w) (by rw [upd_ne (Ne.symm hne)]; exact hw) (.ins (cl K "Window") dw (winF ⟨0, none, none⟩))
  refine ⟨w, dw, 0, rfl, upd_same, rfl, by show 1 ≤ sizeLine; decide, ?_⟩
  rw [upd_upd]
  intro ws hws
  have i3 := i2.new hws (.lst [.ref w])
  refine ⟨dx, _, i3.own, i3.few (by decide), ?_⟩
  have i4 := i3.store "windows" (.ref ws)
  refine ⟨dx, _, i4.own, i4.few (by decide), ?_⟩
  have i5 := i4.store "active" (iv 0)
  intro d1 hd1
  have i6 := i5.new hd1 (.dK [])
  refine ⟨dx, _, i6.own, i6.few (by decide), ?_⟩
  have i7 := i6.store "marks" (.ref d1)
  intro d2 hd2
  have i8 := i7.new hd2 (.dK [])
  refine ⟨dx, _, i8.own, i8.few (by decide), ?_⟩
  have i9 := i8.store "registers" (.ref d2)
  refine ⟨dx, _, i9.own, i9.few (by decide), ?_⟩
  have i10 := i9.store "pattern" .non
  intro d3 hd3
  have i11 := i10.new hd3 (.dK [])
  refine ⟨dx, _, i11.own, i11.few (by decide), ?_⟩
  have i12 := i11.store "macros" (.ref d3)
  refine ⟨dx, _, i12.own, i12.few (by decide), ?_⟩
  have i13 := i12.store "taking" .non
  refine ⟨by show 0 ≤ sizeLine; decide, fun l hl => ?_⟩
  have i14 := i13.new hl (.lst [])
  refine ⟨dx, _, i14.own, i14.few (by decide), ?_⟩
  have i15 := i14.store "taken" (.ref l)
  refine ⟨dx, _, i15.own, i15.few (by decide), ?_⟩
  have i16 := i15.store "last" .non
  refine ⟨by show 2 ≤ sizeLine; decide, fun s hs => ⟨by show 1 ≤ sizeLine; decide, fun st hst => ?_⟩⟩
  have i17 := (i16.new hs (.tup [.non, sv t])).new hst (.lst [.ref s])
  refine ⟨dx, _, i17.own, i17.few (by decide), ?_⟩
  have i18 := i17.store "states" (.ref st)
  refine ⟨dx, _, i18.own, i18.few (by decide), ?_⟩
  have i19 := i18.store "state" (iv 0)
  refine ⟨dx, _, i19.own, i19.few (by decide), ?_⟩
  have i20 := i19.store "deep" (iv 0)
  refine ⟨dx, _, i20.own, i20.few (by decide), ?_⟩
  have i21 := i20.store "played" (iv 0)
  have own := i21.own
  rw [ini_fs] at own
  have nd := i21.nd
  have has := i21.has
  have off := i21.off
  simp only [List.map_cons, List.map_nil, List.nodup_cons, List.mem_cons, not_or, List.not_mem_nil, not_false_eq_true, and_true, List.nodup_nil] at nd
  simp only [List.mem_cons, List.not_mem_nil, or_false, forall_eq_or_imp, forall_eq] at has off
  obtain ⟨k1, k2, k3, k4, k5, k6, k7, k8, k9⟩ := has
  obtain ⟨o1, o2, o3, o4, o5, o6, o7, o8, o9⟩ := off
  refine q ⟨dx, ws, [(w, dw)], d1, d2, d3, l, st, .non⟩ _ ⟨own, k7, .cons k8 .nil, k6, ⟨[], k5, .nil⟩, ⟨[], k4, .nil⟩, ⟨[], k3, .nil⟩, rfl, ⟨[.ref s], k1, .cons ⟨s, rfl, k2⟩ .nil⟩, ?_⟩ i21.keep ?_
  · simp only [fp, List.map_cons, List.map_nil, List.nodup_cons, List.mem_cons, not_or, List.not_mem_nil, not_false_eq_true, and_true, List.nodup_nil]
    simp only [Ne] at *
    refine ⟨⟨?_, ?_, ?_, ?_, ?_, ?_, ?_⟩, ⟨?_, ?_, ?_, ?_, ?_, ?_⟩, ⟨?_, ?_, ?_, ?_, ?_⟩, ⟨?_, ?_, ?_, ?_⟩, ⟨?_, ?_, ?_⟩, ⟨?_, ?_⟩, ?_⟩ <;> (intro z; simp_all)
  · intro p hp
    simp only [fp, List.map_cons, List.map_nil, List.mem_cons, List.not_mem_nil, or_false] at hp
    rcases hp with rfl | rfl | rfl | rfl | rfl | rfl | rfl | rfl
    · exact .inl rfl
    · exact .inr o7.2
    · exact .inr o6.2
    · exact .inr o5.2
    · exact .inr o4.2
    · exact .inr o3.2
    · exact .inr o1.2
    · exact .inr o8.2
/-! ### told of -/
def sp_Editor_now (K : PySem.W.Frag) : Sp := fun vs H Q _ => ∃ (e : Addr) (A : EdA) (S : EdS), vs = [.ref e] ∧ EdAt K H e A S ∧ Q (sv S.text) H
def b_Editor_now (K : PySem.W.Frag) : Ss K :=
  (Ss.cons (Sm.ret (Ex.fld "Editor" (Ex.v 0) "text"))
  Ss.nil)
def N_Editor_now : List Str := ["self"]
theorem rd_Editor_now (K : PySem.W.Frag) : ∀ vs H Q E, sp_Editor_now K vs H Q E → (b_Editor_now K).t { nx := fun _ H' => Q .non H', rt := Q } (start N_Editor_now vs) H := by
  rintro _ H Q E ⟨e, A, S, rfl, h, q⟩
  refine h.f_text ?_
  exact q
def sp_Editor_cursor (K : PySem.W.Frag) : Sp := fun vs H Q _ => ∃ (e : Addr) (A : EdA) (S : EdS), vs = [.ref e] ∧ EdAt K H e A S ∧ S.ok ∧ Q (iv S.cw.spot) H
def b_Editor_cursor (K : PySem.W.Frag) : Ss K :=
  (Ss.cons (Sm.ret (Ex.fld "Window" (Ex.ix (Ex.fld "Editor" (Ex.v 0) "windows") (Ex.fld "Editor" (Ex.v 0) "active")) "spot"))
  Ss.nil)
def N_Editor_cursor : List Str := ["self"]
theorem rd_Editor_cursor (K : PySem.W.Frag) : ∀ vs H Q E, sp_Editor_cursor K vs H Q E → (b_Editor_cursor K).t { nx := fun _ H' => Q .non H', rt := Q } (start N_Editor_cursor vs) H := by
  rintro _ H Q E ⟨e, A, S, rfl, h, o, q⟩
  exact h.f_windows (h.f_active (h.ixw o fun p hp hw => hw.f_spot q))
end Ed

/-! editors: going -/
namespace Ed
open PySem L2 Cb
open Evl (Ev EvT)
def Mo.ud : Mo → Bool
  | .up _ => true | .down _ => true
  | _ => false
def EdS.col (S : EdS) : Nat := S.cw.column.getD (Tx.colOf S.text S.cw.spot)
def EdS.setW (S : EdS) (w : Win) : EdS := { S with wins := S.wins.set S.active w }
def setPat (S : EdS) : Mo → EdS
  | .search q => { S with pat := some q }
  | _ => S
def EdS.goal (S : EdS) (m : Mo) : Option Nat := goBy S.text S.cw.spot S.col (aget S.marks) S.pat m
def goE (S : EdS) (m : Mo) : Told × EdS := match S.goal m with
  | none => (.no, S)
  | some g => (.done, setPat (S.setW ⟨g, S.cw.anchor, if m.ud then some S.col else none⟩) m)
theorem markOk (ms : List (Nat × Nat)) : MarkOk (mksK ms) (aget ms) := fun c => by
  rw [valV_marks]
  cases aget ms c <;> rfl
theorem patOk {S : EdS} (o : S.ok) : PatOk S.pat := by
  have h := o.pat
  unfold PatOk
  split
  · trivial
  · rename_i q e
    have := h q e
    omega
theorem sub_nat {a b : Nat} (h : b ≤ a) : ((a : Int) - (b : Int)) = ((a - b : Nat) : Int) := by omega
theorem name_ud (m : Mo) : inV (sv m.name) [sv w_up, sv w_down] = m.ud := by cases m <;> rfl
theorem name_search (m : Mo) : decide ((⟨m.name.toArray⟩ : Str) = ⟨w_search.toArray⟩) = (match m with | .search _ => true | _ => false) := by cases m <;> rfl
theorem setPat_no {m : Mo} (h : (match m with | .search _ => true | _ => false) = false) (S : EdS) : setPat S m = S := by cases m <;> first | rfl | cases h
theorem setW_setW (S : EdS) (w w' : Win) : (S.setW w).setW w' = S.setW w' := by simp [EdS.setW]
def sp_Editor_go (K : PySem.W.Frag) : Sp := fun vs H Q _ => ∃ (e : Addr) (A : EdA) (S : EdS) (s : Addr) (m : Mo), vs = [.ref e, .ref s, vo S.cw.column] ∧ EdAt K H e A S ∧ S.ok ∧ H s = some (.tup m.vs) ∧ m.ok ∧ RetS K e A H (goE S m) Q
def t_Editor_go_1 (K : PySem.W.Frag) : Ss K :=
  (Ss.cons (Sm.set 4 (Ex.call "place_by" (sp_place_by K) (As.cons (Ex.fld "Editor" (Ex.v 0) "text") (As.cons (Ex.fld "Window" (Ex.v 3) "spot") (As.cons (Ex.v 1) (As.cons (Ex.v 2) (As.cons (Ex.fld "Editor" (Ex.v 0) "marks") (As.cons (Ex.fld "Editor" (Ex.v 0) "pattern") As.nil))))))))
  (Ss.cons (Sm.ite (Te.cmp Cm.is (Ex.v 4) Ex.none)
    (Ss.cons (Sm.ret (Ex.s ⟨#[110, 111]⟩))
    Ss.nil)
    Ss.nil)
  (Ss.cons (Sm.fld "Window" (Ex.v 3) "spot" (Ex.v 4))
  (Ss.cons (Sm.fld "Window" (Ex.v 3) "column" (Ex.ifx (Te.cmp Cm.isin (Ex.ix (Ex.v 1) (Ex.i 0)) (Ex.tup (As.cons (Ex.s ⟨#[117, 112]⟩) (As.cons (Ex.s ⟨#[100, 111, 119, 110]⟩) As.nil)))) (Ex.v 2) Ex.none))
  (Ss.cons (Sm.ite (Te.cmp Cm.eq (Ex.ix (Ex.v 1) (Ex.i 0)) (Ex.s ⟨#[115, 101, 97, 114, 99, 104]⟩))
    (Ss.cons (Sm.fld "Editor" (Ex.v 0) "pattern" (Ex.ix (Ex.v 1) (Ex.i 1)))
    Ss.nil)
    Ss.nil)
  (Ss.cons (Sm.ret Ex.none)
  Ss.nil))))))
def b_Editor_go (K : PySem.W.Frag) : Ss K :=
  (Ss.cons (Sm.set 3 (Ex.ix (Ex.fld "Editor" (Ex.v 0) "windows") (Ex.fld "Editor" (Ex.v 0) "active")))
  (Ss.cons (Sm.ite (Te.cmp Cm.is (Ex.v 2) Ex.none)
    (Ss.cons (Sm.set 2 (Ex.sub (Ex.fld "Window" (Ex.v 3) "spot") (Ex.call "begin_of" (sp_begin_of K) (As.cons (Ex.fld "Editor" (Ex.v 0) "text") (As.cons (Ex.fld "Window" (Ex.v 3) "spot") As.nil)))))
    Ss.nil)
    Ss.nil)
  (t_Editor_go_1 K)))
def N_Editor_go : List Str := ["self", "motion", "column", "window", "goal"]
/-- a store into a window -/
theorem EdAt.w_spot {K : PySem.W.Frag} {H : Hp} {p : Addr × Addr} {w : Win} {P : Hp → Prop} (hw : WinAt K H p w) (n : Nat) (q : P (upd H p.1 (.ins (cl K "Window") p.2 (winF { w with spot := n })))) : ∃ dx fs, H p.1 = some (.ins (cl K "Window") dx fs) ∧ fs.length < 1000 ∧ P (upd H p.1 (.ins (cl K "Window") dx (putF "spot" (iv n) fs))) := ⟨p.2, winF w, hw, by show 3 < 1000; decide, q⟩
theorem EdAt.w_anchor {K : PySem.W.Frag} {H : Hp} {p : Addr × Addr} {w : Win} {P : Hp → Prop} (hw : WinAt K H p w) (n : Option Nat) (q : P (upd H p.1 (.ins (cl K "Window") p.2 (winF { w with anchor := n })))) : ∃ dx fs, H p.1 = some (.ins (cl K "Window") dx fs) ∧ fs.length < 1000 ∧ P (upd H p.1 (.ins (cl K "Window") dx (putF "anchor" (vo n) fs))) := ⟨p.2, winF w, hw, by show 3 < 1000; decide, q⟩
theorem EdAt.w_column {K : PySem.W.Frag} {H : Hp} {p : Addr × Addr} {w : Win} {P : Hp → Prop} (hw : WinAt K H p w) (n : Option Nat) (q : P (upd H p.1 (.ins (cl K "Window") p.2 (winF { w with column := n })))) : ∃ dx fs, H p.1 = some (.ins (cl K "Window") dx fs) ∧ fs.length < 1000 ∧ P (upd H p.1 (.ins (cl K "Window") dx (putF "column" (vo n) fs))) := ⟨p.2, winF w, hw, by show 3 < 1000; decide, q⟩
theorem EdAt.e_pattern {K : PySem.W.Frag} {H : Hp} {e : Addr} {A : EdA} {S : EdS} {P : Hp → Prop} (h : EdAt K H e A S) (n : Option (List Nat)) (q : P (upd H e (.ins (cl K "Editor") A.dx (edF A { S with pat := n })))) : ∃ dx fs, H e = some (.ins (cl K "Editor") dx fs) ∧ fs.length < 1000 ∧ P (upd H e (.ins (cl K "Editor") dx (putF "pattern" (pv n) fs))) := ⟨A.dx, edF A S, h.own, by show 14 < 1000; decide, q⟩
theorem rd_go_1 (K : PySem.W.Frag) {e s : Addr} {A : EdA} {S : EdS} {m : Mo} {H : Hp} {Q : VK} {p : Addr × Addr} (h : EdAt K H e A S) (o : S.ok) (hp : A.wa[S.active]? = some p) (hw : WinAt K H p S.cw) (hs : H s = some (.tup m.vs)) (hm : m.ok) (q : RetS K e A H (goE S m) Q) :
    (t_Editor_go_1 K).t { nx := fun _ H' => Q .non H', rt := Q } [some (.ref e), some (.ref s), some (iv S.col), some (.ref p.1), none] H := by
  have htl : S.text.length ≤ 200 := o.txt.1
  refine h.f_text (hw.f_spot (h.f_marks (h.f_pattern ?_)))
  refine ⟨S.text, S.cw.spot, s, m, S.col, A.mks, mksK S.marks, aget S.marks, S.pat, rfl, hs, h.mks, markOk _, patOk o, hm, by omega, o.spot, fun H1 e1 => ?_⟩
  have eg : goE S m = match S.goal m with
    | none => (.no, S)
    | some g => (.done, setPat (S.setW ⟨g, S.cw.anchor, if m.ud then some S.col else none⟩) m) := rfl
  change RetS K e A H (goE S m) Q at q
  rw [eg] at q
  show tSeq _ _ _ ([some (.ref e), some (.ref s), some (iv S.col), some (.ref p.1), some (vo (S.goal m))]) H1
  have st1 : Step K e A H A S H1 := (Step.refl h).xt e1
  cases hg : S.goal m with
  | none =>
    rw [hg] at q
    exact q A H1 st1
  | some g =>
    rw [hg] at q
    replace q : RetS K e A H (.done, setPat (S.setW ⟨g, S.cw.anchor, if m.ud then some S.col else none⟩) m) Q := q
    have h1 := h.xt e1
    have hw1 : WinAt K H1 p S.cw := e1 _ _ hw
    refine EdAt.w_spot hw1 g ?_
    have s2 := h1.stepW (i := S.active) ⟨g, S.cw.anchor, S.cw.column⟩ hp o.act
    have hs2 := (s2.tk h1) s _ (e1 s _ hs)
    refine ⟨_, _, .inr (SqT.of hs2), atI_nat (j := 0) rfl, by decide, fun T hT => ⟨T, _, rfl, .inr (SqT.of upd_same), rfl, rfl, ?_⟩⟩
    show br (inV (sv m.name) [sv w_up, sv w_down]) _ _
    rw [name_ud]
    have s3 := s2.xt (xt_new (o := .tup [sv w_up, sv w_down]) hT)
    have hw3 : WinAt K (upd (upd H1 p.1 (.ins (cl K "Window") p.2 (winF ⟨g, S.cw.anchor, S.cw.column⟩))) T (.tup [sv w_up, sv w_down])) p ⟨g, S.cw.anchor, S.cw.column⟩ := (xt_new hT) _ _ upd_same
    have hs3 := (xt_new (o := .tup [sv w_up, sv w_down]) hT) s _ hs2
    have key : ∀ (c : Option Nat), c = (if m.ud then some S.col else none) → (Ss.cons (K := K) (Sm.ite (Te.cmp Cm.eq (Ex.ix (Ex.v 1) (Ex.i 0)) (Ex.s ⟨#[115, 101, 97, 114, 99, 104]⟩)) (Ss.cons (Sm.fld "Editor" (Ex.v 0) "pattern" (Ex.ix (Ex.v 1) (Ex.i 1))) Ss.nil) Ss.nil) (Ss.cons (Sm.ret Ex.none) Ss.nil)).t { nx := fun _ H' => Q .non H', rt := Q } [some (.ref e), some (.ref s), some (iv S.col), some (.ref p.1), some (vo (some g))] (upd (upd (upd H1 p.1 (.ins (cl K "Window") p.2 (winF ⟨g, S.cw.anchor, S.cw.column⟩))) T (.tup [sv w_up, sv w_down])) p.1 (.ins (cl K "Window") p.2 (winF ⟨g, S.cw.anchor, c⟩))) := by
      intro c hc
      have s4 := s3.at_.stepW (i := S.active) (q := p) ⟨g, S.cw.anchor, c⟩ hp (by simp; exact o.act)
      have s5 := (st1.trans s3).trans s4
      have e5 : ({ S with wins := S.wins.set S.active ⟨g, S.cw.anchor, S.cw.column⟩ } : EdS).wins.set S.active ⟨g, S.cw.anchor, c⟩ = S.wins.set S.active ⟨g, S.cw.anchor, c⟩ := by simp
      have hs5 := (s4.tk s3.at_) s _ hs3
      refine ⟨_, _, .inr (SqT.of hs5), atI_nat (j := 0) rfl, ?_⟩
      show br (decide ((⟨m.name.toArray⟩ : Str) = ⟨w_search.toArray⟩)) _ _
      rw [name_search]
      cases hm2 : (match m with | .search _ => true | _ => false) with
      | false =>
        rw [setPat_no hm2] at q
        refine q A _ ?_
        show Step K e A H A (S.setW ⟨g, S.cw.anchor, if m.ud then some S.col else none⟩) _
        rw [← hc]
        unfold EdS.setW
        rw [← e5]
        exact s5
      | true =>
        cases m with
        | search w =>
          obtain rfl : c = none := by rw [hc]; rfl
          refine ⟨_, _, .inr (SqT.of hs5), atI_nat (j := 1) rfl, ?_⟩
          refine EdAt.e_pattern s5.at_ (some w) ?_
          refine q A _ ?_
          show Step K e A H A { S.setW ⟨g, S.cw.anchor, none⟩ with pat := some w } _
          have s6 := s5.at_.stepQ (S' := { S.setW ⟨g, S.cw.anchor, none⟩ with pat := some w }) e5.symm rfl rfl rfl rfl rfl rfl
          have s7 := s5.trans s6
          have : edF A { S.setW ⟨g, S.cw.anchor, none⟩ with pat := some w } = edF A { ({ ({ S with wins := S.wins.set S.active ⟨g, S.cw.anchor, S.cw.column⟩ } : EdS) with wins := ({ S with wins := S.wins.set S.active ⟨g, S.cw.anchor, S.cw.column⟩ } : EdS).wins.set S.active ⟨g, S.cw.anchor, none⟩ } : EdS) with pat := some w } := rfl
          rw [this] at s7
          exact s7
        | _ => cases hm2
    cases hud : m.ud with
    | true =>
      refine EdAt.w_column hw3 (some S.col) ?_
      exact key (some S.col) (by rw [hud]; rfl)
    | false =>
      refine EdAt.w_column hw3 none ?_
      exact key none (by rw [hud]; rfl)
theorem rd_Editor_go (K : PySem.W.Frag) : ∀ vs H Q E, sp_Editor_go K vs H Q E → (b_Editor_go K).t { nx := fun _ H' => Q .non H', rt := Q } (start N_Editor_go vs) H := by
  rintro _ H Q E ⟨e, A, S, s, m, rfl, h, o, hs, hm, q⟩
  refine h.f_windows (h.f_active (h.ixw o fun p hp hw => ?_))
  cases hc : S.cw.column with
  | none =>
    have hb := (Tx.begin_spec S.text S.cw.spot o.spot).1
    refine hw.f_spot (h.f_text (hw.f_spot ⟨_, _, rfl, o.spot, ?_⟩))
    have ec : S.col = S.cw.spot - Tx.beginOf S.text S.cw.spot := by unfold EdS.col; rw [hc]; rfl
    have := rd_go_1 K h o hp hw hs hm q
    rw [ec, show iv (S.cw.spot - Tx.beginOf S.text S.cw.spot) = V.int ((S.cw.spot : Int) - (Tx.beginOf S.text S.cw.spot : Int)) from congrArg V.int (sub_nat hb).symm] at this
    exact this
  | some c =>
    have ec : S.col = c := by unfold EdS.col; rw [hc]; rfl
    have := rd_go_1 K h o hp hw hs hm q
    rw [ec] at this
    exact this
end Ed

/-! editors: areas, notes -/
namespace Ed
open PySem L2 Cb
open Evl (Ev EvT)
def signsK : Option (Nat × Nat) → Option (Bool × Nat × Nat)
  | none => none
  | some (b, e) => if b = e then none else some (false, b, e)
def areaK (t : List Nat) (p c : Nat) (mk : Nat → Option Nat) (pat : Option (List Nat)) (an : Option Nat) : Ar → Option (Bool × Nat × Nat)
  | .rows n => some (true, (rowsA t p n).1, (rowsA t p n).2)
  | .mot m => signsK ((goBy t p c mk pat m).map (span p))
  | .word => signsK (wordAt t p)
  | .inside o s => signsK (Tx.insideOf o s t p)
  | .chosen => signsK (an.map (span p))
def areaV (k : Bool × Nat × Nat) : List V := [sv (kindW k.1), iv k.2.1, iv k.2.2]
theorem signsK_eq (f : Option (Nat × Nat)) : signsA f = (signsK f).map areaV := by
  cases f with
  | none => rfl
  | some be =>
    obtain ⟨b, e⟩ := be
    simp only [signsA, signsK]
    split <;> rfl
theorem areaK_eq (t : List Nat) (p c : Nat) (mk : Nat → Option Nat) (pat : Option (List Nat)) (an : Option Nat) (r : Ar) : areaBy t p c mk pat an r = (areaK t p c mk pat an r).map areaV := by
  cases r with
  | rows n => rfl
  | mot m => exact signsK_eq _
  | word => exact signsK_eq _
  | inside o s => exact signsK_eq _
  | chosen => exact signsK_eq _
def EdS.area (S : EdS) (r : Ar) : Option (Bool × Nat × Nat) := areaK S.text S.cw.spot S.col (aget S.marks) S.pat S.cw.anchor r
def sp_Editor_area (K : PySem.W.Frag) : Sp := fun vs H Q _ => ∃ (e : Addr) (A : EdA) (S : EdS) (s : Addr) (r : Ar), vs = [.ref e, .ref s] ∧ EdAt K H e A S ∧ S.ok ∧ ArAt H s r ∧ r.ok ∧
  (S.area r = none → RetV .non H Q) ∧ ∀ k, S.area r = some k → RetT (areaV k) H Q
def t_Editor_area_1 (K : PySem.W.Frag) : Ss K :=
  (Ss.cons (Sm.ret (Ex.call "area_by" (sp_area_by K) (As.cons (Ex.fld "Editor" (Ex.v 0) "text") (As.cons (Ex.fld "Window" (Ex.v 2) "spot") (As.cons (Ex.v 1) (As.cons (Ex.fld "Window" (Ex.v 2) "anchor") (As.cons (Ex.v 3) (As.cons (Ex.fld "Editor" (Ex.v 0) "marks") (As.cons (Ex.fld "Editor" (Ex.v 0) "pattern") As.nil)))))))))
  Ss.nil)
def b_Editor_area (K : PySem.W.Frag) : Ss K :=
  (Ss.cons (Sm.set 2 (Ex.ix (Ex.fld "Editor" (Ex.v 0) "windows") (Ex.fld "Editor" (Ex.v 0) "active")))
  (Ss.cons (Sm.set 3 (Ex.fld "Window" (Ex.v 2) "column"))
  (Ss.cons (Sm.ite (Te.cmp Cm.is (Ex.v 3) Ex.none)
    (Ss.cons (Sm.set 3 (Ex.sub (Ex.fld "Window" (Ex.v 2) "spot") (Ex.call "begin_of" (sp_begin_of K) (As.cons (Ex.fld "Editor" (Ex.v 0) "text") (As.cons (Ex.fld "Window" (Ex.v 2) "spot") As.nil)))))
    Ss.nil)
    Ss.nil)
  (t_Editor_area_1 K))))
def N_Editor_area : List Str := ["self", "area", "window", "column"]
theorem rd_area_1 (K : PySem.W.Frag) {e s : Addr} {A : EdA} {S : EdS} {r : Ar} {H : Hp} {Q : VK} {p : Addr × Addr} (h : EdAt K H e A S) (o : S.ok) (hw : WinAt K H p S.cw) (hs : ArAt H s r) (hr : r.ok)
    (q1 : S.area r = none → RetV .non H Q) (q2 : ∀ k, S.area r = some k → RetT (areaV k) H Q) :
    (t_Editor_area_1 K).t { nx := fun _ H' => Q .non H', rt := Q } [some (.ref e), some (.ref s), some (.ref p.1), some (iv S.col)] H := by
  have htl : S.text.length ≤ 200 := o.txt.1
  refine h.f_text (hw.f_spot (hw.f_anchor (h.f_marks (h.f_pattern ?_))))
  refine ⟨S.text, S.cw.spot, s, r, S.cw.anchor, S.col, A.mks, mksK S.marks, aget S.marks, S.pat, rfl, hs, hr, h.mks, markOk _, patOk o, by omega, o.spot, ?_, ?_⟩
  · intro z
    rw [areaK_eq] at z
    refine q1 ?_
    unfold EdS.area
    cases hk : areaK S.text S.cw.spot S.col (aget S.marks) S.pat S.cw.anchor r with
    | none => rfl
    | some k => rw [hk] at z; cases z
  · intro vs z
    rw [areaK_eq] at z
    obtain ⟨k, hk, rfl⟩ := Option.map_eq_some_iff.mp z
    exact q2 k hk
theorem rd_Editor_area (K : PySem.W.Frag) : ∀ vs H Q E, sp_Editor_area K vs H Q E → (b_Editor_area K).t { nx := fun _ H' => Q .non H', rt := Q } (start N_Editor_area vs) H := by
  rintro _ H Q E ⟨e, A, S, s, r, rfl, h, o, hs, hr, q1, q2⟩
  refine h.f_windows (h.f_active (h.ixw o fun p hp hw => ?_))
  refine hw.f_column ?_
  have key := rd_area_1 K (p := p) h o hw hs hr q1 q2
  cases hc : S.cw.column with
  | none =>
    have hb := (Tx.begin_spec S.text S.cw.spot o.spot).1
    refine hw.f_spot (h.f_text (hw.f_spot ⟨_, _, rfl, o.spot, ?_⟩))
    have ec : S.col = S.cw.spot - Tx.beginOf S.text S.cw.spot := by unfold EdS.col; rw [hc]; rfl
    rw [ec, show iv (S.cw.spot - Tx.beginOf S.text S.cw.spot) = V.int ((S.cw.spot : Int) - (Tx.beginOf S.text S.cw.spot : Int)) from congrArg V.int (sub_nat hb).symm] at key
    exact key
  | some c =>
    have ec : S.col = c := by unfold EdS.col; rw [hc]; rfl
    rw [ec] at key
    exact key
/-! ### dicts in pairs -/
theorem paired_keys {F : Key × V → Nat × α → Prop} (hF : ∀ kv r, F kv r → kv.1 = key r.1) : ∀ {kvs : List (Key × V)} {rs : List (Nat × α)}, Paired F kvs rs → kvs.map (·.1) = (rs.map (·.1)).map key := by
  intro kvs rs h
  induction h with
  | nil => rfl
  | cons h1 _ ih => simp [hF _ _ h1, ih]
theorem nd_key {l : List Nat} (h : l.Nodup) : (l.map key).Nodup := List.Pairwise.map _ (fun _ _ h z => h (key_inj.mp z)) h
theorem paired_put {F : Key × V → Nat × α → Prop} (hF : ∀ kv r, F kv r → kv.1 = key r.1) {n : Nat} {v : V} {x : α} (hn : F (key n, v) (n, x)) : ∀ {kvs : List (Key × V)} {rs : List (Nat × α)}, Paired F kvs rs → (rs.map (·.1)).Nodup → Paired F (putK kvs (key n) v) (aput rs n x) := by
  intro kvs rs h
  induction h with
  | nil => intro _; exact .cons hn .nil
  | @cons p r ps rs' h1 h2 ih =>
    intro nd
    have nd2 := (List.nodup_cons.mp (show (r.1 :: rs'.map (·.1)).Nodup from nd)).2
    have hk := hF _ _ h1
    have ndk : ((p :: ps).map (·.1)).Nodup := by
      rw [paired_keys hF (.cons h1 h2)]
      exact nd_key nd
    rw [putK_cons _ _ _ _ ndk]
    obtain ⟨m, y⟩ := r
    by_cases h : m = n
    · subst h
      rw [if_pos hk]
      have : aput ((m, y) :: rs') m x = (m, x) :: rs' := by simp [aput]
      rw [this, hk]
      exact .cons hn h2
    · rw [if_neg (by rw [hk]; exact fun z => h (key_inj.mp z))]
      have : aput ((m, y) :: rs') n x = (m, y) :: aput rs' n x := by simp [aput, h]
      rw [this]
      exact .cons h1 (ih nd2)
theorem paired_get {F : Key × V → Nat × α → Prop} (hF : ∀ kv r, F kv r → kv.1 = key r.1) (n : Nat) : ∀ {kvs : List (Key × V)} {rs : List (Nat × α)}, Paired F kvs rs → (valV kvs (key n) = none ∧ aget rs n = none) ∨ ∃ v x, valV kvs (key n) = some v ∧ aget rs n = some x ∧ F (key n, v) (n, x) := by
  intro kvs rs h
  induction h with
  | nil => exact .inl ⟨rfl, rfl⟩
  | @cons p r ps rs' h1 h2 ih =>
    obtain ⟨m, y⟩ := r
    have hk := hF _ _ h1
    by_cases h : m = n
    · subst h
      refine .inr ⟨p.2, y, valV_pos hk, by simp [aget], ?_⟩
      rw [← hk]; exact h1
    · have e1 : valV (p :: ps) (key n) = valV ps (key n) := valV_neg (by rw [hk]; exact fun z => h (key_inj.mp z))
      have e2 : aget ((m, y) :: rs') n = aget rs' n := by simp [aget, h]
      rw [e1, e2]; exact ih
theorem paired_len {F : α → β → Prop} {xs : List α} {ys : List β} (h : Paired F xs ys) : xs.length = ys.length := by
  induction h with
  | nil => rfl
  | cons _ _ ih => simp [ih]
theorem nd_sub : ∀ (l m : List Nat), l.Nodup → (∀ n ∈ l, n ∈ m) → l.length ≤ m.length
  | [], _, _, _ => Nat.zero_le _
  | a :: l, m, nd, h => by
    have nd' := List.nodup_cons.mp nd
    have ha := h a (List.mem_cons_self ..)
    have ih := nd_sub l (m.erase a) nd'.2 fun n hn => (List.mem_erase_of_ne (fun z => nd'.1 (by rw [← z]; exact hn))).mpr (h n (List.mem_cons_of_mem _ hn))
    rw [List.length_erase_of_mem ha] at ih
    have : 0 < m.length := List.length_pos_of_mem ha
    simp
    omega
theorem names4 {l : List Nat} (nd : l.Nodup) (h : ∀ n ∈ l, isName n) : l.length ≤ 4 := nd_sub l [97, 98, 99, 100] nd h
/-! ### notes -/
def piece (t : List Nat) (b e : Nat) : List Nat := (t.drop b).take (e - b)
def notedE (S : EdS) : De → Told × EdS
  | .choose => (.done, S.setW { S.cw with anchor := if S.cw.anchor = none then some S.cw.spot else none })
  | .mark n => (.done, { S with marks := aput S.marks n S.cw.spot })
  | .copy r n => match S.area r with
    | none => (.no, S)
    | some k => (.done, { S with regs := aput S.regs n ⟨k.1, piece S.text k.2.1 k.2.2⟩ })
  | _ => (.no, S)
def De.isNote : De → Bool
  | .choose => true | .mark _ => true | .copy _ _ => true
  | _ => false
theorem pts1 {H : Hp} {ps : List V} {p : Pt} (h : PtsAt H ps [p]) : ∃ x, ps = [x] ∧ PtAt H x p := by
  match ps, h with
  | [x], h => exact ⟨x, rfl, h.1⟩
theorem pts2 {H : Hp} {ps : List V} {p q : Pt} (h : PtsAt H ps [p, q]) : ∃ x y, ps = [x, y] ∧ PtAt H x p ∧ PtAt H y q := by
  match ps, h with
  | [x, y], h => exact ⟨x, y, rfl, h.1, h.2.1⟩
theorem pts0 {H : Hp} {ps : List V} (h : PtsAt H ps []) : ps = [] := by
  match ps, h with
  | [], _ => rfl
theorem cut_piece (t : List Nat) (b e : Nat) : cutS ⟨t.toArray⟩ (some (b : Int)) (some (e : Int)) = ⟨(piece t b e).toArray⟩ := cut_ofN t b e
def sp_Editor_noted (K : PySem.W.Frag) : Sp := fun vs H Q _ => ∃ (e : Addr) (A : EdA) (S : EdS) (x : V) (d : De), vs = [.ref e, x] ∧ EdAt K H e A S ∧ S.ok ∧ DeAt H x d ∧ d.ok ∧ d.isNote = true ∧ RetS K e A H (notedE S d) Q
def b_Editor_noted (K : PySem.W.Frag) : Ss K :=
  (Ss.cons (Sm.set 2 (Ex.ix (Ex.fld "Editor" (Ex.v 0) "windows") (Ex.fld "Editor" (Ex.v 0) "active")))
  (Ss.cons (Sm.ite (Te.cmp Cm.eq (Ex.ix (Ex.v 1) (Ex.i 0)) (Ex.s ⟨#[99, 104, 111, 111, 115, 101]⟩))
    (Ss.cons (Sm.fld "Window" (Ex.v 2) "anchor" (Ex.ifx (Te.cmp Cm.is (Ex.fld "Window" (Ex.v 2) "anchor") Ex.none) (Ex.fld "Window" (Ex.v 2) "spot") Ex.none))
    Ss.nil)
    (Ss.cons (Sm.ite (Te.cmp Cm.eq (Ex.ix (Ex.v 1) (Ex.i 0)) (Ex.s ⟨#[109, 97, 114, 107]⟩))
      (Ss.cons (Sm.dput (Ex.fld "Editor" (Ex.v 0) "marks") (Ex.ix (Ex.v 1) (Ex.i 1)) (Ex.fld "Window" (Ex.v 2) "spot"))
      Ss.nil)
      (Ss.cons (Sm.set 3 (Ex.meth "Editor" (Ex.v 0) "area" (sp_Editor_area K) (As.cons (Ex.ix (Ex.v 1) (Ex.i 1)) As.nil)))
      (Ss.cons (Sm.ite (Te.cmp Cm.is (Ex.v 3) Ex.none)
        (Ss.cons (Sm.ret (Ex.s ⟨#[110, 111]⟩))
        Ss.nil)
        Ss.nil)
      (Ss.cons (Sm.dput (Ex.fld "Editor" (Ex.v 0) "registers") (Ex.ix (Ex.v 1) (Ex.i 2)) (Ex.tup (As.cons (Ex.ix (Ex.v 3) (Ex.i 0)) (As.cons (Ex.sl (Ex.fld "Editor" (Ex.v 0) "text") (Op.yes (Ex.ix (Ex.v 3) (Ex.i 1))) (Op.yes (Ex.ix (Ex.v 3) (Ex.i 2)))) As.nil))))
      Ss.nil))))
    Ss.nil))
  (Ss.cons (Sm.ret Ex.none)
  Ss.nil)))
def N_Editor_noted : List Str := ["self", "deed", "window", "found"]
theorem rd_Editor_noted (K : PySem.W.Frag) : ∀ vs H Q E, sp_Editor_noted K vs H Q E → (b_Editor_noted K).t { nx := fun _ H' => Q .non H', rt := Q } (start N_Editor_noted vs) H := by
  rintro _ H Q E ⟨e, A, S, x, d, rfl, h, o, ⟨a, ps, rfl, ha, hps⟩, hok, hn, q⟩
  have htl : S.text.length ≤ 200 := o.txt.1
  refine h.f_windows (h.f_active (h.ixw o fun p hp hw => ?_))
  have h0 : ∀ H', Tk H H' → SqT K H' a (sv d.word :: ps) := fun H' t => SqT.of (t a _ ha)
  refine ⟨_, _, .inr (h0 H .refl), atI_nat (j := 0) rfl, ?_⟩
  cases d with
  | choose =>
    refine hw.f_anchor ?_
    cases hc : S.cw.anchor with
    | none =>
      refine hw.f_spot ?_
      refine EdAt.w_anchor hw (some S.cw.spot) ?_
      refine q A _ ?_
      have s2 := h.stepW (i := S.active) { S.cw with anchor := some S.cw.spot } hp o.act
      show Step K e A H A (S.setW { S.cw with anchor := if S.cw.anchor = none then some S.cw.spot else none }) _
      rw [hc, if_pos rfl]
      exact s2
    | some c =>
      refine EdAt.w_anchor hw none ?_
      refine q A _ ?_
      have s2 := h.stepW (i := S.active) { S.cw with anchor := none } hp o.act
      show Step K e A H A (S.setW { S.cw with anchor := if S.cw.anchor = none then some S.cw.spot else none }) _
      rw [hc, if_neg (by simp)]
      exact s2
  | mark n =>
    refine ⟨_, _, .inr (h0 H .refl), atI_nat (j := 0) rfl, ?_⟩
    obtain ⟨y, rfl, hy⟩ := pts1 hps
    obtain rfl : y = sv [n] := hy
    refine hw.f_spot (h.f_marks ⟨_, _, .inr (h0 H .refl), atI_nat (j := 1) rfl, ?_⟩)
    have hml : S.marks.length ≤ 4 := by
      have := names4 (l := S.marks.map (·.1)) o.mkn (fun n hn => by
        obtain ⟨z, hz, rfl⟩ := List.mem_map.mp hn
        exact (o.mkp z hz).1)
      simpa using this
    refine ⟨A.mks, _, rfl, DPut.k (k := key n) h.mks (szl (by simp [mksK]; omega)), ?_⟩
    rw [putK_marks _ _ _ o.mkn]
    exact q A _ (h.stepM _)
  | copy r n =>
    refine ⟨_, _, .inr (h0 H .refl), atI_nat (j := 0) rfl, ?_⟩
    obtain ⟨y, z, rfl, ⟨s, rfl, hs⟩, hz⟩ := pts2 hps
    obtain rfl : z = sv [n] := hz
    have hro : r.ok := hok (.area r) (by simp [De.parts])
    refine ⟨A.dx, edF A S, h.own, rfl, ⟨_, _, .inr (h0 H .refl), atI_nat (j := 1) rfl, ?_⟩⟩
    have eq0 : notedE S (.copy r n) = match S.area r with
      | none => (.no, S)
      | some k => (.done, { S with regs := aput S.regs n ⟨k.1, piece S.text k.2.1 k.2.2⟩ }) := rfl
    rw [eq0] at q
    refine ⟨e, A, S, s, r, rfl, h, o, hs, hro, ?_, ?_⟩
    · intro hk H1 e1
      rw [hk] at q
      exact q A H1 ((Step.refl h).xt e1)
    · intro k hk T H1 hT e1 hT1
      rw [hk] at q
      have h1 := h.xt e1
      have hST : SqT K H1 T (areaV k) := SqT.of hT1
      refine ⟨_, _, .inr hST, atI_nat (j := 0) rfl, ?_⟩
      refine h1.f_text ⟨_, _, .inr hST, atI_nat (j := 1) rfl, ⟨_, _, .inr hST, atI_nat (j := 2) rfl, sz (by rw [len_sv]; omega), ?_⟩⟩
      rw [cut_piece]
      refine ⟨by show 2 ≤ sizeLine; decide, fun R hR => ?_⟩
      have x2 := xt_new (o := .tup [sv (kindW k.1), sv (piece S.text k.2.1 k.2.2)]) hR
      have h2 := h1.xt x2
      refine h2.f_registers ⟨_, _, .inr (SqT.of (x2 a _ (e1 a _ ha))), atI_nat (j := 2) rfl, ?_⟩
      obtain ⟨kvs, hk1, hk2⟩ := h2.rg
      have hrl : S.regs.length ≤ 4 := by
        have := names4 (l := S.regs.map (·.1)) o.rgn (fun n hn => by
          obtain ⟨z, hz, rfl⟩ := List.mem_map.mp hn
          exact (o.rgp z hz).1)
        simpa using this
      have hkl := paired_len hk2
      refine ⟨A.rg, _, rfl, DPut.k (k := key n) hk1 (szl (by omega)), ?_⟩
      refine q A _ (((Step.refl h).xt (e1.trans x2)).trans (h2.stepR _ _ ?_))
      exact paired_put (fun _ _ z => z.1) (v := .ref R) (x := (⟨k.1, piece S.text k.2.1 k.2.2⟩ : Reg)) ⟨rfl, R, rfl, upd_same⟩ hk2 o.rgn
  | _ => cases hn
end Ed

/-! editors: they stay as they should be -/
namespace Ed
open PySem L2 Cb
theorem toRow_le {t : List Nat} {r : Int} {c g : Nat} (h : Tx.toRow t r c = some g) : g ≤ t.length := by
  unfold Tx.toRow at h
  split at h
  · obtain ⟨l, h1, h2⟩ := Option.map_eq_some_iff.mp h
    have := Tx.offs_le t _ l h1
    omega
  · cases h
theorem pairOf_lt {t : List Nat} {p g : Nat} (h : Tx.pairOf t p = some g) : g < t.length := by
  obtain ⟨b1, _⟩ := Tx.pair_back h
  by_cases hg : g < t.length
  · exact hg
  · unfold Tx.pairOf at b1
    rw [List.getElem?_eq_none (by omega)] at b1
    cases b1
theorem nextOn_mem {xs : List Nat} {p g : Nat} (h : nextOn xs p = some g) : g ∈ xs := by
  unfold nextOn at h
  split at h
  · rename_i y r e
    injection h with h
    subst h
    exact (List.mem_filter.mp (e ▸ List.mem_cons_self ..)).1
  · exact List.mem_of_mem_head? h
theorem nextBack_mem {xs : List Nat} {p g : Nat} (h : nextBack xs p = some g) : g ∈ xs := by
  unfold nextBack at h
  split at h
  · rename_i y e
    injection h with h
    subst h
    exact (List.mem_filter.mp (List.mem_of_getLast? e)).1
  · exact List.mem_of_getLast? h
theorem nthBehind_mem {xs : List Nat} {p n g : Nat} (h : nthBehind xs p n = some g) : g ∈ xs ∧ p < g := by
  unfold nthBehind at h
  obtain ⟨h1, h2⟩ := List.mem_filter.mp (List.mem_of_getElem? h)
  exact ⟨h1, of_decide_eq_true h2⟩
theorem nthAhead_mem {xs : List Nat} {p n g : Nat} (h : nthAhead xs p n = some g) : g ∈ xs ∧ g < p := by
  unfold nthAhead at h
  have := List.mem_of_getElem? h
  rw [List.mem_reverse] at this
  obtain ⟨h1, h2⟩ := List.mem_filter.mp this
  exact ⟨h1, of_decide_eq_true h2⟩
theorem wb_lt' (t : List Nat) : ∀ x ∈ wordBegins t, x < t.length := fun x hx => by
  have := (List.mem_filter.mp hx).1
  simpa using this
theorem we_le (t : List Nat) : ∀ x ∈ wordEnds t, x ≤ t.length := fun x hx => by
  obtain ⟨y, hy, rfl⟩ := List.mem_map.mp hx
  have := (List.mem_filter.mp hy).1
  simp at this
  omega
theorem goBy_le {t : List Nat} {p c : Nat} {mk : Nat → Option Nat} {pat : Option (List Nat)} {m : Mo} {g : Nat} (hp : p ≤ t.length) (hm : ∀ c g, mk c = some g → g ≤ t.length) (h : goBy t p c mk pat m = some g) : g ≤ t.length := by
  cases m with
  | left n =>
    simp only [goBy] at h
    split at h
    · injection h with h; omega
    · cases h
  | right n =>
    simp only [goBy] at h
    split at h
    · injection h with h; omega
    · cases h
  | up n => exact toRow_le h
  | down n => exact toRow_le h
  | word n => exact Nat.le_of_lt (wb_lt' t _ (nthBehind_mem h).1)
  | over n => exact we_le t _ (nthBehind_mem h).1
  | back n => exact Nat.le_of_lt (wb_lt' t _ (nthAhead_mem h).1)
  | begin =>
    have e : Tx.beginOf t p = g := Option.some.inj h
    have := (Tx.begin_spec t p hp).1
    omega
  | fin =>
    have e : Tx.endOf t p = g := Option.some.inj h
    have := (Tx.end_spec t p hp).2.1
    omega
  | first =>
    have e : Tx.beginOf t p + Tx.lead (rowT t p) = g := Option.some.inj h
    obtain ⟨h1, h2, h3⟩ := rowT_len hp
    have := Tx.lead_le (rowT t p)
    omega
  | top =>
    have e : 0 = g := Option.some.inj h
    omega
  | bottom =>
    have e : t.length = g := Option.some.inj h
    omega
  | row r => exact toRow_le h
  | find c n =>
    have h' : (findL t p c)[n - 1]? = some g := h
    have := (List.mem_filter.mp (List.mem_of_getElem? h')).1
    have h2 := List.mem_range'_1.mp this
    have h3 := (Tx.end_spec t p hp).2.1
    omega
  | pair => exact Nat.le_of_lt (pairOf_lt h)
  | mark c => exact hm c g h
  | search q => exact Nat.le_of_lt (found_lt (nextOn_mem h))
  | again =>
    simp only [goBy] at h
    split at h
    · cases h
    · exact Nat.le_of_lt (found_lt (nextOn_mem h))
  | before =>
    simp only [goBy] at h
    split at h
    · cases h
    · exact Nat.le_of_lt (found_lt (nextBack_mem h))
theorem aget_mem {α : Type} : ∀ {l : List (Nat × α)} {n : Nat} {x : α}, aget l n = some x → (n, x) ∈ l
  | [], _, _, h => by cases h
  | (m, y) :: r, n, x, h => by
    unfold aget at h
    split at h
    · rename_i e
      injection h with h
      subst e h
      exact List.mem_cons_self ..
    · exact List.mem_cons_of_mem _ (aget_mem h)
theorem aput_mem {α : Type} : ∀ {l : List (Nat × α)} {n : Nat} {x : α} {q : Nat × α}, q ∈ aput l n x → q = (n, x) ∨ q ∈ l
  | [], n, x, q, h => by simp [aput] at h; exact .inl h
  | (m, y) :: r, n, x, q, h => by
    unfold aput at h
    split at h
    · rename_i e
      subst e
      rcases List.mem_cons.mp h with z | z
      · exact .inl z
      · exact .inr (List.mem_cons_of_mem _ z)
    · rcases List.mem_cons.mp h with z | z
      · exact .inr (z ▸ List.mem_cons_self ..)
      · rcases aput_mem z with z | z
        · exact .inl z
        · exact .inr (List.mem_cons_of_mem _ z)
theorem EdS.ok.mk_le {S : EdS} (o : S.ok) : ∀ c g, aget S.marks c = some g → g ≤ S.text.length := fun c g h => (o.mkp _ (aget_mem h)).2
theorem EdS.ok.goal_le {S : EdS} (o : S.ok) {m : Mo} {g : Nat} (h : S.goal m = some g) : g ≤ S.text.length := goBy_le o.spot o.mk_le h
theorem setW_ok {S : EdS} (o : S.ok) {w : Win} (h1 : w.spot ≤ S.text.length) (h2 : ∀ a, w.anchor = some a → a ≤ S.text.length) : (S.setW w).ok :=
  { o with
    act := by show S.active < (S.wins.set S.active w).length; simp; exact o.act
    few := by show (S.wins.set S.active w).length ≤ 3; simp; exact o.few
    win := fun v hv => by
      rcases List.mem_or_eq_of_mem_set hv with z | z
      · exact o.win v z
      · subst z; exact ⟨h1, h2⟩ }
theorem cw_setW {S : EdS} (o : S.ok) (w : Win) : (S.setW w).cw = w := by
  unfold EdS.cw EdS.setW
  simp [o.act]
def EdS.noCol (S : EdS) : EdS := S.setW { S.cw with column := none }
theorem noCol_ok {S : EdS} (o : S.ok) : S.noCol.ok := setW_ok o o.spot (o.win _ o.cwm).2
theorem played_ok {S : EdS} (o : S.ok) (n : Nat) : ({ S with played := n } : EdS).ok := { o with }
theorem setPat_ok {S : EdS} (o : S.ok) {m : Mo} (hm : m.ok) : (setPat S m).ok := by
  cases m with
  | search q => exact { o with pat := fun q' z => by injection z with z; subst z; exact hm }
  | _ => exact o
theorem goE_ok {S : EdS} (o : S.ok) {m : Mo} (hm : m.ok) : (goE S m).2.ok := by
  unfold goE
  split
  · exact o
  · rename_i g hg
    exact setPat_ok (setW_ok (w := ⟨g, S.cw.anchor, if m.ud then some S.col else none⟩) o (o.goal_le hg) (o.win _ o.cwm).2) hm
theorem marks_ok {S : EdS} (o : S.ok) {n p : Nat} (hn : isName n) (hp : p ≤ S.text.length) : ({ S with marks := aput S.marks n p } : EdS).ok :=
  { o with
    mkn := (aput_keys S.marks n p o.mkn).1
    mkp := fun q hq => by
      rcases aput_mem hq with z | z
      · subst z; exact ⟨hn, hp⟩
      · exact o.mkp q z }
theorem piece_text {t : List Nat} (h : isText t) (b e : Nat) : isText (piece t b e) := by
  refine ⟨?_, fun c hc => h.2 c (List.mem_of_mem_drop (List.mem_of_mem_take hc))⟩
  have := h.1
  simp [piece]
  omega
theorem regs_ok {S : EdS} (o : S.ok) {n : Nat} {r : Reg} (hn : isName n) (hr : isText r.text) : ({ S with regs := aput S.regs n r } : EdS).ok :=
  { o with
    rgn := (aput_keys S.regs n r o.rgn).1
    rgp := fun q hq => by
      rcases aput_mem hq with z | z
      · subst z; exact ⟨hn, hr⟩
      · exact o.rgp q z }
theorem notedE_ok {S : EdS} (o : S.ok) {d : De} (hd : d.ok) : (notedE S d).2.ok := by
  cases d with
  | choose =>
    refine setW_ok o o.spot fun a z => ?_
    dsimp only at z
    split at z
    · injection z with z; rw [← z]; exact o.spot
    · cases z
  | mark n => exact marks_ok o (hd (.name n) (by simp [De.parts])) o.spot
  | copy r n =>
    show (match S.area r with
      | none => ((.no, S) : Told × EdS)
      | some k => (.done, { S with regs := aput S.regs n ⟨k.1, piece S.text k.2.1 k.2.2⟩ })).2.ok
    split
    · exact o
    · exact regs_ok o (hd (.name n) (by simp [De.parts])) (piece_text o.txt _ _)
  | _ => exact o
end Ed

/-! editors: a deed, of going and notes alone (k08, k09, k26) -/
namespace Ed
open PySem L2 Cb
open Evl (Ev EvT)
def De.isGN : De → Bool
  | .go _ => true
  | d => d.isNote
def afterE (r : Told × EdS) : Told × EdS := match r.1 with
  | .done => (.done, r.2.noCol)
  | _ => r
def oneE (S : EdS) : De → Told × EdS
  | .go m => goE S m
  | d => afterE (notedE S d)
def isRS : De → Bool
  | .record _ => true | .stop => true
  | _ => false
def takeE (d : De) (r : Told × EdS) : Told × EdS := match r.1 with
  | .done => (.done, if r.2.taking = none ∨ isRS d = true then r.2 else { r.2 with taken := r.2.taken ++ [d] })
  | _ => r
def doE (S : EdS) (d : De) : Told × EdS := takeE d (oneE { S with played := 0 } d)
theorem goE_taken (S : EdS) (m : Mo) : (goE S m).2.taken = S.taken := by
  unfold goE
  split
  · rfl
  · cases m <;> rfl
theorem notedE_taken (S : EdS) (d : De) : (notedE S d).2.taken = S.taken := by
  cases d with
  | copy r n =>
    show (match S.area r with
      | none => ((.no, S) : Told × EdS)
      | some k => (.done, { S with regs := aput S.regs n ⟨k.1, piece S.text k.2.1 k.2.2⟩ })).2.taken = _
    split <;> rfl
  | _ => rfl
theorem afterE_ok {r : Told × EdS} (o : r.2.ok) : (afterE r).2.ok := by
  unfold afterE
  split
  · exact noCol_ok o
  · exact o
theorem oneE_ok {S : EdS} (o : S.ok) {d : De} (hd : d.ok) : (oneE S d).2.ok := by
  cases d with
  | go m => exact goE_ok o (hd (.mot m) (by simp [De.parts]))
  | _ => exact afterE_ok (notedE_ok o hd)
theorem takeE_ok {d : De} {r : Told × EdS} (o : r.2.ok) (hd : d.ok) : (takeE d r).2.ok := by
  unfold takeE
  split
  · dsimp only
    split
    · exact o
    · have ht : ∀ d' ∈ r.2.taken ++ [d], d'.ok := fun d' h => by
        rcases List.mem_append.mp h with z | z
        · exact o.tkd d' z
        · rw [List.mem_singleton.mp z]; exact hd
      exact { o with tkd := ht }
  · exact o
theorem doE_ok {S : EdS} (o : S.ok) {d : De} (hd : d.ok) : (doE S d).2.ok := takeE_ok (oneE_ok (played_ok o 0) hd) hd
def sp_Editor_one (K : PySem.W.Frag) : Sp := fun vs H Q _ => ∃ (e : Addr) (A : EdA) (S : EdS) (x : V) (d : De), vs = [.ref e, x] ∧ EdAt K H e A S ∧ S.ok ∧ DeAt H x d ∧ d.ok ∧ d.isGN = true ∧ RetS K e A H (oneE S d) Q
def b_Editor_one (K : PySem.W.Frag) : Ss K :=
  (Ss.cons (Sm.set 2 (Ex.ix (Ex.v 1) (Ex.i 0)))
  (Ss.cons (Sm.set 3 (Ex.fld "Window" (Ex.ix (Ex.fld "Editor" (Ex.v 0) "windows") (Ex.fld "Editor" (Ex.v 0) "active")) "column"))
  (Ss.cons (Sm.ite (Te.cmp Cm.eq (Ex.v 2) (Ex.s ⟨#[103, 111]⟩))
    (Ss.cons (Sm.ret (Ex.meth "Editor" (Ex.v 0) "go" (sp_Editor_go K) (As.cons (Ex.ix (Ex.v 1) (Ex.i 1)) (As.cons (Ex.v 3) As.nil))))
    Ss.nil)
    Ss.nil)
  (Ss.cons (Sm.ite (Te.cmp Cm.isin (Ex.v 2) (Ex.gtup "CHANGES" gCHANGES))
    (Ss.cons Sm.never
    Ss.nil)
    (Ss.cons (Sm.ite (Te.cmp Cm.isin (Ex.v 2) (Ex.tup (As.cons (Ex.s ⟨#[117, 110, 100, 111]⟩) (As.cons (Ex.s ⟨#[114, 101, 100, 111]⟩) (As.cons (Ex.s ⟨#[116, 111]⟩) As.nil)))))
      (Ss.cons Sm.never
      Ss.nil)
      (Ss.cons (Sm.ite (Te.cmp Cm.isin (Ex.v 2) (Ex.tup (As.cons (Ex.s ⟨#[111, 112, 101, 110]⟩) (As.cons (Ex.s ⟨#[119, 105, 110, 100, 111, 119]⟩) (As.cons (Ex.s ⟨#[99, 108, 111, 115, 101]⟩) As.nil)))))
        (Ss.cons Sm.never
        Ss.nil)
        (Ss.cons (Sm.ite (Te.cmp Cm.isin (Ex.v 2) (Ex.tup (As.cons (Ex.s ⟨#[114, 101, 99, 111, 114, 100]⟩) (As.cons (Ex.s ⟨#[115, 116, 111, 112]⟩) (As.cons (Ex.s ⟨#[112, 108, 97, 121]⟩) (As.cons (Ex.s ⟨#[100, 111, 116]⟩) As.nil))))))
          (Ss.cons Sm.never
          Ss.nil)
          (Ss.cons (Sm.set 4 (Ex.meth "Editor" (Ex.v 0) "noted" (sp_Editor_noted K) (As.cons (Ex.v 1) As.nil)))
          Ss.nil))
        Ss.nil))
      Ss.nil))
    Ss.nil))
  (Ss.cons (Sm.ite (Te.cmp Cm.is (Ex.v 4) Ex.none)
    (Ss.cons (Sm.fld "Window" (Ex.ix (Ex.fld "Editor" (Ex.v 0) "windows") (Ex.fld "Editor" (Ex.v 0) "active")) "column" Ex.none)
    Ss.nil)
    Ss.nil)
  (Ss.cons (Sm.ret (Ex.v 4))
  Ss.nil))))))
def N_Editor_one : List Str := ["self", "deed", "word", "column", "told"]
theorem afterE_eq (r : Told × EdS) : (r.1 = .done ∧ afterE r = (.done, r.2.noCol)) ∨ (r.1 ≠ .done ∧ afterE r = r) := by
  obtain ⟨t, S⟩ := r
  cases t with
  | done => exact .inl ⟨rfl, rfl⟩
  | no => exact .inr ⟨by simp, rfl⟩
  | cut => exact .inr ⟨by simp, rfl⟩
/-- behind a deed that is no motion: told is in slot 4 -/
theorem rd_after (K : PySem.W.Frag) {e : Addr} {A A' : EdA} {r : Told × EdS} {H H' : Hp} {Q : VK} {x1 x2 x3 : Option V} (st : Step K e A H A' r.2 H') (o : r.2.ok) (q : RetS K e A H (afterE r) Q) :
    (Ss.cons (K := K) (Sm.ite (Te.cmp Cm.is (Ex.v 4) Ex.none) (Ss.cons (Sm.fld "Window" (Ex.ix (Ex.fld "Editor" (Ex.v 0) "windows") (Ex.fld "Editor" (Ex.v 0) "active")) "column" Ex.none) Ss.nil) Ss.nil) (Ss.cons (Sm.ret (Ex.v 4)) Ss.nil)).t { nx := fun _ H' => Q .non H', rt := Q } [some (.ref e), x1, x2, x3, some (tv r.1)] H' := by
  obtain ⟨t, S'⟩ := r
  cases t with
  | done =>
    refine st.at_.f_windows (st.at_.f_active (st.at_.ixw o fun p hp hw => ?_))
    refine EdAt.w_column hw none ?_
    exact q A' _ (st.trans (st.at_.stepW (i := S'.active) { S'.cw with column := none } hp o.act))
  | no => exact q A' _ st
  | cut => exact q A' _ st
theorem rd_Editor_one (K : PySem.W.Frag) : ∀ vs H Q E, sp_Editor_one K vs H Q E → (b_Editor_one K).t { nx := fun _ H' => Q .non H', rt := Q } (start N_Editor_one vs) H := by
  rintro _ H Q E ⟨e, A, S, x, d, rfl, h, o, ⟨a, ps, rfl, ha, hps⟩, hok, hn, q⟩
  have h0 : ∀ H', Tk H H' → SqT K H' a (sv d.word :: ps) := fun H' t => SqT.of (t a _ ha)
  refine ⟨_, _, .inr (h0 H .refl), atI_nat (j := 0) rfl, ?_⟩
  refine h.f_windows (h.f_active (h.ixw o fun p hp hw => hw.f_column ?_))
  have notes : d.isNote = true → oneE S d = afterE (notedE S d) → (∀ w, d.word = w → ∀ H2, Xt H H2 → (Ex.meth (K := K) "Editor" (Ex.v 0) "noted" (sp_Editor_noted K) (As.cons (Ex.v 1) As.nil)).t [some (.ref e), some (.ref a), some (sv d.word), some (vo S.cw.column), none] H2 fun v H3 => gName 4 v [some (.ref e), some (.ref a), some (sv d.word), some (vo S.cw.column), none] H3 ((Ss.cons (K := K) (Sm.ite (Te.cmp Cm.is (Ex.v 4) Ex.none) (Ss.cons (Sm.fld "Window" (Ex.ix (Ex.fld "Editor" (Ex.v 0) "windows") (Ex.fld "Editor" (Ex.v 0) "active")) "column" Ex.none) Ss.nil) Ss.nil) (Ss.cons (Sm.ret (Ex.v 4)) Ss.nil)).t { nx := fun _ H' => Q .non H', rt := Q })) := by
    intro hn2 hone w hw2 H2 e2
    have h2 := h.xt e2
    refine ⟨A.dx, edF A S, h2.own, rfl, ⟨e, A, S, .ref a, d, rfl, h2, o, ⟨a, ps, rfl, e2 a _ ha, hps.tk (Tk.of e2)⟩, hok, hn2, fun A' H' st => ?_⟩⟩
    rw [hone] at q
    exact rd_after K (((Step.refl h).xt e2).trans st) (notedE_ok o hok) q
  cases d with
  | go m =>
    obtain ⟨y, rfl, s, rfl, hs⟩ := pts1 hps
    refine ⟨A.dx, edF A S, h.own, rfl, ⟨_, _, .inr (h0 H .refl), atI_nat (j := 1) rfl, ?_⟩⟩
    exact ⟨e, A, S, s, m, rfl, h, o, hs, hok (.mot m) (by simp [De.parts]), q⟩
  | choose =>
    intro pc hc
    refine ⟨pc, _, rfl, .inr (hc H), rfl, rfl, ?_⟩
    refine ⟨by decide, fun l hl => ⟨l, _, rfl, .inr (SqT.of upd_same), rfl, rfl, ?_⟩⟩
    refine ⟨by decide, fun l2 hl2 => ⟨l2, _, rfl, .inr (SqT.of upd_same), rfl, rfl, ?_⟩⟩
    refine ⟨by decide, fun l3 hl3 => ⟨l3, _, rfl, .inr (SqT.of upd_same), rfl, rfl, ?_⟩⟩
    exact notes rfl rfl _ rfl _ ((xt_new hl).trans ((xt_new hl2).trans (xt_new hl3)))
  | mark n =>
    intro pc hc
    refine ⟨pc, _, rfl, .inr (hc H), rfl, rfl, ?_⟩
    refine ⟨by decide, fun l hl => ⟨l, _, rfl, .inr (SqT.of upd_same), rfl, rfl, ?_⟩⟩
    refine ⟨by decide, fun l2 hl2 => ⟨l2, _, rfl, .inr (SqT.of upd_same), rfl, rfl, ?_⟩⟩
    refine ⟨by decide, fun l3 hl3 => ⟨l3, _, rfl, .inr (SqT.of upd_same), rfl, rfl, ?_⟩⟩
    exact notes rfl rfl _ rfl _ ((xt_new hl).trans ((xt_new hl2).trans (xt_new hl3)))
  | copy r n =>
    intro pc hc
    refine ⟨pc, _, rfl, .inr (hc H), rfl, rfl, ?_⟩
    refine ⟨by decide, fun l hl => ⟨l, _, rfl, .inr (SqT.of upd_same), rfl, rfl, ?_⟩⟩
    refine ⟨by decide, fun l2 hl2 => ⟨l2, _, rfl, .inr (SqT.of upd_same), rfl, rfl, ?_⟩⟩
    refine ⟨by decide, fun l3 hl3 => ⟨l3, _, rfl, .inr (SqT.of upd_same), rfl, rfl, ?_⟩⟩
    exact notes rfl rfl _ rfl _ ((xt_new hl).trans ((xt_new hl2).trans (xt_new hl3)))
  | _ => cases hn
/-! ### do -/
def sp_Editor_do (K : PySem.W.Frag) : Sp := fun vs H Q _ => ∃ (e : Addr) (A : EdA) (S : EdS) (x : V) (d : De), vs = [.ref e, x] ∧ EdAt K H e A S ∧ S.ok ∧ S.taken.length < 10000 ∧ DeAt H x d ∧ d.ok ∧ d.isGN = true ∧ RetS K e A H (doE S d) Q
def b_Editor_do (K : PySem.W.Frag) : Ss K :=
  (Ss.cons (Sm.ite (Te.not (Te.val (Ex.call "is_deed" (sp_is_deed K) (As.cons (Ex.v 1) As.nil))))
    (Ss.cons Sm.never
    Ss.nil)
    Ss.nil)
  (Ss.cons (Sm.fld "Editor" (Ex.v 0) "played" (Ex.i 0))
  (Ss.cons (Sm.set 2 (Ex.meth "Editor" (Ex.v 0) "one" (sp_Editor_one K) (As.cons (Ex.v 1) As.nil)))
  (Ss.cons (Sm.ite (Te.w (Tw.and (Te.cmp Cm.isNot (Ex.fld "Editor" (Ex.v 0) "taking") Ex.none) (Tw.and (Te.cmp Cm.is (Ex.v 2) Ex.none) (Tw.one (Te.cmp Cm.notIn (Ex.ix (Ex.v 1) (Ex.i 0)) (Ex.tup (As.cons (Ex.s ⟨#[114, 101, 99, 111, 114, 100]⟩) (As.cons (Ex.s ⟨#[115, 116, 111, 112]⟩) As.nil))))))))
    (Ss.cons (Sm.ex (Ex.lm Ml.append (Ex.fld "Editor" (Ex.v 0) "taken") (As.cons (Ex.v 1) As.nil)))
    Ss.nil)
    Ss.nil)
  (Ss.cons (Sm.ret (Ex.v 2))
  Ss.nil)))))
def N_Editor_do : List Str := ["self", "deed", "told"]
theorem EdAt.e_played {K : PySem.W.Frag} {H : Hp} {e : Addr} {A : EdA} {S : EdS} {P : Hp → Prop} (h : EdAt K H e A S) (n : Nat) (q : P (upd H e (.ins (cl K "Editor") A.dx (edF A { S with played := n })))) : ∃ dx fs, H e = some (.ins (cl K "Editor") dx fs) ∧ fs.length < 1000 ∧ P (upd H e (.ins (cl K "Editor") dx (putF "played" (iv n) fs))) := ⟨A.dx, edF A S, h.own, by show 14 < 1000; decide, q⟩
theorem paired_snoc {F : α → β → Prop} {x : α} {y : β} (hxy : F x y) : ∀ {xs : List α} {ys : List β}, Paired F xs ys → Paired F (xs ++ [x]) (ys ++ [y]) := by
  intro xs ys h
  induction h with
  | nil => exact .cons hxy .nil
  | cons h1 _ ih => exact .cons h1 ih
theorem word_rs (d : De) : inV (sv d.word) [sv w_record, sv w_stop] = isRS d := by cases d <;> rfl
theorem rd_Editor_do (K : PySem.W.Frag) : ∀ vs H Q E, sp_Editor_do K vs H Q E → (b_Editor_do K).t { nx := fun _ H' => Q .non H', rt := Q } (start N_Editor_do vs) H := by
  rintro _ H Q E ⟨e, A, S, x, d, rfl, h, o, htk, hd, hok, hn, q⟩
  obtain ⟨a, ps, rfl, ha, hps⟩ := hd
  refine ⟨_, d, rfl, ⟨a, ps, rfl, ha, hps⟩, hok, fun H1 e1 => ?_⟩
  have h1 := h.xt e1
  refine EdAt.e_played h1 0 ?_
  have s2 := ((Step.refl h).xt e1).trans (h1.stepQ (S' := { S with played := 0 }) rfl rfl rfl rfl rfl rfl rfl)
  have t2 := s2.tk h
  refine ⟨A.dx, edF A { S with played := 0 }, s2.at_.own, rfl, ⟨e, A, { S with played := 0 }, .ref a, d, rfl, s2.at_, played_ok o 0, ⟨a, ps, rfl, t2 a _ ha, hps.tk t2⟩, hok, hn, fun A' H' st => ?_⟩⟩
  have s3 := s2.trans st
  have t3 := s3.tk h
  have hone : doE S d = takeE d (oneE { S with played := 0 } d) := rfl
  rw [hone] at q
  have htk3 : (oneE { S with played := 0 } d).2.taken = S.taken := by
    cases d with
    | go m => exact goE_taken _ m
    | _ =>
      show (afterE _).2.taken = _
      rcases afterE_eq (notedE { S with played := 0 } _) with ⟨z1, z2⟩ | ⟨z1, z2⟩
      · rw [z2]; exact notedE_taken _ _
      · rw [z2]; exact notedE_taken _ _
  revert q s3 htk3
  generalize oneE { S with played := 0 } d = r
  intro q s3 htk3
  obtain ⟨t, S'⟩ := r
  have a3 := s3.at_
  refine a3.f_taking ?_
  cases htg : S'.taking with
  | none =>
    cases t with
    | done =>
      refine q A' H' ?_
      show Step K e A H A' (if S'.taking = none ∨ isRS d = true then S' else { S' with taken := S'.taken ++ [d] }) H'
      rw [if_pos (.inl htg)]; exact s3
    | no => exact q A' H' s3
    | cut => exact q A' H' s3
  | some n =>
    cases t with
    | done =>
      refine ⟨_, _, .inr (SqT.of (t3 a _ ha)), atI_nat (j := 0) rfl, by decide, fun l hl => ⟨l, _, rfl, .inr (SqT.of upd_same), rfl, rfl, ?_⟩⟩
      have xl := xt_new (o := .tup [sv w_record, sv w_stop]) hl
      show br (!inV (sv d.word) [sv w_record, sv w_stop]) _ _
      rw [word_rs]
      cases hrs : isRS d with
      | true =>
        refine q A' _ ?_
        show Step K e A H A' (if S'.taking = none ∨ isRS d = true then S' else { S' with taken := S'.taken ++ [d] }) _
        rw [if_pos (.inr hrs)]
        exact s3.xt xl
      | false =>
        have a4 := a3.xt xl
        refine a4.f_taken ?_
        obtain ⟨xs, hx1, hx2⟩ := a4.tk
        have hlen : xs.length = S'.taken.length := paired_len hx2
        have htk' : S'.taken.length < 10000 := by
          have : S'.taken = S.taken := htk3
          rw [this]; exact htk
        refine ⟨⟨_, SqL.of hx1⟩, xs, hx1, szl (by omega), ?_⟩
        refine q A' _ ?_
        show Step K e A H A' (if S'.taking = none ∨ isRS d = true then S' else { S' with taken := S'.taken ++ [d] }) _
        rw [if_neg (by rw [htg, hrs]; simp)]
        exact (s3.xt xl).trans (a4.stepT _ _ (paired_snoc ⟨a, ps, rfl, xl a _ (t3 a _ ha), hps.tk (t3.trans (Tk.of xl))⟩ hx2))
    | no => exact q A' H' s3
    | cut => exact q A' H' s3
end Ed

/-! rows that are joined; places within rows -/
namespace Tx
theorem offs_succ {rs : List (List Nat)} {r : Nat} {l : List Nat} (h : rs[r]? = some l) : offs rs (r + 1) = offs rs r + l.length + 1 := by
  unfold offs
  rw [List.take_add_one, h]
  simp
  omega
theorem take_sum_le : ∀ (xs : List (List Nat)) (r : Nat), ((xs.take r).map fun l => l.length + 1).sum ≤ (xs.map fun l => l.length + 1).sum
  | [], r => by simp
  | x :: xs, 0 => by simp
  | x :: xs, r + 1 => by
    have := take_sum_le xs r
    simp only [List.take_succ_cons, List.map_cons, List.sum_cons]
    omega
theorem offs_mono {rs : List (List Nat)} {r q : Nat} (h : r ≤ q) : offs rs r ≤ offs rs q := by
  unfold offs
  have : rs.take r = (rs.take q).take r := by rw [List.take_take]; congr 1; omega
  rw [this]
  exact take_sum_le _ _
theorem in_row {t : List Nat} {r k : Nat} {l : List Nat} (h : (rows t)[r]? = some l) (hk : k ≤ l.length) : offs (rows t) r + k ≤ t.length ∧ rowOf t (offs (rows t) r + k) = r ∧ beginOf t (offs (rows t) r + k) = offs (rows t) r ∧ endOf t (offs (rows t) r + k) = offs (rows t) r + l.length := by
  have h1 := offs_le t r l h
  have hp : offs (rows t) r + k ≤ t.length := by omega
  obtain ⟨l', a1, a2, a3, a4, a5⟩ := row_at t _ hp
  have e : rowOf t (offs (rows t) r + k) = r := by
    rcases Nat.lt_trichotomy (rowOf t (offs (rows t) r + k)) r with z | z | z
    · have b1 := offs_mono (rs := rows t) (show rowOf t (offs (rows t) r + k) + 1 ≤ r from z)
      rw [offs_succ a1] at b1
      omega
    · exact z
    · have b1 := offs_mono (rs := rows t) (show r + 1 ≤ rowOf t (offs (rows t) r + k) from z)
      rw [offs_succ h] at b1
      omega
  rw [e] at a1 a4 a5
  rw [h] at a1
  cases a1
  exact ⟨hp, e, a4, a5⟩
theorem rows_app {l : List Nat} (h : ∀ c ∈ l, c ≠ 10) (t : List Nat) : rows (l ++ 10 :: t) = l :: rows t := by
  induction l with
  | nil => exact rows_nl t
  | cons c l ih =>
    have ih' := ih fun c hc => h c (List.mem_cons_of_mem _ hc)
    obtain ⟨a, r, h1, h2⟩ := rows_other (h c (List.mem_cons_self ..)) (l ++ 10 :: t)
    rw [ih'] at h1
    injection h1 with h3 h4
    subst h3 h4
    exact h2
theorem rows_one {l : List Nat} (h : ∀ c ∈ l, c ≠ 10) : rows l = [l] := by
  induction l with
  | nil => rfl
  | cons c l ih =>
    have ih' := ih fun c hc => h c (List.mem_cons_of_mem _ hc)
    obtain ⟨a, r, h1, h2⟩ := rows_other (h c (List.mem_cons_self ..)) l
    rw [ih'] at h1
    injection h1 with h3 h4
    subst h3 h4
    exact h2
theorem rows_join : ∀ (rs : List (List Nat)), rs ≠ [] → (∀ l ∈ rs, ∀ c ∈ l, c ≠ 10) → rows (TL.joinL [10] rs) = rs
  | [], h, _ => absurd rfl h
  | [l], _, h => by simp only [TL.joinL]; exact rows_one (h l (List.mem_cons_self ..))
  | l :: m :: r, _, h => by
    have ih := rows_join (m :: r) (by simp) fun l hl => h l (List.mem_cons_of_mem _ hl)
    simp only [TL.joinL] at ih ⊢
    have e : l ++ [10] ++ TL.joinL [10] (m :: r) = l ++ 10 :: TL.joinL [10] (m :: r) := by simp
    first
      | (rw [show l ++ ([10] ++ TL.joinL [10] (m :: r)) = l ++ 10 :: TL.joinL [10] (m :: r) by simp, rows_app (h l (List.mem_cons_self ..)), ih])
      | (rw [e, rows_app (h l (List.mem_cons_self ..)), ih])
theorem join_mem : ∀ (rs : List (List Nat)) (c : Nat), c ∈ TL.joinL [10] rs → c = 10 ∨ ∃ l ∈ rs, c ∈ l
  | [], c, h => by simp [TL.joinL] at h
  | [l], c, h => by simp only [TL.joinL] at h; exact .inr ⟨l, List.mem_cons_self .., h⟩
  | l :: m :: r, c, h => by
    simp only [TL.joinL] at h
    have h' : c ∈ l ∨ c = 10 ∨ c ∈ TL.joinL [10] (m :: r) := by simpa [List.mem_append, or_assoc] using h
    rcases h' with z | z | z
    · exact .inr ⟨l, List.mem_cons_self .., z⟩
    · exact .inl z
    · rcases join_mem (m :: r) c z with z | ⟨x, hx, hc⟩
      · exact .inl z
      · exact .inr ⟨x, List.mem_cons_of_mem _ hx, hc⟩
end Tx

/-! k26, plain: the column that is kept -/
namespace Ed
open PySem L2 Cb
/-- the editor is in the row r, leans to the column c -/
structure C26 (rs : List (List Nat)) (S : EdS) (r c : Nat) : Prop where
  ok : S.ok
  rows : Tx.rows S.text = rs
  sgn : ∀ x ∈ S.text, x = 97 ∨ x = 10
  tkg : S.taking = none
  tkn : S.taken = []
  at_ : ∃ l, rs[r]? = some l ∧ S.cw.spot = Tx.offs rs r + min c l.length
  col : S.col = c
theorem takeE_plain {d : De} {r : Told × EdS} (h : r.2.taking = none) : takeE d r = r := by
  obtain ⟨t, S⟩ := r
  cases t with
  | done => show (Told.done, if S.taking = none ∨ isRS d = true then S else _) = _; rw [if_pos (.inl h)]
  | no => rfl
  | cut => rfl
theorem goE_taking (S : EdS) (m : Mo) : (goE S m).2.taking = S.taking := by
  unfold goE
  split
  · rfl
  · cases m <;> rfl
theorem goE_text (S : EdS) (m : Mo) : (goE S m).2.text = S.text := by
  unfold goE
  split
  · rfl
  · cases m <;> rfl
theorem notedE_taking (S : EdS) (d : De) : (notedE S d).2.taking = S.taking := by
  cases d with
  | copy r n =>
    show (match S.area r with
      | none => ((.no, S) : Told × EdS)
      | some k => (.done, { S with regs := aput S.regs n ⟨k.1, piece S.text k.2.1 k.2.2⟩ })).2.taking = _
    split <;> rfl
  | _ => rfl
theorem afterE_taking (r : Told × EdS) : (afterE r).2.taking = r.2.taking := by
  obtain ⟨t, S⟩ := r
  cases t <;> rfl
theorem oneE_taking (S : EdS) (d : De) : (oneE S d).2.taking = S.taking := by
  cases d with
  | go m => exact goE_taking S m
  | _ => exact (afterE_taking _).trans (notedE_taking S _)
theorem doE_plain {S : EdS} (h : S.taking = none) (d : De) : doE S d = oneE { S with played := 0 } d := takeE_plain (by rw [oneE_taking]; exact h)
theorem setPat_cw (S : EdS) (m : Mo) : (setPat S m).cw = S.cw ∧ (setPat S m).text = S.text ∧ (setPat S m).taken = S.taken := by cases m <;> exact ⟨rfl, rfl, rfl⟩
/-- a motion of the editor -/
theorem do_go_some {S : EdS} (h : S.taking = none) {m : Mo} {g : Nat} (hg : S.goal m = some g) : doE S (.go m) = (.done, setPat (({ S with played := 0 } : EdS).setW ⟨g, S.cw.anchor, if m.ud then some S.col else none⟩) m) := by
  rw [doE_plain h]
  show goE { S with played := 0 } m = _
  unfold goE
  have : ({ S with played := 0 } : EdS).goal m = S.goal m := rfl
  rw [this, hg]
  rfl
theorem do_go_none {S : EdS} (h : S.taking = none) {m : Mo} (hg : S.goal m = none) : doE S (.go m) = (.no, { S with played := 0 }) := by
  rw [doE_plain h]
  show goE { S with played := 0 } m = _
  unfold goE
  have : ({ S with played := 0 } : EdS).goal m = S.goal m := rfl
  rw [this, hg]
theorem C26.played {rs : List (List Nat)} {S : EdS} {r c : Nat} (h : C26 rs S r c) : C26 rs { S with played := 0 } r c := ⟨played_ok h.ok 0, h.rows, h.sgn, h.tkg, h.tkn, h.at_, h.col⟩
/-- gone to a place of a row -/
theorem C26.gone {rs : List (List Nat)} {S : EdS} {r c : Nat} (h : C26 rs S r c) {m : Mo} (hm : m.ok) {g r' c' : Nat} {l : List Nat} (hg : S.goal m = some g) (hl : rs[r']? = some l) (hs : g = Tx.offs rs r' + min c' l.length) (hc : if m.ud = true then S.col = c' else c' ≤ l.length) :
    (doE S (.go m)).1 = .done ∧ C26 rs (doE S (.go m)).2 r' c' := by
  have e := do_go_some h.tkg hg
  have ok' : (doE S (.go m)).2.ok := doE_ok h.ok (fun p hp => by simp [De.parts] at hp; subst hp; exact hm)
  rw [e] at ok' ⊢
  refine ⟨rfl, ?_⟩
  have hrows := h.rows
  obtain ⟨e1, e2, e3⟩ := setPat_cw (({ S with played := 0 } : EdS).setW ⟨g, S.cw.anchor, if m.ud then some S.col else none⟩) m
  have e4 := cw_setW (played_ok h.ok 0) ⟨g, S.cw.anchor, if m.ud then some S.col else none⟩
  refine ⟨ok', ?_, ?_, ?_, ?_, ⟨l, hl, ?_⟩, ?_⟩
  · show Tx.rows (setPat _ m).text = rs
    rw [e2]; exact hrows
  · show ∀ x ∈ (setPat _ m).text, _
    rw [e2]; exact h.sgn
  · show (setPat _ m).taking = none
    cases m <;> exact h.tkg
  · show (setPat _ m).taken = []
    rw [e3]; exact h.tkn
  · show (setPat _ m).cw.spot = _
    rw [e1, e4]; exact hs
  · show (setPat _ m).cw.column.getD (Tx.colOf (setPat _ m).text (setPat _ m).cw.spot) = c'
    rw [e1, e2, e4]
    cases hud : m.ud with
    | true =>
      rw [hud] at hc
      exact hc
    | false =>
      rw [hud] at hc
      have hc' : c' ≤ l.length := by simpa using hc
      show Tx.colOf S.text g = c'
      rw [← hrows] at hl
      obtain ⟨_, _, b1, _⟩ := Tx.in_row hl hc'
      have e5 : g = Tx.offs (Tx.rows S.text) r' + c' := by rw [hs, hrows]; congr 1; omega
      unfold Tx.colOf
      rw [e5, b1]
      omega
theorem C26.row {rs : List (List Nat)} {S : EdS} {r c : Nat} (h : C26 rs S r c) : ∃ l, rs[r]? = some l ∧ S.cw.spot = Tx.offs rs r + min c l.length ∧ Tx.rowOf S.text S.cw.spot = r ∧ Tx.endOf S.text S.cw.spot = Tx.offs rs r + l.length ∧ Tx.colOf S.text S.cw.spot = min c l.length := by
  obtain ⟨l, h1, h2⟩ := h.at_
  have hl := h1
  rw [← h.rows] at hl
  obtain ⟨_, b1, b2, b3⟩ := Tx.in_row (k := min c l.length) hl (Nat.min_le_right ..)
  rw [h.rows, ← h2] at b1 b2 b3
  refine ⟨l, h1, h2, b1, b3, ?_⟩
  unfold Tx.colOf
  rw [b2]; omega
/-- up and down -/
theorem C26.vert {rs : List (List Nat)} {S : EdS} {r c : Nat} (h : C26 rs S r c) {m : Mo} (hm : m.ok) {q : Int} (hv : m.ud = true) (hg : S.goal m = Tx.toRow S.text q S.col) :
    (¬ (0 ≤ q ∧ q < rs.length) → (doE S (.go m)).1 = .no ∧ C26 rs (doE S (.go m)).2 r c) ∧ (0 ≤ q ∧ q < rs.length → (doE S (.go m)).1 = .done ∧ C26 rs (doE S (.go m)).2 q.toNat c) := by
  constructor
  · intro hn
    have : S.goal m = none := by
      rw [hg]
      unfold Tx.toRow
      split
      · rename_i h0
        rw [List.getElem?_eq_none (by rw [h.rows]; omega)]; rfl
      · rfl
    rw [do_go_none h.tkg this]
    exact ⟨rfl, h.played⟩
  · rintro ⟨h0, h1⟩
    have hlt : q.toNat < rs.length := by omega
    have hl : rs[q.toNat]? = some rs[q.toNat] := List.getElem?_eq_getElem hlt
    have hgs : S.goal m = some (Tx.offs rs q.toNat + min c (rs[q.toNat]).length) := by
      rw [hg]
      unfold Tx.toRow
      rw [if_pos h0, h.rows, hl, h.col]; rfl
    exact h.gone hm hgs hl rfl (by rw [hv, if_pos rfl]; exact h.col)
theorem noCol_cw {S : EdS} (o : S.ok) : S.noCol.cw = ⟨S.cw.spot, S.cw.anchor, none⟩ := cw_setW o _
theorem C26.mark {rs : List (List Nat)} {S : EdS} {r c n : Nat} {l : List Nat} (h : C26 rs S r c) (hn : isName n) (hl : rs[r]? = some l) : C26 rs (doE S (.mark n)).2 r (min c l.length) := by
  have ok' : (doE S (.mark n)).2.ok := doE_ok h.ok (fun p hp => by simp [De.parts] at hp; subst hp; exact hn)
  obtain ⟨l', h1, h2, h3, h4, h5⟩ := h.row
  rw [hl] at h1
  cases h1
  have e : doE S (.mark n) = (.done, ({ S with played := 0, marks := aput S.marks n S.cw.spot } : EdS).noCol) := by rw [doE_plain h.tkg]; rfl
  rw [e] at ok' ⊢
  have o2 : ({ S with played := 0, marks := aput S.marks n S.cw.spot } : EdS).ok := marks_ok (played_ok h.ok 0) hn h.ok.spot
  have e4 := noCol_cw o2
  refine ⟨ok', h.rows, h.sgn, h.tkg, h.tkn, ⟨l, hl, ?_⟩, ?_⟩
  · show (EdS.noCol _).cw.spot = _
    rw [e4]
    show S.cw.spot = _
    omega
  · show (EdS.noCol _).cw.column.getD (Tx.colOf S.text (EdS.noCol _).cw.spot) = _
    rw [e4]
    exact h5
theorem C26.fin {rs : List (List Nat)} {S : EdS} {r c : Nat} {l : List Nat} (h : C26 rs S r c) (hl : rs[r]? = some l) : C26 rs (doE S (.go .fin)).2 r l.length := by
  obtain ⟨l', h1, h2, h3, h4, h5⟩ := h.row
  rw [hl] at h1
  cases h1
  have hg : S.goal .fin = some (Tx.offs rs r + l.length) := by
    show some (Tx.endOf S.text S.cw.spot) = _
    rw [h4]
  exact (h.gone (m := .fin) trivial hg hl (by omega) (by show l.length ≤ l.length; exact Nat.le_refl _)).2
theorem C26.find {rs : List (List Nat)} {S : EdS} {r c : Nat} (h : C26 rs S r c) : (doE S (.go (.find 122 1))).1 = .no ∧ C26 rs (doE S (.go (.find 122 1))).2 r c := by
  have hg : S.goal (.find 122 1) = none := by
    show (findL S.text S.cw.spot 122)[1 - 1]? = none
    have : findL S.text S.cw.spot 122 = [] := by
      unfold findL
      rw [List.filter_eq_nil_iff]
      intro i _ hi
      have : S.text[i]? = some 122 := by simpa using hi
      have := h.sgn 122 (List.mem_of_getElem? this)
      omega
    rw [this]; rfl
  rw [do_go_none h.tkg hg]
  exact ⟨rfl, h.played⟩
theorem C26.right {rs : List (List Nat)} {S : EdS} {r c : Nat} {l : List Nat} (h : C26 rs S r 0) (hl : rs[r]? = some l) (h1 : 1 ≤ c) (h9 : c ≤ 9) (hc : c ≤ l.length) : (doE S (.go (.right c))).1 = .done ∧ C26 rs (doE S (.go (.right c))).2 r c := by
  obtain ⟨l', k1, k2, k3, k4, k5⟩ := h.row
  rw [hl] at k1
  cases k1
  have hle := (Tx.end_spec S.text S.cw.spot h.ok.spot).2.1
  have hg : S.goal (.right c) = some (Tx.offs rs r + c) := by
    show (if S.cw.spot < S.text.length then some (min S.text.length (S.cw.spot + c)) else none) = _
    rw [if_pos (by omega)]
    congr 1
    omega
  exact h.gone (m := .right c) ⟨h1, h9⟩ hg hl (by omega) (by show c ≤ l.length; exact hc)
theorem C26.begin {t : List Nat} {rs : List (List Nat)} {r : Nat} {l : List Nat} (ht : isText t) (hr : Tx.rows t = rs) (hs : ∀ x ∈ t, x = 97 ∨ x = 10) (h99 : r + 1 ≤ 99) (hl : rs[r]? = some l) : C26 rs (doE (edNew t) (.go (.row (r + 1)))).2 r 0 := by
  obtain ⟨l0, hl0⟩ : ∃ l0, rs[0]? = some l0 := by
    have := (List.getElem?_eq_some_iff.mp hl).1
    exact ⟨_, List.getElem?_eq_getElem (by omega)⟩
  have h0 : C26 rs (edNew t) 0 0 := ⟨edNew_ok ht, hr, hs, rfl, rfl, ⟨l0, hl0, by show 0 = Tx.offs rs 0 + min 0 l0.length; simp [Tx.offs]⟩, by show Tx.colOf t 0 = 0; simp [Tx.colOf]⟩
  have hg : (edNew t).goal (.row (r + 1)) = some (Tx.offs rs r) := by
    show Tx.toRow t (((r + 1 : Nat) : Int) - 1) 0 = _
    have e : (((r + 1 : Nat) : Int) - 1) = (r : Int) := by omega
    rw [e]
    unfold Tx.toRow
    rw [if_pos (by omega), hr]
    have e2 : (r : Int).toNat = r := by simp
    rw [e2, hl]
    simp
  exact (h0.gone (m := .row (r + 1)) ⟨by omega, h99⟩ hg hl (by simp) (by show 0 ≤ l.length; omega)).2
end Ed

/-! the script, the town, an editor: side by side -/
namespace Ed
open PySem L2 Cb
theorem Step.keep {K : PySem.W.Frag} {e : Addr} {A A' : EdA} {H H' : Hp} {S' : EdS} (st : Step K e A H A' S' H') {p : Addr} {o : HO} (hp : p ∉ fp e A) (h : H p = some o) : H' p = some o ∧ p ∉ fp e A' := by
  refine ⟨st.off p o hp h, fun z => ?_⟩
  rcases st.new p z with z | z
  · exact hp z
  · rw [h] at z; cases z
structure LE (K : PySem.W.Frag) (a w : Addr) (ns : List Int) (n : Nat) (H : Hp) (e : Addr) (A : EdA) (S : EdS) : Prop where
  dr : Dr K a w ns n H
  ed : EdAt K H e A S
  ok : S.ok
  wo : w ∉ fp e A
  ao : a ∉ fp e A ∨ ∀ H', SqL K H' a (ns.map V.int)
variable {K : PySem.W.Frag} {a w : Addr} {ns : List Int} {n n' : Nat} {H H' : Hp} {e : Addr} {A A' : EdA} {S S' : EdS}
theorem Dr.tk (d : Dr K a w ns n H) (c : Ch w H H') : Tk H H' := fun p xs h => c p _ (fun z => by
  obtain ⟨zs, h1, _⟩ := d.twn
  rw [z, h1] at h; cases h) h
theorem EdAt.ch (h : EdAt K H e A S) (d : Dr K a w ns n H) (c : Ch w H H') (wo : w ∉ fp e A) : EdAt K H' e A S := h.to (d.tk c) fun p hp o ho => c p o (fun z => wo (z ▸ hp)) ho
theorem LE.draw (l : LE K a w ns n H e A S) (d : Dr K a w ns n' H') (c : Ch w H H') : LE K a w ns n' H' e A S := ⟨d, l.ed.ch l.dr c l.wo, l.ok, l.wo, l.ao⟩
theorem LE.xt (l : LE K a w ns n H e A S) (x : Xt H H') : LE K a w ns n H' e A S := ⟨l.dr.xt x, l.ed.xt x, l.ok, l.wo, l.ao⟩
theorem Dr.off {L : List Addr} (d : Dr K a w ns n H) (f : Off L H H') (wo : w ∉ L) (ao : a ∉ L ∨ ∀ H', SqL K H' a (ns.map V.int)) : Dr K a w ns n H' where
  scr := by
    rcases ao with ao | ao
    · rcases d.scr with (z | ⟨o, z⟩) | z
      · exact .inl (.inl (f a _ ao z))
      · exact .inl (.inr ⟨o, f a _ ao z⟩)
      · exact .inr z
    · exact ao H'
  twn := let ⟨zs, h1, h2⟩ := d.twn; ⟨zs, f w _ wo h1, h2⟩
  ne := d.ne
  few := d.few
theorem LE.step (l : LE K a w ns n H e A S) (st : Step K e A H A' S' H') (o : S'.ok) : LE K a w ns n H' e A' S' where
  dr := l.dr.off st.off l.wo l.ao
  ed := st.at_
  ok := o
  wo := let ⟨zs, h1, _⟩ := l.dr.twn; (st.keep l.wo h1).2
  ao := by
    rcases l.ao with ao | ao
    · rcases l.dr.scr with (z | ⟨o, z⟩) | z
      · exact .inl (st.keep ao z).2
      · exact .inl (st.keep ao z).2
      · exact .inr fun H' => .inr z
    · exact .inr ao
/-- an editor that is made -/
theorem LE.new {x dx : Addr} {t : List Nat} (d : Dr K a w ns n H) (ht : isText t) (hx : H x = none) (hdx : H dx = none) (hne : dx ≠ x) (hA : EdAt K H' x A (edNew t)) (hk : ∀ p o, p ≠ x → (upd (upd H dx (.own x)) x (.ins (cl K "Editor") dx [])) p = some o → H' p = some o) (hn : ∀ p ∈ fp x A, p = x ∨ (upd (upd H dx (.own x)) x (.ins (cl K "Editor") dx [])) p = none) : LE K a w ns n H' x A (edNew t) ∧ Xt H H' ∧ ∀ p ∈ fp x A, H p = none := by
  have hp : ∀ p ∈ fp x A, H p = none := fun p hp => by
    rcases hn p hp with z | z
    · rw [z]; exact hx
    · by_cases h1 : p = x
      · rw [h1]; exact hx
      · rw [upd_ne h1] at z
        by_cases h2 : p = dx
        · rw [h2]; exact hdx
        · rw [upd_ne h2] at z; exact z
  have x1 : Xt H H' := fun p o h => by
    have h1 : p ≠ x := fun z => by rw [z, hx] at h; cases h
    have h2 : p ≠ dx := fun z => by rw [z, hdx] at h; cases h
    exact hk p o h1 (by rw [upd_ne h1, upd_ne h2]; exact h)
  refine ⟨⟨d.xt x1, hA, edNew_ok ht, fun z => ?_, ?_⟩, x1, hp⟩
  · obtain ⟨zs, h1, _⟩ := d.twn
    rw [hp w z] at h1; cases h1
  · rcases d.scr with (z | ⟨o, z⟩) | z
    · exact .inl fun q => by rw [hp a q] at z; cases z
    · exact .inl fun q => by rw [hp a q] at z; cases z
    · exact .inr fun H' => .inr z
/-- a deed ("go", motion), a deed of one name, as they are written -/
theorem deAt_go {T1 T2 : Addr} {m : Mo} (h1 : H T1 = some (.tup m.vs)) (h2 : H T2 = some (.tup [sv w_go, .ref T1])) : DeAt H (.ref T2) (.go m) := ⟨T2, [.ref T1], rfl, h2, ⟨T1, rfl, h1⟩, trivial⟩
theorem deAt_mark {T : Addr} {c : Nat} (h : H T = some (.tup [sv w_mark, sv [c]])) : DeAt H (.ref T) (.mark c) := ⟨T, [sv [c]], rfl, h, rfl, trivial⟩
theorem ok_go {m : Mo} (h : m.ok) : (De.go m).ok := fun p hp => by simp [De.parts] at hp; subst hp; exact h
theorem ok_mark {c : Nat} (h : isName c) : (De.mark c).ok := fun p hp => by simp [De.parts] at hp; subst hp; exact h
end Ed

/-! the law's own world: the same state, in a dict of lists and dicts (A.dx: what is left) -/
namespace Ed
open PySem L2 Cb
open Evl (Ev EvT)
def winL (w : Win) : List V := [iv w.spot, vo w.anchor, vo w.column]
abbrev kk (s : Str) : Key := Sum.inr s
def woF (A : EdA) (S : EdS) : List (Key × V) := [(kk "text", sv S.text), (kk "wins", .ref A.ws), (kk "active", iv S.active), (kk "marks", .ref A.mks), (kk "regs", .ref A.rg), (kk "pattern", pv S.pat), (kk "macros", .ref A.ma), (kk "taking", nm S.taking), (kk "taken", .ref A.tk), (kk "last", A.last), (kk "states", .ref A.st), (kk "state", iv S.state), (kk "left", iv A.dx)]
def WiAt (K : PySem.W.Frag) (H : Hp) (p : Addr × Addr) (w : Win) : Prop := H p.1 = some (.lst (winL w))
structure WoAt (K : PySem.W.Frag) (H : Hp) (e : Addr) (A : EdA) (S : EdS) : Prop where
  own : H e = some (.dK (woF A S))
  ws : H A.ws = some (.lst (A.wa.map fun p => V.ref p.1))
  wins : Paired (WiAt K H) A.wa S.wins
  mks : H A.mks = some (.dK (mksK S.marks))
  rg : ∃ kvs, H A.rg = some (.dK kvs) ∧ Paired (RegAt H) kvs S.regs
  ma : ∃ kvs, H A.ma = some (.dK kvs) ∧ Paired (MacAt H) kvs S.macros
  tk : ∃ xs, H A.tk = some (.lst xs) ∧ Paired (DeAt H) xs S.taken
  la : LastAt H A.last S.last
  st : ∃ xs, H A.st = some (.lst xs) ∧ Paired (StaAt H) xs S.states
  nd : (fp e A).Nodup
/-- what the editor leans on stands still: it does, too -/
theorem WoAt.to {K : PySem.W.Frag} {H H' : Hp} {e : Addr} {A : EdA} {S : EdS} (h : WoAt K H e A S) (t : Tk H H') (f : ∀ p ∈ fp e A, ∀ o, H p = some o → H' p = some o) : WoAt K H' e A S where
  own := f _ (by simp [fp]) _ h.own
  ws := f _ (by simp [fp]) _ h.ws
  wins := by
    have hm : ∀ q ∈ A.wa, q.1 ∈ fp e A := fun q hq => by
      simp only [fp, List.mem_cons, List.mem_map]
      exact .inr (.inr (.inr (.inr (.inr (.inr (.inr ⟨q, hq, rfl⟩))))))
    have hw := h.wins
    clear h
    generalize S.wins = ws at hw
    revert hm hw
    generalize A.wa = wa
    intro hm hw
    induction hw with
    | nil => exact .nil
    | cons h1 _ ih => exact .cons (f _ (hm _ (List.mem_cons_self ..)) _ h1) (ih fun q hq => hm q (List.mem_cons_of_mem _ hq))
  mks := f _ (by simp [fp]) _ h.mks
  rg := let ⟨kvs, h1, h2⟩ := h.rg; ⟨kvs, f _ (by simp [fp]) _ h1, h2.imp fun _ _ z => z.tk t⟩
  ma := let ⟨kvs, h1, h2⟩ := h.ma; ⟨kvs, f _ (by simp [fp]) _ h1, h2.imp fun _ _ z => z.tk t⟩
  tk := let ⟨xs, h1, h2⟩ := h.tk; ⟨xs, f _ (by simp [fp]) _ h1, h2.imp fun _ _ z => z.tk t⟩
  la := h.la.tk t
  st := let ⟨xs, h1, h2⟩ := h.st; ⟨xs, f _ (by simp [fp]) _ h1, h2.imp fun _ _ z => z.tk t⟩
  nd := h.nd
theorem WoAt.xt {K : PySem.W.Frag} {H H' : Hp} {e : Addr} {A : EdA} {S : EdS} (h : WoAt K H e A S) (x : Xt H H') : WoAt K H' e A S := h.to (Tk.of x) fun p _ o => x p o
/-- what it leans on is no tuple -/
theorem WoAt.notup {K : PySem.W.Frag} {H : Hp} {e : Addr} {A : EdA} {S : EdS} (h : WoAt K H e A S) : ∀ p ∈ fp e A, ∃ o, H p = some o ∧ ∀ xs, o ≠ .tup xs := by
  intro p hp
  simp only [fp, List.mem_cons, List.mem_map] at hp
  rcases hp with rfl | rfl | rfl | rfl | rfl | rfl | rfl | ⟨q, hq, rfl⟩
  · exact ⟨_, h.own, fun _ z => nomatch z⟩
  · exact ⟨_, h.ws, fun _ z => nomatch z⟩
  · exact ⟨_, h.mks, fun _ z => nomatch z⟩
  · obtain ⟨_, z, _⟩ := h.rg; exact ⟨_, z, fun _ z => nomatch z⟩
  · obtain ⟨_, z, _⟩ := h.ma; exact ⟨_, z, fun _ z => nomatch z⟩
  · obtain ⟨_, z, _⟩ := h.tk; exact ⟨_, z, fun _ z => nomatch z⟩
  · obtain ⟨_, z, _⟩ := h.st; exact ⟨_, z, fun _ z => nomatch z⟩
  · have hw := h.wins
    generalize S.wins = ws at hw
    revert hq hw
    generalize A.wa = wa
    intro hq hw
    induction hw with
    | nil => cases hq
    | cons h1 _ ih =>
      rcases List.mem_cons.mp hq with rfl | hq
      · exact ⟨_, h1, fun _ z => nomatch z⟩
      · exact ih hq
theorem WoAt.tup_off {K : PySem.W.Frag} {H : Hp} {e : Addr} {A : EdA} {S : EdS} (h : WoAt K H e A S) {p : Addr} {xs : List V} (hp : H p = some (.tup xs)) : p ∉ fp e A := fun z => by
  obtain ⟨o, h1, h2⟩ := h.notup p z
  rw [hp] at h1
  cases h1
  exact h2 _ rfl
theorem WoAt.new_off {K : PySem.W.Frag} {H : Hp} {e : Addr} {A : EdA} {S : EdS} (h : WoAt K H e A S) {p : Addr} (hp : H p = none) : p ∉ fp e A := fun z => by
  obtain ⟨o, h1, h2⟩ := h.notup p z
  rw [hp] at h1
  cases h1
theorem Off.tkW {K : PySem.W.Frag} {H H' : Hp} {e : Addr} {A : EdA} {S : EdS} (h : WoAt K H e A S) (f : Off (fp e A) H H') : Tk H H' := fun p xs hp => f p _ (h.tup_off hp) hp
/-- a step of the editor -/
structure StepW (K : PySem.W.Frag) (e : Addr) (A : EdA) (H : Hp) (A' : EdA) (S' : EdS) (H' : Hp) : Prop where
  at_ : WoAt K H' e A' S'
  off : Off (fp e A) H H'
  new : Newer H (fp e A) (fp e A')
theorem StepW.refl {K : PySem.W.Frag} {e : Addr} {A : EdA} {H : Hp} {S : EdS} (h : WoAt K H e A S) : StepW K e A H A S H := ⟨h, .refl, .refl⟩
theorem StepW.trans {K : PySem.W.Frag} {e : Addr} {A A1 A2 : EdA} {H H1 H2 : Hp} {S1 S2 : EdS} (a : StepW K e A H A1 S1 H1) (b : StepW K e A1 H1 A2 S2 H2) : StepW K e A H A2 S2 H2 where
  at_ := b.at_
  off := fun p o hp h => b.off p o (fun z => by
    rcases a.new p z with z | z
    · exact hp z
    · rw [h] at z; cases z) (a.off p o hp h)
  new := fun p hp => by
    rcases b.new p hp with z | z
    · exact a.new p z
    · by_cases hq : p ∈ fp e A
      · exact .inl hq
      · cases hH : H p with
        | none => exact .inr rfl
        | some o =>
          have := a.off p o hq hH
          rw [z] at this; cases this
theorem StepW.xt {K : PySem.W.Frag} {e : Addr} {A A1 : EdA} {H H1 H2 : Hp} {S1 : EdS} (a : StepW K e A H A1 S1 H1) (x : Xt H1 H2) : StepW K e A H A1 S1 H2 := a.trans ⟨a.at_.xt x, .of x, .refl⟩
theorem StepW.tk {K : PySem.W.Frag} {e : Addr} {A A1 : EdA} {H H1 : Hp} {S S1 : EdS} (h : WoAt K H e A S) (a : StepW K e A H A1 S1 H1) : Tk H H1 := a.off.tkW h
/-- all but the editor's own thing -/
structure WoB (K : PySem.W.Frag) (H : Hp) (A : EdA) (S : EdS) : Prop where
  ws : H A.ws = some (.lst (A.wa.map fun p => V.ref p.1))
  wins : Paired (WiAt K H) A.wa S.wins
  mks : H A.mks = some (.dK (mksK S.marks))
  rg : ∃ kvs, H A.rg = some (.dK kvs) ∧ Paired (RegAt H) kvs S.regs
  ma : ∃ kvs, H A.ma = some (.dK kvs) ∧ Paired (MacAt H) kvs S.macros
  tk : ∃ xs, H A.tk = some (.lst xs) ∧ Paired (DeAt H) xs S.taken
  la : LastAt H A.last S.last
  st : ∃ xs, H A.st = some (.lst xs) ∧ Paired (StaAt H) xs S.states
variable {K : PySem.W.Frag} {H H' : Hp} {e : Addr} {A A' : EdA} {S S' : EdS}
theorem WoAt.b (h : WoAt K H e A S) : WoB K H A S := ⟨h.ws, h.wins, h.mks, h.rg, h.ma, h.tk, h.la, h.st⟩
theorem WoB.at_ (b : WoB K H A S) (own : H e = some (.dK (woF A S))) (nd : (fp e A).Nodup) : WoAt K H e A S := ⟨own, b.ws, b.wins, b.mks, b.rg, b.ma, b.tk, b.la, b.st, nd⟩
theorem wins_keepW {K : PySem.W.Frag} {H H' : Hp} : ∀ {wa : List (Addr × Addr)} {ws : List Win}, Paired (WiAt K H) wa ws → (∀ q ∈ wa, H' q.1 = H q.1) → Paired (WiAt K H') wa ws := by
  intro wa ws h
  induction h with
  | nil => intro _; exact .nil
  | cons h1 _ ih => intro hm; exact .cons (by unfold WiAt; rw [hm _ (List.mem_cons_self ..)]; exact h1) (ih fun q hq => hm q (List.mem_cons_of_mem _ hq))
theorem WoB.to (h : WoB K H A S) (t : Tk H H') (f : ∀ p ∈ fq A, H' p = H p) : WoB K H' A S where
  ws := (f _ (by simp [fq])).trans h.ws
  wins := wins_keepW h.wins fun q hq => f _ (by
    simp only [fq, List.mem_cons, List.mem_map]
    exact .inr (.inr (.inr (.inr (.inr (.inr ⟨q, hq, rfl⟩))))))
  mks := (f _ (by simp [fq])).trans h.mks
  rg := let ⟨kvs, h1, h2⟩ := h.rg; ⟨kvs, (f _ (by simp [fq])).trans h1, h2.imp fun _ _ z => z.tk t⟩
  ma := let ⟨kvs, h1, h2⟩ := h.ma; ⟨kvs, (f _ (by simp [fq])).trans h1, h2.imp fun _ _ z => z.tk t⟩
  tk := let ⟨xs, h1, h2⟩ := h.tk; ⟨xs, (f _ (by simp [fq])).trans h1, h2.imp fun _ _ z => z.tk t⟩
  la := h.la.tk t
  st := let ⟨xs, h1, h2⟩ := h.st; ⟨xs, (f _ (by simp [fq])).trans h1, h2.imp fun _ _ z => z.tk t⟩
/-- a store into the editor itself -/
theorem WoB.setE {o : HO} (b : WoB K H A' S') (ho : H e = some o) (hn : ∀ xs, o ≠ .tup xs) (nd : (fp e A').Nodup) : WoAt K (upd H e (.dK (woF A' S'))) e A' S' := by
  refine (b.to (tk_upd ho hn) fun p hp => ?_).at_ upd_same nd
  rw [fp_eq] at nd
  have hne : p ≠ e := fun z => (List.nodup_cons.mp nd).1 (by rw [← z]; exact hp)
  rw [upd_ne hne]
theorem WoAt.stepE (h : WoAt K H e A S) (b : WoB K H A' S') (nd : (fp e A').Nodup) (nw : Newer H (fp e A) (fp e A')) : StepW K e A H A' S' (upd H e (.dK (woF A' S'))) := by
  refine ⟨?_, .at_ (by simp [fp]), nw⟩
  exact b.setE h.own (fun _ z => nomatch z) nd
/-- one of the editor's plain things is stored -/
theorem WoAt.stepP (h : WoAt K H e A S) (hw : S'.wins = S.wins) (hm : S'.marks = S.marks) (hr : S'.regs = S.regs) (hc : S'.macros = S.macros) (ht : S'.taken = S.taken) (hs : S'.states = S.states) {v : V} (hl : LastAt H v S'.last) :
    StepW K e A H { A with last := v } S' (upd H e (.dK (woF { A with last := v } S'))) := by
  refine h.stepE ⟨h.ws, by rw [hw]; exact h.wins, by rw [hm]; exact h.mks, by rw [hr]; exact h.rg, by rw [hc]; exact h.ma, by rw [ht]; exact h.tk, hl, by rw [hs]; exact h.st⟩ h.nd .refl
/-- .. not the last change -/
theorem WoAt.stepQ (h : WoAt K H e A S) (hw : S'.wins = S.wins) (hm : S'.marks = S.marks) (hr : S'.regs = S.regs) (hc : S'.macros = S.macros) (ht : S'.taken = S.taken) (hs : S'.states = S.states) (hl : S'.last = S.last) :
    StepW K e A H A S' (upd H e (.dK (woF A S'))) := by
  refine h.stepE ⟨h.ws, by rw [hw]; exact h.wins, by rw [hm]; exact h.mks, by rw [hr]; exact h.rg, by rw [hc]; exact h.ma, by rw [ht]; exact h.tk, by rw [hl]; exact h.la, by rw [hs]; exact h.st⟩ h.nd .refl
theorem wins_setW {K : PySem.W.Frag} {H H' : Hp} : ∀ {wa : List (Addr × Addr)} {ws : List Win}, Paired (WiAt K H) wa ws → ∀ (i : Nat) (q : Addr × Addr) (w' : Win), wa[i]? = some q → (wa.map (·.1)).Nodup → H' = upd H q.1 (.lst (winL w')) → Paired (WiAt K H') wa (ws.set i w') := by
  intro wa ws h
  induction h with
  | nil => intro i q w' hi; simp at hi
  | @cons p w ps ws' h1 h2 ih =>
    intro i q w' hi nd hH
    have nd' : p.1 ∉ ps.map (·.1) ∧ (ps.map (·.1)).Nodup := List.nodup_cons.mp nd
    cases i with
    | zero =>
      simp at hi
      subst hi
      refine .cons ?_ (wins_keepW h2 fun r hr => ?_)
      · unfold WiAt; rw [hH, upd_same]
      · rw [hH, upd_ne (fun z => nd'.1 (by rw [← z]; exact List.mem_map.mpr ⟨r, hr, rfl⟩))]
    | succ i =>
      simp at hi
      have hq : q.1 ∈ ps.map (·.1) := List.mem_map.mpr ⟨q, List.mem_of_getElem? hi, rfl⟩
      refine .cons ?_ (ih i q w' hi nd'.2 hH)
      unfold WiAt
      rw [hH, upd_ne (fun z => nd'.1 (by rw [z]; exact hq))]
      exact h1
theorem WoAt.winAt (h : WoAt K H e A S) {i : Nat} {w : Win} (hw : S.wins[i]? = some w) : ∃ q, A.wa[i]? = some q ∧ WiAt K H q w := by
  have hp := h.wins
  generalize S.wins = ws at hp hw
  revert hw
  generalize A.wa = wa at hp
  induction hp generalizing i with
  | nil => intro hw; simp at hw
  | cons h1 _ ih =>
    intro hw
    cases i with
    | zero => simp at hw; subst hw; exact ⟨_, rfl, h1⟩
    | succ i => simp at hw; exact ih hw
theorem WoAt.wa_len (h : WoAt K H e A S) : A.wa.length = S.wins.length := h.wins.length
/-- a window is stored into -/
theorem WoAt.stepW (h : WoAt K H e A S) {i : Nat} {q : Addr × Addr} (w' : Win) (hq : A.wa[i]? = some q) (hi : i < S.wins.length) : StepW K e A H A { S with wins := S.wins.set i w' } (upd H q.1 (.lst (winL w'))) := by
  have hf := wa_at (e := e) hq
  obtain ⟨n0, n1, n2, n3, n4, n5, n6, _⟩ := fp_ne h.nd hf
  obtain ⟨q', hq', hw⟩ := h.winAt (List.getElem?_eq_getElem hi)
  rw [hq] at hq'
  cases hq'
  have t : Tk H (upd H q.1 (.lst (winL w'))) := tk_upd hw fun _ z => nomatch z
  refine ⟨⟨?_, ?_, ?_, ?_, ?_, ?_, ?_, h.la.tk t, ?_, h.nd⟩, .at_ (List.mem_of_getElem? hf), .refl⟩
  · rw [upd_ne (n0 (by omega))]; exact h.own
  · rw [upd_ne (n1 (by omega))]; exact h.ws
  · exact wins_setW h.wins i q w' hq (nd_wa h.nd) rfl
  · rw [upd_ne (n2 (by omega))]; exact h.mks
  · obtain ⟨kvs, z1, z2⟩ := h.rg
    exact ⟨kvs, by rw [upd_ne (n3 (by omega))]; exact z1, z2.imp fun _ _ z => z.tk t⟩
  · obtain ⟨kvs, z1, z2⟩ := h.ma
    exact ⟨kvs, by rw [upd_ne (n4 (by omega))]; exact z1, z2.imp fun _ _ z => z.tk t⟩
  · obtain ⟨kvs, z1, z2⟩ := h.tk
    exact ⟨kvs, by rw [upd_ne (n5 (by omega))]; exact z1, z2.imp fun _ _ z => z.tk t⟩
  · obtain ⟨kvs, z1, z2⟩ := h.st
    exact ⟨kvs, by rw [upd_ne (n6 (by omega))]; exact z1, z2.imp fun _ _ z => z.tk t⟩
/-- the marks, the registers, the macros, what is taken, the states are stored into -/
theorem WoAt.stepM (h : WoAt K H e A S) (ms : List (Nat × Nat)) : StepW K e A H A { S with marks := ms } (upd H A.mks (.dK (mksK ms))) := by
  obtain ⟨n0, n1, n2, n3, n4, n5, n6, n7⟩ := fp_ne (i := 2) h.nd (p := A.mks) rfl
  have t : Tk H (upd H A.mks (.dK (mksK ms))) := tk_upd h.mks fun _ z => nomatch z
  refine ⟨⟨?_, ?_, ?_, upd_same, ?_, ?_, ?_, h.la.tk t, ?_, h.nd⟩, .at_ (by simp [fp]), .refl⟩
  · rw [upd_ne (n0 (by omega))]; exact h.own
  · rw [upd_ne (n1 (by omega))]; exact h.ws
  · exact wins_keepW h.wins fun q hq => upd_ne (n7 (by omega) q hq)
  · obtain ⟨kvs, z1, z2⟩ := h.rg
    exact ⟨kvs, by rw [upd_ne (n3 (by omega))]; exact z1, z2.imp fun _ _ z => z.tk t⟩
  · obtain ⟨kvs, z1, z2⟩ := h.ma
    exact ⟨kvs, by rw [upd_ne (n4 (by omega))]; exact z1, z2.imp fun _ _ z => z.tk t⟩
  · obtain ⟨kvs, z1, z2⟩ := h.tk
    exact ⟨kvs, by rw [upd_ne (n5 (by omega))]; exact z1, z2.imp fun _ _ z => z.tk t⟩
  · obtain ⟨kvs, z1, z2⟩ := h.st
    exact ⟨kvs, by rw [upd_ne (n6 (by omega))]; exact z1, z2.imp fun _ _ z => z.tk t⟩
theorem WoAt.stepR (h : WoAt K H e A S) (rs : List (Nat × Reg)) (kvs : List (Key × V)) (hr : Paired (RegAt H) kvs rs) : StepW K e A H A { S with regs := rs } (upd H A.rg (.dK kvs)) := by
  obtain ⟨n0, n1, n2, n3, n4, n5, n6, n7⟩ := fp_ne (i := 3) h.nd (p := A.rg) rfl
  have t : Tk H (upd H A.rg (.dK kvs)) := by
    obtain ⟨k0, z, _⟩ := h.rg
    exact tk_upd z fun _ z => nomatch z
  refine ⟨⟨?_, ?_, ?_, ?_, ⟨kvs, upd_same, hr.imp fun _ _ z => z.tk t⟩, ?_, ?_, h.la.tk t, ?_, h.nd⟩, .at_ (by simp [fp]), .refl⟩
  · rw [upd_ne (n0 (by omega))]; exact h.own
  · rw [upd_ne (n1 (by omega))]; exact h.ws
  · exact wins_keepW h.wins fun q hq => upd_ne (n7 (by omega) q hq)
  · rw [upd_ne (n2 (by omega))]; exact h.mks
  · obtain ⟨kvs, z1, z2⟩ := h.ma
    exact ⟨kvs, by rw [upd_ne (n4 (by omega))]; exact z1, z2.imp fun _ _ z => z.tk t⟩
  · obtain ⟨kvs, z1, z2⟩ := h.tk
    exact ⟨kvs, by rw [upd_ne (n5 (by omega))]; exact z1, z2.imp fun _ _ z => z.tk t⟩
  · obtain ⟨kvs, z1, z2⟩ := h.st
    exact ⟨kvs, by rw [upd_ne (n6 (by omega))]; exact z1, z2.imp fun _ _ z => z.tk t⟩
theorem WoAt.stepC (h : WoAt K H e A S) (rs : List (Nat × List De)) (kvs : List (Key × V)) (hr : Paired (MacAt H) kvs rs) : StepW K e A H A { S with macros := rs } (upd H A.ma (.dK kvs)) := by
  obtain ⟨n0, n1, n2, n3, n4, n5, n6, n7⟩ := fp_ne (i := 4) h.nd (p := A.ma) rfl
  have t : Tk H (upd H A.ma (.dK kvs)) := by
    obtain ⟨k0, z, _⟩ := h.ma
    exact tk_upd z fun _ z => nomatch z
  refine ⟨⟨?_, ?_, ?_, ?_, ?_, ⟨kvs, upd_same, hr.imp fun _ _ z => z.tk t⟩, ?_, h.la.tk t, ?_, h.nd⟩, .at_ (by simp [fp]), .refl⟩
  · rw [upd_ne (n0 (by omega))]; exact h.own
  · rw [upd_ne (n1 (by omega))]; exact h.ws
  · exact wins_keepW h.wins fun q hq => upd_ne (n7 (by omega) q hq)
  · rw [upd_ne (n2 (by omega))]; exact h.mks
  · obtain ⟨kvs, z1, z2⟩ := h.rg
    exact ⟨kvs, by rw [upd_ne (n3 (by omega))]; exact z1, z2.imp fun _ _ z => z.tk t⟩
  · obtain ⟨kvs, z1, z2⟩ := h.tk
    exact ⟨kvs, by rw [upd_ne (n5 (by omega))]; exact z1, z2.imp fun _ _ z => z.tk t⟩
  · obtain ⟨kvs, z1, z2⟩ := h.st
    exact ⟨kvs, by rw [upd_ne (n6 (by omega))]; exact z1, z2.imp fun _ _ z => z.tk t⟩
theorem WoAt.stepT (h : WoAt K H e A S) (ds : List De) (xs : List V) (hr : Paired (DeAt H) xs ds) : StepW K e A H A { S with taken := ds } (upd H A.tk (.lst xs)) := by
  obtain ⟨n0, n1, n2, n3, n4, n5, n6, n7⟩ := fp_ne (i := 5) h.nd (p := A.tk) rfl
  have t : Tk H (upd H A.tk (.lst xs)) := by
    obtain ⟨k0, z, _⟩ := h.tk
    exact tk_upd z fun _ z => nomatch z
  refine ⟨⟨?_, ?_, ?_, ?_, ?_, ?_, ⟨xs, upd_same, hr.imp fun _ _ z => z.tk t⟩, h.la.tk t, ?_, h.nd⟩, .at_ (by simp [fp]), .refl⟩
  · rw [upd_ne (n0 (by omega))]; exact h.own
  · rw [upd_ne (n1 (by omega))]; exact h.ws
  · exact wins_keepW h.wins fun q hq => upd_ne (n7 (by omega) q hq)
  · rw [upd_ne (n2 (by omega))]; exact h.mks
  · obtain ⟨kvs, z1, z2⟩ := h.rg
    exact ⟨kvs, by rw [upd_ne (n3 (by omega))]; exact z1, z2.imp fun _ _ z => z.tk t⟩
  · obtain ⟨kvs, z1, z2⟩ := h.ma
    exact ⟨kvs, by rw [upd_ne (n4 (by omega))]; exact z1, z2.imp fun _ _ z => z.tk t⟩
  · obtain ⟨kvs, z1, z2⟩ := h.st
    exact ⟨kvs, by rw [upd_ne (n6 (by omega))]; exact z1, z2.imp fun _ _ z => z.tk t⟩
theorem WoAt.stepS (h : WoAt K H e A S) (ss : List (Option Nat × List Nat)) (xs : List V) (hr : Paired (StaAt H) xs ss) : StepW K e A H A { S with states := ss } (upd H A.st (.lst xs)) := by
  obtain ⟨n0, n1, n2, n3, n4, n5, n6, n7⟩ := fp_ne (i := 6) h.nd (p := A.st) rfl
  have t : Tk H (upd H A.st (.lst xs)) := by
    obtain ⟨k0, z, _⟩ := h.st
    exact tk_upd z fun _ z => nomatch z
  refine ⟨⟨?_, ?_, ?_, ?_, ?_, ?_, ?_, h.la.tk t, ⟨xs, upd_same, hr.imp fun _ _ z => z.tk t⟩, h.nd⟩, .at_ (by simp [fp]), .refl⟩
  · rw [upd_ne (n0 (by omega))]; exact h.own
  · rw [upd_ne (n1 (by omega))]; exact h.ws
  · exact wins_keepW h.wins fun q hq => upd_ne (n7 (by omega) q hq)
  · rw [upd_ne (n2 (by omega))]; exact h.mks
  · obtain ⟨kvs, z1, z2⟩ := h.rg
    exact ⟨kvs, by rw [upd_ne (n3 (by omega))]; exact z1, z2.imp fun _ _ z => z.tk t⟩
  · obtain ⟨kvs, z1, z2⟩ := h.ma
    exact ⟨kvs, by rw [upd_ne (n4 (by omega))]; exact z1, z2.imp fun _ _ z => z.tk t⟩
  · obtain ⟨kvs, z1, z2⟩ := h.tk
    exact ⟨kvs, by rw [upd_ne (n5 (by omega))]; exact z1, z2.imp fun _ _ z => z.tk t⟩
end Ed

/-! d.items(), sorted(d.items()) where the keys are texts of one sign -/
namespace Cb
open PySem PySem.Spec PyProof.Rows L2
variable {K : PySem.W.Frag}
abbrev itemsO := L2.DX.itemsO
theorem mt_itemsK {X : Cx} : MtR X "dict.items" (fun x xs H Q => ∃ (a : Addr) (kvs : List (Key × V)), x = .ref a ∧ xs = [] ∧ H a = some (.dK kvs) ∧ ∀ p, H p = none → Q (.ref p) (upd H p (itemsO p a))) := by
  intro pins s σ H x xs v us Q I rx rxs h
  obtain ⟨a, kvs, rfl, rfl, ha, q⟩ := h
  cases rx
  cases rxs
  obtain ⟨hz, hs0, vs, kv, o, es, ep, ho, hx, hdat, _⟩ := I.hok a _ ha
  refine DT.callItems (es := es) (ep := ep) hs0 ⟨o, ho, hx, hdat⟩ ?_
  have hf : H s.heap.objs.size = none := I.hok.fresh (Nat.le_refl _)
  exact ⟨.ref s.heap.objs.size, upd H s.heap.objs.size (itemsO s.heap.objs.size a), I.laid (t' := s.toks) (fun b u e => Heap.get?_push_of_some _ e) (Nat.le_refl _) (L2.DX.itemsO_ok (Heap.get?_push_size _ rfl)), rfl, q _ hf⟩
/-- o.items() -/
def Ex.items (o : Ex K) : Ex K where
  t := fun σ H Q => o.t σ H (onR fun a H1 => ∃ kvs : List (Key × V), H1 a = some (.dK kvs) ∧ ∀ p, H1 p = Option.none → Q (.ref p) (upd H1 p (itemsO p a)))
  chk := fun Γ e => match e with
    | .Call (.Attribute x y ap) [] [] cp => decide (y = "items") && o.chk Γ x && nsup x && (ap.endLine == cp.line)
    | _ => false
  has := o.has
  sound := by
    intro X Γ h e c hk hh hc
    split at hc
    · obtain ⟨h1, h2, h3, h4⟩ := and4 hc
      have e := of_decide_eq_true h1
      subst e
      refine PE.imp (pe_bm0 (T := "dict") PySem.F.plainAttrs_dict PySem.F.slot_dict_items PySem.F.type_dict_items mt_itemsK (PE.mono (o.sound c hk hh h2)) (base_of h3) h4) fun σ H Q q => ⟨_, q, fun v H' z => ?_⟩
      obtain ⟨a, rfl, kvs, z1, z2⟩ := onR_i z
      exact ⟨.inr (.inr (.inl ⟨rfl, .inl ⟨kvs, z1⟩⟩)), a, kvs, rfl, rfl, z1, z2⟩
    · exact absurd hc Bool.false_ne_true
/-! ### the sort's questions -/
def keyT (h : Heap) (v : Value) : Str := DT.txOf (DT.seqAt0 h (DT.refOf (some v)))
def PairS (h : Heap) (v : Value) (y : Str) (u : Value) : Prop := ∃ (a : Addr) (t : Tok), v = .ref a ∧ IsTup h a #[.str y t, u]
theorem PairS.tx {h : Heap} {v : Value} {y : Str} {u : Value} (x : PairS h v y u) : keyT h v = y := by
  obtain ⟨a, t, rfl, h1⟩ := x
  show DT.txOf (DT.seqAt0 h a) = y
  rw [DT.seqAt0_of h1]
  rfl
theorem firstsS {h : Heap} : ∀ vs : List Value, (∀ v ∈ vs, ∃ y u, PairS h v y u) → ∃ fs : List Value, PySem.W.KatTups h vs fs ∧ fs.length = vs.length ∧ ∀ f ∈ fs, ∃ (y : Str) (t : Tok), f = Value.str y t
  | [], _ => ⟨[], PySem.W.KatTups.nil, rfl, fun f hf => by simp at hf⟩
  | v :: vs, x => by
    obtain ⟨fs, k, hl, hi⟩ := firstsS vs fun u hu => x u (List.mem_cons_of_mem _ hu)
    obtain ⟨y, u, a, t, rfl, ⟨o, ho, hc, n, hd⟩⟩ := x v (List.mem_cons_self ..)
    refine ⟨.str y t :: fs, PySem.W.KatTups.cons ho hc hd rfl k, by rw [List.length_cons, List.length_cons, hl], fun f hf => ?_⟩
    rcases List.mem_cons.mp hf with rfl | hf
    · exact ⟨y, t, rfl⟩
    · exact hi f hf
section
variable {prog : Program} {w : World} {A : Around} {E : Value → Shared → Prop} {s : Shared}
theorem kind_ts {vs : List Value} {ρ : Str → Int} (h2 : 2 ≤ vs.length) (x : ∀ v ∈ vs, ∃ y u, PairS s.heap v y u) (inj : ∀ v ∈ vs, ∀ u ∈ vs, keyT s.heap v = keyT s.heap u → v = u)
    (hρ : ∀ v ∈ vs, ∀ u ∈ vs, decide ((keyT s.heap v).cps.toList < (keyT s.heap u).cps.toList) = decide (ρ (keyT s.heap v) < ρ (keyT s.heap u))) (Q : SortKind → Shared → Prop)
    (h : ∀ κ, TS.Cmp prog w A s κ (pairsOf vs) (fun v => ρ (keyT s.heap v)) → Q κ s) : wpAny (model prog w) A (keyKind' vs.toArray) Q E s := by
  obtain ⟨fs, k, hl, hi⟩ := firstsS vs x
  refine PySem.W.kat_kind (T := Value.type "str") k (by omega) (fun f hf => ?_) rfl (h _ ?_)
  · obtain ⟨y, t, rfl⟩ := hi f hf
    exact .now
  · have hb : (Value.type "str" != Value.type "tuple") = true := by first | rfl | decide | simp
    rw [hb]
    intro p q hp hq Q' E' hQ
    rw [pairsOf_toList] at hp hq
    have mp := (mem_zip_self hp).2
    have mq := (mem_zip_self hq).2
    obtain ⟨y, u1, py⟩ := x _ mp
    obtain ⟨z, u2, pz⟩ := x _ mq
    have hr := hρ _ mp _ mq
    have hQ' : Q' (decide (y.cps.toList < z.cps.toList)) s := by
      rw [py.tx, pz.tx] at hr
      rw [hr]
      have hQ2 : Q' (decide (ρ (keyT s.heap p.1) < ρ (keyT s.heap q.1))) s := hQ
      rw [py.tx, pz.tx] at hQ2
      exact hQ2
    have hin := inj _ mp _ mq
    rw [py.tx, pz.tx] at hin
    obtain ⟨a, t, e1, ⟨o, ho, hc, n, hd⟩⟩ := py
    obtain ⟨a', t', e2, ⟨o', ho', hc', n', hd'⟩⟩ := pz
    rw [e1, e2]
    refine PySem.W.kat_lt ho hd ho' hd' ?_
    show PySem.W.KatLex prog w A true false Q' [(Value.str y t, Value.str z t'), (u1, u2)] 0 s
    by_cases e : y = z
    · have ev := hin e
      rw [e1, e2] at ev
      have ea : a = a' := by injection ev
      subst ea
      rw [ho] at ho'
      cases ho'
      rw [hd] at hd'
      have eq : (#[Value.str y t, u1] : Array Value) = #[Value.str z t', u2] := by injection hd'
      have eq2 : [Value.str y t, u1] = [Value.str z t', u2] := congrArg Array.toList eq
      injection eq2 with q1 q2
      injection q2 with q2 _
      subst q2
      have irr : decide (y.cps.toList < z.cps.toList) = false := by
        rw [e]
        first | exact decide_eq_false (List.lt_irrefl _) | simp
      rw [irr] at hQ'
      refine PySem.W.kat_cons (PySem.wpAny_eqBool_str ?_)
      refine PySem.W.kat_go (fun _ => ?_) (fun e0 => absurd e (of_decide_eq_false e0))
      refine PySem.W.kat_yes (PySem.W.kat_cons (SeqAt.EqAt.same u1 prog w _ _ ?_))
      exact PySem.W.kat_yes (PySem.W.kat_nil hQ')
    · refine PySem.W.kat_cons (PySem.wpAny_eqBool_str ?_)
      refine PySem.W.kat_go (fun e0 => absurd (of_decide_eq_true e0) e) (fun _ => ?_)
      refine PySem.W.kat_no ?_
      exact PyProof.Rows.oneLt_any_str hQ'
end
/-! ### by values -/
/-- sorted(d.items()): d's keys are texts of one sign -/
@[irreducible] def rSortI (_ : PySem.W.Frag) : List V → Hp → VK → Prop := fun vs H Q => match vs with
  | [.ref p] => ∃ (a : Addr) (ks : List (Nat × V)), H p = some (itemsO p a) ∧ H a = some (.dK (ks.map fun e => ((Sum.inr ⟨#[e.1]⟩ : Key), e.2))) ∧ ks.length < 64 ∧ (ks.map (·.1)).Nodup ∧
    ∀ (H' : Hp) (l : Addr) (ps : List (Addr × Nat × V)), (∀ b o, H b = some o → H' b = some o) → H l = none → (∀ z ∈ ps, H z.1 = none) → (ps.map (·.2)).Perm ks → (ps.map (·.2)).Pairwise (fun e f => e.1 ≤ f.1) → H' l = some (.lst (ps.map fun z => V.ref z.1)) →
      (∀ z ∈ ps, H' z.1 = some (.tup [.str ⟨#[z.2.1]⟩, z.2.2])) → Q (.ref l) H'
  | _ => False
theorem rSortI_i {K : PySem.W.Frag} {p : Addr} {H : Hp} {Q : VK} (h : ∃ (a : Addr) (ks : List (Nat × V)), H p = some (itemsO p a) ∧ H a = some (.dK (ks.map fun e => ((Sum.inr ⟨#[e.1]⟩ : Key), e.2))) ∧ ks.length < 64 ∧ (ks.map (·.1)).Nodup ∧
    ∀ (H' : Hp) (l : Addr) (ps : List (Addr × Nat × V)), (∀ b o, H b = some o → H' b = some o) → H l = none → (∀ z ∈ ps, H z.1 = none) → (ps.map (·.2)).Perm ks → (ps.map (·.2)).Pairwise (fun e f => e.1 ≤ f.1) → H' l = some (.lst (ps.map fun z => V.ref z.1)) →
      (∀ z ∈ ps, H' z.1 = some (.tup [.str ⟨#[z.2.1]⟩, z.2.2])) → Q (.ref l) H') : rSortI K [.ref p] H Q := by
  unfold rSortI; exact h
def rk (z : Str) : Int := match z.cps.toList with
  | [c] => (c : Int)
  | _ => 0
theorem lt_one (a b : Nat) : ([a] < [b]) ↔ a < b := by
  constructor
  · intro h
    cases h with
    | rel h => exact h
    | cons h => cases h
  · intro h; exact List.Lex.rel h
theorem lt_sign (a b : Nat) : decide ((⟨#[a]⟩ : Str).cps.toList < (⟨#[b]⟩ : Str).cps.toList) = decide (rk ⟨#[a]⟩ < rk ⟨#[b]⟩) := by
  show decide ([a] < [b]) = decide ((a : Int) < (b : Int))
  by_cases h : a < b
  · rw [decide_eq_true ((lt_one a b).mpr h), decide_eq_true (by omega)]
  · rw [decide_eq_false (fun z => h ((lt_one a b).mp z)), decide_eq_false (by omega)]
theorem pairs_len {P : Program} {w : World} {el : List DictEntry} {vs : List (Key × Value)} (h : PySem.Pairs (mixKind P w) el vs) : el.length = vs.length := by
  induction h with
  | nil => rfl
  | cons _ _ _ ih => simp [ih]
theorem pairs_get {P : Program} {w : World} {el : List DictEntry} {vs : List (Key × Value)} (h : PySem.Pairs (mixKind P w) el vs) : ∀ {j : Nat} {en : DictEntry}, el[j]? = some en → ∃ kv, vs[j]? = some kv ∧ (mixKind P w).is kv.1 en.key = true ∧ en.val = kv.2 := by
  induction h with
  | nil => intro j en hj; simp at hj
  | @cons e' kv' es' kvs' a1 a2 _ ih =>
    intro j en hj
    cases j with
    | zero => simp at hj; subst hj; exact ⟨kv', rfl, a1, a2⟩
    | succ j => simp at hj; exact ih hj
theorem cr_sortI (X : Cx) (k : Nat) (_ : Room k X.A) (hc : X.calm = true) : CallR X (.builtin "sorted") (rSortI X.K) := by
  intro pins s σ H xs us Q I r h
  unfold rSortI at h
  split at h
  case h_2 => exact h.elim
  rename_i p
  obtain ⟨a, ks, hp, ha, h64, hkn, q⟩ := h
  obtain rfl := Vals.ref1 r
  have view : s.heap.IsItemsView p a := (show ObjOk X.prog X.w H s.heap p (itemsO p a) from I.hok p _ hp).1
  obtain ⟨hz, hs0, vs', kv, o, es, ep, ho, hx, hdat, hkeys, hpairs, hn⟩ := I.hok a _ ha
  have l1 : ks.length = vs'.length := by
    have := Paired.length kv
    rw [List.length_map] at this
    exact this
  have l2 : es.size = vs'.length := by
    have := pairs_len hpairs
    simpa using this
  have hh : X.A.handled = none := I.ok.hd hc
  refine DT.sortedI (es := es) (ep := ep) hh view ⟨o, ho, hx, hdat⟩ (by rw [sizeLine_eq]; omega) fun h' tk as hk hlt hl hG => ?_
  have lak : as.length = ks.length := by omega
  have nd : as.Nodup := List.Pairwise.imp (fun h => Nat.ne_of_lt h) hG.rise
  have pr : ∀ (j : Nat) (b : Addr), as[j]? = some b → ∃ (e : Nat × V) (t : Tok) (u : Value), ks[j]? = some e ∧ RelV e.2 u ∧ h'.get? b = some { cls := .type "tuple", data := .seq #[Value.str ⟨#[e.1]⟩ t, u] } := by
    intro j b hj
    obtain ⟨en, he, hg⟩ := hG.pairs j b hj
    have hes : es.toList[j]? = some en := by simpa using he
    obtain ⟨kv0, hkv0, k1, k2⟩ := pairs_get hpairs hes
    obtain ⟨e0, he0, r1, r2⟩ := L2.DX.pget kv hkv0
    rw [List.getElem?_map] at he0
    obtain ⟨e, he, rfl⟩ := Option.map_eq_some_iff.mp he0
    have rkey : RelV (kV kv0.1) en.key := relV_key (show keyIs kv0.1 en.key = true from k1)
    rw [← r1] at rkey
    obtain ⟨t, ht⟩ : ∃ t, en.key = .str ⟨#[e.1]⟩ t := rkey
    refine ⟨e, t, en.val, he, by rw [k2]; exact r2, ?_⟩
    rw [hg, ht]
  have hob : (h'.push { cls := .type "list", data := .seq (as.map Value.ref).toArray }).get? h'.objs.size = some (seqObj "list" (as.map Value.ref).toArray 0) := Heap.get?_push_size _ rfl
  have kb : ∀ b o, s.heap.get? b = some o → (h'.push { cls := .type "list", data := .seq (as.map Value.ref).toArray }).get? b = some o := fun b o e => Heap.get?_push_of_some _ (hk b o e)
  have ne0 : ∀ b o, h'.get? b = some o → b ≠ h'.objs.size := fun b o e => Nat.ne_of_lt (Heap.lt_size e)
  generalize hh2 : h'.push { cls := .type "list", data := .seq (as.map Value.ref).toArray } = h2 at hob kb ⊢
  have ka : ∀ b o, h'.get? b = some o → h2.get? b = some o := fun b o e => by rw [← hh2]; exact Heap.get?_push_of_some _ e
  have pin : ∀ (j : Nat) (b : Addr), as[j]? = some b → ∃ (e : Nat × V) (u : Value), ks[j]? = some e ∧ PairS (TS.midHeap h2 h'.objs.size (as.map Value.ref)) (.ref b) ⟨#[e.1]⟩ u := by
    intro j b hj
    obtain ⟨e, t, u, he, ru, hg⟩ := pr j b hj
    exact ⟨e, u, he, b, t, rfl, ⟨_, TS.midHeap_old (ne0 _ _ hg) (ka _ _ hg), rfl, 0, rfl⟩⟩
  have tx : ∀ (j : Nat) (b : Addr) (e : Nat × V), as[j]? = some b → ks[j]? = some e → keyT (TS.midHeap h2 h'.objs.size (as.map Value.ref)) (.ref b) = ⟨#[e.1]⟩ := by
    intro j b e hj he
    obtain ⟨e', u, he', hp'⟩ := pin j b hj
    have ee : e' = e := Option.some.inj (he'.symm.trans he)
    rw [← ee]
    exact hp'.tx
  have at_ : ∀ v ∈ as.map Value.ref, ∃ (j : Nat) (b : Addr) (e : Nat × V), v = .ref b ∧ as[j]? = some b ∧ ks[j]? = some e := by
    intro v hv'
    obtain ⟨b, hb, rfl⟩ := List.mem_map.mp hv'
    obtain ⟨j, hj⟩ := List.mem_iff_getElem?.mp hb
    obtain ⟨e, _, _, he, _⟩ := pr j b hj
    exact ⟨j, b, e, rfl, hj, he⟩
  refine wpAny_call_entry PyProof.Rows.slot_list_sort ⟨_, hob, rfl⟩ PyProof.Rows.entry_list_sort
    (SK.plain_sort (s := { s with heap := h2, toks := tk }) (r := fun v => rk (keyT (TS.midHeap h2 h'.objs.size (as.map Value.ref)) v)) hob (by rw [List.length_map]; omega) (fun h2' Qk hQk => ?_) fun ps out o1 o2 o3 => ⟨.none, rfl, ?_⟩) (PyProof.Rows.args_list_sort _)
  · refine kind_ts (s := { s with heap := TS.midHeap h2 h'.objs.size (as.map Value.ref), toks := tk }) (ρ := rk) h2' (fun v hv' => ?_) (fun v hv' u hu' hvu => ?_) (fun v hv' u hu' => ?_) Qk hQk
    · obtain ⟨j, b, e, rfl, hj, he⟩ := at_ v hv'
      obtain ⟨e', u, _, hp'⟩ := pin j b hj
      exact ⟨_, u, hp'⟩
    · obtain ⟨j, b, e, rfl, hj, he⟩ := at_ v hv'
      obtain ⟨j2, b2, e2, rfl, hj2, he2⟩ := at_ u hu'
      have hvu' : keyT (TS.midHeap h2 h'.objs.size (as.map Value.ref)) (.ref b) = keyT (TS.midHeap h2 h'.objs.size (as.map Value.ref)) (.ref b2) := hvu
      rw [tx j b e hj he, tx j2 b2 e2 hj2 he2] at hvu'
      have e12 : e.1 = e2.1 := by
        have := congrArg (fun s : Str => s.cps.toList) hvu'
        simpa using this
      have h1 : (ks.map (·.1))[j]? = some e.1 := by rw [List.getElem?_map, he]; rfl
      have h2 : (ks.map (·.1))[j2]? = some e.1 := by rw [List.getElem?_map, he2, e12]; rfl
      have ej : j = j2 := (List.getElem?_inj (List.getElem?_eq_some_iff.mp h1).1 hkn).mp (h1.trans h2.symm)
      subst ej
      rw [hj] at hj2
      cases hj2
      rfl
    · obtain ⟨j, b, e, rfl, hj, he⟩ := at_ v hv'
      obtain ⟨j2, b2, e2, rfl, hj2, he2⟩ := at_ u hu'
      show decide ((keyT (TS.midHeap h2 h'.objs.size (as.map Value.ref)) (.ref b)).cps.toList < (keyT (TS.midHeap h2 h'.objs.size (as.map Value.ref)) (.ref b2)).cps.toList) = decide (rk (keyT (TS.midHeap h2 h'.objs.size (as.map Value.ref)) (.ref b)) < rk (keyT (TS.midHeap h2 h'.objs.size (as.map Value.ref)) (.ref b2)))
      rw [tx j b e hj he, tx j2 b2 e2 hj2 he2]
      exact lt_sign _ _
  · show EP X pins σ Q (.ref h'.objs.size) { s with heap := sortedHeap h2 h'.objs.size (as.map Value.ref) out, toks := tk }
    obtain ⟨zs, pz, ez⟩ := perm_lift (fun z : Addr × Nat × V => (Value.ref z.1, Value.ref z.1)) o2 (as.zip ks) (L2.DX.zip_self Value.ref as ks lak)
    have idx : ∀ z ∈ zs, ∃ j : Nat, as[j]? = some z.1 ∧ ks[j]? = some z.2 := by
      intro z' hz'
      obtain ⟨j, hj⟩ := List.mem_iff_getElem?.mp (pz.mem_iff.mp hz')
      exact ⟨j, List.getElem?_zip_eq_some.mp hj⟩
    have hout : out.toList = zs.map fun z => Value.ref z.1 := by
      rw [o1, ← ez, List.map_map]
      all_goals rfl
    have hperm : (zs.map (·.2)).Perm ks := by
      have e := pz.map (·.2)
      have m2 : (as.zip ks).map (·.2) = ks := List.map_snd_zip (by rw [lak]; exact Nat.le_refl _)
      rw [m2] at e
      exact e
    have hsort : (zs.map (·.2)).Pairwise (fun e f => e.1 ≤ f.1) := by
      rw [← ez, List.pairwise_map] at o3
      rw [List.pairwise_map]
      refine List.Pairwise.imp_of_mem (fun {x y} hx hy h => ?_) o3
      obtain ⟨j, j1, j2⟩ := idx x hx
      obtain ⟨i, i1, i2⟩ := idx y hy
      have h' : rk (keyT (TS.midHeap h2 h'.objs.size (as.map Value.ref)) (.ref x.1)) ≤ rk (keyT (TS.midHeap h2 h'.objs.size (as.map Value.ref)) (.ref y.1)) := h
      rw [tx j _ _ j1 j2, tx i _ _ i1 i2] at h'
      have h3 : ((x.2.1 : Int)) ≤ ((y.2.1 : Int)) := h'
      omega
    have kF : ∀ b o, b ≠ h'.objs.size → h2.get? b = some o → (sortedHeap h2 h'.objs.size (as.map Value.ref) out).get? b = some o := fun b o hb e => (PyProof.Rows.sortedHeap_old hb (Heap.lt_size e)).trans e
    have kS : ∀ b o, s.heap.get? b = some o → (sortedHeap h2 h'.objs.size (as.map Value.ref) out).get? b = some o := fun b o e => kF b o (ne0 _ _ (hk b o e)) (kb b o e)
    obtain ⟨eF, heF⟩ := PyProof.Rows.sortedHeap_at (vs := as.map Value.ref) (out := out) hob
    have I1 : Inv X pins σ H { s with heap := sortedHeap h2 h'.objs.size (as.map Value.ref) out, toks := tk } := I.kept (t' := tk) kS
    have hn0 : H h'.objs.size = none := I.hok.fresh (Nat.le_of_lt hlt)
    have hlen : (zs.map fun z => V.ref z.1).length ≤ sizeLine := by
      have e := hperm.length_eq
      rw [List.length_map] at e
      rw [List.length_map, sizeLine_eq]
      omega
    have rv : Vals (zs.map fun z => V.ref z.1) out.toList := by
      rw [hout]
      exact vals_maps (fun z : Addr × Nat × V => V.ref z.1) (fun z => Value.ref z.1) zs fun _ _ => rfl
    have I2 : Inv X pins σ (upd H h'.objs.size (.lst (zs.map fun z => V.ref z.1))) { s with heap := sortedHeap h2 h'.objs.size (as.map Value.ref) out, toks := tk } :=
      I1.take (h' := sortedHeap h2 h'.objs.size (as.map Value.ref) out) (t' := tk) (fun b ob _ e => e) (I.fpOk (Nat.le_of_lt hlt) hn0) ⟨hlen, out.toList, eF, rv, heF⟩
    obtain ⟨H2, I3, g, qt⟩ := L2.DX.takeT (P := fun b vs => ∃ (j : Nat) (e : Nat × V), as[j]? = some b ∧ ks[j]? = some e ∧ vs = [.str ⟨#[e.1]⟩, e.2]) I as _ I2 nd fun b hb => by
      obtain ⟨j, hj⟩ := List.mem_iff_getElem?.mp hb
      obtain ⟨e, t, u, he, ru, hg⟩ := pr j b hj
      have hbl : s.heap.objs.size ≤ b := Nat.le_of_lt (hG.above b hb)
      refine ⟨hbl, ?_, [.str ⟨#[e.1]⟩, e.2], ⟨j, e, hj, he, rfl⟩, fun H3 => ⟨(by rw [sizeLine_eq]; show 2 ≤ 16777216; omega), [Value.str ⟨#[e.1]⟩ t, u], .cons ⟨t, rfl⟩ (.cons ru .nil), ⟨_, kF _ _ (ne0 _ _ hg) (ka _ _ hg), rfl, 0, rfl⟩⟩⟩
      rw [upd_ne (ne0 _ _ hg)]
      exact I.hok.fresh hbl
    have gr : ∀ b o, H b = some o → H2 b = some o := fun b o e => g b o (by rw [upd_ne (ne_of_none e hn0)]; exact e)
    refine ⟨.ref h'.objs.size, H2, I3, rfl, q H2 h'.objs.size zs gr hn0 (fun z' hz' => ?_) hperm hsort (g _ _ upd_same) fun z' hz' => ?_⟩
    · obtain ⟨i, i1, i2⟩ := idx z' hz'
      exact I.hok.fresh (Nat.le_of_lt (hG.above _ (List.mem_of_getElem? i1)))
    · obtain ⟨i, i1, i2⟩ := idx z' hz'
      obtain ⟨vs, ⟨j, e, j1, j2, ev⟩, hH⟩ := qt z'.1 (List.mem_of_getElem? i1)
      have eij : i = j := (List.getElem?_inj (List.getElem?_eq_some_iff.mp i1).1 nd).mp (i1.trans j1.symm)
      subst eij
      have ee : e = z'.2 := Option.some.inj (j2.symm.trans i2)
      rw [ev, ee] at hH
      exact hH
theorem boot_sorted : bootBuiltins "sorted" = some (.builtin "sorted") := by decide +kernel
def Ex.sortedI (a : As K) : Ex K := Ex.cb "sorted" "sorted" rSortI boot_sorted cr_sortI a
end Cb

/-! dict.update, list(d), sorted(texts), abs -/
namespace Cb
open PySem PySem.Spec PyProof.Rows L2
variable {K : PySem.W.Frag}
theorem putK_le' (kvs : List (Key × V)) (k : Key) (v : V) : (putK kvs k v).length ≤ kvs.length + 1 := by
  unfold putK
  split
  · simp
  · simp
theorem mergeK_le (kvs : List (Key × V)) : ∀ more : List (Key × V), ∀ kvs : List (Key × V), (mergeK kvs more).length ≤ kvs.length + more.length
  | [], kvs => by simp [mergeK]
  | p :: r, kvs => by
    have h1 := mergeK_le kvs r (putK kvs p.1 p.2)
    have h2 := putK_le' kvs p.1 p.2
    show (mergeK (putK kvs p.1 p.2) r).length ≤ _
    simp
    omega
theorem mt_updateK {X : Cx} : MtR X "dict.update" (fun x xs H Q => ∃ (a b : Addr) (kvs more : List (Key × V)), x = .ref a ∧ xs = [.ref b] ∧ a ≠ b ∧ H a = some (.dK kvs) ∧ H b = some (.dK more) ∧ kvs.length + more.length ≤ sizeLine ∧ Q .non (upd H a (.dK (mergeK kvs more)))) := by
  intro pins s σ H x xs v us Q I rx rxs h
  obtain ⟨a, b, kvs, more, rfl, rfl, hab, ha, hb, hsz, q⟩ := h
  cases rx
  obtain ⟨u, rfl, ru⟩ := vals1 rxs
  cases ru
  obtain ⟨hz, hs0, vs, kv, hdo⟩ := I.hok a _ ha
  obtain ⟨hz2, hs02, vs2, kv2, hdo2⟩ := I.hok b _ hb
  have l1 := Paired.length kv
  have l2 := Paired.length kv2
  refine call_meetsIn F.slot_dict_update hdo.typeIs F.entry_dict_update (F.args_dict_update_2 _ _) (meets_dict_update (mixKind X.prog X.w) a b hab hs02) ⟨vs, vs2, hdo, hdo2, by omega, fun h' hd' ho' hs' => ?_⟩
  have hmz : (mergeK kvs more).length ≤ sizeLine := Nat.le_trans (mergeK_le kvs more kvs) hsz
  have I2 : Inv X pins σ (upd H a (.dK (mergeK kvs more))) { s with heap := h', toks := s.toks } :=
    d_write I (by rw [ha]; exact True.intro) hs' (by obtain ⟨o, _, _, ho, _⟩ := hd'; exact ⟨o, ho⟩) ⟨hmz, hs0, _, KV.merge kv2 kv, hd'⟩
  exact ⟨.non, _, I2, rfl, q⟩
/-- o.update(d) -/
def Ex.upd (o : Ex K) (a : As K) : Ex K where
  t := fun σ H Q => o.t σ H (onR fun z H1 => (∃ kvs : List (Key × V), H1 z = some (.dK kvs)) ∧ a.t σ H1 fun vs H2 => match vs with
    | [.ref b] => ∃ kvs more : List (Key × V), z ≠ b ∧ H2 z = some (.dK kvs) ∧ H2 b = some (.dK more) ∧ kvs.length + more.length ≤ sizeLine ∧ Q .non (L2.upd H2 z (.dK (mergeK kvs more)))
    | _ => False)
  chk := fun Γ e => match e with
    | .Call (.Attribute x y ap) es [] cp => decide (y = "update") && o.chk Γ x && nsup x && (ap.endLine == cp.line && (a.chk Γ es && !es.isEmpty && decide (es.length < 30)))
    | _ => false
  has := fun h => o.has h ∧ a.has h
  sound := by
    intro X Γ h e c hk hh hc
    cases e <;> try exact absurd hc Bool.false_ne_true
    rename_i fn es kws pos
    cases fn <;> try exact absurd hc Bool.false_ne_true
    rename_i x y ap
    cases kws <;> try exact absurd hc Bool.false_ne_true
    obtain ⟨h1, h2, h3, h40⟩ := and4 hc
    obtain ⟨h4, h50⟩ := and2 h40
    obtain ⟨h5, h6, h7⟩ := and3 h50
    have e := of_decide_eq_true h1
    subst e
    obtain ⟨pa, al⟩ := a.sound c hk hh.2 h5
    cases es with
    | nil => exact absurd h6 Bool.false_ne_true
    | cons e es =>
    have al' := al
    rw [List.all_cons] at al
    obtain ⟨al1, al2⟩ := and2 al
    have ek : X.K = K := c.K.trans hk
    subst ek
    refine PE.imp (pe_bm (T := "dict") PySem.F.plainAttrs_dict PySem.F.slot_dict_update PySem.F.type_dict_update mt_updateK (PE.mono (o.sound c hk hh.1 h2)) (PA.mono pa) (base_of h3) ?_ h4 (star_cons al1) (star_any al2)) fun σ H Q q => ⟨_, q, fun v H' z => ?_⟩
    · rw [star_all al']
      show (true && true && decide _) = true
      simpa using h7
    · obtain ⟨p, rfl, ⟨kvs, z1⟩, z2⟩ := onR_i z
      refine ⟨.inr (.inr (.inl ⟨rfl, .inl ⟨kvs, z1⟩⟩)), _, z2, fun vs H2 z3 => ?_⟩
      split at z3
      · obtain ⟨k1, k2, z4, z5, z6, z7, z8⟩ := z3
        exact ⟨p, _, k1, k2, rfl, rfl, z4, z5, z6, z7, z8⟩
      · exact z3.elim
/-- list(d): the keys -/
def rListDX (_ : PySem.W.Frag) : List V → Hp → VK → Prop := fun vs H Q => match vs with
  | [.ref a] => ∃ kvs : List (Key × V), Rd H a (.dK kvs) ∧ ∀ p, H p = none → Q (.ref p) (L2.upd H p (.lst (kvs.map fun kv => kV kv.1)))
  | _ => False
theorem cr_listDX (X : Cx) (k : Nat) (_ : Room k X.A) (hc : X.calm = true) : CallR X (.type "list") (rListDX X.K) := by
  intro pins s σ H xs us Q I r h
  unfold rListDX at h
  split at h
  · obtain ⟨kvs, h1, q⟩ := h
    exact call_listD hc pins s σ H _ us Q I r ⟨_, kvs, rfl, h1, q⟩
  · exact h.elim
def Ex.listD (a : As K) : Ex K := Ex.cty "list" "list" rListDX boot_list cr_listDX a
/-- sorted(texts) -/
def rSortSX (K : PySem.W.Frag) : List V → Hp → VK → Prop := fun vs H Q => match vs with
  | [.ref a] => ∃ xs : List Str, SqL K H a (xs.map V.str) ∧ xs.length < 64 ∧ ∀ (ys : List Str) (p : Addr), ys.Perm xs → sortedS ys = true → H p = none → Q (.ref p) (L2.upd H p (.lst (ys.map V.str)))
  | _ => False
theorem cr_sortSX (X : Cx) (k : Nat) (_ : Room k X.A) (hc : X.calm = true) : CallR X (.builtin "sorted") (rSortSX X.K) := by
  intro pins s σ H xs us Q I r h
  unfold rSortSX at h
  split at h
  · obtain ⟨ys, h1, h2, q⟩ := h
    exact cr_sortedS pins s σ H _ us Q I r ⟨_, ys, rfl, h1, h2, q⟩
  · exact h.elim
def Ex.sortedS (a : As K) : Ex K := Ex.cb "sorted" "sorted" rSortSX boot_sorted cr_sortSX a
theorem boot_abs : bootBuiltins "abs" = some (.builtin "abs") := by decide +kernel
def rAbsX (_ : PySem.W.Frag) : List V → Hp → VK → Prop := fun vs H Q => match vs with
  | [.int i] => Q (.int (if i < 0 then -i else i)) H
  | _ => False
theorem cr_absX (X : Cx) (k : Nat) (_ : Room k X.A) (hc : X.calm = true) : CallR X (.builtin "abs") (rAbsX X.K) := by
  intro pins s σ H xs us Q I r h
  unfold rAbsX at h
  split at h
  · exact call_abs pins s σ H _ us Q I r ⟨_, rfl, h⟩
  · exact h.elim
def Ex.abs (a : As K) : Ex K := Ex.cb "abs" "abs" rAbsX boot_abs cr_absX a
end Cb

/-! things as data: what == asks -/
namespace Ed
open PySem L2 Cb
/-- data of at most this depth -/
structure Sh (n : Nat) (d : PyData) : Prop where
  lay : PyData.canLay0 d = true
  dep : PyData.depth d ≤ n
theorem Sh.shaped {n : Nat} {d : PyData} (h : Sh n d) (hn : n ≤ 64) : SeqAt.shaped d = true := by
  show (PyData.canLay0 d && decide (PyData.depth d ≤ 64)) = true
  rw [h.lay, Bool.true_and]
  exact decide_eq_true (Nat.le_trans h.dep hn)
theorem Sh.mono {n m : Nat} {d : PyData} (h : Sh n d) (hn : n ≤ m) : Sh m d := ⟨h.lay, Nat.le_trans h.dep hn⟩
theorem sh_non {n : Nat} : Sh n .none := ⟨by simp [PyData.canLay0], by simp [PyData.depth]⟩
theorem sh_int {n : Nat} (i : Int) : Sh n (.int i) := ⟨by simp [PyData.canLay0], by simp [PyData.depth]⟩
theorem sh_bl {n : Nat} (b : Bool) : Sh n (.bool b) := ⟨by simp [PyData.canLay0], by simp [PyData.depth]⟩
theorem sh_str {n : Nat} {z : Str} (h : PyData.strOk z = true) : Sh n (.str z) := ⟨by simp [PyData.canLay0, h], by simp [PyData.depth]⟩
theorem sh_all {n : Nat} : ∀ {ds : List PyData}, (∀ d ∈ ds, Sh n d) → PyData.canLayAll0 ds = true ∧ PyData.depthAll ds ≤ n
  | [], _ => ⟨by simp [PyData.canLayAll0], by simp [PyData.depthAll]⟩
  | d :: ds, h => by
    obtain ⟨h1, h2⟩ := sh_all (n := n) (ds := ds) fun x hx => h x (List.mem_cons_of_mem _ hx)
    have h3 := h d (List.mem_cons_self ..)
    have h4 := h3.dep
    refine ⟨by simp [PyData.canLayAll0, h3.lay, h1], ?_⟩
    simp only [PyData.depthAll]
    omega
theorem sh_tup {n : Nat} {ds : List PyData} (h : ∀ d ∈ ds, Sh n d) : Sh (n + 1) (.tuple ds) := by
  obtain ⟨h1, h2⟩ := sh_all h
  exact ⟨by simp [PyData.canLay0, h1], by simp [PyData.depth]; omega⟩
theorem sh_lst {n : Nat} {ds : List PyData} (h : ∀ d ∈ ds, Sh n d) : Sh (n + 1) (.list ds) := by
  obtain ⟨h1, h2⟩ := sh_all h
  exact ⟨by simp [PyData.canLay0, h1], by simp [PyData.depth]; omega⟩
theorem okSign_lt {c : Nat} (h : okSign [10] c = true) : c < 1114112 := by
  have hd : ∀ c ∈ lWORD ++ lOTHERS ++ [10], c < 1114112 := by decide +kernel
  exact hd c (of_decide_eq_true h)
theorem okSign_lt0 {c : Nat} (h : okSign [] c = true) : c < 1114112 := by
  have hd : ∀ c ∈ lWORD ++ lOTHERS ++ [], c < 1114112 := by decide +kernel
  exact hd c (of_decide_eq_true h)
theorem strOk_of {t : List Nat} (h : ∀ c ∈ t, c < 1114112) : PyData.strOk ⟨t.toArray⟩ = true := by
  unfold PyData.strOk
  simpa using h
theorem text_strOk {t : List Nat} (h : isText t) : PyData.strOk ⟨t.toArray⟩ = true := strOk_of fun c hc => okSign_lt (h.2 c hc)
theorem name_strOk {n : Nat} (h : isName n) : PyData.strOk ⟨#[n]⟩ = true := strOk_of (t := [n]) fun c hc => by
  have e : c = n := by simpa using hc
  subst e
  have h' : c ∈ [97, 98, 99, 100] := h
  simp at h'
  omega
/-! ### by values -/
theorem eq_dat {K : PySem.W.Frag} {x y : V} {d : PyData} {H : Hp} {Q : VK} {n : Nat} (hx : Dp K H x d) (hy : Dp K H y d) (hs : Sh n d) (hn : n ≤ 64) (q : Q (.bl true) H) : rEqX K x y H Q := by
  have hr : rEqD K x y H Q := ⟨d, d, hx, hy, hs.shaped hn, hs.shaped hn, by rw [SeqAt.eqv_refl d hs.lay]; exact q⟩
  cases hx with
  | non => cases hy; exact q
  | bl b => cases hy; show Q (.bl (decide (b = b))) H; rw [decide_eq_true rfl]; exact q
  | int i => cases hy; show Q (.bl (decide (i = i))) H; rw [decide_eq_true rfl]; exact q
  | str z => cases hy; show Q (.bl (decide (z = z))) H; rw [decide_eq_true rfl]; exact q
  | lst _ _ => cases hy; exact hr
  | tup _ _ => cases hy; exact hr
theorem ne_dat {K : PySem.W.Frag} {x y : V} {d : PyData} {H : Hp} {Q : VK} {n : Nat} (hx : Dp K H x d) (hy : Dp K H y d) (hs : Sh n d) (hn : n ≤ 64) (q : Q (.bl false) H) : rNeX K x y H Q := by
  have hr : rNeD K x y H Q := ⟨d, d, hx, hy, hs.shaped hn, hs.shaped hn, by rw [SeqAt.eqv_refl d hs.lay]; exact q⟩
  cases hx with
  | non => cases hy; exact q
  | bl b => cases hy; show Q (.bl (!decide (b = b))) H; rw [decide_eq_true rfl]; exact q
  | int i => cases hy; show Q (.bl (!decide (i = i))) H; rw [decide_eq_true rfl]; exact q
  | str z => cases hy; show Q (.bl (!decide (z = z))) H; rw [decide_eq_true rfl]; exact q
  | lst _ _ => cases hy; exact hr
  | tup _ _ => cases hy; exact hr
mutual
theorem dp_xt {K : PySem.W.Frag} {H H' : Hp} (e : Xt H H') : ∀ (d : PyData) (v : V), Dp K H v d → Dp K H' v d
  | .none, _, .non => .non
  | .bool _, _, .bl b => .bl b
  | .int _, _, .int i => .int i
  | .str _, _, .str x => .str x
  | .list ds, _, .lst h1 h2 => .lst (Evl.ex_l e h1) (dpall_xt e ds _ h2)
  | .tuple ds, _, .tup h1 h2 => .tup (Evl.ex_t e h1) (dpall_xt e ds _ h2)
theorem dpall_xt {K : PySem.W.Frag} {H H' : Hp} (e : Xt H H') : ∀ (ds : List PyData) (vs : List V), DpAll K H vs ds → DpAll K H' vs ds
  | [], _, .nil => .nil
  | d :: ds, _, .cons h1 h2 => .cons (dp_xt e d _ h1) (dpall_xt e ds _ h2)
end
theorem _root_.L2.Dp.xt {K : PySem.W.Frag} {H H' : Hp} {d : PyData} {v : V} (h : Dp K H v d) (e : Xt H H') : Dp K H' v d := dp_xt e d v h
/-! ### deeds as data -/
def dS (t : List Nat) : PyData := .str ⟨t.toArray⟩
def dO : Option Nat → PyData
  | none => .none
  | some n => .int n
def dNm : Option Nat → PyData
  | none => .none
  | some c => dS [c]
def vD : V → PyData
  | .int i => .int i
  | .str z => .str z
  | .bl b => .bool b
  | _ => .none
def flt : V → Bool
  | .int _ => true | .str _ => true | .bl _ => true | .non => true
  | _ => false
theorem dp_flt {K : PySem.W.Frag} {H : Hp} {v : V} (h : flt v = true) : Dp K H v (vD v) := by
  cases v <;> first | exact .non | exact .bl _ | exact .int _ | exact .str _ | cases h
theorem dp_flts {K : PySem.W.Frag} {H : Hp} : ∀ {vs : List V}, vs.all flt = true → DpAll K H vs (vs.map vD)
  | [], _ => .nil
  | v :: vs, h => by
    rw [List.all_cons] at h
    obtain ⟨h1, h2⟩ := and2 h
    exact .cons (dp_flt h1) (dp_flts h2)
theorem dp_vo {K : PySem.W.Frag} {H : Hp} (o : Option Nat) : Dp K H (vo o) (dO o) := by cases o <;> first | exact .non | exact .int _
theorem dp_nm {K : PySem.W.Frag} {H : Hp} (o : Option Nat) : Dp K H (nm o) (dNm o) := by cases o <;> first | exact .non | exact .str _
theorem dp_sv {K : PySem.W.Frag} {H : Hp} (t : List Nat) : Dp K H (sv t) (dS t) := .str _
theorem dp_iv {K : PySem.W.Frag} {H : Hp} (n : Nat) : Dp K H (iv n) (.int n) := .int _
def moD (m : Mo) : PyData := .tuple (m.vs.map vD)
theorem mo_flt (m : Mo) : m.vs.all flt = true := by cases m <;> rfl
def arD : Ar → PyData
  | .mot m => .tuple [dS w_by, moD m]
  | .rows n => .tuple [dS w_rows, .int n]
  | .word => .tuple [dS w_word]
  | .inside o _ => .tuple [dS w_inside, dS [o]]
  | .chosen => .tuple [dS w_chosen]
def ptD : Pt → PyData
  | .mot m => moD m
  | .area r => arD r
  | .name n => dS [n]
  | .case g => dS (if g then w_great else w_small)
  | .side i => dS (if i then w_in else w_out)
  | .times k => .int k
  | .signs s => dS s
  | .state k => .int k
  | .window k => .int k
def deD (d : De) : PyData := .tuple (dS d.word :: d.parts.map ptD)
variable {K : PySem.W.Frag} {H : Hp}
theorem dp_mo {s : Addr} {m : Mo} (h : H s = some (.tup m.vs)) : Dp K H (.ref s) (moD m) := .tup (SqT.of h) (dp_flts (mo_flt m))
theorem dp_ar {s : Addr} {r : Ar} (h : ArAt H s r) : Dp K H (.ref s) (arD r) := by
  cases r with
  | mot m => obtain ⟨q, h1, h2⟩ := h; exact .tup (SqT.of h1) (.cons (dp_sv _) (.cons (dp_mo h2) .nil))
  | rows n => exact .tup (SqT.of h) (.cons (dp_sv _) (.cons (dp_iv _) .nil))
  | word => exact .tup (SqT.of h) (.cons (dp_sv _) .nil)
  | inside o c => exact .tup (SqT.of h) (.cons (dp_sv _) (.cons (dp_sv [o]) .nil))
  | chosen => exact .tup (SqT.of h) (.cons (dp_sv _) .nil)
theorem dp_pt {x : V} {p : Pt} (h : PtAt H x p) : Dp K H x (ptD p) := by
  cases p with
  | mot m => obtain ⟨s, rfl, h⟩ := h; exact dp_mo h
  | area r => obtain ⟨s, rfl, h⟩ := h; exact dp_ar h
  | name n => obtain rfl : x = _ := h; exact dp_sv _
  | case g => obtain rfl : x = _ := h; exact dp_sv _
  | side i => obtain rfl : x = _ := h; exact dp_sv _
  | times k => obtain rfl : x = _ := h; exact dp_iv _
  | signs s => obtain rfl : x = _ := h; exact dp_sv _
  | state k => obtain rfl : x = _ := h; exact dp_iv _
  | window k => obtain rfl : x = _ := h; exact dp_iv _
theorem dp_pts : ∀ {xs : List V} {ps : List Pt}, PtsAt H xs ps → DpAll K H xs (ps.map ptD)
  | [], [], _ => .nil
  | _ :: _, _ :: _, h => .cons (dp_pt h.1) (dp_pts h.2)
  | [], _ :: _, h => h.elim
  | _ :: _, [], h => h.elim
theorem dp_de {x : V} {d : De} (h : DeAt H x d) : Dp K H x (deD d) := by
  obtain ⟨a, ps, rfl, h1, h2⟩ := h
  exact .tup (SqT.of h1) (.cons (dp_sv _) (dp_pts h2))
theorem dp_des {xs : List V} {ds : List De} (h : Paired (DeAt H) xs ds) : DpAll K H xs (ds.map deD) := by
  induction h with
  | nil => exact .nil
  | cons h1 _ ih => exact .cons (dp_de h1) ih
theorem sh_sv {n : Nat} {t : List Nat} (h : ∀ c ∈ t, c < 1114112) : Sh n (dS t) := sh_str (strOk_of h)
theorem sh_word {n : Nat} {t : List Nat} (h : t.all (· < 1000) = true) : Sh n (dS t) := sh_sv fun c hc => by
  have := List.all_eq_true.mp h c hc
  simp at this
  omega
theorem sh_mo {m : Mo} (h : m.ok) : Sh 1 (moD m) := by
  refine sh_tup (n := 0) fun d hd => ?_
  obtain ⟨v, hv, rfl⟩ := List.mem_map.mp hd
  rcases List.mem_cons.mp hv with rfl | hv
  · exact sh_word (by cases m <;> rfl)
  · cases m with
    | find c n =>
      simp [Mo.parts] at hv
      rcases hv with rfl | rfl
      · exact sh_sv (t := [c]) fun x hx => by
          have e : x = c := by simpa using hx
          subst e; exact okSign_lt0 h.1
      · exact sh_int _
    | mark c =>
      simp [Mo.parts] at hv
      subst hv
      exact sh_str (name_strOk (show isName c from h))
    | search p =>
      simp [Mo.parts] at hv
      subst hv
      exact sh_sv fun x hx => okSign_lt0 (h.2.2 x hx)
    | left n => simp [Mo.parts] at hv; subst hv; exact sh_int _
    | right n => simp [Mo.parts] at hv; subst hv; exact sh_int _
    | up n => simp [Mo.parts] at hv; subst hv; exact sh_int _
    | down n => simp [Mo.parts] at hv; subst hv; exact sh_int _
    | word n => simp [Mo.parts] at hv; subst hv; exact sh_int _
    | over n => simp [Mo.parts] at hv; subst hv; exact sh_int _
    | back n => simp [Mo.parts] at hv; subst hv; exact sh_int _
    | row n => simp [Mo.parts] at hv; subst hv; exact sh_int _
    | _ => simp [Mo.parts] at hv
theorem sh_ar {r : Ar} (h : r.ok) : Sh 2 (arD r) := by
  cases r with
  | mot m =>
    refine sh_tup (n := 1) fun d hd => ?_
    simp at hd
    rcases hd with rfl | rfl
    · exact sh_word rfl
    · exact sh_mo h
  | rows n =>
    refine sh_tup (n := 1) fun d hd => ?_
    simp at hd
    rcases hd with rfl | rfl
    · exact sh_word rfl
    · exact sh_int _
  | word =>
    refine sh_tup (n := 1) fun d hd => ?_
    simp at hd; subst hd; exact sh_word rfl
  | inside o c =>
    refine sh_tup (n := 1) fun d hd => ?_
    simp at hd
    rcases hd with rfl | rfl
    · exact sh_word rfl
    · have hk : isKind o c := h
      rcases hk with ⟨rfl, _⟩ | ⟨rfl, _⟩ | ⟨rfl, _⟩ <;> exact sh_word rfl
  | chosen =>
    refine sh_tup (n := 1) fun d hd => ?_
    simp at hd; subst hd; exact sh_word rfl
theorem sh_pt {p : Pt} (h : p.ok) : Sh 2 (ptD p) := by
  cases p with
  | mot m => exact (sh_mo h).mono (by decide)
  | area r => exact sh_ar h
  | name n => exact sh_str (name_strOk h)
  | case g => cases g <;> exact sh_word rfl
  | side g => cases g <;> exact sh_word rfl
  | times k => exact sh_int _
  | signs s => exact sh_sv fun c hc => okSign_lt (h.2.2 c hc)
  | state k => exact sh_int _
  | window k => exact sh_int _
theorem sh_de {d : De} (h : d.ok) : Sh 3 (deD d) := by
  refine sh_tup (n := 2) fun x hx => ?_
  rcases List.mem_cons.mp hx with rfl | hx
  · exact sh_word (by cases d <;> rfl)
  · obtain ⟨p, hp, rfl⟩ := List.mem_map.mp hx
    exact sh_pt (h p hp)
theorem sh_dO {n : Nat} (o : Option Nat) : Sh n (dO o) := by cases o <;> first | exact sh_non | exact sh_int _
end Ed

/-! editors: what they tell -/
namespace Ed
open PySem L2 Cb
open Evl (Ev EvT)
open PyProof.Rows (sortedS risingS ltCps_eq)
open PySem.Spec (ltCps)
/-! ### sorted by names -/
def insA {α : Type} (x : Nat × α) : List (Nat × α) → List (Nat × α)
  | [] => [x]
  | y :: r => if x.1 ≤ y.1 then x :: y :: r else y :: insA x r
def sortA {α : Type} : List (Nat × α) → List (Nat × α)
  | [] => []
  | x :: r => insA x (sortA r)
def UpA {α : Type} (l : List (Nat × α)) : Prop := l.Pairwise (fun a b => a.1 ≤ b.1)
theorem insA_perm {α : Type} (x : Nat × α) : ∀ l : List (Nat × α), (insA x l).Perm (x :: l)
  | [] => .refl _
  | y :: r => by
    unfold insA
    split
    · exact .refl _
    · exact ((insA_perm x r).cons y).trans (.swap x y r)
theorem sortA_perm {α : Type} : ∀ l : List (Nat × α), (sortA l).Perm l
  | [] => .refl _
  | x :: r => (insA_perm x (sortA r)).trans ((sortA_perm r).cons x)
theorem insA_up {α : Type} (x : Nat × α) : ∀ l : List (Nat × α), UpA l → UpA (insA x l)
  | [], _ => by simp [insA, UpA]
  | y :: r, h => by
    have h' := List.pairwise_cons.mp h
    unfold insA
    split
    · rename_i hxy
      refine List.pairwise_cons.mpr ⟨fun z hz => ?_, h⟩
      rcases List.mem_cons.mp hz with rfl | hz
      · exact hxy
      · have := h'.1 z hz; omega
    · refine List.pairwise_cons.mpr ⟨fun z hz => ?_, insA_up x r h'.2⟩
      rcases List.mem_cons.mp ((insA_perm x r).mem_iff.mp hz) with rfl | hz
      · omega
      · exact h'.1 z hz
theorem sortA_up {α : Type} : ∀ l : List (Nat × α), UpA (sortA l)
  | [] => .nil
  | x :: r => insA_up x _ (sortA_up r)
theorem up_eq {α : Type} : ∀ (l m : List (Nat × α)), l.Perm m → UpA l → UpA m → (l.map (·.1)).Nodup → l = m
  | [], m, hp, _, _, _ => by rw [List.nil_perm.mp hp]
  | a :: l, [], hp, _, _, _ => by have := hp.length_eq; simp at this
  | a :: l, b :: m, hp, h1, h2, nd => by
    have h1' := List.pairwise_cons.mp h1
    have h2' := List.pairwise_cons.mp h2
    have nd' := List.nodup_cons.mp (show (a.1 :: l.map (·.1)).Nodup from nd)
    have hab : a = b := by
      have ha : a ∈ b :: m := hp.mem_iff.mp (List.mem_cons_self ..)
      have hb : b ∈ a :: l := hp.mem_iff.mpr (List.mem_cons_self ..)
      rcases List.mem_cons.mp ha with z | ha
      · exact z
      rcases List.mem_cons.mp hb with z | hb
      · exact z.symm
      have e1 := h2'.1 a ha
      have e2 := h1'.1 b hb
      exact absurd (List.mem_map.mpr ⟨b, hb, by omega⟩) nd'.1
    subst hab
    rw [up_eq l m (List.Perm.cons_inv hp) h1'.2 h2'.2 nd'.2]
theorem sort_eq {α : Type} {l m : List (Nat × α)} (hp : l.Perm m) (h : UpA l) (nd : (m.map (·.1)).Nodup) : l = sortA m :=
  up_eq l (sortA m) (hp.trans (sortA_perm m).symm) h (sortA_up m) ((hp.map (·.1)).nodup_iff.mpr nd)
theorem insA_pair {α β : Type} {F : Nat × α → Nat × β → Prop} (hF : ∀ a b, F a b → a.1 = b.1) {x : Nat × α} {y : Nat × β} (hxy : F x y) : ∀ {l : List (Nat × α)} {m : List (Nat × β)}, Paired F l m → Paired F (insA x l) (insA y m) := by
  intro l m h
  induction h with
  | nil => exact .cons hxy .nil
  | @cons a b l' m' h1 h2 ih =>
    have e1 := hF _ _ hxy
    have e2 := hF _ _ h1
    unfold insA
    by_cases hc : x.1 ≤ a.1
    · rw [if_pos hc, if_pos (by omega)]
      exact .cons hxy (.cons h1 h2)
    · rw [if_neg hc, if_neg (by omega)]
      exact .cons h1 ih
theorem sortA_pair {α β : Type} {F : Nat × α → Nat × β → Prop} (hF : ∀ a b, F a b → a.1 = b.1) : ∀ {l : List (Nat × α)} {m : List (Nat × β)}, Paired F l m → Paired F (sortA l) (sortA m) := by
  intro l m h
  induction h with
  | nil => exact .nil
  | cons h1 _ ih => exact insA_pair hF h1 ih
/-! ### what is told, as data -/
abbrev RetD (K : PySem.W.Frag) (d : PyData) (H : Hp) (Q : VK) : Prop := ∀ H' v, Xt H H' → Dp K H' v d → Q v H'
def dChosen (S : EdS) : PyData := match S.cw.anchor with
  | none => .none
  | some a => .tuple [.int (min a S.cw.spot : Nat), .int (max a S.cw.spot : Nat)]
def dWins (S : EdS) : PyData := .tuple [.int S.active, .list (S.wins.map fun w => .int w.spot)]
def dMarks (S : EdS) : PyData := .list ((sortA S.marks).map fun q => .tuple [dS [q.1], .int q.2])
def dRegs (S : EdS) : PyData := .list ((sortA S.regs).map fun q => .tuple [dS [q.1], dS (kindW q.2.rows), dS q.2.text])
def dMacs (S : EdS) : PyData := .tuple [.list ((sortA S.macros).map fun q => .tuple [dS [q.1], .tuple (q.2.map deD)]), dNm S.taking]
def dStas (S : EdS) : PyData := .tuple [.list (S.states.map fun s => dO s.1), .int S.state]
def sp_Editor_chosen (K : PySem.W.Frag) : Sp := fun vs H Q _ => ∃ (e : Addr) (A : EdA) (S : EdS), vs = [.ref e] ∧ EdAt K H e A S ∧ S.ok ∧ RetD K (dChosen S) H Q
def b_Editor_chosen (K : PySem.W.Frag) : Ss K :=
  (Ss.cons (Sm.set 1 (Ex.ix (Ex.fld "Editor" (Ex.v 0) "windows") (Ex.fld "Editor" (Ex.v 0) "active")))
  (Ss.cons (Sm.ite (Te.cmp Cm.is (Ex.fld "Window" (Ex.v 1) "anchor") Ex.none)
    (Ss.cons (Sm.ret Ex.none)
    Ss.nil)
    Ss.nil)
  (Ss.cons (Sm.ret (Ex.tup (As.cons (Ex.min (As.cons (Ex.fld "Window" (Ex.v 1) "anchor") (As.cons (Ex.fld "Window" (Ex.v 1) "spot") As.nil))) (As.cons (Ex.max (As.cons (Ex.fld "Window" (Ex.v 1) "anchor") (As.cons (Ex.fld "Window" (Ex.v 1) "spot") As.nil))) As.nil))))
  Ss.nil)))
def N_Editor_chosen : List Str := ["self", "window"]
theorem rd_Editor_chosen (K : PySem.W.Frag) : ∀ vs H Q E, sp_Editor_chosen K vs H Q E → (b_Editor_chosen K).t { nx := fun _ H' => Q .non H', rt := Q } (start N_Editor_chosen vs) H := by
  rintro _ H Q E ⟨e, A, S, rfl, h, o, q⟩
  refine h.f_windows (h.f_active (h.ixw o fun p hp hw => hw.f_anchor ?_))
  unfold dChosen at q
  cases hc : S.cw.anchor with
  | none =>
    rw [hc] at q
    exact q H .non (Xt.refl H) .non
  | some a =>
    rw [hc] at q
    refine hw.f_anchor (hw.f_spot ?_)
    rw [hc]
    refine hw.f_anchor (hw.f_spot ?_)
    rw [hc]
    refine ⟨by show 2 ≤ sizeLine; decide, fun T hT => ?_⟩
    refine q _ _ (xt_new hT) (.tup (SqT.of upd_same) ?_)
    rw [min_nat, max_nat]
    exact .cons (.int _) (.cons (.int _) .nil)
def sp_Editor_all_windows (K : PySem.W.Frag) : Sp := fun vs H Q _ => ∃ (e : Addr) (A : EdA) (S : EdS), vs = [.ref e] ∧ EdAt K H e A S ∧ S.ok ∧ RetD K (dWins S) H Q
def b_Editor_all_windows (K : PySem.W.Frag) : Ss K :=
  (Ss.cons (Sm.ret (Ex.tup (As.cons (Ex.fld "Editor" (Ex.v 0) "active") (As.cons (Ex.lc [("window", 1)] (Ir.list (Ex.fld "Editor" (Ex.v 0) "windows")) (Tg.v 1) Ifs.no (Ex.fld "Window" (Ex.v 1) "spot")) As.nil))))
  Ss.nil)
def N_Editor_all_windows : List Str := ["self", "window"]
theorem dp_map {K : PySem.W.Frag} {H : Hp} {α : Type} (f : α → V) (g : α → PyData) : ∀ l : List α, (∀ x ∈ l, Dp K H (f x) (g x)) → DpAll K H (l.map f) (l.map g)
  | [], _ => .nil
  | x :: l, h => .cons (h x (List.mem_cons_self ..)) (dp_map f g l fun y hy => h y (List.mem_cons_of_mem _ hy))
theorem paired_at {F : α → β → Prop} : ∀ {xs : List α} {ys : List β}, Paired F xs ys → ∀ {i : Nat} {x : α}, xs[i]? = some x → ∃ y, ys[i]? = some y ∧ F x y := by
  intro xs ys h
  induction h with
  | nil => intro i x hx; simp at hx
  | @cons a b _ _ h1 _ ih =>
    intro i x hx
    cases i with
    | zero => simp at hx; subst hx; exact ⟨b, rfl, h1⟩
    | succ i => simp at hx; exact ih hx
theorem rd_Editor_all_windows (K : PySem.W.Frag) : ∀ vs H Q E, sp_Editor_all_windows K vs H Q E → (b_Editor_all_windows K).t { nx := fun _ H' => Q .non H', rt := Q } (start N_Editor_all_windows vs) H := by
  rintro _ H Q E ⟨e, A, S, rfl, h, o, q⟩
  refine h.f_active (h.f_windows ?_)
  have hlen := h.wa_len
  have hfew := o.few
  refine ⟨A.ws, rfl, ⟨_, SqL.of h.ws⟩, lc_walk (walk_list (xs := A.wa.map fun p => V.ref p.1)) (fun i => (S.wins.take i).map fun w => iv w.spot) rfl ?_ (fun H' e => SqL.of (e _ _ h.ws)) ?_ (mono_name 1) ?_⟩
  · intro i hi
    simp at hi ⊢; omega
  · rintro i x H2 H3 D hi ⟨c1, c2, c3⟩ ⟨rfl, hx⟩
    rw [List.getElem?_map] at hx
    obtain ⟨p, hp, rfl⟩ := Option.map_eq_some_iff.mp hx
    obtain ⟨w, hw, hpw⟩ := paired_at h.wins hp
    refine ⟨rfl, true, iv w.spot, c2, c3, evT_yes, fun _ => ?_, ?_⟩
    · intro H4 e4 Q' q'
      have hw4 : WinAt K H4 p w := e4 _ _ hpw
      refine hw4.f_spot ?_
      exact q' H4 (Xt.refl H4)
    · rw [take_snoc hw]; simp
  · intro L H2 hL e2 h2
    refine ⟨by show 2 ≤ sizeLine; decide, fun T hT => ?_⟩
    refine q _ _ (e2.trans (xt_new hT)) (.tup (SqT.of upd_same) (.cons (.int _) (.cons (.lst (SqL.of ((xt_new hT) _ _ h2)) ?_) .nil)))
    have : S.wins.take (A.wa.map fun p => V.ref p.1).length = S.wins := by
      rw [List.length_map, hlen, List.take_length]
    rw [this]
    exact dp_map _ _ _ fun w _ => dp_iv _
/-! ### marks, registers, macros, states -/
theorem vo_ne1 : True := trivial
/-- what sorted(d.items()) makes, as pairs -/
theorem sorted_items {K : PySem.W.Frag} {α : Type} {H H' : Hp} {ks : List (Nat × V)} {rs : List (Nat × α)} {ps : List (Addr × Nat × V)} {F : Nat × V → Nat × α → Prop} (g : Nat × α → PyData) (hF : ∀ a b, F a b → a.1 = b.1) (hp : Paired F ks rs) (hperm : (ps.map (·.2)).Perm ks) (hup : (ps.map (·.2)).Pairwise (fun e f => e.1 ≤ f.1)) (nd : (ks.map (·.1)).Nodup)
    (ht : ∀ z ∈ ps, H' z.1 = some (.tup [.str ⟨#[z.2.1]⟩, z.2.2])) (hg : ∀ a b, F a b → Dp K H' a.2 (g b)) : DpAll K H' (ps.map fun z => V.ref z.1) ((sortA rs).map fun q => .tuple [dS [q.1], g q]) := by
  have e := sort_eq hperm hup nd
  have hp' := sortA_pair hF hp
  rw [← e] at hp'
  clear e hperm hup
  revert hp'
  generalize sortA rs = rs'
  intro hp'
  induction ps generalizing rs' with
  | nil => cases hp'; exact .nil
  | cons z ps ih =>
    cases hp' with
    | @cons _ b _ rs'' h1 h2 =>
      have hz := ht z (List.mem_cons_self ..)
      have e1 := hF _ _ h1
      refine .cons (.tup (SqT.of hz) (.cons ?_ (.cons (hg _ _ h1) .nil))) (ih (fun y hy => ht y (List.mem_cons_of_mem _ hy)) rs'' h2)
      rw [← e1]
      exact .str _
def ksOf (kvs : List (Key × V)) (ns : List Nat) : List (Nat × V) := ns.zip (kvs.map (·.2))
theorem ks_eq {α : Type} {F : Key × V → Nat × α → Prop} (hF : ∀ kv r, F kv r → kv.1 = key r.1) : ∀ {kvs : List (Key × V)} {rs : List (Nat × α)}, Paired F kvs rs → kvs = (ksOf kvs (rs.map (·.1))).map (fun e => ((Sum.inr ⟨#[e.1]⟩ : Key), e.2)) ∧ Paired (fun a r => a.1 = r.1 ∧ F (key r.1, a.2) r) (ksOf kvs (rs.map (·.1))) rs ∧ (ksOf kvs (rs.map (·.1))).map (·.1) = rs.map (·.1) := by
  intro kvs rs h
  induction h with
  | nil => exact ⟨rfl, .nil, rfl⟩
  | @cons p r ps rs' h1 h2 ih =>
    obtain ⟨i1, i2, i3⟩ := ih
    have hk := hF _ _ h1
    refine ⟨?_, .cons ⟨rfl, by rw [← hk]; exact h1⟩ i2, ?_⟩
    · show p :: ps = (key r.1, p.2) :: (ksOf ps (rs'.map (·.1))).map _
      rw [← i1, ← hk]
    · show r.1 :: (ksOf ps (rs'.map (·.1))).map (·.1) = r.1 :: rs'.map (·.1)
      rw [i3]
def sp_Editor_all_marks (K : PySem.W.Frag) : Sp := fun vs H Q _ => ∃ (e : Addr) (A : EdA) (S : EdS), vs = [.ref e] ∧ EdAt K H e A S ∧ S.ok ∧ RetD K (dMarks S) H Q
def b_Editor_all_marks (K : PySem.W.Frag) : Ss K :=
  (Ss.cons (Sm.ret (Ex.sortedI (As.cons (Ex.items (Ex.fld "Editor" (Ex.v 0) "marks")) As.nil)))
  Ss.nil)
def N_Editor_all_marks : List Str := ["self"]
theorem few4 {α : Type} {l : List (Nat × α)} (nd : (l.map (·.1)).Nodup) (h : ∀ q ∈ l, isName q.1) : l.length ≤ 4 := by
  have h1 : ∀ (l m : List Nat), l.Nodup → (∀ n ∈ l, n ∈ m) → l.length ≤ m.length := by
    intro l
    induction l with
    | nil => intro m _ _; simp
    | cons a l ih =>
      intro m nd h
      have nd' := List.nodup_cons.mp nd
      have ha := h a (List.mem_cons_self ..)
      have := ih (m.erase a) nd'.2 fun n hn => (List.mem_erase_of_ne (fun z => nd'.1 (by rw [← z]; exact hn))).mpr (h n (List.mem_cons_of_mem _ hn))
      rw [List.length_erase_of_mem ha] at this
      have : 0 < m.length := List.length_pos_of_mem ha
      simp
      omega
  have := h1 (l.map (·.1)) [97, 98, 99, 100] nd fun n hn => by
    obtain ⟨q, hq, rfl⟩ := List.mem_map.mp hn
    exact h q hq
  simpa using this
theorem marks_pair {K : PySem.W.Frag} : ∀ (ms : List (Nat × Nat)), Paired (fun (kv : Key × V) (q : Nat × Nat) => kv.1 = key q.1 ∧ kv.2 = iv q.2) (mksK ms) ms
  | [] => .nil
  | _ :: ms => .cons ⟨rfl, rfl⟩ (marks_pair (K := K) ms)
/-- sorted(marks.items()) of a dict of marks at a -/
theorem sort_marks {K : PySem.W.Frag} {H : Hp} {a p : Addr} {ms : List (Nat × Nat)} {Q : VK} (ha : H a = some (.dK (mksK ms))) (hp : H p = none) (nd : (ms.map (·.1)).Nodup) (hn : ∀ q ∈ ms, isName q.1) (q : ∀ H' v, Xt H H' → Dp K H' v (.list ((sortA ms).map fun q => .tuple [dS [q.1], .int q.2])) → Q v H') : rSortI K [.ref p] (upd H p (itemsO p a)) Q := by
  obtain ⟨k1, k2, k3⟩ := ks_eq (fun _ _ z => z.1) (marks_pair (K := K) ms)
  have hl := few4 nd hn
  have hne : a ≠ p := ne_of_none ha hp
  refine rSortI_i ⟨a, ksOf (mksK ms) (ms.map (·.1)), upd_same, ?_, ?_, by rw [k3]; exact nd, ?_⟩
  · rw [upd_ne hne, ha, ← k1]
  · have := congrArg List.length k3
    simp at this
    omega
  · intro H' l ps x1 hl' hz hperm hup hlst ht
    refine q H' _ ((xt_new hp).trans x1) (.lst (SqL.of hlst) ?_)
    exact sorted_items (K := K) (H := H) (F := fun (a : Nat × V) (r : Nat × Nat) => a.1 = r.1 ∧ (key r.1, a.2).1 = key r.1 ∧ (key r.1, a.2).2 = iv r.2) (fun (q : Nat × Nat) => .int (q.2 : Int)) (fun _ _ z => z.1) k2 hperm hup (by rw [k3]; exact nd) ht fun a b z => by
      have : a.2 = iv b.2 := z.2.2
      rw [this]; exact .int _
theorem rd_Editor_all_marks (K : PySem.W.Frag) : ∀ vs H Q E, sp_Editor_all_marks K vs H Q E → (b_Editor_all_marks K).t { nx := fun _ H' => Q .non H', rt := Q } (start N_Editor_all_marks vs) H := by
  rintro _ H Q E ⟨e, A, S, rfl, h, o, q⟩
  refine h.f_marks ⟨_, h.mks, fun p hp => ?_⟩
  exact sort_marks h.mks hp o.mkn (fun q hq => (o.mkp q hq).1) q
def sp_Editor_all_macros (K : PySem.W.Frag) : Sp := fun vs H Q _ => ∃ (e : Addr) (A : EdA) (S : EdS), vs = [.ref e] ∧ EdAt K H e A S ∧ S.ok ∧ RetD K (dMacs S) H Q
def b_Editor_all_macros (K : PySem.W.Frag) : Ss K :=
  (Ss.cons (Sm.ret (Ex.tup (As.cons (Ex.sortedI (As.cons (Ex.items (Ex.fld "Editor" (Ex.v 0) "macros")) As.nil)) (As.cons (Ex.fld "Editor" (Ex.v 0) "taking") As.nil))))
  Ss.nil)
def N_Editor_all_macros : List Str := ["self"]
theorem sort_macs {K : PySem.W.Frag} {H : Hp} {a p : Addr} {ms : List (Nat × List De)} {kvs : List (Key × V)} {Q : VK} (ha : H a = some (.dK kvs)) (hm : Paired (MacAt H) kvs ms) (hp : H p = none) (nd : (ms.map (·.1)).Nodup) (hn : ∀ q ∈ ms, isName q.1) (q : ∀ H' v, Xt H H' → Dp K H' v (.list ((sortA ms).map fun q => .tuple [dS [q.1], .tuple (q.2.map deD)])) → Q v H') : rSortI K [.ref p] (upd H p (itemsO p a)) Q := by
  obtain ⟨k1, k2, k3⟩ := ks_eq (fun _ _ z => z.1) hm
  have hl := few4 nd hn
  have hne : a ≠ p := ne_of_none ha hp
  refine rSortI_i ⟨a, ksOf kvs (ms.map (·.1)), upd_same, ?_, ?_, by rw [k3]; exact nd, ?_⟩
  · rw [upd_ne hne, ha, ← k1]
  · have := congrArg List.length k3
    simp at this
    omega
  · intro H' l ps x1 hl' hz hperm hup hlst ht
    have x2 := (xt_new (o := itemsO p a) hp).trans x1
    refine q H' _ x2 (.lst (SqL.of hlst) ?_)
    exact sorted_items (K := K) (H := H) (F := fun (a : Nat × V) (r : Nat × List De) => a.1 = r.1 ∧ MacAt H (key r.1, a.2) r) (fun (q : Nat × List De) => .tuple (q.2.map deD)) (fun _ _ z => z.1) k2 hperm hup (by rw [k3]; exact nd) ht fun a b z => by
      obtain ⟨_, _, r, xs, e1, e2, e3⟩ := z
      have e1' : a.2 = .ref r := e1
      rw [e1']
      exact .tup (SqT.of (x2 _ _ e2)) (dp_des (e3.imp fun _ _ y => y.tk (Tk.of x2)))
theorem rd_Editor_all_macros (K : PySem.W.Frag) : ∀ vs H Q E, sp_Editor_all_macros K vs H Q E → (b_Editor_all_macros K).t { nx := fun _ H' => Q .non H', rt := Q } (start N_Editor_all_macros vs) H := by
  rintro _ H Q E ⟨e, A, S, rfl, h, o, q⟩
  obtain ⟨kvs, hk, hm⟩ := h.ma
  refine h.f_macros ⟨_, hk, fun p hp => ?_⟩
  refine sort_macs hk hm hp o.mcn (fun q hq => (o.mcp q hq).1) fun H' v x1 hv => ?_
  refine (h.xt x1).f_taking ⟨by show 2 ≤ sizeLine; decide, fun T hT => ?_⟩
  exact q _ _ (x1.trans (xt_new hT)) (.tup (SqT.of upd_same) (.cons (hv.xt (xt_new hT)) (.cons (dp_nm _) .nil)))
def sp_Editor_all_states (K : PySem.W.Frag) : Sp := fun vs H Q _ => ∃ (e : Addr) (A : EdA) (S : EdS), vs = [.ref e] ∧ EdAt K H e A S ∧ S.ok ∧ RetD K (dStas S) H Q
def b_Editor_all_states (K : PySem.W.Frag) : Ss K :=
  (Ss.cons (Sm.ret (Ex.tup (As.cons (Ex.lc [("before", 1), ("text", 2)] (Ir.list (Ex.fld "Editor" (Ex.v 0) "states")) (Tg.tup (Tgs.cons (Tg.v 1) (Tgs.cons (Tg.v 2) Tgs.nil))) Ifs.no (Ex.v 1)) (As.cons (Ex.fld "Editor" (Ex.v 0) "state") As.nil))))
  Ss.nil)
def N_Editor_all_states : List Str := ["self", "before", "text"]
theorem rd_Editor_all_states (K : PySem.W.Frag) : ∀ vs H Q E, sp_Editor_all_states K vs H Q E → (b_Editor_all_states K).t { nx := fun _ H' => Q .non H', rt := Q } (start N_Editor_all_states vs) H := by
  rintro _ H Q E ⟨e, A, S, rfl, h, o, q⟩
  obtain ⟨xs, hx, hs⟩ := h.st
  have hlen : xs.length = S.states.length := hs.length
  have hfew := o.stl
  refine h.f_states ⟨A.st, rfl, ⟨_, SqL.of hx⟩, lc_walk (walk_list (xs := xs)) (fun i => (S.states.take i).map fun s => vo s.1) rfl ?_ (fun H' e => SqL.of (e _ _ hx)) ?_ (mono_two K 1 2) ?_⟩
  · intro i hi
    simp at hi ⊢; omega
  · rintro i x H2 H3 D hi ⟨c1, c2, c3⟩ ⟨rfl, hxi⟩
    obtain ⟨s, hs', p, rfl, hp⟩ := paired_at hs hxi
    refine ⟨p, _, rfl, SqT.of (c2 _ _ hp), rfl, rfl, rfl, true, vo s.1, c2, c3, evT_yes, fun _ => ?_, ?_⟩
    · intro H4 e4 Q' q'
      exact q' H4 (Xt.refl H4)
    · rw [take_snoc hs']; simp
  · intro L H2 hL e2 h2
    refine (h.xt e2).f_state ⟨by show 2 ≤ sizeLine; decide, fun T hT => ?_⟩
    refine q _ _ (e2.trans (xt_new hT)) (.tup (SqT.of upd_same) (.cons (.lst (SqL.of ((xt_new hT) _ _ h2)) ?_) (.cons (.int _) .nil)))
    rw [hlen, List.take_length]
    exact dp_map _ _ _ fun s _ => dp_vo _
/-! ### registers -/
theorem up_of_rising : ∀ (zs : List (Nat × α)), sortedS (zs.map fun q => (⟨#[q.1]⟩ : Str)) = true → UpA zs
  | [], _ => .nil
  | z :: zs, h => by
    have key : ∀ (z : Nat × α) (zs : List (Nat × α)), risingS ⟨#[z.1]⟩ (zs.map fun q => (⟨#[q.1]⟩ : Str)) = true → UpA (z :: zs) := by
      intro z zs
      induction zs generalizing z with
      | nil => intro _; unfold UpA; exact List.pairwise_singleton _ _
      | cons y zs ih =>
        intro h
        have h' : (!ltCps [y.1] [z.1] && risingS ⟨#[y.1]⟩ (zs.map fun q => (⟨#[q.1]⟩ : Str))) = true := h
        obtain ⟨h1, h2⟩ := and2 h'
        have ihy := ih y h2
        have hzy : z.1 ≤ y.1 := by
          rw [ltCps_eq] at h1
          have h3 : decide ([y.1] < [z.1]) = false := by simpa using h1
          have h4 := of_decide_eq_false h3
          rw [lt_one] at h4
          omega
        refine List.pairwise_cons.mpr ⟨fun q hq => ?_, ihy⟩
        rcases List.mem_cons.mp hq with rfl | hq
        · exact hzy
        · have := (List.pairwise_cons.mp ihy).1 q hq
          omega
    exact key z zs h
theorem names_sorted {α : Type} {rs : List (Nat × α)} {ys : List Str} (hp : ys.Perm (rs.map fun q => (⟨#[q.1]⟩ : Str))) (hs : sortedS ys = true) (nd : (rs.map (·.1)).Nodup) : ys = (sortA rs).map fun q => (⟨#[q.1]⟩ : Str) := by
  obtain ⟨zs, pz, ez⟩ := perm_lift (fun q : Nat × α => (⟨#[q.1]⟩ : Str)) hp rs rfl
  rw [← ez] at hs ⊢
  rw [sort_eq pz (up_of_rising zs hs) nd]
/-- a comprehension whose turns each make a new tuple -/
theorem lc_new {α : Type} {J : It} {n : Nat} {G : Hp → Prop} {Y : Nat → Hp → V → Hp → Prop} (w : Walk J n G Y) (xs : List α) (hn : n = xs.length) (item : α → V) (vs : α → List V) {k : Nat} {te : TE} {σ : L2.St} {H1 : Hp} {Q : VK}
    (hl : xs.length < 100000) (hG : ∀ H', Xt H1 H' → G H') (hY : ∀ i x H H', i < xs.length → Y i H x H' → H' = H ∧ ∃ a, xs[i]? = some a ∧ x = item a)
    (hw : ∀ v, wipe ((wipe σ [k]).set k v) [k] = wipe σ [k])
    (hs : ∀ a ∈ xs, ∀ H Q', Xt H1 H → (∀ p H', H p = none → Xt H H' → H' p = some (.tup (vs a)) → Q' (.ref p) H') → te ((wipe σ [k]).set k (some (item a))) H Q')
    (hd : ∀ D H2 rs, H1 D = none → Xt H1 H2 → H2 D = some (.lst (rs.map V.ref)) → Paired (fun r a => H2 r = some (.tup (vs a))) rs xs → Q (.ref D) H2) :
    LcT J (gName k) tYes te [k] σ H1 Q := by
  refine lc_walkI w (fun D i H' => ∃ rs : List Addr, H' D = some (.lst (rs.map V.ref)) ∧ Paired (fun r a => H' r = some (.tup (vs a))) rs (xs.take i) ∧ Xt H1 H') ?_ ?_ ?_ ?_
  · intro D hD
    exact ⟨[], upd_same, .nil, xt_new hD⟩
  · rintro D i H hD hi ⟨rs, h1, h2, h3⟩
    exact hG H h3
  · rintro D i x H H' hD hi ⟨rs, h1, h2, h3⟩ hy
    obtain ⟨rfl, a, ha, rfl⟩ := hY i x H H' (by omega) hy
    refine ⟨hw _, ?_⟩
    refine hs a (List.mem_of_getElem? ha) _ _ h3 fun p H4 hp x4 h4 => ?_
    have hrl := h2.length
    refine ⟨_, x4 _ _ h1, szl (by simp at hrl ⊢; omega), rs ++ [p], ?_, ?_, ?_⟩
    · rw [upd_same]; simp
    · rw [take_snoc ha]
      have keep : ∀ (r : Addr) (l : List V), H4 r = some (.tup l) → (upd H4 D (.lst (rs.map V.ref ++ [.ref p]))) r = some (.tup l) := fun r l hr => by
        have hne : r ≠ D := fun e => by
          rw [e, x4 _ _ h1] at hr; cases hr
        rw [upd_ne hne]; exact hr
      have h5 : Paired (fun r a => (upd H4 D (.lst (rs.map V.ref ++ [.ref p]))) r = some (.tup (vs a))) rs (xs.take i) := h2.imp fun r a z => keep r _ (x4 _ _ z)
      have snoc : ∀ {us : List Addr} {ys : List α}, Paired (fun r a => (upd H4 D (.lst (rs.map V.ref ++ [.ref p]))) r = some (.tup (vs a))) us ys → Paired (fun r a => (upd H4 D (.lst (rs.map V.ref ++ [.ref p]))) r = some (.tup (vs a))) (us ++ [p]) (ys ++ [a]) := by
        intro us ys hu
        induction hu with
        | nil => exact .cons (keep p _ h4) .nil
        | cons z _ ih => exact .cons z ih
      exact snoc h5
    · exact xt_mut (h3.trans x4) hD
  · rintro D H hD ⟨rs, h1, h2, h3⟩
    rw [hn, List.take_length] at h2
    exact hd D H rs hD h3 h1 h2
def sp_Editor_all_registers (K : PySem.W.Frag) : Sp := fun vs H Q _ => ∃ (e : Addr) (A : EdA) (S : EdS), vs = [.ref e] ∧ EdAt K H e A S ∧ S.ok ∧ RetD K (dRegs S) H Q
def b_Editor_all_registers (K : PySem.W.Frag) : Ss K :=
  (Ss.cons (Sm.ret (Ex.lc [("name", 1)] (Ir.list (Ex.sortedS (As.cons (Ex.listD (As.cons (Ex.fld "Editor" (Ex.v 0) "registers") As.nil)) As.nil))) (Tg.v 1) Ifs.no (Ex.add (Ex.tup (As.cons (Ex.v 1) As.nil)) (Ex.dix (Ex.fld "Editor" (Ex.v 0) "registers") (Ex.v 1)))))
  Ss.nil)
def N_Editor_all_registers : List Str := ["self", "name"]
theorem paired_get' {α : Type} {F : Key × V → Nat × α → Prop} (hF : ∀ kv r, F kv r → kv.1 = key r.1) : ∀ {kvs : List (Key × V)} {rs : List (Nat × α)}, Paired F kvs rs → (rs.map (·.1)).Nodup → ∀ q ∈ rs, ∃ v, valV kvs (key q.1) = some v ∧ F (key q.1, v) q := by
  intro kvs rs h
  induction h with
  | nil => intro _ q hq; cases hq
  | @cons p r ps rs' h1 h2 ih =>
    intro nd q hq
    have nd' := List.nodup_cons.mp (show (r.1 :: rs'.map (·.1)).Nodup from nd)
    have hk := hF _ _ h1
    rcases List.mem_cons.mp hq with rfl | hq
    · exact ⟨p.2, valV_pos hk, by rw [← hk]; exact h1⟩
    · obtain ⟨v, z1, z2⟩ := ih nd'.2 q hq
      refine ⟨v, ?_, z2⟩
      rw [valV_neg (by
        rw [hk]
        intro z
        have : r.1 = q.1 := key_inj.mp z
        exact nd'.1 (by rw [this]; exact List.mem_map.mpr ⟨q, hq, rfl⟩)), z1]
/-- registers by names, sorted: the pieces -/
theorem keys_regs {kvs : List (Key × V)} {rs : List (Nat × Reg)} {H : Hp} (h : Paired (RegAt H) kvs rs) : kvs.map (fun kv => kV kv.1) = (rs.map fun q => (⟨#[q.1]⟩ : Str)).map V.str := by
  induction h with
  | nil => rfl
  | @cons p r _ _ h1 _ ih => simp only [List.map_cons]; rw [ih, h1.1]; rfl
theorem rd_Editor_all_registers (K : PySem.W.Frag) : ∀ vs H Q E, sp_Editor_all_registers K vs H Q E → (b_Editor_all_registers K).t { nx := fun _ H' => Q .non H', rt := Q } (start N_Editor_all_registers vs) H := by
  rintro _ H Q E ⟨e, A, S, rfl, h, o, q⟩
  obtain ⟨kvs, hk, hr⟩ := h.rg
  have h4 := few4 o.rgn fun q hq => (o.rgp q hq).1
  have hlen := (sortA_perm S.regs).length_eq
  refine h.f_registers ⟨kvs, .inl hk, fun L hL => ?_⟩
  refine ⟨S.regs.map fun q => (⟨#[q.1]⟩ : Str), SqL.of (by rw [upd_same, keys_regs hr]), by simp; omega, fun ys P hys hsort hP => ?_⟩
  obtain rfl := names_sorted hys hsort o.rgn
  have x1 : Xt H (upd (upd H L (.lst (kvs.map fun kv => kV kv.1))) P (.lst (((sortA S.regs).map fun q => (⟨#[q.1]⟩ : Str)).map V.str))) := (xt_new hL).trans (xt_new hP)
  refine ⟨P, rfl, ⟨_, SqL.of upd_same⟩, lc_new (walk_list (xs := ((sortA S.regs).map fun q => (⟨#[q.1]⟩ : Str)).map V.str)) (sortA S.regs) (by simp) (fun q => sv [q.1]) (fun q => [sv [q.1], sv (kindW q.2.rows), sv q.2.text]) (by omega) (fun H' e => SqL.of (e _ _ upd_same)) ?_ (fun _ => rfl) ?_ ?_⟩
  · rintro i x H2 H3 hi ⟨rfl, hx⟩
    rw [List.getElem?_map, List.getElem?_map] at hx
    obtain ⟨z, hz, rfl⟩ := Option.map_eq_some_iff.mp hx
    obtain ⟨q', hq, rfl⟩ := Option.map_eq_some_iff.mp hz
    exact ⟨rfl, q', hq, rfl⟩
  · intro q' hq H2 Q' x2 q2
    have h2 := h.xt (x1.trans x2)
    have hq' : q' ∈ S.regs := (sortA_perm S.regs).mem_iff.mp hq
    refine ⟨by show 1 ≤ sizeLine; decide, fun T hT => ?_⟩
    have xT := xt_new (o := .tup [sv [q'.1]]) hT
    refine (h2.xt xT).f_registers ?_
    obtain ⟨v, hv1, hv2, r, hv3, hv4⟩ := paired_get' (F := RegAt H) (fun _ _ z => z.1) hr o.rgn q' hq'
    have hv3' : v = .ref r := hv3
    subst hv3'
    have kk2 := ((x1.trans x2).trans xT) _ _ hk
    have rr2 := ((x1.trans x2).trans xT) _ _ hv4
    refine ⟨A.rg, _, rfl, by rw [← hv1]; exact DGet.k (k := key q'.1) kk2, ?_⟩
    refine .inr ⟨T, r, _, _, rfl, rfl, SqT.of upd_same, SqT.of rr2, by simp, by show 3 ≤ sizeLine; decide, (fun z => nomatch z), fun _ N hN => ?_⟩
    exact q2 N _ (xt_none xT hN) (xT.trans (xt_new hN)) upd_same
  · intro D H2 rs hD x2 hD2 hrs
    refine q H2 _ (x1.trans x2) (.lst (SqL.of hD2) ?_)
    clear hlen hD2
    revert hrs
    generalize sortA S.regs = l
    intro hrs
    induction hrs with
    | nil => exact .nil
    | cons h1 _ ih => exact .cons (.tup (SqT.of h1) (.cons (dp_sv _) (.cons (dp_sv _) (.cons (dp_sv _) .nil)))) ih
end Ed

/-! the law's world: read, going, notes -/
namespace Ed
open PySem L2 Cb
open Evl (Ev EvT)
section
variable {K : PySem.W.Frag} {H : Hp} {w : Addr} {A : EdA} {S : EdS} {Q : V → Prop}
theorem WoAt.g_text (h : WoAt K H w A S) (q : Q (sv S.text)) : ∃ a v, V.ref w = .ref a ∧ DGet H a (V.str ⟨#[116, 101, 120, 116]⟩) (some v) ∧ Q v := ⟨w, _, rfl, DGet.k (k := kk "text") h.own, q⟩
theorem WoAt.g_wins (h : WoAt K H w A S) (q : Q (.ref A.ws)) : ∃ a v, V.ref w = .ref a ∧ DGet H a (V.str ⟨#[119, 105, 110, 115]⟩) (some v) ∧ Q v := ⟨w, _, rfl, DGet.k (k := kk "wins") h.own, q⟩
theorem WoAt.g_active (h : WoAt K H w A S) (q : Q (iv S.active)) : ∃ a v, V.ref w = .ref a ∧ DGet H a (V.str ⟨#[97, 99, 116, 105, 118, 101]⟩) (some v) ∧ Q v := ⟨w, _, rfl, DGet.k (k := kk "active") h.own, q⟩
theorem WoAt.g_marks (h : WoAt K H w A S) (q : Q (.ref A.mks)) : ∃ a v, V.ref w = .ref a ∧ DGet H a (V.str ⟨#[109, 97, 114, 107, 115]⟩) (some v) ∧ Q v := ⟨w, _, rfl, DGet.k (k := kk "marks") h.own, q⟩
theorem WoAt.g_regs (h : WoAt K H w A S) (q : Q (.ref A.rg)) : ∃ a v, V.ref w = .ref a ∧ DGet H a (V.str ⟨#[114, 101, 103, 115]⟩) (some v) ∧ Q v := ⟨w, _, rfl, DGet.k (k := kk "regs") h.own, q⟩
theorem WoAt.g_pattern (h : WoAt K H w A S) (q : Q (pv S.pat)) : ∃ a v, V.ref w = .ref a ∧ DGet H a (V.str ⟨#[112, 97, 116, 116, 101, 114, 110]⟩) (some v) ∧ Q v := ⟨w, _, rfl, DGet.k (k := kk "pattern") h.own, q⟩
theorem WoAt.g_macros (h : WoAt K H w A S) (q : Q (.ref A.ma)) : ∃ a v, V.ref w = .ref a ∧ DGet H a (V.str ⟨#[109, 97, 99, 114, 111, 115]⟩) (some v) ∧ Q v := ⟨w, _, rfl, DGet.k (k := kk "macros") h.own, q⟩
theorem WoAt.g_taking (h : WoAt K H w A S) (q : Q (nm S.taking)) : ∃ a v, V.ref w = .ref a ∧ DGet H a (V.str ⟨#[116, 97, 107, 105, 110, 103]⟩) (some v) ∧ Q v := ⟨w, _, rfl, DGet.k (k := kk "taking") h.own, q⟩
theorem WoAt.g_taken (h : WoAt K H w A S) (q : Q (.ref A.tk)) : ∃ a v, V.ref w = .ref a ∧ DGet H a (V.str ⟨#[116, 97, 107, 101, 110]⟩) (some v) ∧ Q v := ⟨w, _, rfl, DGet.k (k := kk "taken") h.own, q⟩
theorem WoAt.g_last (h : WoAt K H w A S) (q : Q A.last) : ∃ a v, V.ref w = .ref a ∧ DGet H a (V.str ⟨#[108, 97, 115, 116]⟩) (some v) ∧ Q v := ⟨w, _, rfl, DGet.k (k := kk "last") h.own, q⟩
theorem WoAt.g_states (h : WoAt K H w A S) (q : Q (.ref A.st)) : ∃ a v, V.ref w = .ref a ∧ DGet H a (V.str ⟨#[115, 116, 97, 116, 101, 115]⟩) (some v) ∧ Q v := ⟨w, _, rfl, DGet.k (k := kk "states") h.own, q⟩
theorem WoAt.g_state (h : WoAt K H w A S) (q : Q (iv S.state)) : ∃ a v, V.ref w = .ref a ∧ DGet H a (V.str ⟨#[115, 116, 97, 116, 101]⟩) (some v) ∧ Q v := ⟨w, _, rfl, DGet.k (k := kk "state") h.own, q⟩
theorem WoAt.g_left (h : WoAt K H w A S) (q : Q (iv A.dx)) : ∃ a v, V.ref w = .ref a ∧ DGet H a (V.str ⟨#[108, 101, 102, 116]⟩) (some v) ∧ Q v := ⟨w, _, rfl, DGet.k (k := kk "left") h.own, q⟩
variable {p : Addr × Addr} {wi : Win}
theorem WiAt.g0 (h : WiAt K H p wi) (q : Q (iv wi.spot)) : ∃ xs v, (SqL K H p.1 xs ∨ SqT K H p.1 xs) ∧ atI xs (0 : Int) = some v ∧ Q v := ⟨_, _, .inl (SqL.of h), atI_nat (j := 0) rfl, q⟩
theorem WiAt.g1 (h : WiAt K H p wi) (q : Q (vo wi.anchor)) : ∃ xs v, (SqL K H p.1 xs ∨ SqT K H p.1 xs) ∧ atI xs (1 : Int) = some v ∧ Q v := ⟨_, _, .inl (SqL.of h), atI_nat (j := 1) rfl, q⟩
theorem WiAt.g2 (h : WiAt K H p wi) (q : Q (vo wi.column)) : ∃ xs v, (SqL K H p.1 xs ∨ SqT K H p.1 xs) ∧ atI xs (2 : Int) = some v ∧ Q v := ⟨_, _, .inl (SqL.of h), atI_nat (j := 2) rfl, q⟩
end
def sp_law_win (K : PySem.W.Frag) : Sp := fun vs H Q _ => ∃ (w : Addr) (A : EdA) (S : EdS), vs = [.ref w] ∧ WoAt K H w A S ∧ S.ok ∧ ∀ p, A.wa[S.active]? = some p → WiAt K H p S.cw → Q (.ref p.1) H
def b_law_win (K : PySem.W.Frag) : Ss K :=
  (Ss.cons (Sm.ret (Ex.ix (Ex.dix (Ex.v 0) (Ex.s ⟨#[119, 105, 110, 115]⟩)) (Ex.dix (Ex.v 0) (Ex.s ⟨#[97, 99, 116, 105, 118, 101]⟩))))
  Ss.nil)
def N_law_win : List Str := ["world"]
theorem rd_law_win (K : PySem.W.Frag) : ∀ vs H Q E, sp_law_win K vs H Q E → (b_law_win K).t { nx := fun _ H' => Q .non H', rt := Q } (start N_law_win vs) H := by
  rintro _ H Q E ⟨w, A, S, rfl, h, o, q⟩
  refine h.g_wins (h.g_active ?_)
  obtain ⟨p, hp, hw⟩ := h.winAt o.cw
  exact ⟨_, .ref p.1, .inl (SqL.of h.ws), atI_nat (by rw [List.getElem?_map, hp]; rfl), q p hp hw⟩
/-- the least of (at >= p, 0 - at) -/
def gBack (p : Nat) (y : Nat) : Bool × Int := (decide ((y : Int) ≥ (p : Int)), 0 - (y : Int))
theorem lt_gBack (p y b : Nat) : PySem.W.DatumOrd.lt (gBack p y) (gBack p b) = PySem.W.DatumOrd.lt (fBack p b) (fBack p y) := by
  rw [pair_lt, pair_lt]
  unfold gBack fBack
  by_cases h1 : (y : Int) < p <;> by_cases h2 : (b : Int) < p
  · have e1 : ¬ ((y : Int) ≥ p) := by omega
    have e2 : ¬ ((b : Int) ≥ p) := by omega
    simp [h1, h2, e1, e2]
  · have e1 : ¬ ((y : Int) ≥ p) := by omega
    have e2 : ((b : Int) ≥ p) := by omega
    simp only [h1, h2, e1, e2, decide_true, decide_false]
    rfl
  · have e1 : ((y : Int) ≥ p) := by omega
    have e2 : ¬ ((b : Int) ≥ p) := by omega
    simp only [h1, h2, e1, e2, decide_true, decide_false]
    rfl
  · have e1 : ((y : Int) ≥ p) := by omega
    have e2 : ((b : Int) ≥ p) := by omega
    simp only [h1, h2, e1, e2, decide_true, decide_false, if_pos]
    apply decide_eq_decide.mpr
    omega
theorem min_max (p : Nat) : ∀ (r : List Nat) (b : Nat), ∃ n, PySem.W.minOf (gBack p b) (r.map (gBack p)) = gBack p n ∧ PySem.W.maxOf (fBack p b) (r.map (fBack p)) = fBack p n
  | [], b => ⟨b, rfl, rfl⟩
  | y :: r, b => by
    have s1 : PySem.W.minOf (gBack p b) ((y :: r).map (gBack p)) = PySem.W.minOf (if PySem.W.DatumOrd.lt (gBack p y) (gBack p b) = true then gBack p y else gBack p b) (r.map (gBack p)) := rfl
    have s2 : PySem.W.maxOf (fBack p b) ((y :: r).map (fBack p)) = PySem.W.maxOf (if PySem.W.DatumOrd.lt (fBack p b) (fBack p y) = true then fBack p y else fBack p b) (r.map (fBack p)) := rfl
    rw [s1, s2, lt_gBack]
    cases PySem.W.DatumOrd.lt (fBack p b) (fBack p y) with
    | true => rw [if_pos rfl, if_pos rfl]; exact min_max p r y
    | false => rw [if_neg Bool.false_ne_true, if_neg Bool.false_ne_true]; exact min_max p r b
theorem min_back {p b : Nat} {r : List Nat} (hu : Up (b :: r)) : ∃ n, nextBack (b :: r) p = some n ∧ PySem.W.minOf (gBack p b) (r.map (gBack p)) = gBack p n := by
  obtain ⟨n, n1, n2⟩ := max_fold p r b hu
  obtain ⟨m, m1, m2⟩ := min_max p r b
  rw [n2] at m2
  have e : n = m := by
    have := congrArg Prod.snd m2
    have h : (n : Int) = (m : Int) := this
    omega
  subst e
  exact ⟨n, n1, m1⟩
theorem br_imp {b : Bool} {x x' y : Prop} (f : x → x') (h : br b x y) : br b x' y := by
  cases b with
  | true => exact f h
  | false => exact h
theorem back_row2 {K : PySem.W.Frag} {t : List Nat} {l : Addr} {g : Int} {c : Nat} {H H1 : Hp} {Q : VK} {P : Prop} (hl : H1 l = some (.lst ((Tx.rows t).map sv))) (ht : t.length ≤ 10000) (e : Xt H H1) (q : RetV (vo (Tx.toRow t g c)) H Q) (hP : sp_law_back K [.ref l, .int g, iv c] H1 Q E0 → P) :
    br (decide (0 ≤ g)) (∃ xs, (SqL K H1 l xs ∨ SqT K H1 l xs) ∧ br (decide (g < (xs.length : Int))) P (Q .non H1)) (Q .non H1) :=
  br_imp (fun ⟨xs, h1, h2⟩ => ⟨xs, h1, br_imp hP h2⟩) (back_row (K := K) hl ht e q)
def sp_law_goal (K : PySem.W.Frag) : Sp := fun vs H Q _ => ∃ (w : Addr) (A : EdA) (S : EdS) (s : Addr) (m : Mo), vs = [.ref w, .ref s] ∧ WoAt K H w A S ∧ S.ok ∧ H s = some (.tup m.vs) ∧ m.ok ∧ RetV (vo (S.goal m)) H Q
def t_law_goal_4 (K : PySem.W.Frag) : Ss K :=
  (Ss.cons (Sm.ret (Ex.call "goes" (sp_goes K) (As.cons (Ex.v 3) (As.cons (Ex.ix (Ex.v 2) (Ex.i 0)) (As.cons (Ex.v 1) As.nil)))))
  Ss.nil)
def t_law_goal_3 (K : PySem.W.Frag) : Ss K :=
  (Ss.cons (Sm.ite (Te.w (Tw.and (Te.cmp Cm.isin (Ex.ix (Ex.v 1) (Ex.i 0)) (Ex.tup (As.cons (Ex.s ⟨#[117, 112]⟩) (As.cons (Ex.s ⟨#[100, 111, 119, 110]⟩) As.nil)))) (Tw.one (Te.cmp Cm.isNot (Ex.ix (Ex.v 2) (Ex.i 2)) Ex.none))))
    (Ss.cons (Sm.set 8 (Ex.call "_law_rows" (sp_law_rows K) (As.cons (Ex.v 3) As.nil)))
    (Ss.cons (Sm.set 9 (Ex.add (Ex.ix (Ex.call "_law_spot" (sp_law_spot K) (As.cons (Ex.v 3) (As.cons (Ex.ix (Ex.v 2) (Ex.i 0)) As.nil))) (Ex.i 0)) (Ex.mul (Ex.ix (Ex.v 1) (Ex.i 1)) (Ex.ifx (Te.cmp Cm.eq (Ex.ix (Ex.v 1) (Ex.i 0)) (Ex.s ⟨#[100, 111, 119, 110]⟩)) (Ex.i 1) (Ex.neg 1)))))
    (Ss.cons (Sm.ret (Ex.ifx (Te.chain Cm.le Cm.lt (Ex.i 0) (Ex.v 9) (Ex.len (As.cons (Ex.v 8) As.nil))) (Ex.call "_law_back" (sp_law_back K) (As.cons (Ex.v 8) (As.cons (Ex.v 9) (As.cons (Ex.ix (Ex.v 2) (Ex.i 2)) As.nil)))) Ex.none))
    Ss.nil)))
    Ss.nil)
  (t_law_goal_4 K))
def t_law_goal_2 (K : PySem.W.Frag) : Ss K :=
  (Ss.cons (Sm.ite (Te.cmp Cm.isin (Ex.ix (Ex.v 1) (Ex.i 0)) (Ex.tup (As.cons (Ex.s ⟨#[97, 103, 97, 105, 110]⟩) (As.cons (Ex.s ⟨#[98, 101, 102, 111, 114, 101]⟩) As.nil))))
    (Ss.cons (Sm.ite (Te.cmp Cm.is (Ex.dix (Ex.v 0) (Ex.s ⟨#[112, 97, 116, 116, 101, 114, 110]⟩)) Ex.none)
      (Ss.cons (Sm.ret Ex.none)
      Ss.nil)
      Ss.nil)
    (Ss.cons (Sm.set 4 (Ex.call "_law_starts" (sp_law_starts K) (As.cons (Ex.v 3) (As.cons (Ex.dix (Ex.v 0) (Ex.s ⟨#[112, 97, 116, 116, 101, 114, 110]⟩)) As.nil))))
    (Ss.cons (Sm.set 5 (Ex.cmp Cm.eq (Ex.ix (Ex.v 1) (Ex.i 0)) (Ex.s ⟨#[97, 103, 97, 105, 110]⟩)))
    (Ss.cons (Sm.setLc 6 [("at", 7)] (Ir.list (Ex.v 4)) (Tg.v 7) Ifs.no (Ex.ifx (Te.val (Ex.v 5)) (Ex.tup (As.cons (Ex.cmp Cm.le (Ex.v 7) (Ex.ix (Ex.v 2) (Ex.i 0))) (As.cons (Ex.v 7) As.nil))) (Ex.tup (As.cons (Ex.cmp Cm.ge (Ex.v 7) (Ex.ix (Ex.v 2) (Ex.i 0))) (As.cons (Ex.sub (Ex.i 0) (Ex.v 7)) As.nil)))))
    (Ss.cons (Sm.ret (Ex.ifx (Te.cmp Cm.ne (Ex.v 4) (Ex.lst As.nil)) (Ex.abs (As.cons (Ex.ix (Ex.minP (As.cons (Ex.v 6) As.nil)) (Ex.i 1)) As.nil)) Ex.none))
    Ss.nil)))))
    Ss.nil)
  (t_law_goal_3 K))
def t_law_goal_1 (K : PySem.W.Frag) : Ss K :=
  (Ss.cons (Sm.ite (Te.cmp Cm.eq (Ex.ix (Ex.v 1) (Ex.i 0)) (Ex.s ⟨#[109, 97, 114, 107]⟩))
    (Ss.cons (Sm.ret (Ex.dget (Ex.dix (Ex.v 0) (Ex.s ⟨#[109, 97, 114, 107, 115]⟩)) (Ex.ix (Ex.v 1) (Ex.i 1))))
    Ss.nil)
    Ss.nil)
  (t_law_goal_2 K))
def b_law_goal (K : PySem.W.Frag) : Ss K :=
  (Ss.cons (Sm.set 2 (Ex.call "_law_win" (sp_law_win K) (As.cons (Ex.v 0) As.nil)))
  (Ss.cons (Sm.set 3 (Ex.dix (Ex.v 0) (Ex.s ⟨#[116, 101, 120, 116]⟩)))
  (t_law_goal_1 K)))
def N_law_goal : List Str := ["world", "motion", "win", "text", "some", "on", "keys", "at", "rows", "row"]
def Mo.needs : Mo → Bool
  | .mark _ => true | .again => true | .before => true | _ => false
theorem goal_goes (S : EdS) (m : Mo) (h1 : m.needs = false) (h2 : m.ud = true → S.cw.column = none) : S.goal m = goBy S.text S.cw.spot (Tx.colOf S.text S.cw.spot) (fun _ => none) none m := by
  have hc : m.ud = true → S.col = Tx.colOf S.text S.cw.spot := fun h => by unfold EdS.col; rw [h2 h]; rfl
  unfold EdS.goal
  cases m with
  | up n => show Tx.toRow _ _ S.col = _; rw [hc rfl]; rfl
  | down n => show Tx.toRow _ _ S.col = _; rw [hc rfl]; rfl
  | mark _ => cases h1
  | again => cases h1
  | before => cases h1
  | _ => rfl
def gsig (w s : Addr) (p : Addr × Addr) (t : List Nat) : L2.St := [some (.ref w), some (.ref s), some (.ref p.1), some (sv t), none, none, none, none, none, none]
theorem rd_goal_4 (K : PySem.W.Frag) {w s : Addr} {p : Addr × Addr} {S : EdS} {m : Mo} {H H1 : Hp} {Q : VK} (o : S.ok) (hw : WiAt K H1 p S.cw) (e1 : Xt H H1) (hs : H1 s = some (.tup m.vs)) (hm : m.ok) (h1 : m.needs = false) (h2 : m.ud = true → S.cw.column = none) (q : RetV (vo (S.goal m)) H Q) :
    (t_law_goal_4 K).t { nx := fun _ H' => Q .non H', rt := Q } (gsig w s p S.text) H1 := by
  refine hw.g0 ?_
  rw [goal_goes S m h1 h2] at q
  exact ⟨S.text, S.cw.spot, s, m, rfl, hs, hm, o.txt, o.spot, fun H2 e2 => q H2 (e1.trans e2)⟩
theorem rd_goal_3 (K : PySem.W.Frag) {w s : Addr} {p : Addr × Addr} {S : EdS} {m : Mo} {H H1 : Hp} {Q : VK} (o : S.ok) (hw : WiAt K H1 p S.cw) (e1 : Xt H H1) (hs : H1 s = some (.tup m.vs)) (hm : m.ok) (h1 : m.needs = false) (q : RetV (vo (S.goal m)) H Q) :
    (t_law_goal_3 K).t { nx := fun _ H' => Q .non H', rt := Q } (gsig w s p S.text) H1 := by
  have htl : S.text.length ≤ 200 := o.txt.1
  refine ⟨_, _, .inr (SqT.of hs), atI_nat (j := 0) rfl, by decide, fun T hT => ⟨T, _, rfl, .inr (SqT.of upd_same), rfl, rfl, ?_⟩⟩
  show br (inV (sv m.name) [sv w_up, sv w_down]) _ _
  rw [name_ud]
  have x2 := xt_new (o := .tup [sv w_up, sv w_down]) hT
  have hw2 : WiAt K _ p S.cw := x2 _ _ hw
  have hs2 := x2 _ _ hs
  cases hud : m.ud with
  | false => exact rd_goal_4 K o hw2 (e1.trans x2) hs2 hm h1 (fun z => by rw [hud] at z; cases z) q
  | true =>
    refine hw2.g2 ?_
    cases hc : S.cw.column with
    | none => exact rd_goal_4 K o hw2 (e1.trans x2) hs2 hm h1 (fun _ => hc) q
    | some c =>
      have ec : S.col = c := by unfold EdS.col; rw [hc]; rfl
      refine ⟨S.text, rfl, by omega, fun l H3 hl e3 h3 => ?_⟩
      have hw3 : WiAt K H3 p S.cw := e3 _ _ hw2
      have hs3 := e3 _ _ hs2
      refine hw3.g0 ⟨S.text, S.cw.spot, rfl, by omega, o.spot, fun R H4 hR e4 h4 => ?_⟩
      have hw4 : WiAt K H4 p S.cw := e4 _ _ hw3
      have hs4 := e4 _ _ hs3
      have hl4 := e4 _ _ h3
      have e5 := ((e1.trans x2).trans e3).trans e4
      refine ⟨_, _, .inr (SqT.of h4), atI_nat (j := 0) rfl, ?_⟩
      have tail : ∀ g : Int, Tx.toRow S.text g c = S.goal m → br (decide (0 ≤ g)) (∃ xs, (SqL K H4 l xs ∨ SqT K H4 l xs) ∧ br (decide (g < (xs.length : Int))) (∃ xs v, (SqL K H4 p.1 xs ∨ SqT K H4 p.1 xs) ∧ atI xs (2 : Int) = some v ∧ sp_law_back K [.ref l, .int g, v] H4 Q E0) (Q .non H4)) (Q .non H4) := by
        intro g hg
        rw [← hg] at q
        exact back_row2 (K := K) hl4 (by omega) e5 q fun z => hw4.g2 (by rw [hc]; exact z)
      cases m with
      | up n =>
        refine ⟨_, _, .inr (SqT.of hs4), atI_nat (j := 1) rfl, ⟨_, _, .inr (SqT.of hs4), atI_nat (j := 0) rfl, .inr ⟨by decide, by decide⟩, ?_⟩⟩
        have g := tail ((Tx.rowOf S.text S.cw.spot : Int) - n) (by unfold EdS.goal; rw [ec]; rfl)
        rw [← show ((Tx.rowOf S.text S.cw.spot : Nat) : Int) + (n : Int) * -1 = (Tx.rowOf S.text S.cw.spot : Int) - n by omega] at g
        exact g
      | down n =>
        refine ⟨_, _, .inr (SqT.of hs4), atI_nat (j := 1) rfl, ⟨_, _, .inr (SqT.of hs4), atI_nat (j := 0) rfl, .inr ⟨by decide, by decide⟩, ?_⟩⟩
        have g := tail ((Tx.rowOf S.text S.cw.spot : Int) + n) (by unfold EdS.goal; rw [ec]; rfl)
        rw [← show ((Tx.rowOf S.text S.cw.spot : Nat) : Int) + (n : Int) * 1 = (Tx.rowOf S.text S.cw.spot : Int) + n by omega] at g
        exact g
      | _ => cases hud
theorem name_ab (m : Mo) : inV (sv m.name) [sv w_again, sv w_before] = (match m with | .again => true | .before => true | _ => false) := by cases m <;> rfl
theorem lc_pairs2 {K : PySem.W.Frag} {a : Addr} (xs : List Nat) (f : Nat → Bool × Int) {k : Nat} {te : TE} {σ : L2.St} {H1 : Hp} {Q : VK}
    (ha : H1 a = some (.lst (nats xs))) (hl : xs.length < 100000) (hw : ∀ v, wipe ((wipe σ [k]).set k v) [k] = wipe σ [k])
    (hs : ∀ y ∈ xs, ∀ (H3 : Hp) (Qd : VK), Xt H1 H3 → (∀ T, H3 T = none → Qd (.ref T) (upd H3 T (.tup [.bl (f y).1, .int (f y).2]))) → te ((wipe σ [k]).set k (some (iv y))) H3 Qd)
    (hd : ∀ D H rs, H D = some (.lst (rs.map V.ref)) → Pairs H rs (xs.map f) → Xt H1 H → Q (.ref D) H) :
    LcT (Itl K a) (gName k) tYes te [k] σ H1 Q := by
  refine lc_walkI (walk_list (xs := nats xs)) (fun D i H' => ∃ rs, H' D = some (.lst (rs.map V.ref)) ∧ Pairs H' rs ((xs.take i).map f) ∧ Xt H1 H') ?_ ?_ ?_ ?_
  · intro D hD
    exact ⟨[], upd_same, trivial, xt_new hD⟩
  · rintro D i H hD hi ⟨rs, h1, h2, h3⟩
    exact SqL.of (h3 a _ ha)
  · rintro D i x H H' hD hi ⟨rs, h1, h2, h3⟩ ⟨rfl, hx⟩
    have hi' : i < xs.length := by simpa [nats] using hi
    have hx' : x = iv xs[i] := by
      unfold nats at hx
      rw [List.getElem?_map, List.getElem?_eq_getElem hi'] at hx
      cases hx; rfl
    subst hx'
    refine ⟨hw _, ?_⟩
    show te _ H' _
    refine hs xs[i] (List.getElem_mem hi') H' _ h3 fun T hT => ?_
    have hDT : D ≠ T := fun e => by rw [← e, h1] at hT; cases hT
    have hlen := Pairs.len h2
    refine ⟨rs.map V.ref, ?_, szl ?_, rs ++ [T], ?_, ?_, ?_⟩
    · rw [upd_ne hDT]; exact h1
    · simp at hlen ⊢; omega
    · rw [upd_same]; simp
    · rw [take_snoc (List.getElem?_eq_getElem hi'), List.map_append]
      refine Pairs.snoc ?_ (Pairs.to h2 fun r p hr => ?_)
      · rw [upd_ne (Ne.symm hDT), upd_same]
      · have hrD : r ≠ D := fun e => by rw [e, h1] at hr; cases hr
        rw [upd_ne hrD]
        exact (xt_new hT) r _ hr
    · exact xt_mut (h3.trans (xt_new hT)) hD
  · rintro D H hD ⟨rs, h1, h2, h3⟩
    have : xs.take (nats xs).length = xs := by simp [nats]
    rw [this] at h2
    exact hd D H rs h1 h2 h3
theorem abs_neg' (n : Nat) : (if (0 - (n : Int)) < 0 then -(0 - (n : Int)) else (0 - (n : Int))) = (n : Int) := by split <;> omega
theorem abs_pos' (n : Nat) : (if (n : Int) < 0 then -(n : Int) else (n : Int)) = (n : Int) := by split <;> omega
theorem rd_goal_lc (K : PySem.W.Frag) {w s l : Addr} {p : Addr × Addr} {wi : Win} {t z : List Nat} {on : Bool} {H : Hp} {Q : VK} (hw : WiAt K H p wi) (hl : H l = some (.lst (nats (foundAt t z)))) (ht : t.length ≤ 200) (q : RetV (vo (if on then nextOn (foundAt t z) wi.spot else nextBack (foundAt t z) wi.spot)) H Q) :
    (Ss.cons (K := K) (Sm.setLc 6 [("at", 7)] (Ir.list (Ex.v 4)) (Tg.v 7) Ifs.no (Ex.ifx (Te.val (Ex.v 5)) (Ex.tup (As.cons (Ex.cmp Cm.le (Ex.v 7) (Ex.ix (Ex.v 2) (Ex.i 0))) (As.cons (Ex.v 7) As.nil))) (Ex.tup (As.cons (Ex.cmp Cm.ge (Ex.v 7) (Ex.ix (Ex.v 2) (Ex.i 0))) (As.cons (Ex.sub (Ex.i 0) (Ex.v 7)) As.nil)))))
    (Ss.cons (Sm.ret (Ex.ifx (Te.cmp Cm.ne (Ex.v 4) (Ex.lst As.nil)) (Ex.abs (As.cons (Ex.ix (Ex.minP (As.cons (Ex.v 6) As.nil)) (Ex.i 1)) As.nil)) Ex.none))
    Ss.nil)).t { nx := fun _ H' => Q .non H', rt := Q } [some (.ref w), some (.ref s), some (.ref p.1), some (sv t), some (.ref l), some (.bl on), none, none, none, none] H := by
  have hlen := found_len t z
  have hup := found_up t z
  have after : ∀ (D : Addr) (f : Nat → Bool × Int) (H1 : Hp) (rs : List Addr), H1 D = some (.lst (rs.map V.ref)) → Pairs H1 rs ((foundAt t z).map f) → Xt H H1 →
      (∀ b r, foundAt t z = b :: r → ∃ n, (if on then nextOn (foundAt t z) wi.spot else nextBack (foundAt t z) wi.spot) = some n ∧ (if (PySem.W.minOf (f b) (r.map f)).2 < 0 then -(PySem.W.minOf (f b) (r.map f)).2 else (PySem.W.minOf (f b) (r.map f)).2) = (n : Int)) →
      (Ss.cons (K := K) (Sm.ret (Ex.ifx (Te.cmp Cm.ne (Ex.v 4) (Ex.lst As.nil)) (Ex.abs (As.cons (Ex.ix (Ex.minP (As.cons (Ex.v 6) As.nil)) (Ex.i 1)) As.nil)) Ex.none)) Ss.nil).t { nx := fun _ H' => Q .non H', rt := Q } [some (.ref w), some (.ref s), some (.ref p.1), some (sv t), some (.ref l), some (.bl on), some (.ref D), none, none, none] H1 := by
    intro D f H1 rs d1 d2 d3 hn
    refine ⟨by decide, fun le hle => ?_⟩
    have x2 := xt_new (o := .lst []) hle
    have h2 := x2 l _ (d3 l _ hl)
    have h2i := h2
    rw [nats_ints] at h2i
    refine ⟨_, _, .lst (SqL.of h2i) (dp_ints _), .lst (SqL.of upd_same) .nil, ints_shaped _, nil_shaped, ?_⟩
    rw [eqv_nil]
    cases hx : foundAt t z with
    | nil =>
      have := q _ (d3.trans x2)
      rw [hx] at this
      cases on <;> exact this
    | cons b r =>
      obtain ⟨n, n1, n2⟩ := hn b r hx
      rw [hx, List.map_cons] at d2
      refine ⟨rs, f b, r.map f, x2 _ _ d1, Pairs.to d2 (fun r p hr => x2 r _ hr), fun T hT => ?_⟩
      refine ⟨_, _, .inr (SqT.of hT), atI_nat (j := 1) rfl, ?_⟩
      have := q _ (d3.trans x2)
      rw [n1] at this
      show Q (.int _) _
      rw [n2]
      exact this
  cases on with
  | true =>
    refine ⟨l, rfl, ⟨_, SqL.of hl⟩, lc_pairs2 (foundAt t z) (fOn wi.spot) hl (by omega) (fun _ => rfl) ?_ ?_⟩
    · intro y hy H3 Qd e3 hQ
      have hw3 : WiAt K H3 p wi := e3 _ _ hw
      exact hw3.g0 ⟨by show 2 ≤ sizeLine; decide, fun T hT => hQ T hT⟩
    · intro D H3 rs d1 d2 d3
      refine after D (fOn wi.spot) H3 rs d1 d2 d3 fun b r hbr => ?_
      rw [hbr] at hup ⊢
      obtain ⟨n, n1, n2⟩ := min_on (p := wi.spot) hup
      exact ⟨n, n1, by rw [n2]; exact abs_pos' n⟩
  | false =>
    refine ⟨l, rfl, ⟨_, SqL.of hl⟩, lc_pairs2 (foundAt t z) (gBack wi.spot) hl (by omega) (fun _ => rfl) ?_ ?_⟩
    · intro y hy H3 Qd e3 hQ
      have hw3 : WiAt K H3 p wi := e3 _ _ hw
      exact hw3.g0 ⟨by show 2 ≤ sizeLine; decide, fun T hT => hQ T hT⟩
    · intro D H3 rs d1 d2 d3
      refine after D (gBack wi.spot) H3 rs d1 d2 d3 fun b r hbr => ?_
      rw [hbr] at hup ⊢
      obtain ⟨n, n1, n2⟩ := min_back (p := wi.spot) hup
      exact ⟨n, n1, by rw [n2]; exact abs_neg' n⟩
theorem rd_goal_2 (K : PySem.W.Frag) {w s : Addr} {p : Addr × Addr} {A : EdA} {S : EdS} {m : Mo} {H H1 : Hp} {Q : VK} (h : WoAt K H1 w A S) (o : S.ok) (hw : WiAt K H1 p S.cw) (e1 : Xt H H1) (hs : H1 s = some (.tup m.vs)) (hm : m.ok) (h1 : ∀ x, m ≠ .mark x) (q : RetV (vo (S.goal m)) H Q) :
    (t_law_goal_2 K).t { nx := fun _ H' => Q .non H', rt := Q } (gsig w s p S.text) H1 := by
  have htl : S.text.length ≤ 200 := o.txt.1
  refine ⟨_, _, .inr (SqT.of hs), atI_nat (j := 0) rfl, by decide, fun T hT => ⟨T, _, rfl, .inr (SqT.of upd_same), rfl, rfl, ?_⟩⟩
  show br (inV (sv m.name) [sv w_again, sv w_before]) _ _
  rw [name_ab]
  have x2 := xt_new (o := .tup [sv w_again, sv w_before]) hT
  have hw2 : WiAt K _ p S.cw := x2 _ _ hw
  have hs2 := x2 _ _ hs
  have h2 := h.xt x2
  have main : ∀ on : Bool, V.bl (decide ((⟨m.name.toArray⟩ : Str) = ⟨#[97, 103, 97, 105, 110]⟩)) = V.bl on → (∀ z, S.pat = some z → S.goal m = if on then nextOn (foundAt S.text z) S.cw.spot else nextBack (foundAt S.text z) S.cw.spot) → (S.pat = none → S.goal m = none) → br true
      ((Ss.cons (K := K) (Sm.ite (Te.cmp Cm.is (Ex.dix (Ex.v 0) (Ex.s ⟨#[112, 97, 116, 116, 101, 114, 110]⟩)) Ex.none)
      (Ss.cons (Sm.ret Ex.none)
      Ss.nil)
      Ss.nil)
    (Ss.cons (Sm.set 4 (Ex.call "_law_starts" (sp_law_starts K) (As.cons (Ex.v 3) (As.cons (Ex.dix (Ex.v 0) (Ex.s ⟨#[112, 97, 116, 116, 101, 114, 110]⟩)) As.nil))))
    (Ss.cons (Sm.set 5 (Ex.cmp Cm.eq (Ex.ix (Ex.v 1) (Ex.i 0)) (Ex.s ⟨#[97, 103, 97, 105, 110]⟩)))
    (Ss.cons (Sm.setLc 6 [("at", 7)] (Ir.list (Ex.v 4)) (Tg.v 7) Ifs.no (Ex.ifx (Te.val (Ex.v 5)) (Ex.tup (As.cons (Ex.cmp Cm.le (Ex.v 7) (Ex.ix (Ex.v 2) (Ex.i 0))) (As.cons (Ex.v 7) As.nil))) (Ex.tup (As.cons (Ex.cmp Cm.ge (Ex.v 7) (Ex.ix (Ex.v 2) (Ex.i 0))) (As.cons (Ex.sub (Ex.i 0) (Ex.v 7)) As.nil)))))
    (Ss.cons (Sm.ret (Ex.ifx (Te.cmp Cm.ne (Ex.v 4) (Ex.lst As.nil)) (Ex.abs (As.cons (Ex.ix (Ex.minP (As.cons (Ex.v 6) As.nil)) (Ex.i 1)) As.nil)) Ex.none))
    Ss.nil))))).t { nx := fun _ H' => Q .non H', rt := Q } (gsig w s p S.text) (upd H1 T (.tup [sv w_again, sv w_before]))) True := by
    intro on hon hg1 hg2
    refine h2.g_pattern ?_
    cases hp : S.pat with
    | none => 
      rw [hg2 hp] at q
      exact q _ (e1.trans x2)
    | some z =>
      have hz := o.pat z hp
      refine h2.g_pattern ?_
      rw [hp]
      refine ⟨S.text, z, rfl, by omega, by omega, fun l H3 hl e3 h3 => ?_⟩
      have hs3 := e3 _ _ hs2
      have hw3 : WiAt K H3 p S.cw := e3 _ _ hw2
      have e13 := (e1.trans x2).trans e3
      refine ⟨_, _, .inr (SqT.of hs3), atI_nat (j := 0) rfl, ?_⟩
      rw [hg1 z hp] at q
      have g := rd_goal_lc K (w := w) (s := s) (on := on) hw3 h3 htl (fun H5 e5 => q H5 (e13.trans e5))
      rw [← hon] at g
      exact g
  cases m with
  | mark x => exact absurd rfl (h1 x)
  | again => exact main true rfl (fun z hz => by unfold EdS.goal; rw [hz]; rfl) (fun hz => by unfold EdS.goal; rw [hz]; rfl)
  | before => exact main false rfl (fun z hz => by unfold EdS.goal; rw [hz]; rfl) (fun hz => by unfold EdS.goal; rw [hz]; rfl)
  | _ => exact rd_goal_3 K o hw2 (e1.trans x2) hs2 hm rfl q
theorem rd_law_goal (K : PySem.W.Frag) : ∀ vs H Q E, sp_law_goal K vs H Q E → (b_law_goal K).t { nx := fun _ H' => Q .non H', rt := Q } (start N_law_goal vs) H := by
  rintro _ H Q E ⟨w, A, S, s, m, rfl, h, o, hs, hm, q⟩
  refine ⟨w, A, S, rfl, h, o, fun p hp hw => h.g_text ?_⟩
  refine ⟨_, _, .inr (SqT.of hs), atI_nat (j := 0) rfl, ?_⟩
  have go2 : (∀ x, m ≠ .mark x) → (t_law_goal_2 K).t { nx := fun _ H' => Q .non H', rt := Q } (gsig w s p S.text) H := fun h1 => rd_goal_2 K h o hw (Xt.refl H) hs hm h1 q
  cases m with
  | mark x =>
    refine h.g_marks ⟨A.mks, rfl, .inl ⟨_, .inl h.mks⟩, ⟨_, _, .inr (SqT.of hs), atI_nat (j := 1) rfl, ⟨_, DGet.k (k := key x) h.mks, ?_⟩⟩⟩
    have := q H (Xt.refl H)
    have e : (valV (mksK S.marks) (key x)).getD .non = vo (S.goal (.mark x)) := markOk S.marks x
    rw [e]
    exact this
  | _ => exact go2 (fun x z => nomatch z)
end Ed

/-! the law's world: areas, notes, going, deeds -/
namespace Ed
open PySem L2 Cb
open Evl (Ev EvT)
/-- what a function of the law does to its world -/
abbrev RetW (K : PySem.W.Frag) (e : Addr) (A : EdA) (H : Hp) (r : Told × EdS) (Q : VK) : Prop := ∀ A' H', StepW K e A H A' r.2 H' → Q (tv r.1) H'
def sp_law_area_in (K : PySem.W.Frag) : Sp := fun vs H Q _ => ∃ (w : Addr) (A : EdA) (S : EdS) (s : Addr) (r : Ar), vs = [.ref w, .ref s] ∧ WoAt K H w A S ∧ S.ok ∧ ArAt H s r ∧ r.ok ∧
  (S.area r = none → RetV .non H Q) ∧ ∀ k, S.area r = some k → RetT (areaV k) H Q
def t_law_area_in_1 (K : PySem.W.Frag) : Ss K :=
  (Ss.cons (Sm.ite (Te.w (Tw.or (Te.cmp Cm.is (Ex.v 3) Ex.none) (Tw.one (Te.cmp Cm.eq (Ex.v 3) (Ex.ix (Ex.v 2) (Ex.i 0))))))
    (Ss.cons (Sm.ret Ex.none)
    Ss.nil)
    Ss.nil)
  (Ss.cons (Sm.ret (Ex.tup (As.cons (Ex.s ⟨#[115, 105, 103, 110, 115]⟩) (As.cons (Ex.min (As.cons (Ex.ix (Ex.v 2) (Ex.i 0)) (As.cons (Ex.v 3) As.nil))) (As.cons (Ex.max (As.cons (Ex.ix (Ex.v 2) (Ex.i 0)) (As.cons (Ex.v 3) As.nil))) As.nil)))))
  Ss.nil))
def b_law_area_in (K : PySem.W.Frag) : Ss K :=
  (Ss.cons (Sm.set 2 (Ex.call "_law_win" (sp_law_win K) (As.cons (Ex.v 0) As.nil)))
  (Ss.cons (Sm.ite (Te.cmp Cm.notIn (Ex.ix (Ex.v 1) (Ex.i 0)) (Ex.tup (As.cons (Ex.s ⟨#[98, 121]⟩) (As.cons (Ex.s ⟨#[99, 104, 111, 115, 101, 110]⟩) As.nil))))
    (Ss.cons (Sm.ret (Ex.call "area_of" (sp_area_of K) (As.cons (Ex.dix (Ex.v 0) (Ex.s ⟨#[116, 101, 120, 116]⟩)) (As.cons (Ex.ix (Ex.v 2) (Ex.i 0)) (As.cons (Ex.v 1) As.nil)))))
    Ss.nil)
    Ss.nil)
  (Ss.cons (Sm.set 3 (Ex.ix (Ex.v 2) (Ex.i 1)))
  (Ss.cons (Sm.ite (Te.cmp Cm.eq (Ex.ix (Ex.v 1) (Ex.i 0)) (Ex.s ⟨#[98, 121]⟩))
    (Ss.cons (Sm.set 3 (Ex.call "_law_goal" (sp_law_goal K) (As.cons (Ex.v 0) (As.cons (Ex.ix (Ex.v 1) (Ex.i 1)) As.nil))))
    Ss.nil)
    Ss.nil)
  (t_law_area_in_1 K)))))
def N_law_area_in : List Str := ["world", "area", "win", "other"]
def Ar.free : Ar → Bool
  | .mot _ => false | .chosen => false | _ => true
theorem area_free (S : EdS) (r : Ar) (h : r.free = true) : areaBy S.text S.cw.spot (Tx.colOf S.text S.cw.spot) (fun _ => none) none none r = (S.area r).map areaV := by
  rw [areaK_eq]
  cases r with
  | mot _ => cases h
  | chosen => cases h
  | _ => rfl
theorem int_min (a b : Nat) : min (a : Int) (b : Int) = ((min a b : Nat) : Int) := by omega
theorem int_max (a b : Nat) : max (a : Int) (b : Int) = ((max a b : Nat) : Int) := by omega
theorem rd_area_in_1 (K : PySem.W.Frag) {w s : Addr} {p : Addr × Addr} {S : EdS} {r : Ar} {oth : Option Nat} {H H1 : Hp} {Q : VK} (hw : WiAt K H1 p S.cw) (e1 : Xt H H1) (ha : S.area r = signsK (oth.map (span S.cw.spot)))
    (q1 : S.area r = none → RetV .non H Q) (q2 : ∀ k, S.area r = some k → RetT (areaV k) H Q) :
    (t_law_area_in_1 K).t { nx := fun _ H' => Q .non H', rt := Q } [some (.ref w), some (.ref s), some (.ref p.1), some (vo oth)] H1 := by
  cases oth with
  | none => exact q1 ha H1 e1
  | some g =>
    refine hw.g0 ?_
    have ha' : S.area r = if min S.cw.spot g = max S.cw.spot g then none else some (false, min S.cw.spot g, max S.cw.spot g) := ha
    refine br_d (fun hg => ?_) (fun hg => ?_)
    · refine q1 ?_ H1 e1
      rw [ha', if_pos (by omega)]
    · rw [if_neg (by omega)] at ha'
      refine hw.g0 (hw.g0 ⟨by show 3 ≤ sizeLine; decide, fun T hT => ?_⟩)
      show Q (.ref T) (upd H1 T (.tup [sv w_signs, .int (min (S.cw.spot : Int) (g : Int)), .int (max (S.cw.spot : Int) (g : Int))]))
      rw [int_min, int_max]
      exact q2 _ ha' T _ (xt_none e1 hT) (e1.trans (xt_new hT)) upd_same
theorem rd_law_area_in (K : PySem.W.Frag) : ∀ vs H Q E, sp_law_area_in K vs H Q E → (b_law_area_in K).t { nx := fun _ H' => Q .non H', rt := Q } (start N_law_area_in vs) H := by
  rintro _ H Q E ⟨w, A, S, s, r, rfl, h, o, hs, hr, q1, q2⟩
  refine ⟨w, A, S, rfl, h, o, fun p hp hw => ?_⟩
  have free : r.free = true → ∀ H1, Xt H H1 → (∃ a v, V.ref w = .ref a ∧ DGet H1 a (V.str ⟨#[116, 101, 120, 116]⟩) (some v) ∧ ∃ xs v', (SqL K H1 p.1 xs ∨ SqT K H1 p.1 xs) ∧ atI xs (0 : Int) = some v' ∧ sp_area_of K [v, v', .ref s] H1 Q E0) := by
    intro hf H1 e1
    have h1 := h.xt e1
    have hw1 : WiAt K H1 p S.cw := e1 _ _ hw
    refine h1.g_text (hw1.g0 ⟨S.text, S.cw.spot, s, r, rfl, hs.to e1, hr, o.txt, o.spot, ?_, ?_⟩)
    · intro z
      rw [area_free S r hf] at z
      refine fun H2 e2 => q1 ?_ H2 (e1.trans e2)
      cases hk : S.area r with
      | none => rfl
      | some k => rw [hk] at z; cases z
    · intro vs z T H2 hT e2
      rw [area_free S r hf] at z
      obtain ⟨k, hk, rfl⟩ := Option.map_eq_some_iff.mp z
      exact q2 k hk T H2 (xt_none e1 hT) (e1.trans e2)
  cases r with
  | mot m =>
    obtain ⟨a, hs1, hs2⟩ := hs
    refine ⟨_, _, .inr (SqT.of hs1), atI_nat (j := 0) rfl, by decide, fun T hT => ⟨T, _, rfl, .inr (SqT.of upd_same), rfl, rfl, ?_⟩⟩
    have x1 := xt_new (o := .tup [sv w_by, sv w_chosen]) hT
    have hw1 : WiAt K _ p S.cw := x1 _ _ hw
    have hs1' := x1 _ _ hs1
    refine hw1.g1 ⟨_, _, .inr (SqT.of hs1'), atI_nat (j := 0) rfl, ⟨_, _, .inr (SqT.of hs1'), atI_nat (j := 1) rfl, ?_⟩⟩
    refine ⟨w, A, S, a, m, rfl, h.xt x1, o, x1 _ _ hs2, hr, fun H2 e2 => ?_⟩
    exact rd_area_in_1 K (r := .mot m) (e2 _ _ hw1) (x1.trans e2) rfl q1 q2
  | chosen =>
    refine ⟨_, _, .inr (SqT.of hs), atI_nat (j := 0) rfl, by decide, fun T hT => ⟨T, _, rfl, .inr (SqT.of upd_same), rfl, rfl, ?_⟩⟩
    have x1 := xt_new (o := .tup [sv w_by, sv w_chosen]) hT
    have hw1 : WiAt K _ p S.cw := x1 _ _ hw
    refine hw1.g1 ⟨_, _, .inr (SqT.of (x1 _ _ hs)), atI_nat (j := 0) rfl, ?_⟩
    exact rd_area_in_1 K (r := .chosen) hw1 x1 rfl q1 q2
  | rows n =>
    refine ⟨_, _, .inr (SqT.of hs), atI_nat (j := 0) rfl, by decide, fun T hT => ⟨T, _, rfl, .inr (SqT.of upd_same), rfl, rfl, ?_⟩⟩
    exact free rfl _ (xt_new hT)
  | word =>
    refine ⟨_, _, .inr (SqT.of hs), atI_nat (j := 0) rfl, by decide, fun T hT => ⟨T, _, rfl, .inr (SqT.of upd_same), rfl, rfl, ?_⟩⟩
    exact free rfl _ (xt_new hT)
  | inside c d =>
    refine ⟨_, _, .inr (SqT.of hs), atI_nat (j := 0) rfl, by decide, fun T hT => ⟨T, _, rfl, .inr (SqT.of upd_same), rfl, rfl, ?_⟩⟩
    exact free rfl _ (xt_new hT)
/-! ### notes -/
def sp_law_noted (K : PySem.W.Frag) : Sp := fun vs H Q _ => ∃ (w : Addr) (A : EdA) (S : EdS) (x : V) (d : De), vs = [.ref w, x] ∧ WoAt K H w A S ∧ S.ok ∧ DeAt H x d ∧ d.ok ∧ d.isNote = true ∧ RetW K w A H (notedE S d) Q
def b_law_noted (K : PySem.W.Frag) : Ss K :=
  (Ss.cons (Sm.set 2 (Ex.call "_law_win" (sp_law_win K) (As.cons (Ex.v 0) As.nil)))
  (Ss.cons (Sm.ite (Te.cmp Cm.eq (Ex.ix (Ex.v 1) (Ex.i 0)) (Ex.s ⟨#[99, 104, 111, 111, 115, 101]⟩))
    (Ss.cons (Sm.asg (Tg.ix (Ex.v 2) (Ex.i 1)) (Ex.ifx (Te.cmp Cm.is (Ex.ix (Ex.v 2) (Ex.i 1)) Ex.none) (Ex.ix (Ex.v 2) (Ex.i 0)) Ex.none))
    Ss.nil)
    (Ss.cons (Sm.ite (Te.cmp Cm.eq (Ex.ix (Ex.v 1) (Ex.i 0)) (Ex.s ⟨#[109, 97, 114, 107]⟩))
      (Ss.cons (Sm.dput (Ex.dix (Ex.v 0) (Ex.s ⟨#[109, 97, 114, 107, 115]⟩)) (Ex.ix (Ex.v 1) (Ex.i 1)) (Ex.ix (Ex.v 2) (Ex.i 0)))
      Ss.nil)
      (Ss.cons (Sm.set 3 (Ex.call "_law_area_in" (sp_law_area_in K) (As.cons (Ex.v 0) (As.cons (Ex.ix (Ex.v 1) (Ex.i 1)) As.nil))))
      (Ss.cons (Sm.ite (Te.cmp Cm.is (Ex.v 3) Ex.none)
        (Ss.cons (Sm.ret (Ex.s ⟨#[110, 111]⟩))
        Ss.nil)
        Ss.nil)
      (Ss.cons (Sm.dput (Ex.dix (Ex.v 0) (Ex.s ⟨#[114, 101, 103, 115]⟩)) (Ex.ix (Ex.v 1) (Ex.i 2)) (Ex.tup (As.cons (Ex.ix (Ex.v 3) (Ex.i 0)) (As.cons (Ex.sl (Ex.dix (Ex.v 0) (Ex.s ⟨#[116, 101, 120, 116]⟩)) (Op.yes (Ex.ix (Ex.v 3) (Ex.i 1))) (Op.yes (Ex.ix (Ex.v 3) (Ex.i 2)))) As.nil))))
      Ss.nil))))
    Ss.nil))
  (Ss.cons (Sm.ret Ex.none)
  Ss.nil)))
def N_law_noted : List Str := ["world", "deed", "win", "found"]
section
variable {K : PySem.W.Frag} {H : Hp} {p : Addr × Addr} {wi : Win} {P : Hp → Prop}
theorem WiAt.p0 (h : WiAt K H p wi) (n : Nat) (q : P (upd H p.1 (.lst (winL { wi with spot := n })))) : ∃ a xs k j, V.ref p.1 = .ref a ∧ V.int 0 = .int k ∧ H a = some (.lst xs) ∧ ixN xs.length k = some j ∧ P (upd H a (.lst (xs.set j (iv n)))) := ⟨p.1, winL wi, 0, 0, rfl, rfl, h, rfl, q⟩
theorem WiAt.p1 (h : WiAt K H p wi) (n : Option Nat) (q : P (upd H p.1 (.lst (winL { wi with anchor := n })))) : ∃ a xs k j, V.ref p.1 = .ref a ∧ V.int 1 = .int k ∧ H a = some (.lst xs) ∧ ixN xs.length k = some j ∧ P (upd H a (.lst (xs.set j (vo n)))) := ⟨p.1, winL wi, 1, 1, rfl, rfl, h, rfl, q⟩
theorem WiAt.p2 (h : WiAt K H p wi) (n : Option Nat) (q : P (upd H p.1 (.lst (winL { wi with column := n })))) : ∃ a xs k j, V.ref p.1 = .ref a ∧ V.int 2 = .int k ∧ H a = some (.lst xs) ∧ ixN xs.length k = some j ∧ P (upd H a (.lst (xs.set j (vo n)))) := ⟨p.1, winL wi, 2, 2, rfl, rfl, h, rfl, q⟩
end
theorem rd_law_noted (K : PySem.W.Frag) : ∀ vs H Q E, sp_law_noted K vs H Q E → (b_law_noted K).t { nx := fun _ H' => Q .non H', rt := Q } (start N_law_noted vs) H := by
  rintro _ H Q E ⟨w, A, S, x, d, rfl, h, o, ⟨a, ps, rfl, ha, hps⟩, hok, hn, q⟩
  have htl : S.text.length ≤ 200 := o.txt.1
  refine ⟨w, A, S, rfl, h, o, fun p hp hw => ?_⟩
  have h0 : ∀ H', Tk H H' → SqT K H' a (sv d.word :: ps) := fun H' t => SqT.of (t a _ ha)
  refine ⟨_, _, .inr (h0 H .refl), atI_nat (j := 0) rfl, ?_⟩
  cases d with
  | choose =>
    refine hw.g1 ?_
    cases hc : S.cw.anchor with
    | none =>
      refine hw.g0 (hw.p1 (some S.cw.spot) ?_)
      refine q A _ ?_
      have s2 := h.stepW (i := S.active) { S.cw with anchor := some S.cw.spot } hp o.act
      show StepW K w A H A (S.setW { S.cw with anchor := if S.cw.anchor = none then some S.cw.spot else none }) _
      rw [hc, if_pos rfl]
      exact s2
    | some c =>
      refine hw.p1 none ?_
      refine q A _ ?_
      have s2 := h.stepW (i := S.active) { S.cw with anchor := none } hp o.act
      show StepW K w A H A (S.setW { S.cw with anchor := if S.cw.anchor = none then some S.cw.spot else none }) _
      rw [hc, if_neg (by simp)]
      exact s2
  | mark n =>
    refine ⟨_, _, .inr (h0 H .refl), atI_nat (j := 0) rfl, ?_⟩
    obtain ⟨y, rfl, hy⟩ := pts1 hps
    obtain rfl : y = sv [n] := hy
    refine hw.g0 (h.g_marks ⟨_, _, .inr (h0 H .refl), atI_nat (j := 1) rfl, ?_⟩)
    have hml : S.marks.length ≤ 4 := by
      have := names4 (l := S.marks.map (·.1)) o.mkn (fun n hn => by
        obtain ⟨z, hz, rfl⟩ := List.mem_map.mp hn
        exact (o.mkp z hz).1)
      simpa using this
    refine ⟨A.mks, _, rfl, DPut.k (k := key n) h.mks (szl (by simp [mksK]; omega)), ?_⟩
    rw [putK_marks _ _ _ o.mkn]
    exact q A _ (h.stepM _)
  | copy r n =>
    refine ⟨_, _, .inr (h0 H .refl), atI_nat (j := 0) rfl, ?_⟩
    obtain ⟨y, z, rfl, ⟨s, rfl, hs⟩, hz⟩ := pts2 hps
    obtain rfl : z = sv [n] := hz
    have hro : r.ok := hok (.area r) (by simp [De.parts])
    refine ⟨_, _, .inr (h0 H .refl), atI_nat (j := 1) rfl, ?_⟩
    have eq0 : notedE S (.copy r n) = match S.area r with
      | none => (.no, S)
      | some k => (.done, { S with regs := aput S.regs n ⟨k.1, piece S.text k.2.1 k.2.2⟩ }) := rfl
    rw [eq0] at q
    refine ⟨w, A, S, s, r, rfl, h, o, hs, hro, ?_, ?_⟩
    · intro hk H1 e1
      rw [hk] at q
      exact q A H1 ((StepW.refl h).xt e1)
    · intro k hk T H1 hT e1 hT1
      rw [hk] at q
      have h1 := h.xt e1
      have hST : SqT K H1 T (areaV k) := SqT.of hT1
      refine ⟨_, _, .inr hST, atI_nat (j := 0) rfl, ?_⟩
      refine h1.g_text ⟨_, _, .inr hST, atI_nat (j := 1) rfl, ⟨_, _, .inr hST, atI_nat (j := 2) rfl, sz (by rw [len_sv]; omega), ?_⟩⟩
      rw [cut_piece]
      refine ⟨by show 2 ≤ sizeLine; decide, fun R hR => ?_⟩
      have x2 := xt_new (o := .tup [sv (kindW k.1), sv (piece S.text k.2.1 k.2.2)]) hR
      have h2 := h1.xt x2
      refine h2.g_regs ⟨_, _, .inr (SqT.of (x2 a _ (e1 a _ ha))), atI_nat (j := 2) rfl, ?_⟩
      obtain ⟨kvs, hk1, hk2⟩ := h2.rg
      have hrl : S.regs.length ≤ 4 := by
        have := names4 (l := S.regs.map (·.1)) o.rgn (fun n hn => by
          obtain ⟨z, hz, rfl⟩ := List.mem_map.mp hn
          exact (o.rgp z hz).1)
        simpa using this
      have hkl := paired_len hk2
      refine ⟨A.rg, _, rfl, DPut.k (k := key n) hk1 (szl (by omega)), ?_⟩
      refine q A _ (((StepW.refl h).xt (e1.trans x2)).trans (h2.stepR _ _ ?_))
      exact paired_put (fun _ _ z => z.1) (v := .ref R) (x := (⟨k.1, piece S.text k.2.1 k.2.2⟩ : Reg)) ⟨rfl, R, rfl, upd_same⟩ hk2 o.rgn
  | _ => cases hn
end Ed

/-! the law's world: going, deeds -/
namespace Ed
open PySem L2 Cb
open Evl (Ev EvT)
def sp_law_go (K : PySem.W.Frag) : Sp := fun vs H Q _ => ∃ (w : Addr) (A : EdA) (S : EdS) (s : Addr) (m : Mo), vs = [.ref w, .ref s] ∧ WoAt K H w A S ∧ S.ok ∧ H s = some (.tup m.vs) ∧ m.ok ∧ RetW K w A H (goE S m) Q
def t_law_go_2 (K : PySem.W.Frag) : Ss K :=
  (Ss.cons (Sm.ite (Te.cmp Cm.eq (Ex.ix (Ex.v 1) (Ex.i 0)) (Ex.s ⟨#[115, 101, 97, 114, 99, 104]⟩))
    (Ss.cons (Sm.dput (Ex.v 0) (Ex.s ⟨#[112, 97, 116, 116, 101, 114, 110]⟩) (Ex.ix (Ex.v 1) (Ex.i 1)))
    Ss.nil)
    Ss.nil)
  (Ss.cons (Sm.ret Ex.none)
  Ss.nil))
def t_law_go_1 (K : PySem.W.Frag) : Ss K :=
  (Ss.cons (Sm.asg (Tg.ix (Ex.v 2) (Ex.i 0)) (Ex.v 3))
  (Ss.cons (Sm.asg (Tg.ix (Ex.v 2) (Ex.i 2)) (Ex.ifx (Te.cmp Cm.isin (Ex.ix (Ex.v 1) (Ex.i 0)) (Ex.tup (As.cons (Ex.s ⟨#[117, 112]⟩) (As.cons (Ex.s ⟨#[100, 111, 119, 110]⟩) As.nil)))) (Ex.v 4) Ex.none))
  (t_law_go_2 K)))
def b_law_go (K : PySem.W.Frag) : Ss K :=
  (Ss.cons (Sm.set 2 (Ex.call "_law_win" (sp_law_win K) (As.cons (Ex.v 0) As.nil)))
  (Ss.cons (Sm.set 3 (Ex.call "_law_goal" (sp_law_goal K) (As.cons (Ex.v 0) (As.cons (Ex.v 1) As.nil))))
  (Ss.cons (Sm.ite (Te.cmp Cm.is (Ex.v 3) Ex.none)
    (Ss.cons (Sm.ret (Ex.s ⟨#[110, 111]⟩))
    Ss.nil)
    Ss.nil)
  (Ss.cons (Sm.set 4 (Ex.ix (Ex.v 2) (Ex.i 2)))
  (Ss.cons (Sm.ite (Te.cmp Cm.is (Ex.v 4) Ex.none)
    (Ss.cons (Sm.set 4 (Ex.ix (Ex.call "_law_spot" (sp_law_spot K) (As.cons (Ex.dix (Ex.v 0) (Ex.s ⟨#[116, 101, 120, 116]⟩)) (As.cons (Ex.ix (Ex.v 2) (Ex.i 0)) As.nil))) (Ex.i 1)))
    Ss.nil)
    Ss.nil)
  (t_law_go_1 K))))))
def N_law_go : List Str := ["world", "motion", "win", "goal", "column"]
theorem WoAt.p_pattern {K : PySem.W.Frag} {H : Hp} {w : Addr} {A : EdA} {S : EdS} {P : Hp → Prop} (h : WoAt K H w A S) (n : Option (List Nat)) (q : P (upd H w (.dK (woF A { S with pat := n })))) : ∃ a H4, V.ref w = .ref a ∧ DPut H a (V.str ⟨#[112, 97, 116, 116, 101, 114, 110]⟩) (pv n) H4 ∧ P H4 := ⟨w, _, rfl, DPut.k (k := kk "pattern") h.own (by show 13 < sizeLine; decide), q⟩
theorem WoAt.p_left {K : PySem.W.Frag} {H : Hp} {w : Addr} {A : EdA} {S : EdS} {P : Hp → Prop} (h : WoAt K H w A S) (n : Nat) (q : P (upd H w (.dK (woF { A with dx := n } S)))) : ∃ a H4, V.ref w = .ref a ∧ DPut H a (V.str ⟨#[108, 101, 102, 116]⟩) (iv n) H4 ∧ P H4 := ⟨w, _, rfl, DPut.k (k := kk "left") h.own (by show 13 < sizeLine; decide), q⟩
def Mo.srch : Mo → Bool
  | .search _ => true | _ => false
theorem name_srch (m : Mo) : decide ((⟨m.name.toArray⟩ : Str) = ⟨w_search.toArray⟩) = m.srch := by cases m <;> rfl
theorem setPat_not {m : Mo} (h : m.srch = false) (S : EdS) : setPat S m = S := by cases m <;> first | rfl | cases h
/-- the last: the pattern -/
theorem rd_wgo_2 (K : PySem.W.Frag) {w s : Addr} {A : EdA} {S : EdS} {m : Mo} {H H5 : Hp} {Q : VK} {p : Addr × Addr} {g : Nat} {c : Option Nat} {x4 : Option V} (hc : c = if m.ud then some S.col else none) (s5 : StepW K w A H A (S.setW ⟨g, S.cw.anchor, c⟩) H5) (hs5 : H5 s = some (.tup m.vs))
    (q : RetW K w A H (.done, setPat (S.setW ⟨g, S.cw.anchor, if m.ud then some S.col else none⟩) m) Q) :
    (t_law_go_2 K).t { nx := fun _ H' => Q .non H', rt := Q } [some (.ref w), some (.ref s), some (.ref p.1), some (iv g), x4] H5 := by
  refine ⟨_, _, .inr (SqT.of hs5), atI_nat (j := 0) rfl, ?_⟩
  show br (decide ((⟨m.name.toArray⟩ : Str) = ⟨w_search.toArray⟩)) _ _
  rw [name_srch]
  rw [← hc] at q
  cases hm2 : m.srch with
  | false =>
    rw [setPat_not hm2] at q
    exact q A _ s5
  | true =>
    cases m with
    | search z =>
      refine ⟨_, _, .inr (SqT.of hs5), atI_nat (j := 1) rfl, ?_⟩
      refine s5.at_.p_pattern (some z) ?_
      refine q A _ ?_
      exact s5.trans (s5.at_.stepQ (S' := { S.setW ⟨g, S.cw.anchor, c⟩ with pat := some z }) rfl rfl rfl rfl rfl rfl rfl)
    | _ => cases hm2
theorem rd_wgo_1 (K : PySem.W.Frag) {w s : Addr} {A : EdA} {S : EdS} {m : Mo} {H H1 : Hp} {Q : VK} {p : Addr × Addr} {g : Nat} (h : WoAt K H w A S) (e1 : Xt H H1) (o : S.ok) (hp : A.wa[S.active]? = some p) (hw : WiAt K H1 p S.cw) (hs : H s = some (.tup m.vs))
    (q : RetW K w A H (.done, setPat (S.setW ⟨g, S.cw.anchor, if m.ud then some S.col else none⟩) m) Q) :
    (t_law_go_1 K).t { nx := fun _ H' => Q .non H', rt := Q } [some (.ref w), some (.ref s), some (.ref p.1), some (iv g), some (iv S.col)] H1 := by
  have h1 := h.xt e1
  have st1 : StepW K w A H A S H1 := (StepW.refl h).xt e1
  refine hw.p0 g ?_
  have s2 := h1.stepW (i := S.active) ⟨g, S.cw.anchor, S.cw.column⟩ hp o.act
  have hs2 := (s2.tk h1) s _ (e1 s _ hs)
  refine ⟨_, _, .inr (SqT.of hs2), atI_nat (j := 0) rfl, by decide, fun T hT => ⟨T, _, rfl, .inr (SqT.of upd_same), rfl, rfl, ?_⟩⟩
  show br (inV (sv m.name) [sv w_up, sv w_down]) _ _
  rw [name_ud]
  have s3 := s2.xt (xt_new (o := .tup [sv w_up, sv w_down]) hT)
  have hw3 : WiAt K (upd (upd H1 p.1 (.lst (winL ⟨g, S.cw.anchor, S.cw.column⟩))) T (.tup [sv w_up, sv w_down])) p ⟨g, S.cw.anchor, S.cw.column⟩ := (xt_new hT) _ _ upd_same
  have hs3 := (xt_new (o := .tup [sv w_up, sv w_down]) hT) s _ hs2
  have key : ∀ (c : Option Nat), StepW K w A H A (S.setW ⟨g, S.cw.anchor, c⟩) (upd (upd (upd H1 p.1 (.lst (winL ⟨g, S.cw.anchor, S.cw.column⟩))) T (.tup [sv w_up, sv w_down])) p.1 (.lst (winL ⟨g, S.cw.anchor, c⟩))) ∧ (upd (upd (upd H1 p.1 (.lst (winL ⟨g, S.cw.anchor, S.cw.column⟩))) T (.tup [sv w_up, sv w_down])) p.1 (.lst (winL ⟨g, S.cw.anchor, c⟩))) s = some (.tup m.vs) := by
    intro c
    have s4 := s3.at_.stepW (i := S.active) (q := p) ⟨g, S.cw.anchor, c⟩ hp (by simp; exact o.act)
    have s5 := (st1.trans s3).trans s4
    have e5 : ({ S with wins := S.wins.set S.active ⟨g, S.cw.anchor, S.cw.column⟩ } : EdS).wins.set S.active ⟨g, S.cw.anchor, c⟩ = S.wins.set S.active ⟨g, S.cw.anchor, c⟩ := by simp
    refine ⟨?_, (s4.tk s3.at_) s _ hs3⟩
    unfold EdS.setW
    rw [← e5]
    exact s5
  cases hud : m.ud with
  | true =>
    refine hw3.p2 (some S.col) ?_
    exact rd_wgo_2 K (c := some S.col) (by rw [hud]; rfl) (key _).1 (key _).2 q
  | false =>
    refine hw3.p2 none ?_
    exact rd_wgo_2 K (c := none) (by rw [hud]; rfl) (key _).1 (key _).2 q
theorem rd_law_go (K : PySem.W.Frag) : ∀ vs H Q E, sp_law_go K vs H Q E → (b_law_go K).t { nx := fun _ H' => Q .non H', rt := Q } (start N_law_go vs) H := by
  rintro _ H Q E ⟨w, A, S, s, m, rfl, h, o, hs, hm, q⟩
  have htl : S.text.length ≤ 200 := o.txt.1
  refine ⟨w, A, S, rfl, h, o, fun p hp hw => ?_⟩
  refine ⟨w, A, S, s, m, rfl, h, o, hs, hm, fun H1 e1 => ?_⟩
  have eg : goE S m = match S.goal m with
    | none => (.no, S)
    | some g => (.done, setPat (S.setW ⟨g, S.cw.anchor, if m.ud then some S.col else none⟩) m) := rfl
  change RetW K w A H (goE S m) Q at q
  rw [eg] at q
  have hw1 : WiAt K H1 p S.cw := e1 _ _ hw
  show tSeq _ _ _ ([some (.ref w), some (.ref s), some (.ref p.1), some (vo (S.goal m)), none]) H1
  cases hg : S.goal m with
  | none =>
    rw [hg] at q
    exact q A H1 ((StepW.refl h).xt e1)
  | some g =>
    rw [hg] at q
    replace q : RetW K w A H (.done, setPat (S.setW ⟨g, S.cw.anchor, if m.ud then some S.col else none⟩) m) Q := q
    refine hw1.g2 ?_
    cases hc : S.cw.column with
    | none =>
      have ec : S.col = Tx.colOf S.text S.cw.spot := by unfold EdS.col; rw [hc]; rfl
      refine (h.xt e1).g_text (hw1.g0 ⟨S.text, S.cw.spot, rfl, by omega, o.spot, fun R H2 hR e2 h2 => ?_⟩)
      refine ⟨_, _, .inr (SqT.of h2), atI_nat (j := 1) rfl, ?_⟩
      have := rd_wgo_1 K h (e1.trans e2) o hp (e2 _ _ hw1) hs q
      rw [ec] at this
      exact this
    | some c =>
      have ec : S.col = c := by unfold EdS.col; rw [hc]; rfl
      have := rd_wgo_1 K h e1 o hp hw1 hs q
      rw [ec] at this
      exact this
end Ed

/-! the law's world: a deed, of going and notes alone (k08, k09) -/
namespace Ed
open PySem L2 Cb
open Evl (Ev EvT)
/-! ### deeds -/
def sp_law_one (K : PySem.W.Frag) : Sp := fun vs H Q _ => ∃ (w : Addr) (A : EdA) (S : EdS) (x : V) (d : De) (y : V), vs = [.ref w, x, y] ∧ WoAt K H w A S ∧ S.ok ∧ DeAt H x d ∧ d.ok ∧ d.isGN = true ∧ RetW K w A H (oneE S d) Q
def b_law_one (K : PySem.W.Frag) : Ss K :=
  (Ss.cons (Sm.set 3 (Ex.ix (Ex.v 1) (Ex.i 0)))
  (Ss.cons (Sm.ite (Te.cmp Cm.eq (Ex.v 3) (Ex.s ⟨#[103, 111]⟩))
    (Ss.cons (Sm.ret (Ex.call "_law_go" (sp_law_go K) (As.cons (Ex.v 0) (As.cons (Ex.ix (Ex.v 1) (Ex.i 1)) As.nil))))
    Ss.nil)
    Ss.nil)
  (Ss.cons (Sm.set 4 (Ex.call "_law_noted" (sp_law_noted K) (As.cons (Ex.v 0) (As.cons (Ex.v 1) As.nil))))
  (Ss.cons (Sm.ite (Te.cmp Cm.is (Ex.v 4) Ex.none)
    (Ss.cons (Sm.set 5 (Ex.call "_law_win" (sp_law_win K) (As.cons (Ex.v 0) As.nil)))
    (Ss.cons (Sm.asg (Tg.ix (Ex.v 5) (Ex.i 2)) Ex.none)
    Ss.nil))
    Ss.nil)
  (Ss.cons (Sm.ret (Ex.v 4))
  Ss.nil)))))
def N_law_one : List Str := ["world", "deed", "deep", "word", "told", "win"]
theorem rd_law_one (K : PySem.W.Frag) : ∀ vs H Q E, sp_law_one K vs H Q E → (b_law_one K).t { nx := fun _ H' => Q .non H', rt := Q } (start N_law_one vs) H := by
  rintro _ H Q E ⟨w, A, S, x, d, y, rfl, h, o, ⟨a, ps, rfl, ha, hps⟩, hok, hn, q⟩
  have h0 : ∀ H', Tk H H' → SqT K H' a (sv d.word :: ps) := fun H' t => SqT.of (t a _ ha)
  refine ⟨_, _, .inr (h0 H .refl), atI_nat (j := 0) rfl, ?_⟩
  have notes : d.isNote = true → oneE S d = afterE (notedE S d) → sp_law_noted K [.ref w, .ref a] H (fun v H3 => ((Ss.cons (K := K) (Sm.ite (Te.cmp Cm.is (Ex.v 4) Ex.none) (Ss.cons (Sm.set 5 (Ex.call "_law_win" (sp_law_win K) (As.cons (Ex.v 0) As.nil))) (Ss.cons (Sm.asg (Tg.ix (Ex.v 5) (Ex.i 2)) Ex.none) Ss.nil)) Ss.nil) (Ss.cons (Sm.ret (Ex.v 4)) Ss.nil)).t { nx := fun _ H' => Q .non H', rt := Q }) [some (.ref w), some (.ref a), some y, some (sv d.word), some v, none] H3) E0 := by
    intro hn2 hone
    refine ⟨w, A, S, .ref a, d, rfl, h, o, ⟨a, ps, rfl, ha, hps⟩, hok, hn2, fun A' H' st => ?_⟩
    rw [hone] at q
    have o' := notedE_ok o hok
    revert q st o'
    generalize notedE S d = r
    intro q st o'
    obtain ⟨t, S'⟩ := r
    cases t with
    | done =>
      refine ⟨w, A', S', rfl, st.at_, o', fun p hp hw => ?_⟩
      refine hw.p2 none ?_
      exact q A' _ (st.trans (st.at_.stepW (i := S'.active) { S'.cw with column := none } hp o'.act))
    | no => exact q A' _ st
    | cut => exact q A' _ st
  cases d with
  | go m =>
    obtain ⟨z, rfl, s, rfl, hs⟩ := pts1 hps
    refine ⟨_, _, .inr (h0 H .refl), atI_nat (j := 1) rfl, ?_⟩
    exact ⟨w, A, S, s, m, rfl, h, o, hs, hok (.mot m) (by simp [De.parts]), q⟩
  | choose => exact notes rfl rfl
  | mark n => exact notes rfl rfl
  | copy r n => exact notes rfl rfl
  | _ => cases hn
def sp_law_do (K : PySem.W.Frag) : Sp := fun vs H Q _ => ∃ (w : Addr) (A : EdA) (S : EdS) (x : V) (d : De), vs = [.ref w, x] ∧ WoAt K H w A S ∧ S.ok ∧ S.taken.length < 10000 ∧ DeAt H x d ∧ d.ok ∧ d.isGN = true ∧ RetW K w A H (takeE d (oneE S d)) Q
def b_law_do (K : PySem.W.Frag) : Ss K :=
  (Ss.cons (Sm.dput (Ex.v 0) (Ex.s ⟨#[108, 101, 102, 116]⟩) (Ex.i 100))
  (Ss.cons (Sm.set 2 (Ex.call "_law_one" (sp_law_one K) (As.cons (Ex.v 0) (As.cons (Ex.v 1) (As.cons (Ex.i 0) As.nil)))))
  (Ss.cons (Sm.ite (Te.w (Tw.and (Te.cmp Cm.isNot (Ex.dix (Ex.v 0) (Ex.s ⟨#[116, 97, 107, 105, 110, 103]⟩)) Ex.none) (Tw.and (Te.cmp Cm.is (Ex.v 2) Ex.none) (Tw.one (Te.cmp Cm.notIn (Ex.ix (Ex.v 1) (Ex.i 0)) (Ex.tup (As.cons (Ex.s ⟨#[114, 101, 99, 111, 114, 100]⟩) (As.cons (Ex.s ⟨#[115, 116, 111, 112]⟩) As.nil))))))))
    (Ss.cons (Sm.ex (Ex.lm Ml.append (Ex.dix (Ex.v 0) (Ex.s ⟨#[116, 97, 107, 101, 110]⟩)) (As.cons (Ex.v 1) As.nil)))
    Ss.nil)
    Ss.nil)
  (Ss.cons (Sm.ret (Ex.v 2))
  Ss.nil))))
def N_law_do : List Str := ["world", "deed", "told"]
theorem rd_law_do (K : PySem.W.Frag) : ∀ vs H Q E, sp_law_do K vs H Q E → (b_law_do K).t { nx := fun _ H' => Q .non H', rt := Q } (start N_law_do vs) H := by
  rintro _ H Q E ⟨w, A, S, x, d, rfl, h, o, htk, ⟨a, ps, rfl, ha, hps⟩, hok, hn, q⟩
  refine h.p_left 100 ?_
  have s2 : StepW K w A H { A with dx := 100 } S (upd H w (.dK (woF { A with dx := 100 } S))) := h.stepE ⟨h.ws, h.wins, h.mks, h.rg, h.ma, h.tk, h.la, h.st⟩ h.nd .refl
  have t2 := s2.tk h
  refine ⟨w, _, S, .ref a, d, .int 0, rfl, s2.at_, o, ⟨a, ps, rfl, t2 a _ ha, hps.tk t2⟩, hok, hn, fun A' H' st => ?_⟩
  have s3 := s2.trans st
  have t3 := s3.tk h
  have htk3 : (oneE S d).2.taken = S.taken := by
    cases d with
    | go m => exact goE_taken _ m
    | _ =>
      show (afterE _).2.taken = _
      rcases afterE_eq (notedE S _) with ⟨z1, z2⟩ | ⟨z1, z2⟩
      · rw [z2]; exact notedE_taken _ _
      · rw [z2]; exact notedE_taken _ _
  revert q s3 htk3
  generalize oneE S d = r
  intro q s3 htk3
  obtain ⟨t, S'⟩ := r
  have a3 := s3.at_
  refine a3.g_taking ?_
  cases htg : S'.taking with
  | none =>
    cases t with
    | done =>
      refine q A' H' ?_
      show StepW K w A H A' (if S'.taking = none ∨ isRS d = true then S' else { S' with taken := S'.taken ++ [d] }) H'
      rw [if_pos (.inl htg)]; exact s3
    | no => exact q A' H' s3
    | cut => exact q A' H' s3
  | some n =>
    cases t with
    | done =>
      refine ⟨_, _, .inr (SqT.of (t3 a _ ha)), atI_nat (j := 0) rfl, by decide, fun l hl => ⟨l, _, rfl, .inr (SqT.of upd_same), rfl, rfl, ?_⟩⟩
      have xl := xt_new (o := .tup [sv w_record, sv w_stop]) hl
      show br (!inV (sv d.word) [sv w_record, sv w_stop]) _ _
      rw [word_rs]
      cases hrs : isRS d with
      | true =>
        refine q A' _ ?_
        show StepW K w A H A' (if S'.taking = none ∨ isRS d = true then S' else { S' with taken := S'.taken ++ [d] }) _
        rw [if_pos (.inr hrs)]
        exact s3.xt xl
      | false =>
        have a4 := a3.xt xl
        refine a4.g_taken ?_
        obtain ⟨xs, hx1, hx2⟩ := a4.tk
        have hlen : xs.length = S'.taken.length := paired_len hx2
        have htk' : S'.taken.length < 10000 := by
          have : S'.taken = S.taken := htk3
          rw [this]; exact htk
        refine ⟨⟨_, SqL.of hx1⟩, xs, hx1, szl (by omega), ?_⟩
        refine q A' _ ?_
        show StepW K w A H A' (if S'.taking = none ∨ isRS d = true then S' else { S' with taken := S'.taken ++ [d] }) _
        rw [if_neg (by rw [htg, hrs]; simp)]
        exact (s3.xt xl).trans (a4.stepT _ _ (paired_snoc ⟨a, ps, rfl, xl a _ (t3 a _ ha), hps.tk (t3.trans (Tk.of xl))⟩ hx2))
    | no => exact q A' H' s3
    | cut => exact q A' H' s3
end Ed

/-! the law's world against the editor -/
namespace Ed
open PySem L2 Cb
open Evl (Ev EvT)
def sp_law_same (K : PySem.W.Frag) : Sp := fun vs H Q _ => ∃ (e : Addr) (A : EdA) (w : Addr) (B : EdA) (S : EdS), vs = [.ref e, .ref w] ∧ EdAt K H e A S ∧ WoAt K H w B S ∧ S.ok ∧ RetV (.bl true) H Q
def t_law_same_6 (K : PySem.W.Frag) : Ss K :=
  (Ss.cons (Sm.ret (Ex.cmp Cm.eq (Ex.meth0 "Editor" (Ex.v 0) "all_states" (sp_Editor_all_states K)) (Ex.tup (As.cons (Ex.lc [("one", 4)] (Ir.list (Ex.dix (Ex.v 1) (Ex.s ⟨#[115, 116, 97, 116, 101, 115]⟩))) (Tg.v 4) Ifs.no (Ex.ix (Ex.v 4) (Ex.i 0))) (As.cons (Ex.dix (Ex.v 1) (Ex.s ⟨#[115, 116, 97, 116, 101]⟩)) As.nil)))))
  Ss.nil)
def t_law_same_5 (K : PySem.W.Frag) : Ss K :=
  (Ss.cons (Sm.ite (Te.cmp Cm.ne (Ex.meth0 "Editor" (Ex.v 0) "all_macros" (sp_Editor_all_macros K)) (Ex.tup (As.cons (Ex.sortedI (As.cons (Ex.items (Ex.dix (Ex.v 1) (Ex.s ⟨#[109, 97, 99, 114, 111, 115]⟩))) As.nil)) (As.cons (Ex.dix (Ex.v 1) (Ex.s ⟨#[116, 97, 107, 105, 110, 103]⟩)) As.nil))))
    (Ss.cons (Sm.ret (Ex.b false))
    Ss.nil)
    Ss.nil)
  (t_law_same_6 K))
def t_law_same_4 (K : PySem.W.Frag) : Ss K :=
  (Ss.cons (Sm.ite (Te.cmp Cm.ne (Ex.meth0 "Editor" (Ex.v 0) "all_registers" (sp_Editor_all_registers K)) (Ex.lc [("name", 5)] (Ir.list (Ex.sortedS (As.cons (Ex.listD (As.cons (Ex.dix (Ex.v 1) (Ex.s ⟨#[114, 101, 103, 115]⟩)) As.nil)) As.nil))) (Tg.v 5) Ifs.no (Ex.add (Ex.tup (As.cons (Ex.v 5) As.nil)) (Ex.dix (Ex.dix (Ex.v 1) (Ex.s ⟨#[114, 101, 103, 115]⟩)) (Ex.v 5)))))
    (Ss.cons (Sm.ret (Ex.b false))
    Ss.nil)
    Ss.nil)
  (t_law_same_5 K))
def t_law_same_3 (K : PySem.W.Frag) : Ss K :=
  (Ss.cons (Sm.ite (Te.cmp Cm.ne (Ex.meth0 "Editor" (Ex.v 0) "all_marks" (sp_Editor_all_marks K)) (Ex.sortedI (As.cons (Ex.items (Ex.dix (Ex.v 1) (Ex.s ⟨#[109, 97, 114, 107, 115]⟩))) As.nil)))
    (Ss.cons (Sm.ret (Ex.b false))
    Ss.nil)
    Ss.nil)
  (t_law_same_4 K))
def t_law_same_2 (K : PySem.W.Frag) : Ss K :=
  (Ss.cons (Sm.ite (Te.cmp Cm.ne (Ex.meth0 "Editor" (Ex.v 0) "all_windows" (sp_Editor_all_windows K)) (Ex.tup (As.cons (Ex.dix (Ex.v 1) (Ex.s ⟨#[97, 99, 116, 105, 118, 101]⟩)) (As.cons (Ex.lc [("one", 4)] (Ir.list (Ex.dix (Ex.v 1) (Ex.s ⟨#[119, 105, 110, 115]⟩))) (Tg.v 4) Ifs.no (Ex.ix (Ex.v 4) (Ex.i 0))) As.nil))))
    (Ss.cons (Sm.ret (Ex.b false))
    Ss.nil)
    Ss.nil)
  (t_law_same_3 K))
def t_law_same_1 (K : PySem.W.Frag) : Ss K :=
  (Ss.cons (Sm.ite (Te.cmp Cm.ne (Ex.tup (As.cons (Ex.meth0 "Editor" (Ex.v 0) "now" (sp_Editor_now K)) (As.cons (Ex.meth0 "Editor" (Ex.v 0) "cursor" (sp_Editor_cursor K)) (As.cons (Ex.meth0 "Editor" (Ex.v 0) "chosen" (sp_Editor_chosen K)) As.nil)))) (Ex.tup (As.cons (Ex.dix (Ex.v 1) (Ex.s ⟨#[116, 101, 120, 116]⟩)) (As.cons (Ex.ix (Ex.v 2) (Ex.i 0)) (As.cons (Ex.v 3) As.nil)))))
    (Ss.cons (Sm.ret (Ex.b false))
    Ss.nil)
    Ss.nil)
  (t_law_same_2 K))
def b_law_same (K : PySem.W.Frag) : Ss K :=
  (Ss.cons (Sm.set 2 (Ex.call "_law_win" (sp_law_win K) (As.cons (Ex.v 1) As.nil)))
  (Ss.cons (Sm.set 3 (Ex.ifx (Te.cmp Cm.isNot (Ex.ix (Ex.v 2) (Ex.i 1)) Ex.none) (Ex.tup (As.cons (Ex.min (As.cons (Ex.ix (Ex.v 2) (Ex.i 0)) (As.cons (Ex.ix (Ex.v 2) (Ex.i 1)) As.nil))) (As.cons (Ex.max (As.cons (Ex.ix (Ex.v 2) (Ex.i 0)) (As.cons (Ex.ix (Ex.v 2) (Ex.i 1)) As.nil))) As.nil))) Ex.none))
  (t_law_same_1 K)))
def N_law_same : List Str := ["editor", "world", "win", "chosen", "one", "name"]
/-! ### what is told is data of few layers -/
theorem sh_wins (S : EdS) : Sh 2 (dWins S) := sh_tup (n := 1) fun d hd => by
  simp at hd
  rcases hd with rfl | rfl
  · exact sh_int _
  · refine sh_lst (n := 0) fun d hd => ?_
    obtain ⟨w, _, rfl⟩ := List.mem_map.mp hd
    exact sh_int _
theorem sh_marks {S : EdS} (o : S.ok) : Sh 2 (dMarks S) := sh_lst (n := 1) fun d hd => by
  obtain ⟨q, hq, rfl⟩ := List.mem_map.mp hd
  refine sh_tup (n := 0) fun d hd => ?_
  simp at hd
  rcases hd with rfl | rfl
  · exact sh_str (name_strOk (o.mkp q ((sortA_perm _).mem_iff.mp hq)).1)
  · exact sh_int _
theorem sh_regs {S : EdS} (o : S.ok) : Sh 2 (dRegs S) := sh_lst (n := 1) fun d hd => by
  obtain ⟨q, hq, rfl⟩ := List.mem_map.mp hd
  have hq' := o.rgp q ((sortA_perm _).mem_iff.mp hq)
  refine sh_tup (n := 0) fun d hd => ?_
  simp at hd
  rcases hd with rfl | rfl | rfl
  · exact sh_str (name_strOk hq'.1)
  · cases q.2.rows <;> exact sh_word rfl
  · exact sh_str (text_strOk hq'.2)
theorem sh_macs {S : EdS} (o : S.ok) : Sh 7 (dMacs S) := sh_tup (n := 6) fun d hd => by
  simp at hd
  rcases hd with rfl | rfl
  · exact (sh_lst (n := 5) fun d hd => by
      obtain ⟨q, hq, rfl⟩ := List.mem_map.mp hd
      have hq' := o.mcp q ((sortA_perm _).mem_iff.mp hq)
      refine sh_tup (n := 4) fun d hd => ?_
      simp at hd
      rcases hd with rfl | rfl
      · exact sh_str (name_strOk hq'.1)
      · refine sh_tup (n := 3) fun d hd => ?_
        obtain ⟨x, hx, rfl⟩ := List.mem_map.mp hd
        exact sh_de (hq'.2.2 x hx))
  · unfold dNm
    split
    · exact sh_non
    · rename_i c hc
      exact sh_str (name_strOk (o.tkn c hc))
theorem sh_stas (S : EdS) : Sh 2 (dStas S) := sh_tup (n := 1) fun d hd => by
  simp at hd
  rcases hd with rfl | rfl
  · refine sh_lst (n := 0) fun d hd => ?_
    obtain ⟨w, _, rfl⟩ := List.mem_map.mp hd
    exact sh_dO _
  · exact sh_int _
theorem sh_chosen (S : EdS) : Sh 1 (dChosen S) := by
  unfold dChosen
  split
  · exact sh_non
  · refine sh_tup (n := 0) fun d hd => ?_
    simp at hd
    rcases hd with rfl | rfl <;> exact sh_int _
/-! ### the world's own telling -/
section
variable {K : PySem.W.Frag} {H : Hp} {w : Addr} {B : EdA} {S : EdS} {Q : VK} {x0 x2 x3 x4 x5 : Option V}
theorem w_wins (h : WoAt K H w B S) (o : S.ok) (q : RetD K (dWins S) H Q) : (Ex.tup (K := K) (As.cons (Ex.dix (Ex.v 1) (Ex.s ⟨#[97, 99, 116, 105, 118, 101]⟩)) (As.cons (Ex.lc [("one", 4)] (Ir.list (Ex.dix (Ex.v 1) (Ex.s ⟨#[119, 105, 110, 115]⟩))) (Tg.v 4) Ifs.no (Ex.ix (Ex.v 4) (Ex.i 0))) As.nil))).t [x0, some (.ref w), x2, x3, x4, x5] H Q := by
  refine h.g_active (h.g_wins ?_)
  have hlen := h.wa_len
  have hfew := o.few
  refine ⟨B.ws, rfl, ⟨_, SqL.of h.ws⟩, lc_walk (walk_list (xs := B.wa.map fun p => V.ref p.1)) (fun i => (S.wins.take i).map fun w => iv w.spot) rfl ?_ (fun H' e => SqL.of (e _ _ h.ws)) ?_ (mono_name 4) ?_⟩
  · intro i hi
    simp at hi ⊢; omega
  · rintro i x H2 H3 D hi ⟨c1, c2, c3⟩ ⟨rfl, hx⟩
    rw [List.getElem?_map] at hx
    obtain ⟨p, hp, rfl⟩ := Option.map_eq_some_iff.mp hx
    obtain ⟨wi, hw, hpw⟩ := paired_at h.wins hp
    refine ⟨rfl, true, iv wi.spot, c2, c3, evT_yes, fun _ => ?_, ?_⟩
    · intro H4 e4 Q' q'
      have hw4 : WiAt K H4 p wi := e4 _ _ hpw
      refine hw4.g0 ?_
      exact q' H4 (Xt.refl H4)
    · rw [take_snoc hw]; simp
  · intro L H2 hL e2 h2
    refine ⟨by show 2 ≤ sizeLine; decide, fun T hT => ?_⟩
    refine q _ _ (e2.trans (xt_new hT)) (.tup (SqT.of upd_same) (.cons (.int _) (.cons (.lst (SqL.of ((xt_new hT) _ _ h2)) ?_) .nil)))
    have : S.wins.take (B.wa.map fun p => V.ref p.1).length = S.wins := by
      rw [List.length_map, hlen, List.take_length]
    rw [this]
    exact dp_map _ _ _ fun w _ => dp_iv _
theorem w_marks (h : WoAt K H w B S) (o : S.ok) (q : RetD K (dMarks S) H Q) : (Ex.sortedI (K := K) (As.cons (Ex.items (Ex.dix (Ex.v 1) (Ex.s ⟨#[109, 97, 114, 107, 115]⟩))) As.nil)).t [x0, some (.ref w), x2, x3, x4, x5] H Q :=
  h.g_marks ⟨_, h.mks, fun p hp => sort_marks h.mks hp o.mkn (fun q hq => (o.mkp q hq).1) q⟩
theorem w_macs (h : WoAt K H w B S) (o : S.ok) (q : RetD K (dMacs S) H Q) : (Ex.tup (K := K) (As.cons (Ex.sortedI (As.cons (Ex.items (Ex.dix (Ex.v 1) (Ex.s ⟨#[109, 97, 99, 114, 111, 115]⟩))) As.nil)) (As.cons (Ex.dix (Ex.v 1) (Ex.s ⟨#[116, 97, 107, 105, 110, 103]⟩)) As.nil))).t [x0, some (.ref w), x2, x3, x4, x5] H Q := by
  obtain ⟨kvs, hk, hm⟩ := h.ma
  refine h.g_macros ⟨_, hk, fun p hp => ?_⟩
  refine sort_macs hk hm hp o.mcn (fun q hq => (o.mcp q hq).1) fun H' v x1 hv => ?_
  refine (h.xt x1).g_taking ⟨by show 2 ≤ sizeLine; decide, fun T hT => ?_⟩
  exact q _ _ (x1.trans (xt_new hT)) (.tup (SqT.of upd_same) (.cons (hv.xt (xt_new hT)) (.cons (dp_nm _) .nil)))
theorem w_stas (h : WoAt K H w B S) (o : S.ok) (q : RetD K (dStas S) H Q) : (Ex.tup (K := K) (As.cons (Ex.lc [("one", 4)] (Ir.list (Ex.dix (Ex.v 1) (Ex.s ⟨#[115, 116, 97, 116, 101, 115]⟩))) (Tg.v 4) Ifs.no (Ex.ix (Ex.v 4) (Ex.i 0))) (As.cons (Ex.dix (Ex.v 1) (Ex.s ⟨#[115, 116, 97, 116, 101]⟩)) As.nil))).t [x0, some (.ref w), x2, x3, x4, x5] H Q := by
  obtain ⟨xs, hx, hs⟩ := h.st
  have hlen : xs.length = S.states.length := hs.length
  have hfew := o.stl
  refine h.g_states ⟨B.st, rfl, ⟨_, SqL.of hx⟩, lc_walk (walk_list (xs := xs)) (fun i => (S.states.take i).map fun s => vo s.1) rfl ?_ (fun H' e => SqL.of (e _ _ hx)) ?_ (mono_name 4) ?_⟩
  · intro i hi
    simp at hi ⊢; omega
  · rintro i x H2 H3 D hi ⟨c1, c2, c3⟩ ⟨rfl, hxi⟩
    obtain ⟨s, hs', p, rfl, hp⟩ := paired_at hs hxi
    refine ⟨rfl, true, vo s.1, c2, c3, evT_yes, fun _ => ?_, ?_⟩
    · intro H4 e4 Q' q'
      refine ⟨_, _, .inr (SqT.of (e4 _ _ hp)), atI_nat (j := 0) rfl, ?_⟩
      exact q' H4 (Xt.refl H4)
    · rw [take_snoc hs']; simp
  · intro L H2 hL e2 h2
    refine (h.xt e2).g_state ⟨by show 2 ≤ sizeLine; decide, fun T hT => ?_⟩
    refine q _ _ (e2.trans (xt_new hT)) (.tup (SqT.of upd_same) (.cons (.lst (SqL.of ((xt_new hT) _ _ h2)) ?_) (.cons (.int _) .nil)))
    rw [hlen, List.take_length]
    exact dp_map _ _ _ fun s _ => dp_vo _
theorem w_regs (h : WoAt K H w B S) (o : S.ok) (q : RetD K (dRegs S) H Q) : (Ex.lc (K := K) [("name", 5)] (Ir.list (Ex.sortedS (As.cons (Ex.listD (As.cons (Ex.dix (Ex.v 1) (Ex.s ⟨#[114, 101, 103, 115]⟩)) As.nil)) As.nil))) (Tg.v 5) Ifs.no (Ex.add (Ex.tup (As.cons (Ex.v 5) As.nil)) (Ex.dix (Ex.dix (Ex.v 1) (Ex.s ⟨#[114, 101, 103, 115]⟩)) (Ex.v 5)))).t [x0, some (.ref w), x2, x3, x4, x5] H Q := by
  obtain ⟨kvs, hk, hr⟩ := h.rg
  have h4 := few4 o.rgn fun q hq => (o.rgp q hq).1
  have hlen := (sortA_perm S.regs).length_eq
  refine h.g_regs ⟨kvs, .inl hk, fun L hL => ?_⟩
  refine ⟨S.regs.map fun q => (⟨#[q.1]⟩ : Str), SqL.of (by rw [upd_same, keys_regs hr]), by simp; omega, fun ys P hys hsort hP => ?_⟩
  obtain rfl := names_sorted hys hsort o.rgn
  have x1 : Xt H (upd (upd H L (.lst (kvs.map fun kv => kV kv.1))) P (.lst (((sortA S.regs).map fun q => (⟨#[q.1]⟩ : Str)).map V.str))) := (xt_new hL).trans (xt_new hP)
  refine ⟨P, rfl, ⟨_, SqL.of upd_same⟩, lc_new (walk_list (xs := ((sortA S.regs).map fun q => (⟨#[q.1]⟩ : Str)).map V.str)) (sortA S.regs) (by simp) (fun q => sv [q.1]) (fun q => [sv [q.1], sv (kindW q.2.rows), sv q.2.text]) (by omega) (fun H' e => SqL.of (e _ _ upd_same)) ?_ (fun _ => rfl) ?_ ?_⟩
  · rintro i x H2 H3 hi ⟨rfl, hx⟩
    rw [List.getElem?_map, List.getElem?_map] at hx
    obtain ⟨z, hz, rfl⟩ := Option.map_eq_some_iff.mp hx
    obtain ⟨q', hq, rfl⟩ := Option.map_eq_some_iff.mp hz
    exact ⟨rfl, q', hq, rfl⟩
  · intro q' hq H2 Q' x2 q2
    have h2 := h.xt (x1.trans x2)
    have hq' : q' ∈ S.regs := (sortA_perm S.regs).mem_iff.mp hq
    refine ⟨by show 1 ≤ sizeLine; decide, fun T hT => ?_⟩
    have xT := xt_new (o := .tup [sv [q'.1]]) hT
    refine (h2.xt xT).g_regs ?_
    obtain ⟨v, hv1, hv2, r, hv3, hv4⟩ := paired_get' (F := RegAt H) (fun _ _ z => z.1) hr o.rgn q' hq'
    have hv3' : v = .ref r := hv3
    subst hv3'
    have kk2 := ((x1.trans x2).trans xT) _ _ hk
    have rr2 := ((x1.trans x2).trans xT) _ _ hv4
    refine ⟨B.rg, _, rfl, by rw [← hv1]; exact DGet.k (k := key q'.1) kk2, ?_⟩
    refine .inr ⟨T, r, _, _, rfl, rfl, SqT.of upd_same, SqT.of rr2, by simp, by show 3 ≤ sizeLine; decide, (fun z => nomatch z), fun _ N hN => ?_⟩
    exact q2 N _ (xt_none xT hN) (xT.trans (xt_new hN)) upd_same
  · intro D H2 rs hD x2 hD2 hrs
    refine q H2 _ (x1.trans x2) (.lst (SqL.of hD2) ?_)
    clear hlen hD2
    revert hrs
    generalize sortA S.regs = l
    intro hrs
    induction hrs with
    | nil => exact .nil
    | cons h1 _ ih => exact .cons (.tup (SqT.of h1) (.cons (dp_sv _) (.cons (dp_sv _) (.cons (dp_sv _) .nil)))) ih
end
/-! ### all alike -/
theorem dp_chosen {K : PySem.W.Frag} {H : Hp} {w : Addr} {p : Addr × Addr} {S : EdS} {Q : VK} {x0 x1 x3 x4 x5 : Option V} (hw : WiAt K H p S.cw) (q : RetD K (dChosen S) H Q) :
    (Ex.ifx (K := K) (Te.cmp Cm.isNot (Ex.ix (Ex.v 2) (Ex.i 1)) Ex.none) (Ex.tup (As.cons (Ex.min (As.cons (Ex.ix (Ex.v 2) (Ex.i 0)) (As.cons (Ex.ix (Ex.v 2) (Ex.i 1)) As.nil))) (As.cons (Ex.max (As.cons (Ex.ix (Ex.v 2) (Ex.i 0)) (As.cons (Ex.ix (Ex.v 2) (Ex.i 1)) As.nil))) As.nil))) Ex.none).t [x0, x1, some (.ref p.1), x3, x4, x5] H Q := by
  refine hw.g1 ?_
  unfold dChosen at q
  cases hc : S.cw.anchor with
  | none =>
    rw [hc] at q
    exact q H .non (Xt.refl H) .non
  | some a =>
    rw [hc] at q
    refine hw.g0 (hw.g1 ?_)
    rw [hc]
    refine hw.g0 (hw.g1 ?_)
    rw [hc]
    refine ⟨by show 2 ≤ sizeLine; decide, fun T hT => ?_⟩
    refine q _ _ (xt_new hT) (.tup (SqT.of upd_same) ?_)
    rw [int_min, int_max, Nat.min_comm S.cw.spot a, Nat.max_comm S.cw.spot a]
    exact .cons (.int _) (.cons (.int _) .nil)
def dNow (S : EdS) : PyData := .tuple [dS S.text, .int S.cw.spot, dChosen S]
theorem sh_now {S : EdS} (o : S.ok) : Sh 2 (dNow S) := sh_tup (n := 1) fun d hd => by
  simp at hd
  rcases hd with rfl | rfl | rfl
  · exact sh_str (text_strOk o.txt)
  · exact sh_int _
  · exact sh_chosen S
theorem rd_same_6 (K : PySem.W.Frag) {e w : Addr} {A B : EdA} {S : EdS} {H : Hp} {Q : VK} {x2 x3 : Option V} (h : EdAt K H e A S) (g : WoAt K H w B S) (o : S.ok) (q : RetV (.bl true) H Q) :
    (t_law_same_6 K).t { nx := fun _ H' => Q .non H', rt := Q } [some (.ref e), some (.ref w), x2, x3, none, none] H := by
  refine ⟨A.dx, edF A S, h.own, rfl, ⟨e, A, S, rfl, h, o, fun H1 v e1 hv => ?_⟩⟩
  refine w_stas (g.xt e1) o fun H2 v2 e2 hv2 => ?_
  exact eq_dat (hv.xt e2) hv2 (sh_stas S) (by decide) (q H2 (e1.trans e2))
theorem rd_same_5 (K : PySem.W.Frag) {e w : Addr} {A B : EdA} {S : EdS} {H : Hp} {Q : VK} {x2 x3 : Option V} (h : EdAt K H e A S) (g : WoAt K H w B S) (o : S.ok) (q : RetV (.bl true) H Q) :
    (t_law_same_5 K).t { nx := fun _ H' => Q .non H', rt := Q } [some (.ref e), some (.ref w), x2, x3, none, none] H := by
  refine ⟨A.dx, edF A S, h.own, rfl, ⟨e, A, S, rfl, h, o, fun H1 v e1 hv => ?_⟩⟩
  refine w_macs (g.xt e1) o fun H2 v2 e2 hv2 => ?_
  refine ne_dat (hv.xt e2) hv2 (sh_macs o) (by decide) ?_
  exact rd_same_6 K (h.xt (e1.trans e2)) (g.xt (e1.trans e2)) o fun H3 e3 => q H3 ((e1.trans e2).trans e3)
theorem rd_same_4 (K : PySem.W.Frag) {e w : Addr} {A B : EdA} {S : EdS} {H : Hp} {Q : VK} {x2 x3 : Option V} (h : EdAt K H e A S) (g : WoAt K H w B S) (o : S.ok) (q : RetV (.bl true) H Q) :
    (t_law_same_4 K).t { nx := fun _ H' => Q .non H', rt := Q } [some (.ref e), some (.ref w), x2, x3, none, none] H := by
  refine ⟨A.dx, edF A S, h.own, rfl, ⟨e, A, S, rfl, h, o, fun H1 v e1 hv => ?_⟩⟩
  refine w_regs (g.xt e1) o fun H2 v2 e2 hv2 => ?_
  refine ne_dat (hv.xt e2) hv2 (sh_regs o) (by decide) ?_
  exact rd_same_5 K (h.xt (e1.trans e2)) (g.xt (e1.trans e2)) o fun H3 e3 => q H3 ((e1.trans e2).trans e3)
theorem rd_same_3 (K : PySem.W.Frag) {e w : Addr} {A B : EdA} {S : EdS} {H : Hp} {Q : VK} {x2 x3 : Option V} (h : EdAt K H e A S) (g : WoAt K H w B S) (o : S.ok) (q : RetV (.bl true) H Q) :
    (t_law_same_3 K).t { nx := fun _ H' => Q .non H', rt := Q } [some (.ref e), some (.ref w), x2, x3, none, none] H := by
  refine ⟨A.dx, edF A S, h.own, rfl, ⟨e, A, S, rfl, h, o, fun H1 v e1 hv => ?_⟩⟩
  refine w_marks (g.xt e1) o fun H2 v2 e2 hv2 => ?_
  refine ne_dat (hv.xt e2) hv2 (sh_marks o) (by decide) ?_
  exact rd_same_4 K (h.xt (e1.trans e2)) (g.xt (e1.trans e2)) o fun H3 e3 => q H3 ((e1.trans e2).trans e3)
theorem rd_same_2 (K : PySem.W.Frag) {e w : Addr} {A B : EdA} {S : EdS} {H : Hp} {Q : VK} {x2 x3 : Option V} (h : EdAt K H e A S) (g : WoAt K H w B S) (o : S.ok) (q : RetV (.bl true) H Q) :
    (t_law_same_2 K).t { nx := fun _ H' => Q .non H', rt := Q } [some (.ref e), some (.ref w), x2, x3, none, none] H := by
  refine ⟨A.dx, edF A S, h.own, rfl, ⟨e, A, S, rfl, h, o, fun H1 v e1 hv => ?_⟩⟩
  refine w_wins (g.xt e1) o fun H2 v2 e2 hv2 => ?_
  refine ne_dat (hv.xt e2) hv2 (sh_wins S) (by decide) ?_
  exact rd_same_3 K (h.xt (e1.trans e2)) (g.xt (e1.trans e2)) o fun H3 e3 => q H3 ((e1.trans e2).trans e3)
theorem rd_law_same (K : PySem.W.Frag) : ∀ vs H Q E, sp_law_same K vs H Q E → (b_law_same K).t { nx := fun _ H' => Q .non H', rt := Q } (start N_law_same vs) H := by
  rintro _ H Q E ⟨e, A, w, B, S, rfl, h, g, o, q⟩
  refine ⟨w, B, S, rfl, g, o, fun p hp hw => ?_⟩
  refine dp_chosen (w := w) hw fun H1 vc e1 hvc => ?_
  have h1 := h.xt e1
  refine ⟨A.dx, edF A S, h1.own, rfl, ⟨e, A, S, rfl, h1, ⟨A.dx, edF A S, h1.own, rfl, ⟨e, A, S, rfl, h1, o, ⟨A.dx, edF A S, h1.own, rfl, ⟨e, A, S, rfl, h1, o, fun H2 v e2 hv => ?_⟩⟩⟩⟩⟩⟩
  refine ⟨by show 3 ≤ sizeLine; decide, fun T hT => ?_⟩
  have x3 := xt_new (o := .tup [sv S.text, iv S.cw.spot, v]) hT
  have e3 := (e1.trans e2).trans x3
  have g3 := g.xt e3
  have hw3 : WiAt K _ p S.cw := e3 _ _ hw
  refine g3.g_text (hw3.g0 ⟨by show 3 ≤ sizeLine; decide, fun R hR => ?_⟩)
  have x4 := xt_new (o := .tup [sv S.text, iv S.cw.spot, vc]) hR
  have e4 := e3.trans x4
  refine ne_dat (d := dNow S) (n := 2) (.tup (SqT.of (x4 _ _ upd_same)) (.cons (dp_sv _) (.cons (.int _) (.cons (hv.xt (x3.trans x4)) .nil)))) (.tup (SqT.of upd_same) (.cons (dp_sv _) (.cons (.int _) (.cons (hvc.xt ((e2.trans x3).trans x4)) .nil)))) (sh_now o) (by decide) ?_
  exact rd_same_2 K (h.xt e4) (g.xt e4) o fun H5 e5 => q H5 (e4.trans e5)
end Ed

/-! the law's world is made -/
namespace Ed
open PySem L2 Cb
open Evl (Ev EvT)
def sp_law_new (K : PySem.W.Frag) : Sp := fun vs H Q _ => ∃ (t : List Nat), vs = [sv t] ∧
  ∀ w A H', WoAt K H' w A (edNew t) → Xt H H' → (∀ p ∈ fp w A, H p = none) → Q (.ref w) H'
def b_law_new (K : PySem.W.Frag) : Ss K :=
  (Ss.cons (Sm.set 1 (Ex.disp (Ps.cons (Ex.s ⟨#[116, 101, 120, 116]⟩) (Ex.v 0) (Ps.cons (Ex.s ⟨#[119, 105, 110, 115]⟩) (Ex.lst (As.cons (Ex.lst (As.cons (Ex.i 0) (As.cons Ex.none (As.cons Ex.none As.nil)))) As.nil)) (Ps.cons (Ex.s ⟨#[97, 99, 116, 105, 118, 101]⟩) (Ex.i 0) (Ps.cons (Ex.s ⟨#[109, 97, 114, 107, 115]⟩) Ex.dnew (Ps.cons (Ex.s ⟨#[114, 101, 103, 115]⟩) Ex.dnew (Ps.cons (Ex.s ⟨#[112, 97, 116, 116, 101, 114, 110]⟩) Ex.none Ps.nil))))))))
  (Ss.cons (Sm.ex (Ex.upd (Ex.v 1) (As.cons (Ex.disp (Ps.cons (Ex.s ⟨#[109, 97, 99, 114, 111, 115]⟩) Ex.dnew (Ps.cons (Ex.s ⟨#[116, 97, 107, 105, 110, 103]⟩) Ex.none (Ps.cons (Ex.s ⟨#[116, 97, 107, 101, 110]⟩) (Ex.lst As.nil) (Ps.cons (Ex.s ⟨#[108, 97, 115, 116]⟩) Ex.none (Ps.cons (Ex.s ⟨#[115, 116, 97, 116, 101, 115]⟩) (Ex.lst (As.cons (Ex.tup (As.cons Ex.none (As.cons (Ex.v 0) As.nil))) As.nil)) (Ps.cons (Ex.s ⟨#[115, 116, 97, 116, 101]⟩) (Ex.i 0) Ps.nil))))))) As.nil)))
  (Ss.cons (Sm.dput (Ex.v 1) (Ex.s ⟨#[108, 101, 102, 116]⟩) (Ex.i 0))
  (Ss.cons (Sm.ret (Ex.v 1))
  Ss.nil))))
def N_law_new : List Str := ["text", "world"]
structure Nw (w : Addr) (H Hc : Hp) (ow : HO) (L : List (Addr × HO)) : Prop where
  own : Hc w = some ow
  new : H w = none
  keep : Xt H Hc
  has : ∀ q ∈ L, Hc q.1 = some q.2
  off : ∀ q ∈ L, q.1 ≠ w ∧ H q.1 = none
  nd : (L.map (·.1)).Nodup
theorem Nw.begin {w : Addr} {H : Hp} (h : H w = none) (o : HO) : Nw w H (upd H w o) o [] := ⟨upd_same, h, xt_new h, by simp, by simp, by simp⟩
theorem Nw.store {w : Addr} {H Hc : Hp} {ow : HO} {L : List (Addr × HO)} (i : Nw w H Hc ow L) (o : HO) : Nw w H (upd Hc w o) o L where
  own := upd_same
  new := i.new
  keep := xt_mut i.keep i.new
  has := fun q hq => by rw [upd_ne (i.off q hq).1]; exact i.has q hq
  off := i.off
  nd := i.nd
theorem Nw.add {w : Addr} {H Hc : Hp} {ow : HO} {L : List (Addr × HO)} {p : Addr} (i : Nw w H Hc ow L) (hp : Hc p = none) (o : HO) : Nw w H (upd Hc p o) ow ((p, o) :: L) := by
  have hx : p ≠ w := fun z => by rw [z, i.own] at hp; cases hp
  have hH : H p = none := xt_none i.keep hp
  have hL : ∀ q ∈ L, q.1 ≠ p := fun q hq z => by rw [← z, i.has q hq] at hp; cases hp
  refine ⟨by rw [upd_ne (Ne.symm hx)]; exact i.own, i.new, i.keep.trans (xt_new hp), fun q hq => ?_, fun q hq => ?_, ?_⟩
  · rcases List.mem_cons.mp hq with rfl | hq
    · exact upd_same
    · rw [upd_ne (hL q hq)]; exact i.has q hq
  · rcases List.mem_cons.mp hq with rfl | hq
    · exact ⟨hx, hH⟩
    · exact i.off q hq
  · refine List.nodup_cons.mpr ⟨fun z => ?_, i.nd⟩
    obtain ⟨q, hq, e⟩ := List.mem_map.mp z
    exact hL q hq e
theorem Nw.set {w : Addr} {H Hc : Hp} {ow : HO} {p : Addr} {o : HO} (L1 L2 : List (Addr × HO)) (i : Nw w H Hc ow (L1 ++ (p, o) :: L2)) (o' : HO) : Nw w H (upd Hc p o') ow (L1 ++ (p, o') :: L2) := by
  have hp := i.off (p, o) (by simp)
  have nd := i.nd
  rw [List.map_append, List.map_cons] at nd
  have nd' := List.nodup_append.mp nd
  have nd2 := List.nodup_cons.mp nd'.2.1
  refine ⟨by rw [upd_ne (Ne.symm hp.1)]; exact i.own, i.new, xt_mut i.keep hp.2, fun q hq => ?_, fun q hq => ?_, by rw [List.map_append, List.map_cons]; exact nd⟩
  · rcases List.mem_append.mp hq with hq | hq
    · have : q.1 ≠ p := nd'.2.2 q.1 (List.mem_map.mpr ⟨q, hq, rfl⟩) p (by simp)
      rw [upd_ne this]; exact i.has q (by simp [hq])
    · rcases List.mem_cons.mp hq with rfl | hq
      · exact upd_same
      · have : q.1 ≠ p := fun z => nd2.1 (by rw [← z]; exact List.mem_map.mpr ⟨q, hq, rfl⟩)
        rw [upd_ne this]; exact i.has q (by simp [hq])
  · rcases List.mem_append.mp hq with hq | hq
    · exact i.off q (by simp [hq])
    · rcases List.mem_cons.mp hq with rfl | hq
      · exact hp
      · exact i.off q (by simp [hq])
def kv1 (t : List Nat) (ws d1 d2 : Addr) : List (Key × V) := [(kk "text", sv t), (kk "wins", .ref ws), (kk "active", iv 0), (kk "marks", .ref d1), (kk "regs", .ref d2), (kk "pattern", .non)]
def kv2 (d3 l st : Addr) : List (Key × V) := [(kk "macros", .ref d3), (kk "taking", .non), (kk "taken", .ref l), (kk "last", .non), (kk "states", .ref st), (kk "state", iv 0)]
theorem wo_new (t : List Nat) (ws wl d1 d2 d3 l st : Addr) : putK (mergeK (mergeK [] (kv1 t ws d1 d2)) (mergeK [] (kv2 d3 l st))) (kk "left") (iv 0) = woF ⟨0, ws, [(wl, 0)], d1, d2, d3, l, st, .non⟩ (edNew t) := by kernel_rfl
theorem rd_law_new (K : PySem.W.Frag) : ∀ vs H Q E, sp_law_new K vs H Q E → (b_law_new K).t { nx := fun _ H' => Q .non H', rt := Q } (start N_law_new vs) H := by
  rintro _ H Q E ⟨t, rfl, q⟩
  intro w hw
  have i0 := Nw.begin hw (.dK [])
  refine ⟨by show 3 ≤ sizeLine; decide, fun wl hwl => ⟨by show 1 ≤ sizeLine; decide, fun ws hws => ?_⟩⟩
  have i1 := (i0.add hwl (.lst [.int 0, .non, .non])).add hws (.lst [.ref wl])
  intro d1 hd1
  have i2 := i1.add hd1 (.dK [])
  intro d2 hd2
  have i3 := i2.add hd2 (.dK [])
  refine ⟨i3.own, kv1 t ws d1 d2, rfl, by show 6 ≤ 15; decide, ?_⟩
  have i4 := i3.store (.dK (mergeK [] (kv1 t ws d1 d2)))
  have hM1 : mergeK [] (kv1 t ws d1 d2) = kv1 t ws d1 d2 := by kernel_rfl
  rw [hM1] at i4 ⊢
  refine ⟨⟨_, i4.own⟩, fun w2 hw2 => ?_⟩
  have i5 := i4.add hw2 (.dK [])
  intro d3 hd3
  have i6 := i5.add hd3 (.dK [])
  refine ⟨by show 0 ≤ sizeLine; decide, fun l hl => ?_⟩
  have i7 := i6.add hl (.lst [])
  refine ⟨by show 2 ≤ sizeLine; decide, fun s hs => ⟨by show 1 ≤ sizeLine; decide, fun st hst => ?_⟩⟩
  have i8 := (i7.add hs (.tup [.non, sv t])).add hst (.lst [.ref s])
  refine ⟨i8.has (w2, .dK []) (by simp), kv2 d3 l st, rfl, by show 6 ≤ 15; decide, ?_⟩
  have hM2 : mergeK [] (kv2 d3 l st) = kv2 d3 l st := by kernel_rfl
  rw [hM2]
  have i9 := Nw.set [(st, .lst [.ref s]), (s, .tup [.non, sv t]), (l, .lst []), (d3, .dK [])] _ i8 (.dK (kv2 d3 l st))
  refine ⟨kv1 t ws d1 d2, kv2 d3 l st, Ne.symm (i9.off (w2, .dK (kv2 d3 l st)) (by simp)).1, i9.own, i9.has (w2, .dK (kv2 d3 l st)) (by simp), by show 12 ≤ sizeLine; decide, ?_⟩
  have i10 := i9.store (.dK (mergeK (kv1 t ws d1 d2) (kv2 d3 l st)))
  refine ⟨w, _, rfl, DPut.k (k := kk "left") i10.own (by rw [show mergeK (kv1 t ws d1 d2) (kv2 d3 l st) = kv1 t ws d1 d2 ++ kv2 d3 l st by kernel_rfl]; show 12 < sizeLine; decide), ?_⟩
  have hw0 := wo_new t ws wl d1 d2 d3 l st
  rw [hM1, hM2] at hw0
  change putK (mergeK (kv1 t ws d1 d2) (kv2 d3 l st)) (kk (Str.ofString "left")) (V.int 0) = _ at hw0
  rw [hw0]
  have i11 := i10.store (.dK (woF ⟨0, ws, [(wl, 0)], d1, d2, d3, l, st, .non⟩ (edNew t)))
  have nd := i11.nd
  have has := i11.has
  have off := i11.off
  simp only [List.cons_append, List.nil_append, List.map_cons, List.map_nil, List.nodup_cons, List.mem_cons, not_or, List.not_mem_nil, not_false_eq_true, and_true, List.nodup_nil] at nd
  simp only [List.cons_append, List.nil_append, List.mem_cons, List.not_mem_nil, or_false, forall_eq_or_imp, forall_eq] at has off
  obtain ⟨k1, k2, k3, k4, k5, k6, k7, k8, k9⟩ := has
  obtain ⟨o1, o2, o3, o4, o5, o6, o7, o8, o9⟩ := off
  refine q w ⟨0, ws, [(wl, 0)], d1, d2, d3, l, st, .non⟩ _ ⟨i11.own, k8, .cons k9 .nil, k7, ⟨[], k6, .nil⟩, ⟨[], k4, .nil⟩, ⟨[], k3, .nil⟩, rfl, ⟨[.ref s], k1, .cons ⟨s, rfl, k2⟩ .nil⟩, ?_⟩ i11.keep ?_
  · simp only [fp, List.map_cons, List.map_nil, List.nodup_cons, List.mem_cons, not_or, List.not_mem_nil, not_false_eq_true, and_true, List.nodup_nil]
    simp only [Ne] at *
    refine ⟨⟨?_, ?_, ?_, ?_, ?_, ?_, ?_⟩, ⟨?_, ?_, ?_, ?_, ?_, ?_⟩, ⟨?_, ?_, ?_, ?_, ?_⟩, ⟨?_, ?_, ?_, ?_⟩, ⟨?_, ?_, ?_⟩, ⟨?_, ?_⟩, ?_⟩ <;> (intro z; simp_all)
  · intro p hp
    simp only [fp, List.map_cons, List.map_nil, List.mem_cons, List.not_mem_nil, or_false] at hp
    rcases hp with rfl | rfl | rfl | rfl | rfl | rfl | rfl | rfl
    · exact i11.new
    · exact o8.2
    · exact o7.2
    · exact o6.2
    · exact o4.2
    · exact o3.2
    · exact o1.2
    · exact o9.2
end Ed

/-! the law's areas and deeds, as they are drawn -/
namespace Ed
open PySem L2 Cb
open Evl (Ev EvT)
abbrev RetR (K : PySem.W.Frag) (a w : Addr) (ns : List Int) (n : Nat) (H : Hp) (Q : VK) : Prop := ∀ (r : Ar) (s : Addr) (n' : Nat) (H' : Hp), r.ok → n' ≤ n + 12 → Dr K a w ns n' H' → Ch w H H' → ArAt H' s r → Q (.ref s) H'
def sp_law_area_of (K : PySem.W.Frag) : Sp := fun vs H Q _ => ∃ (a w : Addr) (ns : List Int) (n : Nat) (t : List Nat), vs = [.ref a, .ref w, sv t] ∧ Dr K a w ns n H ∧ n + 25 < 90000 ∧ isText t ∧ RetR K a w ns n H Q
def b_law_area_of (K : PySem.W.Frag) : Ss K :=
  (Ss.cons (Sm.set 3 (Ex.call "_law_draw" (sp_law_draw K) (As.cons (Ex.v 0) (As.cons (Ex.v 1) (As.cons (Ex.i 8) As.nil)))))
  (Ss.cons (Sm.ite (Te.cmp Cm.lt (Ex.v 3) (Ex.i 4))
    (Ss.cons (Sm.ret (Ex.tup (As.cons (Ex.s ⟨#[98, 121]⟩) (As.cons (Ex.call "_law_motion" (sp_law_motion K) (As.cons (Ex.v 0) (As.cons (Ex.v 1) (As.cons (Ex.v 2) As.nil)))) As.nil))))
    Ss.nil)
    Ss.nil)
  (Ss.cons (Sm.ite (Te.cmp Cm.eq (Ex.v 3) (Ex.i 4))
    (Ss.cons (Sm.ret (Ex.tup (As.cons (Ex.s ⟨#[114, 111, 119, 115]⟩) (As.cons (Ex.add (Ex.i 1) (Ex.call "_law_draw" (sp_law_draw K) (As.cons (Ex.v 0) (As.cons (Ex.v 1) (As.cons (Ex.i 3) As.nil))))) As.nil))))
    Ss.nil)
    Ss.nil)
  (Ss.cons (Sm.ite (Te.cmp Cm.eq (Ex.v 3) (Ex.i 5))
    (Ss.cons (Sm.ret (Ex.tup (As.cons (Ex.s ⟨#[119, 111, 114, 100]⟩) As.nil)))
    Ss.nil)
    Ss.nil)
  (Ss.cons (Sm.ret (Ex.ifx (Te.cmp Cm.eq (Ex.v 3) (Ex.i 6)) (Ex.tup (As.cons (Ex.s ⟨#[105, 110, 115, 105, 100, 101]⟩) (As.cons (Ex.call "_law_pick" (sp_law_pick K) (As.cons (Ex.v 0) (As.cons (Ex.v 1) (As.cons (Ex.lst (As.cons (Ex.s ⟨#[40]⟩) (As.cons (Ex.s ⟨#[91]⟩) (As.cons (Ex.s ⟨#[123]⟩) As.nil)))) As.nil)))) As.nil))) (Ex.tup (As.cons (Ex.s ⟨#[99, 104, 111, 115, 101, 110]⟩) As.nil))))
  Ss.nil)))))
def N_law_area_of : List Str := ["script", "town", "text", "kind"]
theorem rd_law_area_of (K : PySem.W.Frag) : ∀ vs H Q E, sp_law_area_of K vs H Q E → (b_law_area_of K).t { nx := fun _ H' => Q .non H', rt := Q } (start N_law_area_of vs) H := by
  rintro _ H Q E ⟨a, w, ns, n, t, rfl, d, hn, ht, q⟩
  refine ⟨a, w, ns, n, 8, rfl, d, by omega, by decide, fun r H1 r0 r1 d1 c1 => ?_⟩
  obtain ⟨r, rfl⟩ : ∃ i : Nat, r = (i : Int) := ⟨r.toNat, by omega⟩
  refine br_d (fun h4 => ?_) (fun h4 => ?_)
  · refine ⟨a, w, ns, n + 1, t, rfl, d1, by omega, ht, fun m s n2 H2 hm hn2 d2 c2 hs => ?_⟩
    refine ⟨by show 2 ≤ sizeLine; decide, fun T hT => ?_⟩
    exact q (.mot m) T n2 _ hm (by omega) (d2.xt (xt_new hT)) ((c1.trans c2).trans (Ch.of (xt_new hT))) ⟨s, upd_same, (xt_new hT) _ _ hs⟩
  · refine br_d (fun h5 => ?_) (fun h5 => ?_)
    · refine ⟨a, w, ns, n + 1, 3, rfl, d1, by omega, by decide, fun k H2 k0 k1 d2 c2 => ?_⟩
      obtain ⟨k, rfl⟩ : ∃ i : Nat, k = (i : Int) := ⟨k.toNat, by omega⟩
      refine ⟨by show 2 ≤ sizeLine; decide, fun T hT => ?_⟩
      exact q (.rows (1 + k)) T (n + 2) _ ⟨by omega, by omega⟩ (by omega) (d2.xt (xt_new hT)) ((c1.trans c2).trans (Ch.of (xt_new hT))) two_at
    · refine br_d (fun h6 => ?_) (fun h6 => ?_)
      · refine ⟨by show 1 ≤ sizeLine; decide, fun T hT => ?_⟩
        exact q .word T (n + 1) _ trivial (by omega) (d1.xt (xt_new hT)) (c1.trans (Ch.of (xt_new hT))) upd_same
      · refine br_d (fun h7 => ?_) (fun h7 => ?_)
        · refine ⟨by show 3 ≤ sizeLine; decide, fun l hl => ?_⟩
          have x2 := xt_new (o := .lst [sv [40], sv [91], sv [123]]) hl
          refine ⟨a, w, l, ns, n + 1, _, rfl, d1.xt x2, by omega, d1.fresh hl, upd_same, by simp, fun v H3 hv d3 c3 => ?_⟩
          have c13 : Ch w H H3 := c1.trans ((Ch.of x2).trans c3)
          simp at hv
          rcases hv with rfl | rfl | rfl
          · exact ⟨by show 2 ≤ sizeLine; decide, fun T hT => q (.inside 40 41) T (n + 2) _ (by show isKind 40 41; exact .inl ⟨rfl, rfl⟩) (by omega) (d3.xt (xt_new hT)) (c13.trans (Ch.of (xt_new hT))) upd_same⟩
          · exact ⟨by show 2 ≤ sizeLine; decide, fun T hT => q (.inside 91 93) T (n + 2) _ (by show isKind 91 93; exact .inr (.inl ⟨rfl, rfl⟩)) (by omega) (d3.xt (xt_new hT)) (c13.trans (Ch.of (xt_new hT))) upd_same⟩
          · exact ⟨by show 2 ≤ sizeLine; decide, fun T hT => q (.inside 123 125) T (n + 2) _ (by show isKind 123 125; exact .inr (.inr ⟨rfl, rfl⟩)) (by omega) (d3.xt (xt_new hT)) (c13.trans (Ch.of (xt_new hT))) upd_same⟩
        · refine ⟨by show 1 ≤ sizeLine; decide, fun T hT => ?_⟩
          exact q .chosen T (n + 1) _ trivial (by omega) (d1.xt (xt_new hT)) (c1.trans (Ch.of (xt_new hT))) upd_same
end Ed

/-! the law's deeds, as they are drawn -/
namespace Ed
open PySem L2 Cb
open Evl (Ev EvT)
def words : List (List Nat) := [w_go, w_choose, w_cut, w_copy, w_turn, w_shift, w_put, w_write, w_mark, w_undo, w_redo, w_to, w_record, w_stop, w_play, w_dot, w_open, w_window, w_close]
abbrev RetDe (K : PySem.W.Frag) (a w : Addr) (ns : List Int) (n : Nat) (ws : List (List Nat)) (H : Hp) (Q : VK) : Prop := ∀ (e : De) (x : V) (n' : Nat) (H' : Hp), e.ok → e.word ∈ ws → n' ≤ n + 20 → Dr K a w ns n' H' → Ch w H H' → DeAt H' x e → Q x H'
def sp_law_deed (K : PySem.W.Frag) : Sp := fun vs H Q _ => ∃ (a w l : Addr) (ns : List Int) (n : Nat) (t : List Nat) (ws : List (List Nat)), vs = [.ref a, .ref w, sv t, .ref l] ∧ Dr K a w ns n H ∧ n + 150 < 90000 ∧ isText t ∧ l ≠ w ∧ H l = some (.lst (ws.map sv)) ∧ ws ≠ [] ∧ (∀ x ∈ ws, x ∈ words) ∧ RetDe K a w ns n ws H Q
def t_law_deed_1 (K : PySem.W.Frag) : Ss K :=
  (Ss.cons (Sm.ite (Te.cmp Cm.eq (Ex.v 4) (Ex.s ⟨#[103, 111]⟩))
    (Ss.cons (Sm.ret (Ex.tup (As.cons (Ex.s ⟨#[103, 111]⟩) (As.cons (Ex.call "_law_motion" (sp_law_motion K) (As.cons (Ex.v 0) (As.cons (Ex.v 1) (As.cons (Ex.v 2) As.nil)))) As.nil))))
    Ss.nil)
    Ss.nil)
  (Ss.cons (Sm.ite (Te.cmp Cm.isin (Ex.v 4) (Ex.tup (As.cons (Ex.s ⟨#[99, 117, 116]⟩) (As.cons (Ex.s ⟨#[99, 111, 112, 121]⟩) As.nil))))
    (Ss.cons (Sm.ret (Ex.tup (As.cons (Ex.v 4) (As.cons (Ex.call "_law_area_of" (sp_law_area_of K) (As.cons (Ex.v 0) (As.cons (Ex.v 1) (As.cons (Ex.v 2) As.nil)))) (As.cons (Ex.v 5) As.nil)))))
    Ss.nil)
    Ss.nil)
  (Ss.cons (Sm.ite (Te.cmp Cm.eq (Ex.v 4) (Ex.s ⟨#[116, 117, 114, 110]⟩))
    (Ss.cons (Sm.ret (Ex.tup (As.cons (Ex.v 4) (As.cons (Ex.call "_law_area_of" (sp_law_area_of K) (As.cons (Ex.v 0) (As.cons (Ex.v 1) (As.cons (Ex.v 2) As.nil)))) (As.cons (Ex.call "_law_pick" (sp_law_pick K) (As.cons (Ex.v 0) (As.cons (Ex.v 1) (As.cons (Ex.lst (As.cons (Ex.s ⟨#[103, 114, 101, 97, 116]⟩) (As.cons (Ex.s ⟨#[115, 109, 97, 108, 108]⟩) As.nil))) As.nil)))) As.nil)))))
    Ss.nil)
    Ss.nil)
  (Ss.cons (Sm.ite (Te.cmp Cm.eq (Ex.v 4) (Ex.s ⟨#[115, 104, 105, 102, 116]⟩))
    (Ss.cons (Sm.ret (Ex.tup (As.cons (Ex.v 4) (As.cons (Ex.call "_law_area_of" (sp_law_area_of K) (As.cons (Ex.v 0) (As.cons (Ex.v 1) (As.cons (Ex.v 2) As.nil)))) (As.cons (Ex.call "_law_pick" (sp_law_pick K) (As.cons (Ex.v 0) (As.cons (Ex.v 1) (As.cons (Ex.lst (As.cons (Ex.s ⟨#[105, 110]⟩) (As.cons (Ex.s ⟨#[111, 117, 116]⟩) As.nil))) As.nil)))) As.nil)))))
    Ss.nil)
    Ss.nil)
  (Ss.cons (Sm.ite (Te.cmp Cm.isin (Ex.v 4) (Ex.tup (As.cons (Ex.s ⟨#[112, 117, 116]⟩) (As.cons (Ex.s ⟨#[112, 108, 97, 121]⟩) As.nil))))
    (Ss.cons (Sm.ret (Ex.tup (As.cons (Ex.v 4) (As.cons (Ex.v 5) (As.cons (Ex.add (Ex.i 1) (Ex.call "_law_draw" (sp_law_draw K) (As.cons (Ex.v 0) (As.cons (Ex.v 1) (As.cons (Ex.call "_law_pick" (sp_law_pick K) (As.cons (Ex.v 0) (As.cons (Ex.v 1) (As.cons (Ex.lst (As.cons (Ex.i 1) (As.cons (Ex.i 2) (As.cons (Ex.i 4) As.nil)))) As.nil)))) As.nil))))) As.nil)))))
    Ss.nil)
    Ss.nil)
  (Ss.cons (Sm.ite (Te.cmp Cm.eq (Ex.v 4) (Ex.s ⟨#[119, 114, 105, 116, 101]⟩))
    (Ss.cons (Sm.set 6 (Ex.sl (Ex.call "_law_piece" (sp_law_piece K) (As.cons (Ex.v 0) (As.cons (Ex.v 1) (As.cons (Ex.i 5) As.nil)))) Op.no (Op.yes (Ex.i 10))))
    (Ss.cons (Sm.ret (Ex.tup (As.cons (Ex.v 4) (As.cons (Ex.ifx (Te.cmp Cm.ne (Ex.v 6) (Ex.s ⟨#[]⟩)) (Ex.v 6) (Ex.s ⟨#[119]⟩)) As.nil))))
    Ss.nil))
    Ss.nil)
  (Ss.cons (Sm.ite (Te.cmp Cm.isin (Ex.v 4) (Ex.tup (As.cons (Ex.s ⟨#[109, 97, 114, 107]⟩) (As.cons (Ex.s ⟨#[114, 101, 99, 111, 114, 100]⟩) As.nil))))
    (Ss.cons (Sm.ret (Ex.tup (As.cons (Ex.v 4) (As.cons (Ex.v 5) As.nil))))
    Ss.nil)
    Ss.nil)
  (Ss.cons (Sm.ite (Te.cmp Cm.eq (Ex.v 4) (Ex.s ⟨#[116, 111]⟩))
    (Ss.cons (Sm.ret (Ex.tup (As.cons (Ex.v 4) (As.cons (Ex.call "_law_draw" (sp_law_draw K) (As.cons (Ex.v 0) (As.cons (Ex.v 1) (As.cons (Ex.call "_law_pick" (sp_law_pick K) (As.cons (Ex.v 0) (As.cons (Ex.v 1) (As.cons (Ex.lst (As.cons (Ex.i 4) (As.cons (Ex.i 12) As.nil))) As.nil)))) As.nil)))) As.nil))))
    Ss.nil)
    Ss.nil)
  (Ss.cons (Sm.ret (Ex.ifx (Te.cmp Cm.eq (Ex.v 4) (Ex.s ⟨#[119, 105, 110, 100, 111, 119]⟩)) (Ex.tup (As.cons (Ex.v 4) (As.cons (Ex.call "_law_draw" (sp_law_draw K) (As.cons (Ex.v 0) (As.cons (Ex.v 1) (As.cons (Ex.i 3) As.nil)))) As.nil))) (Ex.tup (As.cons (Ex.v 4) As.nil))))
  Ss.nil)))))))))
def b_law_deed (K : PySem.W.Frag) : Ss K :=
  (Ss.cons (Sm.set 4 (Ex.call "_law_pick" (sp_law_pick K) (As.cons (Ex.v 0) (As.cons (Ex.v 1) (As.cons (Ex.v 3) As.nil)))))
  (Ss.cons (Sm.set 5 (Ex.call "_law_pick" (sp_law_pick K) (As.cons (Ex.v 0) (As.cons (Ex.v 1) (As.cons (Ex.lst (As.cons (Ex.s ⟨#[97]⟩) (As.cons (Ex.s ⟨#[98]⟩) (As.cons (Ex.s ⟨#[97]⟩) (As.cons (Ex.s ⟨#[99]⟩) (As.cons (Ex.s ⟨#[100]⟩) As.nil)))))) As.nil)))))
  (t_law_deed_1 K)))
def N_law_deed : List Str := ["script", "town", "text", "words", "word", "name", "piece"]
theorem ok1 {d : De} {p : Pt} (e : d.parts = [p]) (h : p.ok) : d.ok := fun q hq => by rw [e] at hq; simp at hq; subst hq; exact h
theorem ok0 {d : De} (e : d.parts = []) : d.ok := fun q hq => by rw [e] at hq; cases hq
theorem ok2 {d : De} {p p' : Pt} (e : d.parts = [p, p']) (h : p.ok) (h' : p'.ok) : d.ok := fun q hq => by
  rw [e] at hq; simp at hq
  rcases hq with rfl | rfl
  · exact h
  · exact h'
theorem deed_go (K : PySem.W.Frag) {a w l : Addr} {ns : List Int} {n : Nat} {t : List Nat} {c : Nat} {H : Hp} {Q : VK} (ws : List (List Nat)) (d0 : Dr K a w ns n H) (hn : n + 140 < 90000) (ht : isText t) (hc : isName c) (q : ∀ (e : De) (x : V) (n' : Nat) (H' : Hp), e.ok → e.word ∈ ws → n' ≤ n + 18 → Dr K a w ns n' H' → Ch w H H' → DeAt H' x e → Q x H') (hw : w_go ∈ ws) :
    (t_law_deed_1 K).t { nx := fun _ H' => Q .non H', rt := Q } [some (.ref a), some (.ref w), some (sv t), some (.ref l), some (sv w_go), some (sv [c]), none] H := by
  have c0 : Ch w H H := .refl
  refine ⟨a, w, ns, n, t, rfl, d0, by omega, ht, fun m s n3 H3 hm hn3 d9 c9 hs => ⟨by show 2 ≤ sizeLine; decide, fun T hT => ?_⟩⟩
  exact q (.go m) _ n3 _ (ok1 rfl hm) hw (by omega) (d9.xt (xt_new hT)) ((c0.trans c9).trans (Ch.of (xt_new hT))) (deAt_go ((xt_new hT) _ _ hs) upd_same)
theorem deed_cut (K : PySem.W.Frag) {a w l : Addr} {ns : List Int} {n : Nat} {t : List Nat} {c : Nat} {H : Hp} {Q : VK} (ws : List (List Nat)) (d0 : Dr K a w ns n H) (hn : n + 140 < 90000) (ht : isText t) (hc : isName c) (q : ∀ (e : De) (x : V) (n' : Nat) (H' : Hp), e.ok → e.word ∈ ws → n' ≤ n + 18 → Dr K a w ns n' H' → Ch w H H' → DeAt H' x e → Q x H') (hw : w_cut ∈ ws) :
    (t_law_deed_1 K).t { nx := fun _ H' => Q .non H', rt := Q } [some (.ref a), some (.ref w), some (sv t), some (.ref l), some (sv w_cut), some (sv [c]), none] H := by
  have c0 : Ch w H H := .refl
  refine ⟨by decide, fun T1 hT1 => ⟨T1, _, rfl, .inr (SqT.of upd_same), rfl, rfl, ?_⟩⟩
  have y1 := xt_new (o := .tup [sv w_cut, sv w_copy]) hT1
  have d1 := d0.xt y1
  have c1 := c0.trans (Ch.of y1)
  refine ⟨a, w, ns, n, t, rfl, d1, by omega, ht, fun r s n3 H3 hr hn3 d9 c9 hs => ⟨by show 3 ≤ sizeLine; decide, fun T hT => ?_⟩⟩
  exact q (.cut r c) _ n3 _ (ok2 rfl hr hc) hw (by omega) (d9.xt (xt_new hT)) ((c1.trans c9).trans (Ch.of (xt_new hT))) ⟨T, [.ref s, sv [c]], rfl, upd_same, ⟨s, rfl, hs.to (xt_new hT)⟩, rfl, trivial⟩
theorem deed_copy (K : PySem.W.Frag) {a w l : Addr} {ns : List Int} {n : Nat} {t : List Nat} {c : Nat} {H : Hp} {Q : VK} (ws : List (List Nat)) (d0 : Dr K a w ns n H) (hn : n + 140 < 90000) (ht : isText t) (hc : isName c) (q : ∀ (e : De) (x : V) (n' : Nat) (H' : Hp), e.ok → e.word ∈ ws → n' ≤ n + 18 → Dr K a w ns n' H' → Ch w H H' → DeAt H' x e → Q x H') (hw : w_copy ∈ ws) :
    (t_law_deed_1 K).t { nx := fun _ H' => Q .non H', rt := Q } [some (.ref a), some (.ref w), some (sv t), some (.ref l), some (sv w_copy), some (sv [c]), none] H := by
  have c0 : Ch w H H := .refl
  refine ⟨by decide, fun T1 hT1 => ⟨T1, _, rfl, .inr (SqT.of upd_same), rfl, rfl, ?_⟩⟩
  have y1 := xt_new (o := .tup [sv w_cut, sv w_copy]) hT1
  have d1 := d0.xt y1
  have c1 := c0.trans (Ch.of y1)
  refine ⟨a, w, ns, n, t, rfl, d1, by omega, ht, fun r s n3 H3 hr hn3 d9 c9 hs => ⟨by show 3 ≤ sizeLine; decide, fun T hT => ?_⟩⟩
  exact q (.copy r c) _ n3 _ (ok2 rfl hr hc) hw (by omega) (d9.xt (xt_new hT)) ((c1.trans c9).trans (Ch.of (xt_new hT))) ⟨T, [.ref s, sv [c]], rfl, upd_same, ⟨s, rfl, hs.to (xt_new hT)⟩, rfl, trivial⟩
theorem deed_turn (K : PySem.W.Frag) {a w l : Addr} {ns : List Int} {n : Nat} {t : List Nat} {c : Nat} {H : Hp} {Q : VK} (ws : List (List Nat)) (d0 : Dr K a w ns n H) (hn : n + 140 < 90000) (ht : isText t) (hc : isName c) (q : ∀ (e : De) (x : V) (n' : Nat) (H' : Hp), e.ok → e.word ∈ ws → n' ≤ n + 18 → Dr K a w ns n' H' → Ch w H H' → DeAt H' x e → Q x H') (hw : w_turn ∈ ws) :
    (t_law_deed_1 K).t { nx := fun _ H' => Q .non H', rt := Q } [some (.ref a), some (.ref w), some (sv t), some (.ref l), some (sv w_turn), some (sv [c]), none] H := by
  have c0 : Ch w H H := .refl
  refine ⟨by decide, fun T1 hT1 => ⟨T1, _, rfl, .inr (SqT.of upd_same), rfl, rfl, ?_⟩⟩
  have y1 := xt_new (o := .tup [sv w_cut, sv w_copy]) hT1
  have d1 := d0.xt y1
  have c1 := c0.trans (Ch.of y1)
  refine ⟨a, w, ns, n, t, rfl, d1, by omega, ht, fun r s n3 H3 hr hn3 d9 c9 hs => ⟨by show 2 ≤ sizeLine; decide, fun l2 hl2 => ?_⟩⟩
  have x2 := xt_new (o := .lst [sv w_great, sv w_small]) hl2
  refine ⟨a, w, l2, ns, n3, _, rfl, d9.xt x2, by omega, d9.fresh hl2, upd_same, by simp, fun v H4 hv d10 c10 => ⟨by show 3 ≤ sizeLine; decide, fun T hT => ?_⟩⟩
  have hs4 := ((hs.to x2).tk ((d9.xt x2).tk c10)).to (xt_new (o := .tup [sv w_turn, .ref s, v]) hT)
  have hg : ∃ g : Bool, v = sv (if g then w_great else w_small) := by
    simp at hv
    rcases hv with rfl | rfl
    · exact ⟨true, rfl⟩
    · exact ⟨false, rfl⟩
  obtain ⟨g, rfl⟩ := hg
  exact q (.turn r g) _ (n3 + 1) _ (ok2 rfl hr trivial) hw (by omega) (d10.xt (xt_new hT)) (((c1.trans c9).trans ((Ch.of x2).trans c10)).trans (Ch.of (xt_new hT))) ⟨T, _, rfl, upd_same, ⟨s, rfl, hs4⟩, rfl, trivial⟩
theorem deed_shift (K : PySem.W.Frag) {a w l : Addr} {ns : List Int} {n : Nat} {t : List Nat} {c : Nat} {H : Hp} {Q : VK} (ws : List (List Nat)) (d0 : Dr K a w ns n H) (hn : n + 140 < 90000) (ht : isText t) (hc : isName c) (q : ∀ (e : De) (x : V) (n' : Nat) (H' : Hp), e.ok → e.word ∈ ws → n' ≤ n + 18 → Dr K a w ns n' H' → Ch w H H' → DeAt H' x e → Q x H') (hw : w_shift ∈ ws) :
    (t_law_deed_1 K).t { nx := fun _ H' => Q .non H', rt := Q } [some (.ref a), some (.ref w), some (sv t), some (.ref l), some (sv w_shift), some (sv [c]), none] H := by
  have c0 : Ch w H H := .refl
  refine ⟨by decide, fun T1 hT1 => ⟨T1, _, rfl, .inr (SqT.of upd_same), rfl, rfl, ?_⟩⟩
  have y1 := xt_new (o := .tup [sv w_cut, sv w_copy]) hT1
  have d1 := d0.xt y1
  have c1 := c0.trans (Ch.of y1)
  refine ⟨a, w, ns, n, t, rfl, d1, by omega, ht, fun r s n3 H3 hr hn3 d9 c9 hs => ⟨by show 2 ≤ sizeLine; decide, fun l2 hl2 => ?_⟩⟩
  have x2 := xt_new (o := .lst [sv w_in, sv w_out]) hl2
  refine ⟨a, w, l2, ns, n3, _, rfl, d9.xt x2, by omega, d9.fresh hl2, upd_same, by simp, fun v H4 hv d10 c10 => ⟨by show 3 ≤ sizeLine; decide, fun T hT => ?_⟩⟩
  have hs4 := ((hs.to x2).tk ((d9.xt x2).tk c10)).to (xt_new (o := .tup [sv w_shift, .ref s, v]) hT)
  have hg : ∃ g : Bool, v = sv (if g then w_in else w_out) := by
    simp at hv
    rcases hv with rfl | rfl
    · exact ⟨true, rfl⟩
    · exact ⟨false, rfl⟩
  obtain ⟨g, rfl⟩ := hg
  exact q (.shift r g) _ (n3 + 1) _ (ok2 rfl hr trivial) hw (by omega) (d10.xt (xt_new hT)) (((c1.trans c9).trans ((Ch.of x2).trans c10)).trans (Ch.of (xt_new hT))) ⟨T, _, rfl, upd_same, ⟨s, rfl, hs4⟩, rfl, trivial⟩
theorem deed_put (K : PySem.W.Frag) {a w l : Addr} {ns : List Int} {n : Nat} {t : List Nat} {c : Nat} {H : Hp} {Q : VK} (ws : List (List Nat)) (d0 : Dr K a w ns n H) (hn : n + 140 < 90000) (ht : isText t) (hc : isName c) (q : ∀ (e : De) (x : V) (n' : Nat) (H' : Hp), e.ok → e.word ∈ ws → n' ≤ n + 18 → Dr K a w ns n' H' → Ch w H H' → DeAt H' x e → Q x H') (hw : w_put ∈ ws) :
    (t_law_deed_1 K).t { nx := fun _ H' => Q .non H', rt := Q } [some (.ref a), some (.ref w), some (sv t), some (.ref l), some (sv w_put), some (sv [c]), none] H := by
  have c0 : Ch w H H := .refl
  refine ⟨by decide, fun T1 hT1 => ⟨T1, _, rfl, .inr (SqT.of upd_same), rfl, rfl, ?_⟩⟩
  have y1 := xt_new (o := .tup [sv w_cut, sv w_copy]) hT1
  have d1 := d0.xt y1
  have c1 := c0.trans (Ch.of y1)
  refine ⟨by decide, fun T2 hT2 => ⟨T2, _, rfl, .inr (SqT.of upd_same), rfl, rfl, ?_⟩⟩
  have y2 := xt_new (o := .tup [sv w_put, sv w_play]) hT2
  have d2 := d1.xt y2
  have c2 := c1.trans (Ch.of y2)
  refine ⟨by show 3 ≤ sizeLine; decide, fun l2 hl2 => ?_⟩
  have x2 := xt_new (o := .lst [.int 1, .int 2, .int 4]) hl2
  refine ⟨a, w, l2, ns, n, _, rfl, d2.xt x2, by omega, d2.fresh hl2, upd_same, by simp, fun v H4 hv d10 c10 => ?_⟩
  have hk : ∃ k : Nat, v = iv k ∧ 1 ≤ k ∧ k ≤ 4 := by
    simp at hv
    rcases hv with rfl | rfl | rfl
    · exact ⟨1, rfl, by decide, by decide⟩
    · exact ⟨2, rfl, by decide, by decide⟩
    · exact ⟨4, rfl, by decide, by decide⟩
  obtain ⟨k, rfl, hk1, hk4⟩ := hk
  refine ⟨a, w, ns, n + 1, k, rfl, d10, by omega, by omega, fun r H5 r0 r1 d11 c11 => ?_⟩
  obtain ⟨r, rfl⟩ : ∃ i : Nat, r = (i : Int) := ⟨r.toNat, by omega⟩
  refine ⟨by show 3 ≤ sizeLine; decide, fun T hT => ?_⟩
  exact q (.put c (1 + r)) _ (n + 2) _ (ok2 rfl hc (by show 1 ≤ 1 + r ∧ 1 + r ≤ 4; omega)) hw (by omega) (d11.xt (xt_new hT)) (((c2.trans ((Ch.of x2).trans c10)).trans c11).trans (Ch.of (xt_new hT))) ⟨T, [sv [c], iv (1 + r)], rfl, three_at, rfl, rfl, trivial⟩
theorem deed_play (K : PySem.W.Frag) {a w l : Addr} {ns : List Int} {n : Nat} {t : List Nat} {c : Nat} {H : Hp} {Q : VK} (ws : List (List Nat)) (d0 : Dr K a w ns n H) (hn : n + 140 < 90000) (ht : isText t) (hc : isName c) (q : ∀ (e : De) (x : V) (n' : Nat) (H' : Hp), e.ok → e.word ∈ ws → n' ≤ n + 18 → Dr K a w ns n' H' → Ch w H H' → DeAt H' x e → Q x H') (hw : w_play ∈ ws) :
    (t_law_deed_1 K).t { nx := fun _ H' => Q .non H', rt := Q } [some (.ref a), some (.ref w), some (sv t), some (.ref l), some (sv w_play), some (sv [c]), none] H := by
  have c0 : Ch w H H := .refl
  refine ⟨by decide, fun T1 hT1 => ⟨T1, _, rfl, .inr (SqT.of upd_same), rfl, rfl, ?_⟩⟩
  have y1 := xt_new (o := .tup [sv w_cut, sv w_copy]) hT1
  have d1 := d0.xt y1
  have c1 := c0.trans (Ch.of y1)
  refine ⟨by decide, fun T2 hT2 => ⟨T2, _, rfl, .inr (SqT.of upd_same), rfl, rfl, ?_⟩⟩
  have y2 := xt_new (o := .tup [sv w_put, sv w_play]) hT2
  have d2 := d1.xt y2
  have c2 := c1.trans (Ch.of y2)
  refine ⟨by show 3 ≤ sizeLine; decide, fun l2 hl2 => ?_⟩
  have x2 := xt_new (o := .lst [.int 1, .int 2, .int 4]) hl2
  refine ⟨a, w, l2, ns, n, _, rfl, d2.xt x2, by omega, d2.fresh hl2, upd_same, by simp, fun v H4 hv d10 c10 => ?_⟩
  have hk : ∃ k : Nat, v = iv k ∧ 1 ≤ k ∧ k ≤ 4 := by
    simp at hv
    rcases hv with rfl | rfl | rfl
    · exact ⟨1, rfl, by decide, by decide⟩
    · exact ⟨2, rfl, by decide, by decide⟩
    · exact ⟨4, rfl, by decide, by decide⟩
  obtain ⟨k, rfl, hk1, hk4⟩ := hk
  refine ⟨a, w, ns, n + 1, k, rfl, d10, by omega, by omega, fun r H5 r0 r1 d11 c11 => ?_⟩
  obtain ⟨r, rfl⟩ : ∃ i : Nat, r = (i : Int) := ⟨r.toNat, by omega⟩
  refine ⟨by show 3 ≤ sizeLine; decide, fun T hT => ?_⟩
  exact q (.play c (1 + r)) _ (n + 2) _ (ok2 rfl hc (by show 1 ≤ 1 + r ∧ 1 + r ≤ 4; omega)) hw (by omega) (d11.xt (xt_new hT)) (((c2.trans ((Ch.of x2).trans c10)).trans c11).trans (Ch.of (xt_new hT))) ⟨T, [sv [c], iv (1 + r)], rfl, three_at, rfl, rfl, trivial⟩
theorem deed_write (K : PySem.W.Frag) {a w l : Addr} {ns : List Int} {n : Nat} {t : List Nat} {c : Nat} {H : Hp} {Q : VK} (ws : List (List Nat)) (d0 : Dr K a w ns n H) (hn : n + 140 < 90000) (ht : isText t) (hc : isName c) (q : ∀ (e : De) (x : V) (n' : Nat) (H' : Hp), e.ok → e.word ∈ ws → n' ≤ n + 18 → Dr K a w ns n' H' → Ch w H H' → DeAt H' x e → Q x H') (hw : w_write ∈ ws) :
    (t_law_deed_1 K).t { nx := fun _ H' => Q .non H', rt := Q } [some (.ref a), some (.ref w), some (sv t), some (.ref l), some (sv w_write), some (sv [c]), none] H := by
  have c0 : Ch w H H := .refl
  refine ⟨by decide, fun T1 hT1 => ⟨T1, _, rfl, .inr (SqT.of upd_same), rfl, rfl, ?_⟩⟩
  have y1 := xt_new (o := .tup [sv w_cut, sv w_copy]) hT1
  have d1 := d0.xt y1
  have c1 := c0.trans (Ch.of y1)
  refine ⟨by decide, fun T2 hT2 => ⟨T2, _, rfl, .inr (SqT.of upd_same), rfl, rfl, ?_⟩⟩
  have y2 := xt_new (o := .tup [sv w_put, sv w_play]) hT2
  have d2 := d1.xt y2
  have c2 := c1.trans (Ch.of y2)
  refine ⟨a, w, ns, n, 5, rfl, d2, by decide, by decide, by omega, fun p n3 H3 hl hok hn3 d9 c9 => ?_⟩
  refine ⟨sz (by rw [len_sv]; omega), ?_⟩
  have e : cutS ⟨p.toArray⟩ none (some 10) = ⟨(p.take 10).toArray⟩ := cut_toN p 10
  rw [e]
  have fin : ∀ z : List Nat, 1 ≤ z.length → z.length ≤ 10 → (∀ c ∈ z, okSign [10] c = true) → 2 ≤ sizeLine ∧ ∀ T, H3 T = none → Q (.ref T) (upd H3 T (.tup [sv w_write, sv z])) := fun z h1 h2 h3 => ⟨by decide, fun T hT => q (.write z) _ n3 _ (ok1 rfl ⟨h1, h2, h3⟩) hw (by omega) (d9.xt (xt_new hT)) ((c2.trans c9).trans (Ch.of (xt_new hT))) ⟨T, [sv z], rfl, upd_same, rfl, trivial⟩⟩
  have hlen : (p.take 10).length ≤ 10 := by simp; omega
  have hsig : ∀ c ∈ p.take 10, okSign [10] c = true := fun c h => hok c (List.mem_of_mem_take h)
  revert hlen hsig
  cases hp : p.take 10 with
  | nil => exact fun _ _ => fin [119] (by decide) (by decide) (by decide)
  | cons x r =>
    intro hlen hsig
    exact fin (x :: r) (by simp) hlen hsig
theorem deed_mark (K : PySem.W.Frag) {a w l : Addr} {ns : List Int} {n : Nat} {t : List Nat} {c : Nat} {H : Hp} {Q : VK} (ws : List (List Nat)) (d0 : Dr K a w ns n H) (hn : n + 140 < 90000) (ht : isText t) (hc : isName c) (q : ∀ (e : De) (x : V) (n' : Nat) (H' : Hp), e.ok → e.word ∈ ws → n' ≤ n + 18 → Dr K a w ns n' H' → Ch w H H' → DeAt H' x e → Q x H') (hw : w_mark ∈ ws) :
    (t_law_deed_1 K).t { nx := fun _ H' => Q .non H', rt := Q } [some (.ref a), some (.ref w), some (sv t), some (.ref l), some (sv w_mark), some (sv [c]), none] H := by
  have c0 : Ch w H H := .refl
  refine ⟨by decide, fun T1 hT1 => ⟨T1, _, rfl, .inr (SqT.of upd_same), rfl, rfl, ?_⟩⟩
  have y1 := xt_new (o := .tup [sv w_cut, sv w_copy]) hT1
  have d1 := d0.xt y1
  have c1 := c0.trans (Ch.of y1)
  refine ⟨by decide, fun T2 hT2 => ⟨T2, _, rfl, .inr (SqT.of upd_same), rfl, rfl, ?_⟩⟩
  have y2 := xt_new (o := .tup [sv w_put, sv w_play]) hT2
  have d2 := d1.xt y2
  have c2 := c1.trans (Ch.of y2)
  refine ⟨by decide, fun T3 hT3 => ⟨T3, _, rfl, .inr (SqT.of upd_same), rfl, rfl, ?_⟩⟩
  have y3 := xt_new (o := .tup [sv w_mark, sv w_record]) hT3
  have d3 := d2.xt y3
  have c3 := c2.trans (Ch.of y3)
  refine ⟨by show 2 ≤ sizeLine; decide, fun T hT => ?_⟩
  exact q (.mark c) _ n _ (ok1 rfl hc) hw (by omega) (d3.xt (xt_new hT)) (c3.trans (Ch.of (xt_new hT))) ⟨T, [sv [c]], rfl, upd_same, rfl, trivial⟩
theorem deed_record (K : PySem.W.Frag) {a w l : Addr} {ns : List Int} {n : Nat} {t : List Nat} {c : Nat} {H : Hp} {Q : VK} (ws : List (List Nat)) (d0 : Dr K a w ns n H) (hn : n + 140 < 90000) (ht : isText t) (hc : isName c) (q : ∀ (e : De) (x : V) (n' : Nat) (H' : Hp), e.ok → e.word ∈ ws → n' ≤ n + 18 → Dr K a w ns n' H' → Ch w H H' → DeAt H' x e → Q x H') (hw : w_record ∈ ws) :
    (t_law_deed_1 K).t { nx := fun _ H' => Q .non H', rt := Q } [some (.ref a), some (.ref w), some (sv t), some (.ref l), some (sv w_record), some (sv [c]), none] H := by
  have c0 : Ch w H H := .refl
  refine ⟨by decide, fun T1 hT1 => ⟨T1, _, rfl, .inr (SqT.of upd_same), rfl, rfl, ?_⟩⟩
  have y1 := xt_new (o := .tup [sv w_cut, sv w_copy]) hT1
  have d1 := d0.xt y1
  have c1 := c0.trans (Ch.of y1)
  refine ⟨by decide, fun T2 hT2 => ⟨T2, _, rfl, .inr (SqT.of upd_same), rfl, rfl, ?_⟩⟩
  have y2 := xt_new (o := .tup [sv w_put, sv w_play]) hT2
  have d2 := d1.xt y2
  have c2 := c1.trans (Ch.of y2)
  refine ⟨by decide, fun T3 hT3 => ⟨T3, _, rfl, .inr (SqT.of upd_same), rfl, rfl, ?_⟩⟩
  have y3 := xt_new (o := .tup [sv w_mark, sv w_record]) hT3
  have d3 := d2.xt y3
  have c3 := c2.trans (Ch.of y3)
  refine ⟨by show 2 ≤ sizeLine; decide, fun T hT => ?_⟩
  exact q (.record c) _ n _ (ok1 rfl hc) hw (by omega) (d3.xt (xt_new hT)) (c3.trans (Ch.of (xt_new hT))) ⟨T, [sv [c]], rfl, upd_same, rfl, trivial⟩
theorem deed_to (K : PySem.W.Frag) {a w l : Addr} {ns : List Int} {n : Nat} {t : List Nat} {c : Nat} {H : Hp} {Q : VK} (ws : List (List Nat)) (d0 : Dr K a w ns n H) (hn : n + 140 < 90000) (ht : isText t) (hc : isName c) (q : ∀ (e : De) (x : V) (n' : Nat) (H' : Hp), e.ok → e.word ∈ ws → n' ≤ n + 18 → Dr K a w ns n' H' → Ch w H H' → DeAt H' x e → Q x H') (hw : w_to ∈ ws) :
    (t_law_deed_1 K).t { nx := fun _ H' => Q .non H', rt := Q } [some (.ref a), some (.ref w), some (sv t), some (.ref l), some (sv w_to), some (sv [c]), none] H := by
  have c0 : Ch w H H := .refl
  refine ⟨by decide, fun T1 hT1 => ⟨T1, _, rfl, .inr (SqT.of upd_same), rfl, rfl, ?_⟩⟩
  have y1 := xt_new (o := .tup [sv w_cut, sv w_copy]) hT1
  have d1 := d0.xt y1
  have c1 := c0.trans (Ch.of y1)
  refine ⟨by decide, fun T2 hT2 => ⟨T2, _, rfl, .inr (SqT.of upd_same), rfl, rfl, ?_⟩⟩
  have y2 := xt_new (o := .tup [sv w_put, sv w_play]) hT2
  have d2 := d1.xt y2
  have c2 := c1.trans (Ch.of y2)
  refine ⟨by decide, fun T3 hT3 => ⟨T3, _, rfl, .inr (SqT.of upd_same), rfl, rfl, ?_⟩⟩
  have y3 := xt_new (o := .tup [sv w_mark, sv w_record]) hT3
  have d3 := d2.xt y3
  have c3 := c2.trans (Ch.of y3)
  refine ⟨by show 2 ≤ sizeLine; decide, fun l2 hl2 => ?_⟩
  have x2 := xt_new (o := .lst [.int 4, .int 12]) hl2
  refine ⟨a, w, l2, ns, n, _, rfl, d3.xt x2, by omega, d3.fresh hl2, upd_same, by simp, fun v H4 hv d10 c10 => ?_⟩
  have hk : ∃ k : Nat, v = iv k ∧ 1 ≤ k ∧ k ≤ 12 := by
    simp at hv
    rcases hv with rfl | rfl
    · exact ⟨4, rfl, by decide, by decide⟩
    · exact ⟨12, rfl, by decide, by decide⟩
  obtain ⟨k, rfl, hk1, hk4⟩ := hk
  refine ⟨a, w, ns, n + 1, k, rfl, d10, by omega, by omega, fun r H5 r0 r1 d11 c11 => ?_⟩
  obtain ⟨r, rfl⟩ : ∃ i : Nat, r = (i : Int) := ⟨r.toNat, by omega⟩
  refine ⟨by show 2 ≤ sizeLine; decide, fun T hT => ?_⟩
  exact q (.to r) _ (n + 2) _ (ok1 rfl (by show r ≤ 999; omega)) hw (by omega) (d11.xt (xt_new hT)) (((c3.trans ((Ch.of x2).trans c10)).trans c11).trans (Ch.of (xt_new hT))) ⟨T, [iv r], rfl, upd_same, rfl, trivial⟩
theorem deed_window (K : PySem.W.Frag) {a w l : Addr} {ns : List Int} {n : Nat} {t : List Nat} {c : Nat} {H : Hp} {Q : VK} (ws : List (List Nat)) (d0 : Dr K a w ns n H) (hn : n + 140 < 90000) (ht : isText t) (hc : isName c) (q : ∀ (e : De) (x : V) (n' : Nat) (H' : Hp), e.ok → e.word ∈ ws → n' ≤ n + 18 → Dr K a w ns n' H' → Ch w H H' → DeAt H' x e → Q x H') (hw : w_window ∈ ws) :
    (t_law_deed_1 K).t { nx := fun _ H' => Q .non H', rt := Q } [some (.ref a), some (.ref w), some (sv t), some (.ref l), some (sv w_window), some (sv [c]), none] H := by
  have c0 : Ch w H H := .refl
  refine ⟨by decide, fun T1 hT1 => ⟨T1, _, rfl, .inr (SqT.of upd_same), rfl, rfl, ?_⟩⟩
  have y1 := xt_new (o := .tup [sv w_cut, sv w_copy]) hT1
  have d1 := d0.xt y1
  have c1 := c0.trans (Ch.of y1)
  refine ⟨by decide, fun T2 hT2 => ⟨T2, _, rfl, .inr (SqT.of upd_same), rfl, rfl, ?_⟩⟩
  have y2 := xt_new (o := .tup [sv w_put, sv w_play]) hT2
  have d2 := d1.xt y2
  have c2 := c1.trans (Ch.of y2)
  refine ⟨by decide, fun T3 hT3 => ⟨T3, _, rfl, .inr (SqT.of upd_same), rfl, rfl, ?_⟩⟩
  have y3 := xt_new (o := .tup [sv w_mark, sv w_record]) hT3
  have d3 := d2.xt y3
  have c3 := c2.trans (Ch.of y3)
  refine ⟨a, w, ns, n, 3, rfl, d3, by omega, by decide, fun r H5 r0 r1 d11 c11 => ?_⟩
  obtain ⟨r, rfl⟩ : ∃ i : Nat, r = (i : Int) := ⟨r.toNat, by omega⟩
  refine ⟨by show 2 ≤ sizeLine; decide, fun T hT => ?_⟩
  exact q (.window r) _ (n + 1) _ (ok1 rfl (by show r ≤ 2; omega)) hw (by omega) (d11.xt (xt_new hT)) ((c3.trans c11).trans (Ch.of (xt_new hT))) ⟨T, [iv r], rfl, upd_same, rfl, trivial⟩
theorem deed_choose (K : PySem.W.Frag) {a w l : Addr} {ns : List Int} {n : Nat} {t : List Nat} {c : Nat} {H : Hp} {Q : VK} (ws : List (List Nat)) (d0 : Dr K a w ns n H) (hn : n + 140 < 90000) (ht : isText t) (hc : isName c) (q : ∀ (e : De) (x : V) (n' : Nat) (H' : Hp), e.ok → e.word ∈ ws → n' ≤ n + 18 → Dr K a w ns n' H' → Ch w H H' → DeAt H' x e → Q x H') (hw : w_choose ∈ ws) :
    (t_law_deed_1 K).t { nx := fun _ H' => Q .non H', rt := Q } [some (.ref a), some (.ref w), some (sv t), some (.ref l), some (sv w_choose), some (sv [c]), none] H := by
  have c0 : Ch w H H := .refl
  refine ⟨by decide, fun T1 hT1 => ⟨T1, _, rfl, .inr (SqT.of upd_same), rfl, rfl, ?_⟩⟩
  have y1 := xt_new (o := .tup [sv w_cut, sv w_copy]) hT1
  have d1 := d0.xt y1
  have c1 := c0.trans (Ch.of y1)
  refine ⟨by decide, fun T2 hT2 => ⟨T2, _, rfl, .inr (SqT.of upd_same), rfl, rfl, ?_⟩⟩
  have y2 := xt_new (o := .tup [sv w_put, sv w_play]) hT2
  have d2 := d1.xt y2
  have c2 := c1.trans (Ch.of y2)
  refine ⟨by decide, fun T3 hT3 => ⟨T3, _, rfl, .inr (SqT.of upd_same), rfl, rfl, ?_⟩⟩
  have y3 := xt_new (o := .tup [sv w_mark, sv w_record]) hT3
  have d3 := d2.xt y3
  have c3 := c2.trans (Ch.of y3)
  refine ⟨by show 1 ≤ sizeLine; decide, fun T hT => ?_⟩
  exact q .choose _ n _ (ok0 rfl) hw (by omega) (d3.xt (xt_new hT)) (c3.trans (Ch.of (xt_new hT))) ⟨T, [], rfl, upd_same, trivial⟩
theorem deed_undo (K : PySem.W.Frag) {a w l : Addr} {ns : List Int} {n : Nat} {t : List Nat} {c : Nat} {H : Hp} {Q : VK} (ws : List (List Nat)) (d0 : Dr K a w ns n H) (hn : n + 140 < 90000) (ht : isText t) (hc : isName c) (q : ∀ (e : De) (x : V) (n' : Nat) (H' : Hp), e.ok → e.word ∈ ws → n' ≤ n + 18 → Dr K a w ns n' H' → Ch w H H' → DeAt H' x e → Q x H') (hw : w_undo ∈ ws) :
    (t_law_deed_1 K).t { nx := fun _ H' => Q .non H', rt := Q } [some (.ref a), some (.ref w), some (sv t), some (.ref l), some (sv w_undo), some (sv [c]), none] H := by
  have c0 : Ch w H H := .refl
  refine ⟨by decide, fun T1 hT1 => ⟨T1, _, rfl, .inr (SqT.of upd_same), rfl, rfl, ?_⟩⟩
  have y1 := xt_new (o := .tup [sv w_cut, sv w_copy]) hT1
  have d1 := d0.xt y1
  have c1 := c0.trans (Ch.of y1)
  refine ⟨by decide, fun T2 hT2 => ⟨T2, _, rfl, .inr (SqT.of upd_same), rfl, rfl, ?_⟩⟩
  have y2 := xt_new (o := .tup [sv w_put, sv w_play]) hT2
  have d2 := d1.xt y2
  have c2 := c1.trans (Ch.of y2)
  refine ⟨by decide, fun T3 hT3 => ⟨T3, _, rfl, .inr (SqT.of upd_same), rfl, rfl, ?_⟩⟩
  have y3 := xt_new (o := .tup [sv w_mark, sv w_record]) hT3
  have d3 := d2.xt y3
  have c3 := c2.trans (Ch.of y3)
  refine ⟨by show 1 ≤ sizeLine; decide, fun T hT => ?_⟩
  exact q .undo _ n _ (ok0 rfl) hw (by omega) (d3.xt (xt_new hT)) (c3.trans (Ch.of (xt_new hT))) ⟨T, [], rfl, upd_same, trivial⟩
theorem deed_redo (K : PySem.W.Frag) {a w l : Addr} {ns : List Int} {n : Nat} {t : List Nat} {c : Nat} {H : Hp} {Q : VK} (ws : List (List Nat)) (d0 : Dr K a w ns n H) (hn : n + 140 < 90000) (ht : isText t) (hc : isName c) (q : ∀ (e : De) (x : V) (n' : Nat) (H' : Hp), e.ok → e.word ∈ ws → n' ≤ n + 18 → Dr K a w ns n' H' → Ch w H H' → DeAt H' x e → Q x H') (hw : w_redo ∈ ws) :
    (t_law_deed_1 K).t { nx := fun _ H' => Q .non H', rt := Q } [some (.ref a), some (.ref w), some (sv t), some (.ref l), some (sv w_redo), some (sv [c]), none] H := by
  have c0 : Ch w H H := .refl
  refine ⟨by decide, fun T1 hT1 => ⟨T1, _, rfl, .inr (SqT.of upd_same), rfl, rfl, ?_⟩⟩
  have y1 := xt_new (o := .tup [sv w_cut, sv w_copy]) hT1
  have d1 := d0.xt y1
  have c1 := c0.trans (Ch.of y1)
  refine ⟨by decide, fun T2 hT2 => ⟨T2, _, rfl, .inr (SqT.of upd_same), rfl, rfl, ?_⟩⟩
  have y2 := xt_new (o := .tup [sv w_put, sv w_play]) hT2
  have d2 := d1.xt y2
  have c2 := c1.trans (Ch.of y2)
  refine ⟨by decide, fun T3 hT3 => ⟨T3, _, rfl, .inr (SqT.of upd_same), rfl, rfl, ?_⟩⟩
  have y3 := xt_new (o := .tup [sv w_mark, sv w_record]) hT3
  have d3 := d2.xt y3
  have c3 := c2.trans (Ch.of y3)
  refine ⟨by show 1 ≤ sizeLine; decide, fun T hT => ?_⟩
  exact q .redo _ n _ (ok0 rfl) hw (by omega) (d3.xt (xt_new hT)) (c3.trans (Ch.of (xt_new hT))) ⟨T, [], rfl, upd_same, trivial⟩
theorem deed_stop (K : PySem.W.Frag) {a w l : Addr} {ns : List Int} {n : Nat} {t : List Nat} {c : Nat} {H : Hp} {Q : VK} (ws : List (List Nat)) (d0 : Dr K a w ns n H) (hn : n + 140 < 90000) (ht : isText t) (hc : isName c) (q : ∀ (e : De) (x : V) (n' : Nat) (H' : Hp), e.ok → e.word ∈ ws → n' ≤ n + 18 → Dr K a w ns n' H' → Ch w H H' → DeAt H' x e → Q x H') (hw : w_stop ∈ ws) :
    (t_law_deed_1 K).t { nx := fun _ H' => Q .non H', rt := Q } [some (.ref a), some (.ref w), some (sv t), some (.ref l), some (sv w_stop), some (sv [c]), none] H := by
  have c0 : Ch w H H := .refl
  refine ⟨by decide, fun T1 hT1 => ⟨T1, _, rfl, .inr (SqT.of upd_same), rfl, rfl, ?_⟩⟩
  have y1 := xt_new (o := .tup [sv w_cut, sv w_copy]) hT1
  have d1 := d0.xt y1
  have c1 := c0.trans (Ch.of y1)
  refine ⟨by decide, fun T2 hT2 => ⟨T2, _, rfl, .inr (SqT.of upd_same), rfl, rfl, ?_⟩⟩
  have y2 := xt_new (o := .tup [sv w_put, sv w_play]) hT2
  have d2 := d1.xt y2
  have c2 := c1.trans (Ch.of y2)
  refine ⟨by decide, fun T3 hT3 => ⟨T3, _, rfl, .inr (SqT.of upd_same), rfl, rfl, ?_⟩⟩
  have y3 := xt_new (o := .tup [sv w_mark, sv w_record]) hT3
  have d3 := d2.xt y3
  have c3 := c2.trans (Ch.of y3)
  refine ⟨by show 1 ≤ sizeLine; decide, fun T hT => ?_⟩
  exact q .stop _ n _ (ok0 rfl) hw (by omega) (d3.xt (xt_new hT)) (c3.trans (Ch.of (xt_new hT))) ⟨T, [], rfl, upd_same, trivial⟩
theorem deed_dot (K : PySem.W.Frag) {a w l : Addr} {ns : List Int} {n : Nat} {t : List Nat} {c : Nat} {H : Hp} {Q : VK} (ws : List (List Nat)) (d0 : Dr K a w ns n H) (hn : n + 140 < 90000) (ht : isText t) (hc : isName c) (q : ∀ (e : De) (x : V) (n' : Nat) (H' : Hp), e.ok → e.word ∈ ws → n' ≤ n + 18 → Dr K a w ns n' H' → Ch w H H' → DeAt H' x e → Q x H') (hw : w_dot ∈ ws) :
    (t_law_deed_1 K).t { nx := fun _ H' => Q .non H', rt := Q } [some (.ref a), some (.ref w), some (sv t), some (.ref l), some (sv w_dot), some (sv [c]), none] H := by
  have c0 : Ch w H H := .refl
  refine ⟨by decide, fun T1 hT1 => ⟨T1, _, rfl, .inr (SqT.of upd_same), rfl, rfl, ?_⟩⟩
  have y1 := xt_new (o := .tup [sv w_cut, sv w_copy]) hT1
  have d1 := d0.xt y1
  have c1 := c0.trans (Ch.of y1)
  refine ⟨by decide, fun T2 hT2 => ⟨T2, _, rfl, .inr (SqT.of upd_same), rfl, rfl, ?_⟩⟩
  have y2 := xt_new (o := .tup [sv w_put, sv w_play]) hT2
  have d2 := d1.xt y2
  have c2 := c1.trans (Ch.of y2)
  refine ⟨by decide, fun T3 hT3 => ⟨T3, _, rfl, .inr (SqT.of upd_same), rfl, rfl, ?_⟩⟩
  have y3 := xt_new (o := .tup [sv w_mark, sv w_record]) hT3
  have d3 := d2.xt y3
  have c3 := c2.trans (Ch.of y3)
  refine ⟨by show 1 ≤ sizeLine; decide, fun T hT => ?_⟩
  exact q .dot _ n _ (ok0 rfl) hw (by omega) (d3.xt (xt_new hT)) (c3.trans (Ch.of (xt_new hT))) ⟨T, [], rfl, upd_same, trivial⟩
theorem deed_open (K : PySem.W.Frag) {a w l : Addr} {ns : List Int} {n : Nat} {t : List Nat} {c : Nat} {H : Hp} {Q : VK} (ws : List (List Nat)) (d0 : Dr K a w ns n H) (hn : n + 140 < 90000) (ht : isText t) (hc : isName c) (q : ∀ (e : De) (x : V) (n' : Nat) (H' : Hp), e.ok → e.word ∈ ws → n' ≤ n + 18 → Dr K a w ns n' H' → Ch w H H' → DeAt H' x e → Q x H') (hw : w_open ∈ ws) :
    (t_law_deed_1 K).t { nx := fun _ H' => Q .non H', rt := Q } [some (.ref a), some (.ref w), some (sv t), some (.ref l), some (sv w_open), some (sv [c]), none] H := by
  have c0 : Ch w H H := .refl
  refine ⟨by decide, fun T1 hT1 => ⟨T1, _, rfl, .inr (SqT.of upd_same), rfl, rfl, ?_⟩⟩
  have y1 := xt_new (o := .tup [sv w_cut, sv w_copy]) hT1
  have d1 := d0.xt y1
  have c1 := c0.trans (Ch.of y1)
  refine ⟨by decide, fun T2 hT2 => ⟨T2, _, rfl, .inr (SqT.of upd_same), rfl, rfl, ?_⟩⟩
  have y2 := xt_new (o := .tup [sv w_put, sv w_play]) hT2
  have d2 := d1.xt y2
  have c2 := c1.trans (Ch.of y2)
  refine ⟨by decide, fun T3 hT3 => ⟨T3, _, rfl, .inr (SqT.of upd_same), rfl, rfl, ?_⟩⟩
  have y3 := xt_new (o := .tup [sv w_mark, sv w_record]) hT3
  have d3 := d2.xt y3
  have c3 := c2.trans (Ch.of y3)
  refine ⟨by show 1 ≤ sizeLine; decide, fun T hT => ?_⟩
  exact q .opn _ n _ (ok0 rfl) hw (by omega) (d3.xt (xt_new hT)) (c3.trans (Ch.of (xt_new hT))) ⟨T, [], rfl, upd_same, trivial⟩
theorem deed_close (K : PySem.W.Frag) {a w l : Addr} {ns : List Int} {n : Nat} {t : List Nat} {c : Nat} {H : Hp} {Q : VK} (ws : List (List Nat)) (d0 : Dr K a w ns n H) (hn : n + 140 < 90000) (ht : isText t) (hc : isName c) (q : ∀ (e : De) (x : V) (n' : Nat) (H' : Hp), e.ok → e.word ∈ ws → n' ≤ n + 18 → Dr K a w ns n' H' → Ch w H H' → DeAt H' x e → Q x H') (hw : w_close ∈ ws) :
    (t_law_deed_1 K).t { nx := fun _ H' => Q .non H', rt := Q } [some (.ref a), some (.ref w), some (sv t), some (.ref l), some (sv w_close), some (sv [c]), none] H := by
  have c0 : Ch w H H := .refl
  refine ⟨by decide, fun T1 hT1 => ⟨T1, _, rfl, .inr (SqT.of upd_same), rfl, rfl, ?_⟩⟩
  have y1 := xt_new (o := .tup [sv w_cut, sv w_copy]) hT1
  have d1 := d0.xt y1
  have c1 := c0.trans (Ch.of y1)
  refine ⟨by decide, fun T2 hT2 => ⟨T2, _, rfl, .inr (SqT.of upd_same), rfl, rfl, ?_⟩⟩
  have y2 := xt_new (o := .tup [sv w_put, sv w_play]) hT2
  have d2 := d1.xt y2
  have c2 := c1.trans (Ch.of y2)
  refine ⟨by decide, fun T3 hT3 => ⟨T3, _, rfl, .inr (SqT.of upd_same), rfl, rfl, ?_⟩⟩
  have y3 := xt_new (o := .tup [sv w_mark, sv w_record]) hT3
  have d3 := d2.xt y3
  have c3 := c2.trans (Ch.of y3)
  refine ⟨by show 1 ≤ sizeLine; decide, fun T hT => ?_⟩
  exact q .close _ n _ (ok0 rfl) hw (by omega) (d3.xt (xt_new hT)) (c3.trans (Ch.of (xt_new hT))) ⟨T, [], rfl, upd_same, trivial⟩
theorem rd_law_deed (K : PySem.W.Frag) : ∀ vs H Q E, sp_law_deed K vs H Q E → (b_law_deed K).t { nx := fun _ H' => Q .non H', rt := Q } (start N_law_deed vs) H := by
  rintro _ H Q E ⟨a, w, l, ns, n, t, ws, rfl, d, hn, ht, hlw, hl, hne, hws, q⟩
  refine ⟨a, w, l, ns, n, _, rfl, d, by omega, hlw, hl, by simpa using hne, fun v H1 hv d1 c1 => ?_⟩
  obtain ⟨x, hx, rfl⟩ := List.mem_map.mp hv
  refine ⟨by show 5 ≤ sizeLine; decide, fun l2 hl2 => ?_⟩
  have x2 := xt_new (o := .lst [sv [97], sv [98], sv [97], sv [99], sv [100]]) hl2
  refine ⟨a, w, l2, ns, n + 1, _, rfl, d1.xt x2, by omega, d1.fresh hl2, upd_same, by simp, fun v H2 hv d2 c2 => ?_⟩
  have hc : ∃ c, v = sv [c] ∧ isName c := by
    simp at hv
    rcases hv with rfl | rfl | rfl | rfl | rfl
    · exact ⟨97, rfl, by unfold isName; decide⟩
    · exact ⟨98, rfl, by unfold isName; decide⟩
    · exact ⟨97, rfl, by unfold isName; decide⟩
    · exact ⟨99, rfl, by unfold isName; decide⟩
    · exact ⟨100, rfl, by unfold isName; decide⟩
  obtain ⟨c, rfl, hc⟩ := hc
  have c12 : Ch w H H2 := c1.trans ((Ch.of x2).trans c2)
  have q' : ∀ (e : De) (x : V) (n' : Nat) (H' : Hp), e.ok → e.word ∈ ws → n' ≤ n + 2 + 18 → Dr K a w ns n' H' → Ch w H2 H' → DeAt H' x e → Q x H' := fun e x n' H' h1 h2 h3 h4 h5 h6 => q e x n' H' h1 h2 (by omega) h4 (c12.trans h5) h6
  have hm := hws x hx
  simp only [words, List.mem_cons, List.not_mem_nil, or_false] at hm
  rcases hm with rfl | rfl | rfl | rfl | rfl | rfl | rfl | rfl | rfl | rfl | rfl | rfl | rfl | rfl | rfl | rfl | rfl | rfl | rfl
  · exact deed_go K ws d2 (by omega) ht hc q' hx
  · exact deed_choose K ws d2 (by omega) ht hc q' hx
  · exact deed_cut K ws d2 (by omega) ht hc q' hx
  · exact deed_copy K ws d2 (by omega) ht hc q' hx
  · exact deed_turn K ws d2 (by omega) ht hc q' hx
  · exact deed_shift K ws d2 (by omega) ht hc q' hx
  · exact deed_put K ws d2 (by omega) ht hc q' hx
  · exact deed_write K ws d2 (by omega) ht hc q' hx
  · exact deed_mark K ws d2 (by omega) ht hc q' hx
  · exact deed_undo K ws d2 (by omega) ht hc q' hx
  · exact deed_redo K ws d2 (by omega) ht hc q' hx
  · exact deed_to K ws d2 (by omega) ht hc q' hx
  · exact deed_record K ws d2 (by omega) ht hc q' hx
  · exact deed_stop K ws d2 (by omega) ht hc q' hx
  · exact deed_play K ws d2 (by omega) ht hc q' hx
  · exact deed_dot K ws d2 (by omega) ht hc q' hx
  · exact deed_open K ws d2 (by omega) ht hc q' hx
  · exact deed_window K ws d2 (by omega) ht hc q' hx
  · exact deed_close K ws d2 (by omega) ht hc q' hx
end Ed

/-! the script, the town, an editor, the law's world: side by side -/
namespace Ed
open PySem L2 Cb
theorem StepW.keep {K : PySem.W.Frag} {e : Addr} {A A' : EdA} {H H' : Hp} {S' : EdS} (st : StepW K e A H A' S' H') {p : Addr} {o : HO} (hp : p ∉ fp e A) (h : H p = some o) : H' p = some o ∧ p ∉ fp e A' := by
  refine ⟨st.off p o hp h, fun z => ?_⟩
  rcases st.new p z with z | z
  · exact hp z
  · rw [h] at z; cases z
/-- an editor in the state S, a world in the state S2 -/
structure LW (K : PySem.W.Frag) (a w : Addr) (ns : List Int) (n : Nat) (H : Hp) (e : Addr) (A : EdA) (S : EdS) (v : Addr) (B : EdA) (S2 : EdS) : Prop where
  le : LE K a w ns n H e A S
  wo : WoAt K H v B S2
  ok2 : S2.ok
  wv : w ∉ fp v B
  av : a ∉ fp v B ∨ ∀ H', SqL K H' a (ns.map V.int)
  dj : ∀ p ∈ fp e A, p ∉ fp v B
section
variable {K : PySem.W.Frag} {a w : Addr} {ns : List Int} {n n' : Nat} {H H' : Hp} {e v : Addr} {A A' B B' : EdA} {S S' S2 S2' : EdS}
theorem LW.xt (l : LW K a w ns n H e A S v B S2) (x : Xt H H') : LW K a w ns n H' e A S v B S2 := ⟨l.le.xt x, l.wo.xt x, l.ok2, l.wv, l.av, l.dj⟩
theorem LW.draw (l : LW K a w ns n H e A S v B S2) (d : Dr K a w ns n' H') (c : Ch w H H') : LW K a w ns n' H' e A S v B S2 :=
  ⟨l.le.draw d c, l.wo.to (l.le.dr.tk c) (fun p hp o ho => c p o (fun z => l.wv (z ▸ hp)) ho), l.ok2, l.wv, l.av, l.dj⟩
theorem LW.stepE (l : LW K a w ns n H e A S v B S2) (st : Step K e A H A' S' H') (o : S'.ok) : LW K a w ns n H' e A' S' v B S2 where
  le := l.le.step st o
  wo := l.wo.to (st.tk l.le.ed) fun p hp o ho => st.off p o (fun z => l.dj p z hp) ho
  ok2 := l.ok2
  wv := l.wv
  av := l.av
  dj := fun p hp => by
    rcases st.new p hp with z | z
    · exact l.dj p z
    · exact l.wo.new_off z
theorem LW.stepW (l : LW K a w ns n H e A S v B S2) (st : StepW K v B H B' S2' H') (o : S2'.ok) : LW K a w ns n H' e A S v B' S2' where
  le := by
    have ed := l.le.ed.to (st.tk l.wo) fun p hp o ho => st.off p o (l.dj p hp) ho
    exact ⟨l.le.dr.off st.off l.wv l.av, ed, l.le.ok, l.le.wo, l.le.ao⟩
  wo := st.at_
  ok2 := o
  wv := let ⟨zs, h1, _⟩ := l.le.dr.twn; (st.keep l.wv h1).2
  av := by
    rcases l.av with av | av
    · rcases l.le.dr.scr with (z | ⟨o, z⟩) | z
      · exact .inl (st.keep av z).2
      · exact .inl (st.keep av z).2
      · exact .inr fun H' => .inr z
    · exact .inr av
  dj := fun p hp z => by
    rcases st.new p z with z | z
    · exact l.dj p hp z
    · obtain ⟨o, h1, _⟩ := l.le.ed.notup p hp
      rw [z] at h1; cases h1
/-- a world is made beside an editor -/
theorem LW.new (l : LE K a w ns n H e A S) (h : WoAt K H' v B S2) (x : Xt H H') (hn : ∀ p ∈ fp v B, H p = none) (o : S2.ok) : LW K a w ns n H' e A S v B S2 where
  le := l.xt x
  wo := h
  ok2 := o
  wv := fun z => by
    obtain ⟨zs, h1, _⟩ := l.dr.twn
    rw [hn w z] at h1; cases h1
  av := by
    rcases l.dr.scr with (z | ⟨o, z⟩) | z
    · exact .inl fun q => by rw [hn a q] at z; cases z
    · exact .inl fun q => by rw [hn a q] at z; cases z
    · exact .inr fun H' => .inr z
  dj := fun p hp z => by
    obtain ⟨o, h1, _⟩ := l.ed.notup p hp
    rw [hn p z] at h1; cases h1
theorem WoAt.played (h : WoAt K H v B S2) (k : Nat) : WoAt K H v B { S2 with played := k } := ⟨h.own, h.ws, h.wins, h.mks, h.rg, h.ma, h.tk, h.la, h.st, h.nd⟩
theorem StepW.played (h : StepW K v B H B' S2' H') (k : Nat) : StepW K v B H B' { S2' with played := k } H' := ⟨h.at_.played k, h.off, h.new⟩
end
theorem ne_tv {K : PySem.W.Frag} {H : Hp} {Q : VK} (t : Told) (q : Q (.bl false) H) : rNeX K (tv t) (tv t) H Q := by
  cases t <;> exact q
end Ed

/-! k09: notes -/
namespace Ed
open PySem L2 Cb
open Evl (Ev EvT)
def sp_law (K : PySem.W.Frag) : Sp := fun vs H Q _ => ∃ (a : Addr) (ns : List Int), vs = [.ref a] ∧ SqL K H a (ns.map V.int) ∧ ns.length ≤ 63 ∧ ∀ H', Q (.bl true) H'
def t_law_1 (K : PySem.W.Frag) : Ss K :=
  (Ss.cons (Sm.for_ (Ir.rng1 (As.cons (Ex.call "_law_draw" (sp_law_draw K) (As.cons (Ex.v 0) (As.cons (Ex.v 1) (As.cons (Ex.i 31) As.nil)))) As.nil)) (Tg.v 6)
    (Ss.cons (Sm.set 7 (Ex.call "_law_deed" (sp_law_deed K) (As.cons (Ex.v 0) (As.cons (Ex.v 1) (As.cons (Ex.dix (Ex.v 4) (Ex.s ⟨#[116, 101, 120, 116]⟩)) (As.cons (Ex.v 5) As.nil))))))
    (Ss.cons (Sm.ite (Te.w (Tw.or (Te.cmp Cm.ne (Ex.meth "Editor" (Ex.v 3) "do" (sp_Editor_do K) (As.cons (Ex.v 7) As.nil)) (Ex.call "_law_do" (sp_law_do K) (As.cons (Ex.v 4) (As.cons (Ex.v 7) As.nil)))) (Tw.one (Te.not (Te.val (Ex.call "_law_same" (sp_law_same K) (As.cons (Ex.v 3) (As.cons (Ex.v 4) As.nil))))))))
      (Ss.cons (Sm.ret (Ex.b false))
      Ss.nil)
      Ss.nil)
    Ss.nil)))
  (Ss.cons (Sm.ret (Ex.b true))
  Ss.nil))
def b_law (K : PySem.W.Frag) : Ss K :=
  (Ss.cons (Sm.set 1 (Ex.lst As.nil))
  (Ss.cons (Sm.set 2 (Ex.call "_law_text" (sp_law_text K) (As.cons (Ex.v 0) (As.cons (Ex.v 1) (As.cons (Ex.i 25) As.nil)))))
  (Ss.cons (Sm.set 3 (Ex.make "Editor" (sp_Editor_init K) (As.cons (Ex.v 2) As.nil)))
  (Ss.cons (Sm.set 4 (Ex.call "_law_new" (sp_law_new K) (As.cons (Ex.v 2) As.nil)))
  (Ss.cons (Sm.set 5 (Ex.add (Ex.add (Ex.mul (Ex.lst (As.cons (Ex.s ⟨#[103, 111]⟩) As.nil)) (Ex.i 4)) (Ex.mul (Ex.lst (As.cons (Ex.s ⟨#[99, 111, 112, 121]⟩) As.nil)) (Ex.i 3))) (Ex.lst (As.cons (Ex.s ⟨#[109, 97, 114, 107]⟩) (As.cons (Ex.s ⟨#[99, 104, 111, 111, 115, 101]⟩) As.nil)))))
  (t_law_1 K))))))
def N_law : List Str := ["script", "town", "text", "editor", "world", "words", "k", "deed"]
def ws8 : List (List Nat) := List.replicate 4 w_go ++ List.replicate 3 w_copy ++ [w_mark, w_choose]
theorem ws8_words : ∀ x ∈ ws8, x ∈ words := by decide
theorem ws8_two : ∀ x ∈ ws8, x = w_go ∨ x = w_copy ∨ x = w_mark ∨ x = w_choose := by decide
theorem ws8_gn {d : De} (h : d.word ∈ ws8) : d.isGN = true := by
  have := ws8_two _ h
  cases d <;> first | rfl | (exact absurd this (by simp only [De.word]; decide))
/-- the state of the loop -/
structure I8 (K : PySem.W.Frag) (a w : Addr) (ns : List Int) (e v l : Addr) (n : Nat) (H : Hp) (A B : EdA) (S : EdS) : Prop where
  lw : LW K a w ns n H e A S v B S
  hl : H l = some (.lst (ws8.map sv))
  lw' : l ≠ w
  le' : l ∉ fp e A
  lv : l ∉ fp v B
  tkg : S.taking = none
  tkn : S.taken = []
def Pv8 (K : PySem.W.Frag) (a w : Addr) (ns : List Int) (e v l : Addr) (m : Nat) (σ : L2.St) (H : Hp) : Prop := ∃ (z2 z6 z7 : Option V) (A B : EdA) (S : EdS) (n : Nat), σ = [some (.ref a), some (.ref w), z2, some (.ref e), some (.ref v), some (.ref l), z6, z7] ∧ I8 K a w ns e v l n H A B S ∧ n ≤ m
theorem rd_t1 (K : PySem.W.Frag) {a w : Addr} {ns : List Int} {e v l : Addr} {n : Nat} {H : Hp} {A B : EdA} {S : EdS} {D : Ends} {z2 z6 z7 : Option V} (h : I8 K a w ns e v l n H A B S) (hn : n ≤ 200) (q : ∀ H', D.rt (.bl true) H') :
    (t_law_1 K).t D [some (.ref a), some (.ref w), z2, some (.ref e), some (.ref v), some (.ref l), z6, z7] H := by
  refine ⟨a, w, ns, n, 31, rfl, h.lw.le.dr, by omega, by decide, fun k H1 k0 k1 d1 c1 => ?_⟩
  obtain ⟨k, rfl⟩ : ∃ i : Nat, k = (i : Int) := ⟨k.toNat, by omega⟩
  have h1 : I8 K a w ns e v l (n + 1) H1 A B S := ⟨h.lw.draw d1 c1, c1 _ _ h.lw' h.hl, h.lw', h.le', h.lv, h.tkg, h.tkn⟩
  refine ⟨(k : Int), rfl, by omega, by omega, fo_walk walk_range (fun i σ H' => Pv8 K a w ns e v l (201 + 20 * i) σ H') ⟨_, _, _, _, _, _, _, rfl, h1, by omega⟩ (fun _ _ _ _ _ => trivial) ?_ ?_⟩
  · rintro i x σ H2 H3 hi ⟨z2, z6, z7, A, B, S, n, rfl, h, hn⟩ ⟨rfl, rfl⟩
    have hi' : i < 31 := by omega
    refine h.lw.wo.g_text ?_
    refine ⟨a, w, l, ns, n, S.text, ws8, rfl, h.lw.le.dr, by omega, h.lw.le.ok.txt, h.lw', h.hl, by decide, ws8_words, fun d x n' H4 hd hdw hn' d4 c4 hx => ?_⟩
    have l4 := h.lw.draw d4 c4
    have hl4 := c4 _ _ h.lw' h.hl
    have gn := ws8_gn hdw
    have hdo : doE S d = takeE d (oneE { S with played := 0 } d) := rfl
    have o5 := doE_ok h.lw.le.ok hd
    refine ⟨A.dx, edF A S, l4.le.ed.own, rfl, ⟨e, A, S, x, d, rfl, l4.le.ed, l4.le.ok, by rw [h.tkn]; decide, hx, hd, gn, fun A' H5 st => ?_⟩⟩
    have t5 := st.tk l4.le.ed
    have l5 := l4.stepE st o5
    have hx5 : DeAt H5 x d := by
      obtain ⟨r, ps, rfl, h1, h2⟩ := hx
      exact ⟨r, ps, rfl, t5 _ _ h1, h2.tk t5⟩
    refine ⟨v, B, { S with played := 0 }, x, d, rfl, l5.wo.played 0, played_ok l5.ok2 0, by show S.taken.length < 10000; rw [h.tkn]; decide, hx5, hd, gn, fun B' H6 sw => ?_⟩
    rw [← hdo] at sw
    have l6 := l5.stepW sw o5
    have tkg : (doE S d).2.taking = none := by rw [doE_plain h.tkg, oneE_taking]; exact h.tkg
    have tkn : (doE S d).2.taken = [] := by
      rw [doE_plain h.tkg]
      have : ∀ S : EdS, (oneE S d).2.taken = S.taken := fun S => by
        cases d with
        | go m => exact goE_taken _ m
        | _ =>
          show (afterE _).2.taken = _
          rcases afterE_eq (notedE S _) with ⟨z1, z2⟩ | ⟨z1, z2⟩
          · rw [z2]; exact notedE_taken _ _
          · rw [z2]; exact notedE_taken _ _
      rw [this]; exact h.tkn
    have k5 := st.keep h.le' hl4
    have k6 := sw.keep h.lv k5.1
    rw [← hdo]
    refine ne_tv _ ?_
    refine ⟨e, A', v, B', (doE S d).2, rfl, l6.le.ed, l6.wo, o5, fun H7 e7 => ?_⟩
    refine ⟨_, _, _, _, _, _, _, rfl, ⟨l6.xt e7, e7 _ _ k6.1, h.lw', k5.2, k6.2, tkg, tkn⟩, by omega⟩
  · rintro σ H2 ⟨z2, z6, z7, A, B, S, n, rfl, h, hn⟩
    exact q H2
theorem rd_law (K : PySem.W.Frag) : ∀ vs H Q E, sp_law K vs H Q E → (b_law K).t { nx := fun _ H' => Q .non H', rt := Q } (start N_law vs) H := by
  rintro _ H Q E ⟨a, ns, rfl, hS, hf, q⟩
  refine ⟨by decide, fun w hw => ?_⟩
  have d0 : Dr K a w ns 0 (upd H w (.lst [])) := Dr.begin hS hf hw
  refine ⟨a, w, ns, 0, 25, rfl, d0, by decide, by decide, by decide, fun t n1 H1 ht hn1 d1 c1 _ => ?_⟩
  intro x dx hx hdx hne
  refine ⟨x, dx, t, rfl, upd_same, ht, fun A H2 hA hk hn => ⟨rfl, ?_⟩⟩
  obtain ⟨l2, x2, f2⟩ := LE.new d1 ht hx hdx hne hA hk hn
  refine ⟨t, rfl, fun v B H3 hB x3 f3 => ?_⟩
  have l3 := LW.new l2 hB x3 f3 (edNew_ok ht)
  refine ⟨by show 1 ≤ sizeLine; decide, fun p1 hp1 => ?_⟩
  refine ⟨p1, 4, [sv w_go], rfl, rfl, upd_same, by decide, by decide, by decide, fun p2 hp2 => ?_⟩
  refine ⟨by show 1 ≤ sizeLine; decide, fun p3 hp3 => ?_⟩
  refine ⟨p3, 3, [sv w_copy], rfl, rfl, upd_same, by decide, by decide, by decide, fun p4 hp4 => ?_⟩
  have y1 := xt_new (o := .lst [sv w_go]) hp1
  have y2 := xt_new (o := .lst (List.replicate (Int.toNat 4) [sv w_go]).flatten) hp2
  have y3 := xt_new (o := .lst [sv w_copy]) hp3
  have y4 := xt_new (o := .lst (List.replicate (Int.toNat 3) [sv w_copy]).flatten) hp4
  refine .inl ⟨p2, p4, _, _, rfl, rfl, (y3.trans y4) _ _ upd_same, upd_same, by decide, fun p5 hp5 => ?_⟩
  have y5 := xt_new (o := .lst ((List.replicate (Int.toNat 4) [sv w_go]).flatten ++ (List.replicate (Int.toNat 3) [sv w_copy]).flatten)) hp5
  refine ⟨by show 2 ≤ sizeLine; decide, fun p6 hp6 => ?_⟩
  have y6 := xt_new (o := .lst [sv w_mark, sv w_choose]) hp6
  have x4 := y1.trans (y2.trans (y3.trans (y4.trans (y5.trans y6))))
  refine .inl ⟨p5, p6, _, _, rfl, rfl, y6 _ _ upd_same, upd_same, by decide, fun l hl => ?_⟩
  have x5 := x4.trans (xt_new (o := .lst (ws8.map sv)) hl)
  have hl3 : H3 l = none := xt_none x4 hl
  have l5 := l3.xt x5
  refine rd_t1 K (A := A) (B := B) (S := edNew t) (n := n1) ⟨l5, upd_same, fun z => ?_, fun z => ?_, fun z => ?_, rfl, rfl⟩ (by omega) fun H' => q H'
  · obtain ⟨zs, h1, _⟩ := l3.le.dr.twn
    rw [← z, hl3] at h1; cases h1
  · exact l3.le.ed.new_off hl3 z
  · exact l3.wo.new_off hl3 z
end Ed

namespace Cb
open PySem L2
def fnScopeB (N ps : List Str) (sc : Scope) : Bool := decide (sc.kind = .function) && (!sc.isCoroutine && (!sc.isGenerator && (decide N.Nodup && (decide (N.take ps.length = ps) && ((ps.all fun x => isLoc true (sc.names.lookup x)) && sc.names.all fun y => decide (y.2 ≠ .free))))))
theorem fnScope_of {N ps : List Str} {sc : Scope} (h : fnScopeB N ps sc = true) : FnScope N ps sc := by
  obtain ⟨h1, h⟩ := and2 h
  obtain ⟨h2, h⟩ := and2 h
  obtain ⟨h3, h⟩ := and2 h
  obtain ⟨h4, h⟩ := and2 h
  obtain ⟨h5, h⟩ := and2 h
  obtain ⟨h6, h7⟩ := and2 h
  refine ⟨of_decide_eq_true h1, by simpa using h2, by simpa using h3, of_decide_eq_true h4, of_decide_eq_true h5, fun x hx => ?_, fun y hy => ?_⟩
  · have := List.all_eq_true.mp h6 x hx
    revert this
    cases sc.names.lookup x with
    | none => intro z; exact absurd z Bool.false_ne_true
    | some k => cases k <;> intro z <;> first | exact .inl rfl | exact .inr rfl | exact absurd z Bool.false_ne_true
  · exact of_decide_eq_true (List.all_eq_true.mp h7 y hy)
theorem lookup_mem' {α : Type} : ∀ {l : List (Str × α)} {z : Str} {r : α}, l.lookup z = some r → (z, r) ∈ l
  | [], z, r, h => by simp at h
  | (k, v) :: l, z, r, h => by
    rw [List.lookup_cons] at h
    split at h
    · rename_i e
      have e' : z = k := by simpa using e
      cases h; rw [e']; exact List.mem_cons_self ..
    · exact List.mem_cons_of_mem _ (lookup_mem' h)
def allStr (kvs : List (Str × Option V)) : Bool := kvs.all fun q => match q.2 with
  | some (.str _) => true
  | _ => false
theorem tab_has {h : Hx} {x : Str} {kvs : List (Str × Option V)} (hm : h.mg x = some (.ref (He.ga h.K x))) (ht : ∃ es n, KDict h.K h.w (He.ga h.K x) es n) (hv : He.valsB h.K (He.ga h.K x) (heTab kvs) = true) (ha : allStr kvs = true) : HasD h x kvs := by
  obtain ⟨es, n, hd⟩ := ht
  refine ⟨He.ga h.K x, es, n, hm, hd.at_, hd.lit, hd.low, fun z r e => ?_⟩
  have hmem := lookup_mem' e
  have hs := List.all_eq_true.mp ha _ hmem
  cases r with
  | none => exact absurd hs Bool.false_ne_true
  | some v =>
    cases v with
    | str y =>
      obtain ⟨u, h1, h2⟩ := He.valsB_ok hv (q := (z, .str y)) (List.mem_filterMap.mpr ⟨_, hmem, rfl⟩)
      exact ⟨some u, h1, h2⟩
    | _ => exact absurd hs Bool.false_ne_true
end Cb

namespace Cb
open PySem L2
theorem has_fa {h : Hx} {x y qual : Str} {params : Arguments} {body : List Stmt} {scope : Scope} {f : Addr} {fd : FuncData} {N ps : List Str} {sp : Sp}
    (F : FunD h.K y qual params body scope [] [] f fd) (S : FnScope N ps scope) (hm : h.mg x = some (.ref f)) (hb : Binds h.K fd ps []) (bd : Ss h.K) (hc : bd.chk ⟨N, scope.names, true⟩ body = true) (hh : bd.has h)
    (len : ∀ vs H Q E, sp vs H Q E → vs.length = ps.length) (rd : ∀ vs H Q E, sp vs H Q E → bd.t { nx := fun _ H' => Q .non H', rt := Q } (start N vs) H) :
    HasF { h with k := h.k + 1 } x sp := ⟨f, fd, ps, fn_has F S bd hc hh len rd, hm, F.kp, hb⟩
theorem has_m {h : Hx} {C m name qual : Str} {params : Arguments} {body : List Stmt} {scope : Scope} {fd : FuncData} {N ps : List Str} {sp : Sp}
    (F : FunD h.K name qual params body scope [] [] (He.ma h.K (He.ga h.K C) m) fd) (S : FnScope N ps scope) (c : Cls h.K (He.ga h.K C)) (M : Meth h.K (He.ga h.K C) m (He.ma h.K (He.ga h.K C) m)) (hb : Binds h.K fd ps []) (bd : Ss h.K) (hc : bd.chk ⟨N, scope.names, true⟩ body = true) (hh : bd.has h)
    (len : ∀ vs H Q E, sp vs H Q E → vs.length = ps.length) (rd : ∀ vs H Q E, sp vs H Q E → bd.t { nx := fun _ H' => Q .non H', rt := Q } (start N vs) H) :
    HasM { h with k := h.k + 1 } C m sp := ⟨_, fd, ps, c, M, fn_has F S bd hc hh len rd, hb⟩
theorem has_mk {h : Hx} {C name qual : Str} {params : Arguments} {body : List Stmt} {scope : Scope} {fd : FuncData} {N ps : List Str} {sp : Sp}
    (F : FunD h.K name qual params body scope [] [] (He.ma h.K (He.ga h.K C) "__init__") fd) (S : FnScope N ps scope) (M : Mk h.K (He.ga h.K C) (He.ma h.K (He.ga h.K C) "__init__")) (hm : h.mg C = some (.ref (He.ga h.K C))) (hb : Binds h.K fd ps []) (bd : Ss h.K) (hc : bd.chk ⟨N, scope.names, true⟩ body = true) (hh : bd.has h)
    (len : ∀ vs H Q E, sp vs H Q E → vs.length = ps.length) (rd : ∀ vs H Q E, sp vs H Q E → bd.t { nx := fun _ H' => Q .non H', rt := Q } (start N vs) H) :
    HasMk { h with k := h.k + 2 } C sp := ⟨_, fd, ps, h.k + 1, Nat.le_refl _, M, hm, fn_has F S bd hc hh len rd, hb⟩
theorem tup_has {h : Hx} {x : Str} {zs : List Str} (hm : h.mg x = some (.ref (He.ga h.K x))) (hv : tupB h.K (He.ga h.K x) zs = true) : HasT h x zs := ⟨_, hm, tupB_ok hv⟩
end Cb

namespace Hd
open PySem L2 Cb Ed
theorem sc_is_whole : FnScope N_is_whole ["thing", "low", "most"] (defScope (top 16)) := fnScope_of (by kernel_rfl)
theorem ck_is_whole (K : PySem.W.Frag) : (b_is_whole K).chk ⟨N_is_whole, (defScope (top 16)).names, true⟩ (defBody (top 16)) = true := by kernel_rfl
theorem len_is_whole (K : PySem.W.Frag) : ∀ vs H Q E, sp_is_whole K vs H Q E → vs.length = 3 := by
  rintro _ H Q E ⟨_, _, _, rfl, _⟩
  rfl
theorem sc_are_signs : FnScope N_are_signs ["thing", "low", "most", "more"] (defScope (top 17)) := fnScope_of (by kernel_rfl)
theorem ck_are_signs (K : PySem.W.Frag) : (b_are_signs K).chk ⟨N_are_signs, (defScope (top 17)).names, true⟩ (defBody (top 17)) = true := by kernel_rfl
theorem len_are_signs (K : PySem.W.Frag) : ∀ vs H Q E, sp_are_signs K vs H Q E → vs.length = 4 := by
  rintro _ H Q E ⟨_, _, _, _, rfl, _⟩
  rfl
theorem sc_is_text : FnScope N_is_text ["thing"] (defScope (top 18)) := fnScope_of (by kernel_rfl)
theorem ck_is_text (K : PySem.W.Frag) : (b_is_text K).chk ⟨N_is_text, (defScope (top 18)).names, true⟩ (defBody (top 18)) = true := by kernel_rfl
theorem len_is_text (K : PySem.W.Frag) : ∀ vs H Q E, sp_is_text K vs H Q E → vs.length = 1 := by
  rintro _ H Q E ⟨_, rfl, _⟩
  rfl
theorem sc_need_text : FnScope N_need_text ["thing"] (defScope (top 19)) := fnScope_of (by kernel_rfl)
theorem ck_need_text (K : PySem.W.Frag) : (b_need_text K).chk ⟨N_need_text, (defScope (top 19)).names, true⟩ (defBody (top 19)) = true := by kernel_rfl
theorem len_need_text (K : PySem.W.Frag) : ∀ vs H Q E, sp_need_text K vs H Q E → vs.length = 1 := by
  rintro _ H Q E ⟨_, rfl, _⟩
  rfl
theorem sc_need_place : FnScope N_need_place ["text", "place"] (defScope (top 20)) := fnScope_of (by kernel_rfl)
theorem ck_need_place (K : PySem.W.Frag) : (b_need_place K).chk ⟨N_need_place, (defScope (top 20)).names, true⟩ (defBody (top 20)) = true := by kernel_rfl
theorem len_need_place (K : PySem.W.Frag) : ∀ vs H Q E, sp_need_place K vs H Q E → vs.length = 2 := by
  rintro _ H Q E ⟨_, _, rfl, _⟩
  rfl
theorem sc_begin_of : FnScope N_begin_of ["text", "place"] (defScope (top 21)) := fnScope_of (by kernel_rfl)
theorem ck_begin_of (K : PySem.W.Frag) : (b_begin_of K).chk ⟨N_begin_of, (defScope (top 21)).names, true⟩ (defBody (top 21)) = true := by kernel_rfl
theorem len_begin_of (K : PySem.W.Frag) : ∀ vs H Q E, sp_begin_of K vs H Q E → vs.length = 2 := by
  rintro _ H Q E ⟨_, _, rfl, _⟩
  rfl
theorem sc_end_of : FnScope N_end_of ["text", "place"] (defScope (top 22)) := fnScope_of (by kernel_rfl)
theorem ck_end_of (K : PySem.W.Frag) : (b_end_of K).chk ⟨N_end_of, (defScope (top 22)).names, true⟩ (defBody (top 22)) = true := by kernel_rfl
theorem len_end_of (K : PySem.W.Frag) : ∀ vs H Q E, sp_end_of K vs H Q E → vs.length = 2 := by
  rintro _ H Q E ⟨_, _, rfl, _⟩
  rfl
theorem sc_row_of : FnScope N_row_of ["text", "place"] (defScope (top 23)) := fnScope_of (by kernel_rfl)
theorem ck_row_of (K : PySem.W.Frag) : (b_row_of K).chk ⟨N_row_of, (defScope (top 23)).names, true⟩ (defBody (top 23)) = true := by kernel_rfl
theorem len_row_of (K : PySem.W.Frag) : ∀ vs H Q E, sp_row_of K vs H Q E → vs.length = 2 := by
  rintro _ H Q E ⟨_, _, rfl, _⟩
  rfl
theorem sc_begins : FnScope N_begins ["text"] (defScope (top 24)) := fnScope_of (by kernel_rfl)
theorem ck_begins (K : PySem.W.Frag) : (b_begins K).chk ⟨N_begins, (defScope (top 24)).names, true⟩ (defBody (top 24)) = true := by kernel_rfl
theorem len_begins (K : PySem.W.Frag) : ∀ vs H Q E, sp_begins K vs H Q E → vs.length = 1 := by
  rintro _ H Q E ⟨_, rfl, _⟩
  rfl
theorem sc_word_begins : FnScope N_word_begins ["text"] (defScope (top 25)) := fnScope_of (by kernel_rfl)
theorem ck_word_begins (K : PySem.W.Frag) : (b_word_begins K).chk ⟨N_word_begins, (defScope (top 25)).names, true⟩ (defBody (top 25)) = true := by kernel_rfl
theorem len_word_begins (K : PySem.W.Frag) : ∀ vs H Q E, sp_word_begins K vs H Q E → vs.length = 1 := by
  rintro _ H Q E ⟨_, rfl, _⟩
  rfl
theorem sc_word_ends : FnScope N_word_ends ["text"] (defScope (top 26)) := fnScope_of (by kernel_rfl)
theorem ck_word_ends (K : PySem.W.Frag) : (b_word_ends K).chk ⟨N_word_ends, (defScope (top 26)).names, true⟩ (defBody (top 26)) = true := by kernel_rfl
theorem len_word_ends (K : PySem.W.Frag) : ∀ vs H Q E, sp_word_ends K vs H Q E → vs.length = 1 := by
  rintro _ H Q E ⟨_, rfl, _⟩
  rfl
theorem sc_is_named : FnScope N_is_named ["thing", "names"] (defScope (top 31)) := fnScope_of (by kernel_rfl)
theorem ck_is_named (K : PySem.W.Frag) : (b_is_named K).chk ⟨N_is_named, (defScope (top 31)).names, true⟩ (defBody (top 31)) = true := by kernel_rfl
theorem len_is_named (K : PySem.W.Frag) : ∀ vs H Q E, sp_is_named K vs H Q E → vs.length = 2 := by
  rintro _ H Q E ⟨_, _, rfl, _⟩
  rfl
theorem sc_is_part_motions : FnScope N_is_part_motions ["sign", "thing"] (defScope (top 32)) := fnScope_of (by kernel_rfl)
theorem ck_is_part_motions (K : PySem.W.Frag) : (b_is_part_motions K).chk ⟨N_is_part_motions, (defScope (top 32)).names, true⟩ (defBody (top 32)) = true := by kernel_rfl
theorem len_is_part_motions (K : PySem.W.Frag) : ∀ vs H Q E, sp_is_part_motions K vs H Q E → vs.length = 2 := by
  rintro _ H Q E ⟨_, _, rfl, _⟩
  rfl
theorem sc_is_motion8 : FnScope N_is_motion8 ["thing"] (defScope (top 34)) := fnScope_of (by kernel_rfl)
theorem ck_is_motion8 (K : PySem.W.Frag) : (b_is_motion8 K).chk ⟨N_is_motion8, (defScope (top 34)).names, true⟩ (defBody (top 34)) = true := by kernel_rfl
theorem len_is_motion8 (K : PySem.W.Frag) : ∀ vs H Q E, sp_is_motion8 K vs H Q E → vs.length = 1 := by
  rintro _ H Q E ⟨_, _, rfl, _⟩
  rfl
theorem sc_nth_behind : FnScope N_nth_behind ["some", "place", "many"] (defScope (top 35)) := fnScope_of (by kernel_rfl)
theorem ck_nth_behind (K : PySem.W.Frag) : (b_nth_behind K).chk ⟨N_nth_behind, (defScope (top 35)).names, true⟩ (defBody (top 35)) = true := by kernel_rfl
theorem len_nth_behind (K : PySem.W.Frag) : ∀ vs H Q E, sp_nth_behind K vs H Q E → vs.length = 3 := by
  rintro _ H Q E ⟨_, _, _, _, rfl, _⟩
  rfl
theorem sc_nth_ahead : FnScope N_nth_ahead ["some", "place", "many"] (defScope (top 36)) := fnScope_of (by kernel_rfl)
theorem ck_nth_ahead (K : PySem.W.Frag) : (b_nth_ahead K).chk ⟨N_nth_ahead, (defScope (top 36)).names, true⟩ (defBody (top 36)) = true := by kernel_rfl
theorem len_nth_ahead (K : PySem.W.Frag) : ∀ vs H Q E, sp_nth_ahead K vs H Q E → vs.length = 3 := by
  rintro _ H Q E ⟨_, _, _, _, rfl, _⟩
  rfl
theorem sc_to_row : FnScope N_to_row ["text", "number", "column"] (defScope (top 37)) := fnScope_of (by kernel_rfl)
theorem ck_to_row (K : PySem.W.Frag) : (b_to_row K).chk ⟨N_to_row, (defScope (top 37)).names, true⟩ (defBody (top 37)) = true := by kernel_rfl
theorem len_to_row (K : PySem.W.Frag) : ∀ vs H Q E, sp_to_row K vs H Q E → vs.length = 3 := by
  rintro _ H Q E ⟨_, _, _, rfl, _⟩
  rfl
theorem sc_partner : FnScope N_partner ["text", "place"] (defScope (top 38)) := fnScope_of (by kernel_rfl)
theorem ck_partner (K : PySem.W.Frag) : (b_partner K).chk ⟨N_partner, (defScope (top 38)).names, true⟩ (defBody (top 38)) = true := by kernel_rfl
theorem len_partner (K : PySem.W.Frag) : ∀ vs H Q E, sp_partner K vs H Q E → vs.length = 2 := by
  rintro _ H Q E ⟨_, _, rfl, _⟩
  rfl
theorem sc_found_at : FnScope N_found_at ["text", "pattern"] (defScope (top 39)) := fnScope_of (by kernel_rfl)
theorem ck_found_at (K : PySem.W.Frag) : (b_found_at K).chk ⟨N_found_at, (defScope (top 39)).names, true⟩ (defBody (top 39)) = true := by kernel_rfl
theorem len_found_at (K : PySem.W.Frag) : ∀ vs H Q E, sp_found_at K vs H Q E → vs.length = 2 := by
  rintro _ H Q E ⟨_, _, rfl, _⟩
  rfl
theorem sc_search_on : FnScope N_search_on ["text", "place", "pattern"] (defScope (top 40)) := fnScope_of (by kernel_rfl)
theorem ck_search_on (K : PySem.W.Frag) : (b_search_on K).chk ⟨N_search_on, (defScope (top 40)).names, true⟩ (defBody (top 40)) = true := by kernel_rfl
theorem len_search_on (K : PySem.W.Frag) : ∀ vs H Q E, sp_search_on K vs H Q E → vs.length = 3 := by
  rintro _ H Q E ⟨_, _, _, rfl, _⟩
  rfl
theorem sc_search_back : FnScope N_search_back ["text", "place", "pattern"] (defScope (top 41)) := fnScope_of (by kernel_rfl)
theorem ck_search_back (K : PySem.W.Frag) : (b_search_back K).chk ⟨N_search_back, (defScope (top 41)).names, true⟩ (defBody (top 41)) = true := by kernel_rfl
theorem len_search_back (K : PySem.W.Frag) : ∀ vs H Q E, sp_search_back K vs H Q E → vs.length = 3 := by
  rintro _ H Q E ⟨_, _, _, rfl, _⟩
  rfl
theorem sc_within : FnScope N_within ["text", "place", "motion"] (defScope (top 42)) := fnScope_of (by kernel_rfl)
theorem ck_within (K : PySem.W.Frag) : (b_within K).chk ⟨N_within, (defScope (top 42)).names, true⟩ (defBody (top 42)) = true := by kernel_rfl
theorem len_within (K : PySem.W.Frag) : ∀ vs H Q E, sp_within K vs H Q E → vs.length = 3 := by
  rintro _ H Q E ⟨_, _, _, _, rfl, _⟩
  rfl
theorem sc_place_by : FnScope N_place_by ["text", "place", "motion", "column", "marks", "pattern"] (defScope (top 43)) := fnScope_of (by kernel_rfl)
theorem ck_place_by (K : PySem.W.Frag) : (b_place_by K).chk ⟨N_place_by, (defScope (top 43)).names, true⟩ (defBody (top 43)) = true := by kernel_rfl
theorem len_place_by (K : PySem.W.Frag) : ∀ vs H Q E, sp_place_by K vs H Q E → vs.length = 6 := by
  rintro _ H Q E ⟨_, _, _, _, _, _, _, _, _, rfl, _⟩
  rfl
theorem sc_need_motion : FnScope N_need_motion ["thing"] (defScope (top 44)) := fnScope_of (by kernel_rfl)
theorem ck_need_motion (K : PySem.W.Frag) : (b_need_motion K).chk ⟨N_need_motion, (defScope (top 44)).names, true⟩ (defBody (top 44)) = true := by kernel_rfl
theorem len_need_motion (K : PySem.W.Frag) : ∀ vs H Q E, sp_need_motion K vs H Q E → vs.length = 1 := by
  rintro _ H Q E ⟨_, _, rfl, _⟩
  rfl
theorem sc_goes : FnScope N_goes ["text", "place", "motion"] (defScope (top 45)) := fnScope_of (by kernel_rfl)
theorem ck_goes (K : PySem.W.Frag) : (b_goes K).chk ⟨N_goes, (defScope (top 45)).names, true⟩ (defBody (top 45)) = true := by kernel_rfl
theorem len_goes (K : PySem.W.Frag) : ∀ vs H Q E, sp_goes K vs H Q E → vs.length = 3 := by
  rintro _ H Q E ⟨_, _, _, _, rfl, _⟩
  rfl
theorem sc_is_area : FnScope N_is_area ["thing"] (defScope (top 48)) := fnScope_of (by kernel_rfl)
theorem ck_is_area (K : PySem.W.Frag) : (b_is_area K).chk ⟨N_is_area, (defScope (top 48)).names, true⟩ (defBody (top 48)) = true := by kernel_rfl
theorem len_is_area (K : PySem.W.Frag) : ∀ vs H Q E, sp_is_area K vs H Q E → vs.length = 1 := by
  rintro _ H Q E ⟨_, _, rfl, _⟩
  rfl
theorem sc_word_at : FnScope N_word_at ["text", "place"] (defScope (top 49)) := fnScope_of (by kernel_rfl)
theorem ck_word_at (K : PySem.W.Frag) : (b_word_at K).chk ⟨N_word_at, (defScope (top 49)).names, true⟩ (defBody (top 49)) = true := by kernel_rfl
theorem len_word_at (K : PySem.W.Frag) : ∀ vs H Q E, sp_word_at K vs H Q E → vs.length = 2 := by
  rintro _ H Q E ⟨_, _, rfl, _⟩
  rfl
theorem sc_inside : FnScope N_inside ["text", "place", "sign"] (defScope (top 50)) := fnScope_of (by kernel_rfl)
theorem ck_inside (K : PySem.W.Frag) : (b_inside K).chk ⟨N_inside, (defScope (top 50)).names, true⟩ (defBody (top 50)) = true := by kernel_rfl
theorem len_inside (K : PySem.W.Frag) : ∀ vs H Q E, sp_inside K vs H Q E → vs.length = 3 := by
  rintro _ H Q E ⟨_, _, _, _, rfl, _⟩
  rfl
theorem sc_rows_from : FnScope N_rows_from ["text", "place", "many"] (defScope (top 51)) := fnScope_of (by kernel_rfl)
theorem ck_rows_from (K : PySem.W.Frag) : (b_rows_from K).chk ⟨N_rows_from, (defScope (top 51)).names, true⟩ (defBody (top 51)) = true := by kernel_rfl
theorem len_rows_from (K : PySem.W.Frag) : ∀ vs H Q E, sp_rows_from K vs H Q E → vs.length = 3 := by
  rintro _ H Q E ⟨_, _, _, rfl, _⟩
  rfl
theorem sc_area_by : FnScope N_area_by ["text", "place", "area", "anchor", "column", "marks", "pattern"] (defScope (top 52)) := fnScope_of (by kernel_rfl)
theorem ck_area_by (K : PySem.W.Frag) : (b_area_by K).chk ⟨N_area_by, (defScope (top 52)).names, true⟩ (defBody (top 52)) = true := by kernel_rfl
theorem len_area_by (K : PySem.W.Frag) : ∀ vs H Q E, sp_area_by K vs H Q E → vs.length = 7 := by
  rintro _ H Q E ⟨_, _, _, _, _, _, _, _, _, _, rfl, _⟩
  rfl
theorem sc_area_of : FnScope N_area_of ["text", "place", "area"] (defScope (top 53)) := fnScope_of (by kernel_rfl)
theorem ck_area_of (K : PySem.W.Frag) : (b_area_of K).chk ⟨N_area_of, (defScope (top 53)).names, true⟩ (defBody (top 53)) = true := by kernel_rfl
theorem len_area_of (K : PySem.W.Frag) : ∀ vs H Q E, sp_area_of K vs H Q E → vs.length = 3 := by
  rintro _ H Q E ⟨_, _, _, _, rfl, _⟩
  rfl
theorem sc_is_part_deeds : FnScope N_is_part_deeds ["kind", "thing"] (defScope (top 63)) := fnScope_of (by kernel_rfl)
theorem ck_is_part_deeds (K : PySem.W.Frag) : (b_is_part_deeds K).chk ⟨N_is_part_deeds, (defScope (top 63)).names, true⟩ (defBody (top 63)) = true := by kernel_rfl
theorem len_is_part_deeds (K : PySem.W.Frag) : ∀ vs H Q E, sp_is_part_deeds K vs H Q E → vs.length = 2 := by
  rintro _ H Q E ⟨_, _, rfl, _⟩
  rfl
theorem sc_is_deed : FnScope N_is_deed ["thing"] (defScope (top 65)) := fnScope_of (by kernel_rfl)
theorem ck_is_deed (K : PySem.W.Frag) : (b_is_deed K).chk ⟨N_is_deed, (defScope (top 65)).names, true⟩ (defBody (top 65)) = true := by kernel_rfl
theorem len_is_deed (K : PySem.W.Frag) : ∀ vs H Q E, sp_is_deed K vs H Q E → vs.length = 1 := by
  rintro _ H Q E ⟨_, _, rfl, _⟩
  rfl
theorem sc_Window_init : FnScope N_Window_init ["self", "cursor"] (defScope (inClass (top 67) 0)) := fnScope_of (by kernel_rfl)
theorem ck_Window_init (K : PySem.W.Frag) : (b_Window_init K).chk ⟨N_Window_init, (defScope (inClass (top 67) 0)).names, true⟩ (defBody (inClass (top 67) 0)) = true := by kernel_rfl
theorem len_Window_init (K : PySem.W.Frag) : ∀ vs H Q E, sp_Window_init K vs H Q E → vs.length = 2 := by
  rintro _ H Q E ⟨_, _, _, rfl, _⟩
  rfl
theorem sc_Editor_init : FnScope N_Editor_init ["self", "text"] (defScope (inClass (top 74) 0)) := fnScope_of (by kernel_rfl)
theorem ck_Editor_init (K : PySem.W.Frag) : (b_Editor_init K).chk ⟨N_Editor_init, (defScope (inClass (top 74) 0)).names, true⟩ (defBody (inClass (top 74) 0)) = true := by kernel_rfl
theorem len_Editor_init (K : PySem.W.Frag) : ∀ vs H Q E, sp_Editor_init K vs H Q E → vs.length = 2 := by
  rintro _ H Q E ⟨_, _, _, rfl, _⟩
  rfl
theorem sc_Editor_now : FnScope N_Editor_now ["self"] (defScope (inClass (top 74) 1)) := fnScope_of (by kernel_rfl)
theorem ck_Editor_now (K : PySem.W.Frag) : (b_Editor_now K).chk ⟨N_Editor_now, (defScope (inClass (top 74) 1)).names, true⟩ (defBody (inClass (top 74) 1)) = true := by kernel_rfl
theorem len_Editor_now (K : PySem.W.Frag) : ∀ vs H Q E, sp_Editor_now K vs H Q E → vs.length = 1 := by
  rintro _ H Q E ⟨_, _, _, rfl, _⟩
  rfl
theorem sc_Editor_cursor : FnScope N_Editor_cursor ["self"] (defScope (inClass (top 74) 2)) := fnScope_of (by kernel_rfl)
theorem ck_Editor_cursor (K : PySem.W.Frag) : (b_Editor_cursor K).chk ⟨N_Editor_cursor, (defScope (inClass (top 74) 2)).names, true⟩ (defBody (inClass (top 74) 2)) = true := by kernel_rfl
theorem len_Editor_cursor (K : PySem.W.Frag) : ∀ vs H Q E, sp_Editor_cursor K vs H Q E → vs.length = 1 := by
  rintro _ H Q E ⟨_, _, _, rfl, _⟩
  rfl
theorem sc_Editor_chosen : FnScope N_Editor_chosen ["self"] (defScope (inClass (top 74) 3)) := fnScope_of (by kernel_rfl)
theorem ck_Editor_chosen (K : PySem.W.Frag) : (b_Editor_chosen K).chk ⟨N_Editor_chosen, (defScope (inClass (top 74) 3)).names, true⟩ (defBody (inClass (top 74) 3)) = true := by kernel_rfl
theorem len_Editor_chosen (K : PySem.W.Frag) : ∀ vs H Q E, sp_Editor_chosen K vs H Q E → vs.length = 1 := by
  rintro _ H Q E ⟨_, _, _, rfl, _⟩
  rfl
theorem sc_Editor_all_windows : FnScope N_Editor_all_windows ["self"] (defScope (inClass (top 74) 4)) := fnScope_of (by kernel_rfl)
theorem ck_Editor_all_windows (K : PySem.W.Frag) : (b_Editor_all_windows K).chk ⟨N_Editor_all_windows, (defScope (inClass (top 74) 4)).names, true⟩ (defBody (inClass (top 74) 4)) = true := by kernel_rfl
theorem len_Editor_all_windows (K : PySem.W.Frag) : ∀ vs H Q E, sp_Editor_all_windows K vs H Q E → vs.length = 1 := by
  rintro _ H Q E ⟨_, _, _, rfl, _⟩
  rfl
theorem sc_Editor_all_marks : FnScope N_Editor_all_marks ["self"] (defScope (inClass (top 74) 5)) := fnScope_of (by kernel_rfl)
theorem ck_Editor_all_marks (K : PySem.W.Frag) : (b_Editor_all_marks K).chk ⟨N_Editor_all_marks, (defScope (inClass (top 74) 5)).names, true⟩ (defBody (inClass (top 74) 5)) = true := by kernel_rfl
theorem len_Editor_all_marks (K : PySem.W.Frag) : ∀ vs H Q E, sp_Editor_all_marks K vs H Q E → vs.length = 1 := by
  rintro _ H Q E ⟨_, _, _, rfl, _⟩
  rfl
theorem sc_Editor_all_registers : FnScope N_Editor_all_registers ["self"] (defScope (inClass (top 74) 6)) := fnScope_of (by kernel_rfl)
theorem ck_Editor_all_registers (K : PySem.W.Frag) : (b_Editor_all_registers K).chk ⟨N_Editor_all_registers, (defScope (inClass (top 74) 6)).names, true⟩ (defBody (inClass (top 74) 6)) = true := by kernel_rfl
theorem len_Editor_all_registers (K : PySem.W.Frag) : ∀ vs H Q E, sp_Editor_all_registers K vs H Q E → vs.length = 1 := by
  rintro _ H Q E ⟨_, _, _, rfl, _⟩
  rfl
theorem sc_Editor_all_macros : FnScope N_Editor_all_macros ["self"] (defScope (inClass (top 74) 7)) := fnScope_of (by kernel_rfl)
theorem ck_Editor_all_macros (K : PySem.W.Frag) : (b_Editor_all_macros K).chk ⟨N_Editor_all_macros, (defScope (inClass (top 74) 7)).names, true⟩ (defBody (inClass (top 74) 7)) = true := by kernel_rfl
theorem len_Editor_all_macros (K : PySem.W.Frag) : ∀ vs H Q E, sp_Editor_all_macros K vs H Q E → vs.length = 1 := by
  rintro _ H Q E ⟨_, _, _, rfl, _⟩
  rfl
theorem sc_Editor_all_states : FnScope N_Editor_all_states ["self"] (defScope (inClass (top 74) 8)) := fnScope_of (by kernel_rfl)
theorem ck_Editor_all_states (K : PySem.W.Frag) : (b_Editor_all_states K).chk ⟨N_Editor_all_states, (defScope (inClass (top 74) 8)).names, true⟩ (defBody (inClass (top 74) 8)) = true := by kernel_rfl
theorem len_Editor_all_states (K : PySem.W.Frag) : ∀ vs H Q E, sp_Editor_all_states K vs H Q E → vs.length = 1 := by
  rintro _ H Q E ⟨_, _, _, rfl, _⟩
  rfl
theorem sc_Editor_go : FnScope N_Editor_go ["self", "motion", "column"] (defScope (inClass (top 74) 12)) := fnScope_of (by kernel_rfl)
theorem ck_Editor_go (K : PySem.W.Frag) : (b_Editor_go K).chk ⟨N_Editor_go, (defScope (inClass (top 74) 12)).names, true⟩ (defBody (inClass (top 74) 12)) = true := by kernel_rfl
theorem len_Editor_go (K : PySem.W.Frag) : ∀ vs H Q E, sp_Editor_go K vs H Q E → vs.length = 3 := by
  rintro _ H Q E ⟨_, _, _, _, _, rfl, _⟩
  rfl
theorem sc_Editor_area : FnScope N_Editor_area ["self", "area"] (defScope (inClass (top 74) 13)) := fnScope_of (by kernel_rfl)
theorem ck_Editor_area (K : PySem.W.Frag) : (b_Editor_area K).chk ⟨N_Editor_area, (defScope (inClass (top 74) 13)).names, true⟩ (defBody (inClass (top 74) 13)) = true := by kernel_rfl
theorem len_Editor_area (K : PySem.W.Frag) : ∀ vs H Q E, sp_Editor_area K vs H Q E → vs.length = 2 := by
  rintro _ H Q E ⟨_, _, _, _, _, rfl, _⟩
  rfl
theorem sc_Editor_noted : FnScope N_Editor_noted ["self", "deed"] (defScope (inClass (top 74) 14)) := fnScope_of (by kernel_rfl)
theorem ck_Editor_noted (K : PySem.W.Frag) : (b_Editor_noted K).chk ⟨N_Editor_noted, (defScope (inClass (top 74) 14)).names, true⟩ (defBody (inClass (top 74) 14)) = true := by kernel_rfl
theorem len_Editor_noted (K : PySem.W.Frag) : ∀ vs H Q E, sp_Editor_noted K vs H Q E → vs.length = 2 := by
  rintro _ H Q E ⟨_, _, _, _, _, rfl, _⟩
  rfl
theorem sc_Editor_one : FnScope N_Editor_one ["self", "deed"] (defScope (inClass (top 74) 11)) := fnScope_of (by kernel_rfl)
theorem ck_Editor_one (K : PySem.W.Frag) : (b_Editor_one K).chk ⟨N_Editor_one, (defScope (inClass (top 74) 11)).names, true⟩ (defBody (inClass (top 74) 11)) = true := by kernel_rfl
theorem len_Editor_one (K : PySem.W.Frag) : ∀ vs H Q E, sp_Editor_one K vs H Q E → vs.length = 2 := by
  rintro _ H Q E ⟨_, _, _, _, _, rfl, _⟩
  rfl
theorem sc_Editor_do : FnScope N_Editor_do ["self", "deed"] (defScope (inClass (top 74) 10)) := fnScope_of (by kernel_rfl)
theorem ck_Editor_do (K : PySem.W.Frag) : (b_Editor_do K).chk ⟨N_Editor_do, (defScope (inClass (top 74) 10)).names, true⟩ (defBody (inClass (top 74) 10)) = true := by kernel_rfl
theorem len_Editor_do (K : PySem.W.Frag) : ∀ vs H Q E, sp_Editor_do K vs H Q E → vs.length = 2 := by
  rintro _ H Q E ⟨_, _, _, _, _, rfl, _⟩
  rfl
theorem sc_law_rows : FnScope N_law_rows ["text"] (defScope (top 76)) := fnScope_of (by kernel_rfl)
theorem ck_law_rows (K : PySem.W.Frag) : (b_law_rows K).chk ⟨N_law_rows, (defScope (top 76)).names, true⟩ (defBody (top 76)) = true := by kernel_rfl
theorem len_law_rows (K : PySem.W.Frag) : ∀ vs H Q E, sp_law_rows K vs H Q E → vs.length = 1 := by
  rintro _ H Q E ⟨_, rfl, _⟩
  rfl
theorem sc_law_spot : FnScope N_law_spot ["text", "place"] (defScope (top 77)) := fnScope_of (by kernel_rfl)
theorem ck_law_spot (K : PySem.W.Frag) : (b_law_spot K).chk ⟨N_law_spot, (defScope (top 77)).names, true⟩ (defBody (top 77)) = true := by kernel_rfl
theorem len_law_spot (K : PySem.W.Frag) : ∀ vs H Q E, sp_law_spot K vs H Q E → vs.length = 2 := by
  rintro _ H Q E ⟨_, _, rfl, _⟩
  rfl
theorem sc_law_back : FnScope N_law_back ["rows", "row", "column"] (defScope (top 78)) := fnScope_of (by kernel_rfl)
theorem ck_law_back (K : PySem.W.Frag) : (b_law_back K).chk ⟨N_law_back, (defScope (top 78)).names, true⟩ (defBody (top 78)) = true := by kernel_rfl
theorem len_law_back (K : PySem.W.Frag) : ∀ vs H Q E, sp_law_back K vs H Q E → vs.length = 3 := by
  rintro _ H Q E ⟨_, _, _, _, _, rfl, _⟩
  rfl
theorem sc_law_new : FnScope N_law_new ["text"] (defScope (top 79)) := fnScope_of (by kernel_rfl)
theorem ck_law_new (K : PySem.W.Frag) : (b_law_new K).chk ⟨N_law_new, (defScope (top 79)).names, true⟩ (defBody (top 79)) = true := by kernel_rfl
theorem len_law_new (K : PySem.W.Frag) : ∀ vs H Q E, sp_law_new K vs H Q E → vs.length = 1 := by
  rintro _ H Q E ⟨_, rfl, _⟩
  rfl
theorem sc_law_win : FnScope N_law_win ["world"] (defScope (top 80)) := fnScope_of (by kernel_rfl)
theorem ck_law_win (K : PySem.W.Frag) : (b_law_win K).chk ⟨N_law_win, (defScope (top 80)).names, true⟩ (defBody (top 80)) = true := by kernel_rfl
theorem len_law_win (K : PySem.W.Frag) : ∀ vs H Q E, sp_law_win K vs H Q E → vs.length = 1 := by
  rintro _ H Q E ⟨_, _, _, rfl, _⟩
  rfl
theorem sc_law_starts : FnScope N_law_starts ["text", "pattern"] (defScope (top 81)) := fnScope_of (by kernel_rfl)
theorem ck_law_starts (K : PySem.W.Frag) : (b_law_starts K).chk ⟨N_law_starts, (defScope (top 81)).names, true⟩ (defBody (top 81)) = true := by kernel_rfl
theorem len_law_starts (K : PySem.W.Frag) : ∀ vs H Q E, sp_law_starts K vs H Q E → vs.length = 2 := by
  rintro _ H Q E ⟨_, _, rfl, _⟩
  rfl
theorem sc_law_goal : FnScope N_law_goal ["world", "motion"] (defScope (top 82)) := fnScope_of (by kernel_rfl)
theorem ck_law_goal (K : PySem.W.Frag) : (b_law_goal K).chk ⟨N_law_goal, (defScope (top 82)).names, true⟩ (defBody (top 82)) = true := by kernel_rfl
theorem len_law_goal (K : PySem.W.Frag) : ∀ vs H Q E, sp_law_goal K vs H Q E → vs.length = 2 := by
  rintro _ H Q E ⟨_, _, _, _, _, rfl, _⟩
  rfl
theorem sc_law_area_in : FnScope N_law_area_in ["world", "area"] (defScope (top 83)) := fnScope_of (by kernel_rfl)
theorem ck_law_area_in (K : PySem.W.Frag) : (b_law_area_in K).chk ⟨N_law_area_in, (defScope (top 83)).names, true⟩ (defBody (top 83)) = true := by kernel_rfl
theorem len_law_area_in (K : PySem.W.Frag) : ∀ vs H Q E, sp_law_area_in K vs H Q E → vs.length = 2 := by
  rintro _ H Q E ⟨_, _, _, _, _, rfl, _⟩
  rfl
theorem sc_law_noted : FnScope N_law_noted ["world", "deed"] (defScope (top 84)) := fnScope_of (by kernel_rfl)
theorem ck_law_noted (K : PySem.W.Frag) : (b_law_noted K).chk ⟨N_law_noted, (defScope (top 84)).names, true⟩ (defBody (top 84)) = true := by kernel_rfl
theorem len_law_noted (K : PySem.W.Frag) : ∀ vs H Q E, sp_law_noted K vs H Q E → vs.length = 2 := by
  rintro _ H Q E ⟨_, _, _, _, _, rfl, _⟩
  rfl
theorem sc_law_go : FnScope N_law_go ["world", "motion"] (defScope (top 85)) := fnScope_of (by kernel_rfl)
theorem ck_law_go (K : PySem.W.Frag) : (b_law_go K).chk ⟨N_law_go, (defScope (top 85)).names, true⟩ (defBody (top 85)) = true := by kernel_rfl
theorem len_law_go (K : PySem.W.Frag) : ∀ vs H Q E, sp_law_go K vs H Q E → vs.length = 2 := by
  rintro _ H Q E ⟨_, _, _, _, _, rfl, _⟩
  rfl
theorem sc_law_one : FnScope N_law_one ["world", "deed", "deep"] (defScope (top 86)) := fnScope_of (by kernel_rfl)
theorem ck_law_one (K : PySem.W.Frag) : (b_law_one K).chk ⟨N_law_one, (defScope (top 86)).names, true⟩ (defBody (top 86)) = true := by kernel_rfl
theorem len_law_one (K : PySem.W.Frag) : ∀ vs H Q E, sp_law_one K vs H Q E → vs.length = 3 := by
  rintro _ H Q E ⟨_, _, _, _, _, _, rfl, _⟩
  rfl
theorem sc_law_do : FnScope N_law_do ["world", "deed"] (defScope (top 87)) := fnScope_of (by kernel_rfl)
theorem ck_law_do (K : PySem.W.Frag) : (b_law_do K).chk ⟨N_law_do, (defScope (top 87)).names, true⟩ (defBody (top 87)) = true := by kernel_rfl
theorem len_law_do (K : PySem.W.Frag) : ∀ vs H Q E, sp_law_do K vs H Q E → vs.length = 2 := by
  rintro _ H Q E ⟨_, _, _, _, _, rfl, _⟩
  rfl
theorem sc_law_same : FnScope N_law_same ["editor", "world"] (defScope (top 88)) := fnScope_of (by kernel_rfl)
theorem ck_law_same (K : PySem.W.Frag) : (b_law_same K).chk ⟨N_law_same, (defScope (top 88)).names, true⟩ (defBody (top 88)) = true := by kernel_rfl
theorem len_law_same (K : PySem.W.Frag) : ∀ vs H Q E, sp_law_same K vs H Q E → vs.length = 2 := by
  rintro _ H Q E ⟨_, _, _, _, _, rfl, _⟩
  rfl
theorem sc_law_cell_at : FnScope N_law_cell_at ["script", "k"] (defScope (top 89)) := fnScope_of (by kernel_rfl)
theorem ck_law_cell_at (K : PySem.W.Frag) : (b_law_cell_at K).chk ⟨N_law_cell_at, (defScope (top 89)).names, true⟩ (defBody (top 89)) = true := by kernel_rfl
theorem len_law_cell_at (K : PySem.W.Frag) : ∀ vs H Q E, sp_law_cell_at K vs H Q E → vs.length = 2 := by
  rintro _ H Q E ⟨_, _, _, rfl, _⟩
  rfl
theorem sc_law_mixed : FnScope N_law_mixed ["script", "k", "many"] (defScope (top 90)) := fnScope_of (by kernel_rfl)
theorem ck_law_mixed (K : PySem.W.Frag) : (b_law_mixed K).chk ⟨N_law_mixed, (defScope (top 90)).names, true⟩ (defBody (top 90)) = true := by kernel_rfl
theorem len_law_mixed (K : PySem.W.Frag) : ∀ vs H Q E, sp_law_mixed K vs H Q E → vs.length = 3 := by
  rintro _ H Q E ⟨_, _, _, _, rfl, _⟩
  rfl
theorem sc_law_draw : FnScope N_law_draw ["script", "town", "many"] (defScope (top 91)) := fnScope_of (by kernel_rfl)
theorem ck_law_draw (K : PySem.W.Frag) : (b_law_draw K).chk ⟨N_law_draw, (defScope (top 91)).names, true⟩ (defBody (top 91)) = true := by kernel_rfl
theorem len_law_draw (K : PySem.W.Frag) : ∀ vs H Q E, sp_law_draw K vs H Q E → vs.length = 3 := by
  rintro _ H Q E ⟨_, _, _, _, _, rfl, _⟩
  rfl
theorem sc_law_pick : FnScope N_law_pick ["script", "town", "some"] (defScope (top 92)) := fnScope_of (by kernel_rfl)
theorem ck_law_pick (K : PySem.W.Frag) : (b_law_pick K).chk ⟨N_law_pick, (defScope (top 92)).names, true⟩ (defBody (top 92)) = true := by kernel_rfl
theorem len_law_pick (K : PySem.W.Frag) : ∀ vs H Q E, sp_law_pick K vs H Q E → vs.length = 3 := by
  rintro _ H Q E ⟨_, _, _, _, _, _, rfl, _⟩
  rfl
theorem sc_law_piece : FnScope N_law_piece ["script", "town", "most"] (defScope (top 93)) := fnScope_of (by kernel_rfl)
theorem ck_law_piece (K : PySem.W.Frag) : (b_law_piece K).chk ⟨N_law_piece, (defScope (top 93)).names, true⟩ (defBody (top 93)) = true := by kernel_rfl
theorem len_law_piece (K : PySem.W.Frag) : ∀ vs H Q E, sp_law_piece K vs H Q E → vs.length = 3 := by
  rintro _ H Q E ⟨_, _, _, _, _, rfl, _⟩
  rfl
theorem sc_law_text : FnScope N_law_text ["script", "town", "most"] (defScope (top 94)) := fnScope_of (by kernel_rfl)
theorem ck_law_text (K : PySem.W.Frag) : (b_law_text K).chk ⟨N_law_text, (defScope (top 94)).names, true⟩ (defBody (top 94)) = true := by kernel_rfl
theorem len_law_text (K : PySem.W.Frag) : ∀ vs H Q E, sp_law_text K vs H Q E → vs.length = 3 := by
  rintro _ H Q E ⟨_, _, _, _, _, rfl, _⟩
  rfl
theorem sc_law_motion : FnScope N_law_motion ["script", "town", "text"] (defScope (top 95)) := fnScope_of (by kernel_rfl)
theorem ck_law_motion (K : PySem.W.Frag) : (b_law_motion K).chk ⟨N_law_motion, (defScope (top 95)).names, true⟩ (defBody (top 95)) = true := by kernel_rfl
theorem len_law_motion (K : PySem.W.Frag) : ∀ vs H Q E, sp_law_motion K vs H Q E → vs.length = 3 := by
  rintro _ H Q E ⟨_, _, _, _, _, rfl, _⟩
  rfl
theorem sc_law_area_of : FnScope N_law_area_of ["script", "town", "text"] (defScope (top 96)) := fnScope_of (by kernel_rfl)
theorem ck_law_area_of (K : PySem.W.Frag) : (b_law_area_of K).chk ⟨N_law_area_of, (defScope (top 96)).names, true⟩ (defBody (top 96)) = true := by kernel_rfl
theorem len_law_area_of (K : PySem.W.Frag) : ∀ vs H Q E, sp_law_area_of K vs H Q E → vs.length = 3 := by
  rintro _ H Q E ⟨_, _, _, _, _, rfl, _⟩
  rfl
theorem sc_law_deed : FnScope N_law_deed ["script", "town", "text", "words"] (defScope (top 97)) := fnScope_of (by kernel_rfl)
theorem ck_law_deed (K : PySem.W.Frag) : (b_law_deed K).chk ⟨N_law_deed, (defScope (top 97)).names, true⟩ (defBody (top 97)) = true := by kernel_rfl
theorem len_law_deed (K : PySem.W.Frag) : ∀ vs H Q E, sp_law_deed K vs H Q E → vs.length = 4 := by
  rintro _ H Q E ⟨_, _, _, _, _, _, _, rfl, _⟩
  rfl
theorem sc_law : FnScope N_law ["script"] (defScope (top 98)) := fnScope_of (by kernel_rfl)
theorem ck_law (K : PySem.W.Frag) : (b_law K).chk ⟨N_law, (defScope (top 98)).names, true⟩ (defBody (top 98)) = true := by kernel_rfl
theorem len_law (K : PySem.W.Frag) : ∀ vs H Q E, sp_law K vs H Q E → vs.length = 1 := by
  rintro _ H Q E ⟨_, _, rfl, _⟩
  rfl
theorem facts {P : Program} {w : World} {K : PySem.W.Frag} {h : Heap} {mg : Str → Option Value} {fl : Addr} (X : K.In h) (G : h.Ns mainGlobals mg) (hfl : mg ("law" : Str) = some (.ref fl)) (c : He.SaysT fa fn ts w K) (cx : ex K = true) :
    ∃ fd : FuncData, (∀ (s : Shared) (v : Value), BindsTo s fd ⟨[v], []⟩ [("script", v)]) ∧ ∀ base : Heap, K.In base → base.Ns mainGlobals mg → FnOk P w K mg base CX0 11 fl fd ["script"] (sp_law K) := by
  obtain ⟨fd_0, F_0⟩ := c.d.def_ 0 (d := dd (top 16) ("is_whole", none) "is_whole" "is_whole") rfl
  have l_0 := He.glo_ok X G (c.d.fact 0 (f := .glo "is_whole") rfl)
  obtain ⟨fd_1, F_1⟩ := c.d.def_ 1 (d := dd (top 17) ("are_signs", none) "are_signs" "are_signs") rfl
  have l_1 := He.glo_ok X G (c.d.fact 1 (f := .glo "are_signs") rfl)
  obtain ⟨fd_2, F_2⟩ := c.d.def_ 2 (d := dd (top 18) ("is_text", none) "is_text" "is_text") rfl
  have l_2 := He.glo_ok X G (c.d.fact 2 (f := .glo "is_text") rfl)
  obtain ⟨fd_3, F_3⟩ := c.d.def_ 3 (d := dd (top 19) ("need_text", none) "need_text" "need_text") rfl
  have l_3 := He.glo_ok X G (c.d.fact 3 (f := .glo "need_text") rfl)
  obtain ⟨fd_4, F_4⟩ := c.d.def_ 4 (d := dd (top 20) ("need_place", none) "need_place" "need_place") rfl
  have l_4 := He.glo_ok X G (c.d.fact 4 (f := .glo "need_place") rfl)
  obtain ⟨fd_5, F_5⟩ := c.d.def_ 5 (d := dd (top 21) ("begin_of", none) "begin_of" "begin_of") rfl
  have l_5 := He.glo_ok X G (c.d.fact 5 (f := .glo "begin_of") rfl)
  obtain ⟨fd_6, F_6⟩ := c.d.def_ 6 (d := dd (top 22) ("end_of", none) "end_of" "end_of") rfl
  have l_6 := He.glo_ok X G (c.d.fact 6 (f := .glo "end_of") rfl)
  obtain ⟨fd_7, F_7⟩ := c.d.def_ 7 (d := dd (top 23) ("row_of", none) "row_of" "row_of") rfl
  have l_7 := He.glo_ok X G (c.d.fact 7 (f := .glo "row_of") rfl)
  obtain ⟨fd_8, F_8⟩ := c.d.def_ 8 (d := dd (top 24) ("begins", none) "begins" "begins") rfl
  have l_8 := He.glo_ok X G (c.d.fact 8 (f := .glo "begins") rfl)
  obtain ⟨fd_9, F_9⟩ := c.d.def_ 9 (d := dd (top 25) ("word_begins", none) "word_begins" "word_begins") rfl
  have l_9 := He.glo_ok X G (c.d.fact 9 (f := .glo "word_begins") rfl)
  obtain ⟨fd_10, F_10⟩ := c.d.def_ 10 (d := dd (top 26) ("word_ends", none) "word_ends" "word_ends") rfl
  have l_10 := He.glo_ok X G (c.d.fact 10 (f := .glo "word_ends") rfl)
  obtain ⟨fd_11, F_11⟩ := c.d.def_ 11 (d := dd (top 31) ("is_named", none) "is_named" "is_named") rfl
  have l_11 := He.glo_ok X G (c.d.fact 11 (f := .glo "is_named") rfl)
  obtain ⟨fd_12, F_12⟩ := c.d.def_ 12 (d := dd (top 32) ("is_part_motions", none) "is_part" "is_part") rfl
  have l_12 := He.glo_ok X G (c.d.fact 12 (f := .glo "is_part_motions") rfl)
  obtain ⟨fd_13, F_13⟩ := c.d.def_ 13 (d := dd (top 34) ("is_motion", none) "is_motion" "is_motion") rfl
  have l_13 := He.glo_ok X G (c.d.fact 13 (f := .glo "is_motion") rfl)
  obtain ⟨fd_14, F_14⟩ := c.d.def_ 14 (d := dd (top 35) ("nth_behind", none) "nth_behind" "nth_behind") rfl
  have l_14 := He.glo_ok X G (c.d.fact 14 (f := .glo "nth_behind") rfl)
  obtain ⟨fd_15, F_15⟩ := c.d.def_ 15 (d := dd (top 36) ("nth_ahead", none) "nth_ahead" "nth_ahead") rfl
  have l_15 := He.glo_ok X G (c.d.fact 15 (f := .glo "nth_ahead") rfl)
  obtain ⟨fd_16, F_16⟩ := c.d.def_ 16 (d := dd (top 37) ("to_row", none) "to_row" "to_row") rfl
  have l_16 := He.glo_ok X G (c.d.fact 16 (f := .glo "to_row") rfl)
  obtain ⟨fd_17, F_17⟩ := c.d.def_ 17 (d := dd (top 38) ("partner", none) "partner" "partner") rfl
  have l_17 := He.glo_ok X G (c.d.fact 17 (f := .glo "partner") rfl)
  obtain ⟨fd_18, F_18⟩ := c.d.def_ 18 (d := dd (top 39) ("found_at", none) "found_at" "found_at") rfl
  have l_18 := He.glo_ok X G (c.d.fact 18 (f := .glo "found_at") rfl)
  obtain ⟨fd_19, F_19⟩ := c.d.def_ 19 (d := dd (top 40) ("search_on", none) "search_on" "search_on") rfl
  have l_19 := He.glo_ok X G (c.d.fact 19 (f := .glo "search_on") rfl)
  obtain ⟨fd_20, F_20⟩ := c.d.def_ 20 (d := dd (top 41) ("search_back", none) "search_back" "search_back") rfl
  have l_20 := He.glo_ok X G (c.d.fact 20 (f := .glo "search_back") rfl)
  obtain ⟨fd_21, F_21⟩ := c.d.def_ 21 (d := dd (top 42) ("within", none) "within" "within") rfl
  have l_21 := He.glo_ok X G (c.d.fact 21 (f := .glo "within") rfl)
  obtain ⟨fd_22, F_22⟩ := c.d.def_ 22 (d := dd (top 43) ("place_by", none) "place_by" "place_by") rfl
  have l_22 := He.glo_ok X G (c.d.fact 22 (f := .glo "place_by") rfl)
  obtain ⟨fd_23, F_23⟩ := c.d.def_ 23 (d := dd (top 44) ("need_motion", none) "need_motion" "need_motion") rfl
  have l_23 := He.glo_ok X G (c.d.fact 23 (f := .glo "need_motion") rfl)
  obtain ⟨fd_24, F_24⟩ := c.d.def_ 24 (d := dd (top 45) ("goes", none) "goes" "goes") rfl
  have l_24 := He.glo_ok X G (c.d.fact 24 (f := .glo "goes") rfl)
  obtain ⟨fd_25, F_25⟩ := c.d.def_ 25 (d := dd (top 48) ("is_area", none) "is_area" "is_area") rfl
  have l_25 := He.glo_ok X G (c.d.fact 25 (f := .glo "is_area") rfl)
  obtain ⟨fd_26, F_26⟩ := c.d.def_ 26 (d := dd (top 49) ("word_at", none) "word_at" "word_at") rfl
  have l_26 := He.glo_ok X G (c.d.fact 26 (f := .glo "word_at") rfl)
  obtain ⟨fd_27, F_27⟩ := c.d.def_ 27 (d := dd (top 50) ("inside", none) "inside" "inside") rfl
  have l_27 := He.glo_ok X G (c.d.fact 27 (f := .glo "inside") rfl)
  obtain ⟨fd_28, F_28⟩ := c.d.def_ 28 (d := dd (top 51) ("rows_from", none) "rows_from" "rows_from") rfl
  have l_28 := He.glo_ok X G (c.d.fact 28 (f := .glo "rows_from") rfl)
  obtain ⟨fd_29, F_29⟩ := c.d.def_ 29 (d := dd (top 52) ("area_by", none) "area_by" "area_by") rfl
  have l_29 := He.glo_ok X G (c.d.fact 29 (f := .glo "area_by") rfl)
  obtain ⟨fd_30, F_30⟩ := c.d.def_ 30 (d := dd (top 53) ("area_of", none) "area_of" "area_of") rfl
  have l_30 := He.glo_ok X G (c.d.fact 30 (f := .glo "area_of") rfl)
  obtain ⟨fd_31, F_31⟩ := c.d.def_ 31 (d := dd (top 63) ("is_part_deeds", none) "is_part" "is_part") rfl
  have l_31 := He.glo_ok X G (c.d.fact 31 (f := .glo "is_part_deeds") rfl)
  obtain ⟨fd_32, F_32⟩ := c.d.def_ 32 (d := dd (top 65) ("is_deed", none) "is_deed" "is_deed") rfl
  have l_32 := He.glo_ok X G (c.d.fact 32 (f := .glo "is_deed") rfl)
  obtain ⟨fd_33, F_33⟩ := c.d.def_ 33 (d := dd (inClass (top 67) 0) ("Window", some "__init__") "__init__" "Window.__init__") rfl
  obtain ⟨fd_34, F_34⟩ := c.d.def_ 34 (d := dd (inClass (top 74) 0) ("Editor", some "__init__") "__init__" "Editor.__init__") rfl
  obtain ⟨fd_35, F_35⟩ := c.d.def_ 35 (d := dd (inClass (top 74) 1) ("Editor", some "now") "now" "Editor.now") rfl
  obtain ⟨fd_36, F_36⟩ := c.d.def_ 36 (d := dd (inClass (top 74) 2) ("Editor", some "cursor") "cursor" "Editor.cursor") rfl
  obtain ⟨fd_37, F_37⟩ := c.d.def_ 37 (d := dd (inClass (top 74) 3) ("Editor", some "chosen") "chosen" "Editor.chosen") rfl
  obtain ⟨fd_38, F_38⟩ := c.d.def_ 38 (d := dd (inClass (top 74) 4) ("Editor", some "all_windows") "all_windows" "Editor.all_windows") rfl
  obtain ⟨fd_39, F_39⟩ := c.d.def_ 39 (d := dd (inClass (top 74) 5) ("Editor", some "all_marks") "all_marks" "Editor.all_marks") rfl
  obtain ⟨fd_40, F_40⟩ := c.d.def_ 40 (d := dd (inClass (top 74) 6) ("Editor", some "all_registers") "all_registers" "Editor.all_registers") rfl
  obtain ⟨fd_41, F_41⟩ := c.d.def_ 41 (d := dd (inClass (top 74) 7) ("Editor", some "all_macros") "all_macros" "Editor.all_macros") rfl
  obtain ⟨fd_42, F_42⟩ := c.d.def_ 42 (d := dd (inClass (top 74) 8) ("Editor", some "all_states") "all_states" "Editor.all_states") rfl
  obtain ⟨fd_43, F_43⟩ := c.d.def_ 43 (d := dd (inClass (top 74) 12) ("Editor", some "go") "go" "Editor.go") rfl
  obtain ⟨fd_44, F_44⟩ := c.d.def_ 44 (d := dd (inClass (top 74) 13) ("Editor", some "area") "area" "Editor.area") rfl
  obtain ⟨fd_45, F_45⟩ := c.d.def_ 45 (d := dd (inClass (top 74) 14) ("Editor", some "noted") "noted" "Editor.noted") rfl
  obtain ⟨fd_46, F_46⟩ := c.d.def_ 46 (d := dd (inClass (top 74) 11) ("Editor", some "one") "one" "Editor.one") rfl
  obtain ⟨fd_47, F_47⟩ := c.d.def_ 47 (d := dd (inClass (top 74) 10) ("Editor", some "do") "do" "Editor.do") rfl
  obtain ⟨fd_48, F_48⟩ := c.d.def_ 48 (d := dd (top 76) ("_law_rows", none) "_law_rows" "_law_rows") rfl
  have l_48 := He.glo_ok X G (c.d.fact 33 (f := .glo "_law_rows") rfl)
  obtain ⟨fd_49, F_49⟩ := c.d.def_ 49 (d := dd (top 77) ("_law_spot", none) "_law_spot" "_law_spot") rfl
  have l_49 := He.glo_ok X G (c.d.fact 34 (f := .glo "_law_spot") rfl)
  obtain ⟨fd_50, F_50⟩ := c.d.def_ 50 (d := dd (top 78) ("_law_back", none) "_law_back" "_law_back") rfl
  have l_50 := He.glo_ok X G (c.d.fact 35 (f := .glo "_law_back") rfl)
  obtain ⟨fd_51, F_51⟩ := c.d.def_ 51 (d := dd (top 79) ("_law_new", none) "_law_new" "_law_new") rfl
  have l_51 := He.glo_ok X G (c.d.fact 36 (f := .glo "_law_new") rfl)
  obtain ⟨fd_52, F_52⟩ := c.d.def_ 52 (d := dd (top 80) ("_law_win", none) "_law_win" "_law_win") rfl
  have l_52 := He.glo_ok X G (c.d.fact 37 (f := .glo "_law_win") rfl)
  obtain ⟨fd_53, F_53⟩ := c.d.def_ 53 (d := dd (top 81) ("_law_starts", none) "_law_starts" "_law_starts") rfl
  have l_53 := He.glo_ok X G (c.d.fact 38 (f := .glo "_law_starts") rfl)
  obtain ⟨fd_54, F_54⟩ := c.d.def_ 54 (d := dd (top 82) ("_law_goal", none) "_law_goal" "_law_goal") rfl
  have l_54 := He.glo_ok X G (c.d.fact 39 (f := .glo "_law_goal") rfl)
  obtain ⟨fd_55, F_55⟩ := c.d.def_ 55 (d := dd (top 83) ("_law_area_in", none) "_law_area_in" "_law_area_in") rfl
  have l_55 := He.glo_ok X G (c.d.fact 40 (f := .glo "_law_area_in") rfl)
  obtain ⟨fd_56, F_56⟩ := c.d.def_ 56 (d := dd (top 84) ("_law_noted", none) "_law_noted" "_law_noted") rfl
  have l_56 := He.glo_ok X G (c.d.fact 41 (f := .glo "_law_noted") rfl)
  obtain ⟨fd_57, F_57⟩ := c.d.def_ 57 (d := dd (top 85) ("_law_go", none) "_law_go" "_law_go") rfl
  have l_57 := He.glo_ok X G (c.d.fact 42 (f := .glo "_law_go") rfl)
  obtain ⟨fd_58, F_58⟩ := c.d.def_ 58 (d := dd (top 86) ("_law_one", none) "_law_one" "_law_one") rfl
  have l_58 := He.glo_ok X G (c.d.fact 43 (f := .glo "_law_one") rfl)
  obtain ⟨fd_59, F_59⟩ := c.d.def_ 59 (d := dd (top 87) ("_law_do", none) "_law_do" "_law_do") rfl
  have l_59 := He.glo_ok X G (c.d.fact 44 (f := .glo "_law_do") rfl)
  obtain ⟨fd_60, F_60⟩ := c.d.def_ 60 (d := dd (top 88) ("_law_same", none) "_law_same" "_law_same") rfl
  have l_60 := He.glo_ok X G (c.d.fact 45 (f := .glo "_law_same") rfl)
  obtain ⟨fd_61, F_61⟩ := c.d.def_ 61 (d := dd (top 89) ("_law_cell_at", none) "_law_cell_at" "_law_cell_at") rfl
  have l_61 := He.glo_ok X G (c.d.fact 46 (f := .glo "_law_cell_at") rfl)
  obtain ⟨fd_62, F_62⟩ := c.d.def_ 62 (d := dd (top 90) ("_law_mixed", none) "_law_mixed" "_law_mixed") rfl
  have l_62 := He.glo_ok X G (c.d.fact 47 (f := .glo "_law_mixed") rfl)
  obtain ⟨fd_63, F_63⟩ := c.d.def_ 63 (d := dd (top 91) ("_law_draw", none) "_law_draw" "_law_draw") rfl
  have l_63 := He.glo_ok X G (c.d.fact 48 (f := .glo "_law_draw") rfl)
  obtain ⟨fd_64, F_64⟩ := c.d.def_ 64 (d := dd (top 92) ("_law_pick", none) "_law_pick" "_law_pick") rfl
  have l_64 := He.glo_ok X G (c.d.fact 49 (f := .glo "_law_pick") rfl)
  obtain ⟨fd_65, F_65⟩ := c.d.def_ 65 (d := dd (top 93) ("_law_piece", none) "_law_piece" "_law_piece") rfl
  have l_65 := He.glo_ok X G (c.d.fact 50 (f := .glo "_law_piece") rfl)
  obtain ⟨fd_66, F_66⟩ := c.d.def_ 66 (d := dd (top 94) ("_law_text", none) "_law_text" "_law_text") rfl
  have l_66 := He.glo_ok X G (c.d.fact 51 (f := .glo "_law_text") rfl)
  obtain ⟨fd_67, F_67⟩ := c.d.def_ 67 (d := dd (top 95) ("_law_motion", none) "_law_motion" "_law_motion") rfl
  have l_67 := He.glo_ok X G (c.d.fact 52 (f := .glo "_law_motion") rfl)
  obtain ⟨fd_68, F_68⟩ := c.d.def_ 68 (d := dd (top 96) ("_law_area_of", none) "_law_area_of" "_law_area_of") rfl
  have l_68 := He.glo_ok X G (c.d.fact 53 (f := .glo "_law_area_of") rfl)
  obtain ⟨fd_69, F_69⟩ := c.d.def_ 69 (d := dd (top 97) ("_law_deed", none) "_law_deed" "_law_deed") rfl
  have l_69 := He.glo_ok X G (c.d.fact 54 (f := .glo "_law_deed") rfl)
  obtain ⟨fd_70, F_70⟩ := c.d.def_ 70 (d := dd (top 98) ("law", none) "law" "law") rfl
  have l_70 := He.glo_ok X G (c.d.fact 55 (f := .glo "law") rfl)
  have m_abs : mg "abs" = none := He.free_ok X G (c.d.fact 56 (f := .free "abs") rfl)
  have m_all : mg "all" = none := He.free_ok X G (c.d.fact 57 (f := .free "all") rfl)
  have m_bool : mg "bool" = none := He.free_ok X G (c.d.fact 58 (f := .free "bool") rfl)
  have m_enumerate : mg "enumerate" = none := He.free_ok X G (c.d.fact 59 (f := .free "enumerate") rfl)
  have m_int : mg "int" = none := He.free_ok X G (c.d.fact 60 (f := .free "int") rfl)
  have m_isinstance : mg "isinstance" = none := He.free_ok X G (c.d.fact 61 (f := .free "isinstance") rfl)
  have m_len : mg "len" = none := He.free_ok X G (c.d.fact 62 (f := .free "len") rfl)
  have m_list : mg "list" = none := He.free_ok X G (c.d.fact 63 (f := .free "list") rfl)
  have m_max : mg "max" = none := He.free_ok X G (c.d.fact 64 (f := .free "max") rfl)
  have m_min : mg "min" = none := He.free_ok X G (c.d.fact 65 (f := .free "min") rfl)
  have m_range : mg "range" = none := He.free_ok X G (c.d.fact 66 (f := .free "range") rfl)
  have m_sorted : mg "sorted" = none := He.free_ok X G (c.d.fact 67 (f := .free "sorted") rfl)
  have m_str : mg "str" = none := He.free_ok X G (c.d.fact 68 (f := .free "str") rfl)
  have m_sum : mg "sum" = none := He.free_ok X G (c.d.fact 69 (f := .free "sum") rfl)
  have m_tuple : mg "tuple" = none := He.free_ok X G (c.d.fact 70 (f := .free "tuple") rfl)
  have m_zip : mg "zip" = none := He.free_ok X G (c.d.fact 71 (f := .free "zip") rfl)
  have c_LONG : ∃ u, mg "LONG" = some u ∧ RelV (.int 200) u := let ⟨t, e⟩ := He.int_ok X G (c.d.fact 72 (f := .int "LONG" 200) rfl); ⟨_, e, t, rfl⟩
  have c_NAMES : ∃ u, mg "NAMES" = some u ∧ RelV (.str cNAMES) u := let ⟨t, e⟩ := He.str_ok X G (c.d.fact 73 (f := .str "NAMES" cNAMES) rfl); ⟨_, e, t, rfl⟩
  have c_OPEN : ∃ u, mg "OPEN" = some u ∧ RelV (.str cOPEN) u := let ⟨t, e⟩ := He.str_ok X G (c.d.fact 74 (f := .str "OPEN" cOPEN) rfl); ⟨_, e, t, rfl⟩
  have c_OTHERS : ∃ u, mg "OTHERS" = some u ∧ RelV (.str cOTHERS) u := let ⟨t, e⟩ := He.str_ok X G (c.d.fact 75 (f := .str "OTHERS" cOTHERS) rfl); ⟨_, e, t, rfl⟩
  have c_ROWS : ∃ u, mg "ROWS" = some u ∧ RelV (.int 99) u := let ⟨t, e⟩ := He.int_ok X G (c.d.fact 76 (f := .int "ROWS" 99) rfl); ⟨_, e, t, rfl⟩
  have c_SHUT : ∃ u, mg "SHUT" = some u ∧ RelV (.str cSHUT) u := let ⟨t, e⟩ := He.str_ok X G (c.d.fact 77 (f := .str "SHUT" cSHUT) rfl); ⟨_, e, t, rfl⟩
  have c_TIMES_areas : ∃ u, mg "TIMES_areas" = some u ∧ RelV (.int 9) u := let ⟨t, e⟩ := He.int_ok X G (c.d.fact 78 (f := .int "TIMES_areas" 9) rfl); ⟨_, e, t, rfl⟩
  have c_TIMES_motions : ∃ u, mg "TIMES_motions" = some u ∧ RelV (.int 9) u := let ⟨t, e⟩ := He.int_ok X G (c.d.fact 79 (f := .int "TIMES_motions" 9) rfl); ⟨_, e, t, rfl⟩
  have c_WORD : ∃ u, mg "WORD" = some u ∧ RelV (.str cWORD) u := let ⟨t, e⟩ := He.str_ok X G (c.d.fact 80 (f := .str "WORD" cWORD) rfl); ⟨_, e, t, rfl⟩
  have C_Editor := He.cls_ok (c.d.fact 84 (f := .cls "Editor") rfl)
  have C_Window := He.cls_ok (c.d.fact 85 (f := .cls "Window") rfl)
  have n_Editor_active : Cls K (cl K "Editor") ∧ NoAttr K (cl K "Editor") "active" := ⟨C_Editor, He.noat_ok (c.d.fact 86 (f := .noat "Editor" "active") rfl)⟩
  have n_Editor_deep : Cls K (cl K "Editor") ∧ NoAttr K (cl K "Editor") "deep" := ⟨C_Editor, He.noat_ok (c.d.fact 87 (f := .noat "Editor" "deep") rfl)⟩
  have n_Editor_last : Cls K (cl K "Editor") ∧ NoAttr K (cl K "Editor") "last" := ⟨C_Editor, He.noat_ok (c.d.fact 88 (f := .noat "Editor" "last") rfl)⟩
  have n_Editor_macros : Cls K (cl K "Editor") ∧ NoAttr K (cl K "Editor") "macros" := ⟨C_Editor, He.noat_ok (c.d.fact 89 (f := .noat "Editor" "macros") rfl)⟩
  have n_Editor_marks : Cls K (cl K "Editor") ∧ NoAttr K (cl K "Editor") "marks" := ⟨C_Editor, He.noat_ok (c.d.fact 90 (f := .noat "Editor" "marks") rfl)⟩
  have n_Editor_pattern : Cls K (cl K "Editor") ∧ NoAttr K (cl K "Editor") "pattern" := ⟨C_Editor, He.noat_ok (c.d.fact 91 (f := .noat "Editor" "pattern") rfl)⟩
  have n_Editor_played : Cls K (cl K "Editor") ∧ NoAttr K (cl K "Editor") "played" := ⟨C_Editor, He.noat_ok (c.d.fact 92 (f := .noat "Editor" "played") rfl)⟩
  have n_Editor_registers : Cls K (cl K "Editor") ∧ NoAttr K (cl K "Editor") "registers" := ⟨C_Editor, He.noat_ok (c.d.fact 93 (f := .noat "Editor" "registers") rfl)⟩
  have n_Editor_state : Cls K (cl K "Editor") ∧ NoAttr K (cl K "Editor") "state" := ⟨C_Editor, He.noat_ok (c.d.fact 94 (f := .noat "Editor" "state") rfl)⟩
  have n_Editor_states : Cls K (cl K "Editor") ∧ NoAttr K (cl K "Editor") "states" := ⟨C_Editor, He.noat_ok (c.d.fact 95 (f := .noat "Editor" "states") rfl)⟩
  have n_Editor_taken : Cls K (cl K "Editor") ∧ NoAttr K (cl K "Editor") "taken" := ⟨C_Editor, He.noat_ok (c.d.fact 96 (f := .noat "Editor" "taken") rfl)⟩
  have n_Editor_taking : Cls K (cl K "Editor") ∧ NoAttr K (cl K "Editor") "taking" := ⟨C_Editor, He.noat_ok (c.d.fact 97 (f := .noat "Editor" "taking") rfl)⟩
  have n_Editor_text : Cls K (cl K "Editor") ∧ NoAttr K (cl K "Editor") "text" := ⟨C_Editor, He.noat_ok (c.d.fact 98 (f := .noat "Editor" "text") rfl)⟩
  have n_Editor_windows : Cls K (cl K "Editor") ∧ NoAttr K (cl K "Editor") "windows" := ⟨C_Editor, He.noat_ok (c.d.fact 99 (f := .noat "Editor" "windows") rfl)⟩
  have n_Window_anchor : Cls K (cl K "Window") ∧ NoAttr K (cl K "Window") "anchor" := ⟨C_Window, He.noat_ok (c.d.fact 100 (f := .noat "Window" "anchor") rfl)⟩
  have n_Window_column : Cls K (cl K "Window") ∧ NoAttr K (cl K "Window") "column" := ⟨C_Window, He.noat_ok (c.d.fact 101 (f := .noat "Window" "column") rfl)⟩
  have n_Window_spot : Cls K (cl K "Window") ∧ NoAttr K (cl K "Window") "spot" := ⟨C_Window, He.noat_ok (c.d.fact 102 (f := .noat "Window" "spot") rfl)⟩
  have x_0 := (and2 cx).1
  have y_0 := (and2 cx).2
  have x_1 := (and2 y_0).1
  have y_1 := (and2 y_0).2
  have x_2 := (and2 y_1).1
  have y_2 := (and2 y_1).2
  have t_SIZES := c.tab 0 (t := (fun K => He.ga K "SIZES", kSIZES.map (·.1))) rfl
  have d_SIZES : ∀ base k, HasD ⟨P, w, K, mg, base, k⟩ "SIZES" kSIZES := fun base k => tab_has (h := ⟨P, w, K, mg, base, k⟩) (He.glo_ok X G (c.d.fact 81 (f := .glo "SIZES") rfl)) t_SIZES x_0 (by decide +kernel)
  have t_SHAPES := c.tab 1 (t := (fun K => He.ga K "SHAPES", kSHAPES.map (·.1))) rfl
  have d_SHAPES : ∀ base k, HasDT ⟨P, w, K, mg, base, k⟩ "SHAPES" kSHAPES := fun base k => tabT_has (h := ⟨P, w, K, mg, base, k⟩) (He.glo_ok X G (c.d.fact 82 (f := .glo "SHAPES") rfl)) t_SHAPES x_1
  have t_CHANGES : ∀ base k, HasT ⟨P, w, K, mg, base, k⟩ "CHANGES" gCHANGES := fun base k => tup_has (h := ⟨P, w, K, mg, base, k⟩) (He.glo_ok X G (c.d.fact 83 (f := .glo "CHANGES") rfl)) x_2
  cases (hfl.symm.trans l_70)
  refine ⟨fd_70, fun s v => (FunD.bindsA (ps := ["script"]) F_70 fun _ _ _ _ _ _ us hl => match us, hl with | [_], _ => rfl) s [v] rfl, fun base _ _ => ?_⟩
  -- is_whole
  have h_0 : HasF ⟨P, w, K, mg, base, 1⟩ "is_whole" (sp_is_whole K) := has_fa (h := ⟨P, w, K, mg, base, 0⟩) F_0 sc_is_whole l_0 (FunD.bindsN (ps := ["thing", "low", "most"]) F_0 fun _ _ _ _ _ _ us hl => match us, hl with | [_, _, _], _ => rfl) (b_is_whole K) (ck_is_whole K) ⟨⟨⟨m_isinstance, ⟨trivial, ⟨m_int, trivial⟩⟩⟩, ⟨⟨m_isinstance, ⟨trivial, ⟨m_bool, trivial⟩⟩⟩, ⟨trivial, trivial, trivial⟩⟩⟩, trivial⟩ (len_is_whole K) (rd_is_whole K)
  -- are_signs
  have h_1 : HasF ⟨P, w, K, mg, base, 1⟩ "are_signs" (sp_are_signs K) := has_fa (h := ⟨P, w, K, mg, base, 0⟩) F_1 sc_are_signs l_1 (FunD.bindsN (ps := ["thing", "low", "most", "more"]) F_1 fun _ _ _ _ _ _ us hl => match us, hl with | [_, _, _, _], _ => rfl) (b_are_signs K) (ck_are_signs K) ⟨⟨⟨⟨m_isinstance, ⟨trivial, ⟨m_str, trivial⟩⟩⟩, ⟨trivial, ⟨m_len, ⟨trivial, trivial⟩⟩, trivial⟩⟩, ⟨trivial, trivial⟩, trivial⟩, ⟨⟨m_all, ⟨⟨trivial, trivial, trivial, ⟨trivial, ⟨⟨c_WORD, c_OTHERS⟩, trivial⟩⟩⟩, trivial⟩⟩, trivial⟩⟩ (len_are_signs K) (rd_are_signs K)
  -- is_text
  have g_sp_are_signs : HasF ⟨P, w, K, mg, base, 1⟩ "are_signs" (sp_are_signs K) := h_1.mono (k := 1) (Nat.le_of_ble_eq_true rfl)
  have h_2 : HasF ⟨P, w, K, mg, base, 2⟩ "is_text" (sp_is_text K) := has_fa (h := ⟨P, w, K, mg, base, 1⟩) F_2 sc_is_text l_2 (FunD.bindsN (ps := ["thing"]) F_2 fun _ _ _ _ _ _ us hl => match us, hl with | [_], _ => rfl) (b_is_text K) (ck_is_text K) ⟨⟨g_sp_are_signs, ⟨trivial, ⟨trivial, ⟨c_LONG, ⟨trivial, trivial⟩⟩⟩⟩⟩, trivial⟩ (len_is_text K) (rd_is_text K)
  -- need_text
  have g_sp_is_text : HasF ⟨P, w, K, mg, base, 2⟩ "is_text" (sp_is_text K) := h_2.mono (k := 2) (Nat.le_of_ble_eq_true rfl)
  have h_3 : HasF ⟨P, w, K, mg, base, 3⟩ "need_text" (sp_need_text K) := has_fa (h := ⟨P, w, K, mg, base, 2⟩) F_3 sc_need_text l_3 (FunD.bindsN (ps := ["thing"]) F_3 fun _ _ _ _ _ _ us hl => match us, hl with | [_], _ => rfl) (b_need_text K) (ck_need_text K) ⟨⟨⟨g_sp_is_text, ⟨trivial, trivial⟩⟩, ⟨trivial, trivial⟩, trivial⟩, trivial⟩ (len_need_text K) (rd_need_text K)
  -- need_place
  have g_sp_is_whole : HasF ⟨P, w, K, mg, base, 3⟩ "is_whole" (sp_is_whole K) := h_0.mono (k := 3) (Nat.le_of_ble_eq_true rfl)
  have g_sp_need_text : HasF ⟨P, w, K, mg, base, 3⟩ "need_text" (sp_need_text K) := h_3.mono (k := 3) (Nat.le_of_ble_eq_true rfl)
  have h_4 : HasF ⟨P, w, K, mg, base, 4⟩ "need_place" (sp_need_place K) := has_fa (h := ⟨P, w, K, mg, base, 3⟩) F_4 sc_need_place l_4 (FunD.bindsN (ps := ["text", "place"]) F_4 fun _ _ _ _ _ _ us hl => match us, hl with | [_, _], _ => rfl) (b_need_place K) (ck_need_place K) ⟨⟨g_sp_need_text, ⟨trivial, trivial⟩⟩, ⟨⟨⟨g_sp_is_whole, ⟨trivial, ⟨trivial, ⟨⟨m_len, ⟨trivial, trivial⟩⟩, trivial⟩⟩⟩⟩, ⟨trivial, trivial⟩, trivial⟩, trivial⟩⟩ (len_need_place K) (rd_need_place K)
  -- begin_of
  have h_5 : HasF ⟨P, w, K, mg, base, 1⟩ "begin_of" (sp_begin_of K) := has_fa (h := ⟨P, w, K, mg, base, 0⟩) F_5 sc_begin_of l_5 (FunD.bindsN (ps := ["text", "place"]) F_5 fun _ _ _ _ _ _ us hl => match us, hl with | [_, _], _ => rfl) (b_begin_of K) (ck_begin_of K) ⟨⟨⟨trivial, ⟨trivial, ⟨trivial, ⟨trivial, trivial⟩⟩⟩⟩, trivial⟩, trivial⟩ (len_begin_of K) (rd_begin_of K)
  -- end_of
  have h_6 : HasF ⟨P, w, K, mg, base, 1⟩ "end_of" (sp_end_of K) := has_fa (h := ⟨P, w, K, mg, base, 0⟩) F_6 sc_end_of l_6 (FunD.bindsN (ps := ["text", "place"]) F_6 fun _ _ _ _ _ _ us hl => match us, hl with | [_, _], _ => rfl) (b_end_of K) (ck_end_of K) ⟨⟨trivial, ⟨trivial, ⟨trivial, trivial⟩⟩⟩, ⟨⟨⟨trivial, trivial⟩, ⟨m_len, ⟨trivial, trivial⟩⟩, trivial⟩, trivial⟩⟩ (len_end_of K) (rd_end_of K)
  -- row_of
  have h_7 : HasF ⟨P, w, K, mg, base, 1⟩ "row_of" (sp_row_of K) := has_fa (h := ⟨P, w, K, mg, base, 0⟩) F_7 sc_row_of l_7 (FunD.bindsN (ps := ["text", "place"]) F_7 fun _ _ _ _ _ _ us hl => match us, hl with | [_, _], _ => rfl) (b_row_of K) (ck_row_of K) ⟨⟨⟨trivial, trivial, trivial⟩, ⟨trivial, trivial⟩⟩, trivial⟩ (len_row_of K) (rd_row_of K)
  -- begins
  have h_8 : HasF ⟨P, w, K, mg, base, 1⟩ "begins" (sp_begins K) := has_fa (h := ⟨P, w, K, mg, base, 0⟩) F_8 sc_begins l_8 (FunD.bindsN (ps := ["text"]) F_8 fun _ _ _ _ _ _ us hl => match us, hl with | [_], _ => rfl) (b_begins K) (ck_begins K) ⟨⟨⟨trivial, trivial⟩, ⟨⟨m_enumerate, ⟨trivial, trivial⟩⟩, ⟨trivial, ⟨trivial, trivial⟩⟩, ⟨trivial, trivial⟩, ⟨trivial, trivial⟩⟩⟩, trivial⟩ (len_begins K) (rd_begins K)
  -- word_begins
  have h_9 : HasF ⟨P, w, K, mg, base, 1⟩ "word_begins" (sp_word_begins K) := has_fa (h := ⟨P, w, K, mg, base, 0⟩) F_9 sc_word_begins l_9 (FunD.bindsN (ps := ["text"]) F_9 fun _ _ _ _ _ _ us hl => match us, hl with | [_], _ => rfl) (b_word_begins K) (ck_word_begins K) ⟨trivial, ⟨⟨⟨m_enumerate, ⟨trivial, trivial⟩⟩, ⟨trivial, ⟨trivial, trivial⟩⟩, ⟨⟨⟨⟨trivial, c_WORD⟩, ⟨⟨trivial, trivial⟩, ⟨⟨trivial, ⟨trivial, trivial⟩⟩, c_WORD⟩⟩⟩, ⟨⟨trivial, ⟨trivial, trivial⟩⟩, trivial⟩, trivial⟩, trivial⟩⟩, ⟨trivial, trivial⟩⟩⟩ (len_word_begins K) (rd_word_begins K)
  -- word_ends
  have h_10 : HasF ⟨P, w, K, mg, base, 1⟩ "word_ends" (sp_word_ends K) := has_fa (h := ⟨P, w, K, mg, base, 0⟩) F_10 sc_word_ends l_10 (FunD.bindsN (ps := ["text"]) F_10 fun _ _ _ _ _ _ us hl => match us, hl with | [_], _ => rfl) (b_word_ends K) (ck_word_ends K) ⟨trivial, ⟨⟨⟨m_enumerate, ⟨trivial, trivial⟩⟩, ⟨trivial, ⟨trivial, trivial⟩⟩, ⟨⟨⟨⟨trivial, c_WORD⟩, ⟨⟨⟨trivial, trivial⟩, ⟨m_len, ⟨trivial, trivial⟩⟩⟩, ⟨⟨trivial, ⟨trivial, trivial⟩⟩, c_WORD⟩⟩⟩, ⟨⟨trivial, ⟨⟨trivial, trivial⟩, trivial⟩⟩, trivial⟩, trivial⟩, trivial⟩⟩, ⟨trivial, trivial⟩⟩⟩ (len_word_ends K) (rd_word_ends K)
  -- is_named
  have h_11 : HasF ⟨P, w, K, mg, base, 1⟩ "is_named" (sp_is_named K) := has_fa (h := ⟨P, w, K, mg, base, 0⟩) F_11 sc_is_named l_11 (FunD.bindsN (ps := ["thing", "names"]) F_11 fun _ _ _ _ _ _ us hl => match us, hl with | [_, _], _ => rfl) (b_is_named K) (ck_is_named K) ⟨⟨⟨m_isinstance, ⟨trivial, ⟨m_str, trivial⟩⟩⟩, ⟨⟨⟨m_len, ⟨trivial, trivial⟩⟩, trivial⟩, ⟨trivial, trivial⟩⟩⟩, trivial⟩ (len_is_named K) (rd_is_named K)
  -- is_part_motions
  have g_sp_are_signs : HasF ⟨P, w, K, mg, base, 1⟩ "are_signs" (sp_are_signs K) := h_1.mono (k := 1) (Nat.le_of_ble_eq_true rfl)
  have g_sp_is_named : HasF ⟨P, w, K, mg, base, 1⟩ "is_named" (sp_is_named K) := h_11.mono (k := 1) (Nat.le_of_ble_eq_true rfl)
  have g_sp_is_whole : HasF ⟨P, w, K, mg, base, 1⟩ "is_whole" (sp_is_whole K) := h_0.mono (k := 1) (Nat.le_of_ble_eq_true rfl)
  have h_12 : HasF ⟨P, w, K, mg, base, 2⟩ "is_part_motions" (sp_is_part_motions K) := has_fa (h := ⟨P, w, K, mg, base, 1⟩) F_12 sc_is_part_motions l_12 (FunD.bindsN (ps := ["sign", "thing"]) F_12 fun _ _ _ _ _ _ us hl => match us, hl with | [_, _], _ => rfl) (b_is_part_motions K) (ck_is_part_motions K) ⟨⟨⟨trivial, trivial⟩, ⟨⟨g_sp_is_whole, ⟨trivial, ⟨trivial, ⟨c_TIMES_motions, trivial⟩⟩⟩⟩, trivial⟩, trivial⟩, ⟨⟨⟨trivial, trivial⟩, ⟨⟨g_sp_is_whole, ⟨trivial, ⟨trivial, ⟨c_ROWS, trivial⟩⟩⟩⟩, trivial⟩, trivial⟩, ⟨⟨⟨trivial, trivial⟩, ⟨⟨g_sp_is_named, ⟨trivial, ⟨⟨c_WORD, c_OTHERS⟩, trivial⟩⟩⟩, trivial⟩, trivial⟩, ⟨⟨⟨trivial, trivial⟩, ⟨⟨g_sp_is_named, ⟨trivial, ⟨trivial, trivial⟩⟩⟩, trivial⟩, trivial⟩, ⟨⟨g_sp_are_signs, ⟨trivial, ⟨trivial, ⟨trivial, ⟨trivial, trivial⟩⟩⟩⟩⟩, trivial⟩⟩⟩⟩⟩ (len_is_part_motions K) (rd_is_part_motions K)
  -- is_motion
  have g_sp_is_part_motions : HasF ⟨P, w, K, mg, base, 2⟩ "is_part_motions" (sp_is_part_motions K) := h_12.mono (k := 2) (Nat.le_of_ble_eq_true rfl)
  have h_13 : HasF ⟨P, w, K, mg, base, 3⟩ "is_motion" (sp_is_motion8 K) := has_fa (h := ⟨P, w, K, mg, base, 2⟩) F_13 sc_is_motion8 l_13 (FunD.bindsN (ps := ["thing"]) F_13 fun _ _ _ _ _ _ us hl => match us, hl with | [_], _ => rfl) (b_is_motion8 K) (ck_is_motion8 K) ⟨⟨⟨⟨m_isinstance, ⟨trivial, ⟨m_tuple, trivial⟩⟩⟩, ⟨⟨⟨m_len, ⟨trivial, trivial⟩⟩, trivial⟩, ⟨⟨m_isinstance, ⟨⟨trivial, trivial⟩, ⟨m_str, trivial⟩⟩⟩, ⟨(d_SIZES base 2), ⟨trivial, trivial⟩⟩⟩⟩⟩, ⟨trivial, trivial⟩, trivial⟩, ⟨⟨(d_SIZES base 2), ⟨trivial, trivial⟩⟩, ⟨⟨⟨⟨m_len, ⟨trivial, trivial⟩⟩, ⟨⟨m_len, ⟨trivial, trivial⟩⟩, trivial⟩⟩, ⟨m_all, ⟨⟨⟨m_zip, ⟨trivial, ⟨⟨trivial, trivial, trivial⟩, trivial⟩⟩⟩, ⟨trivial, ⟨trivial, trivial⟩⟩, trivial, ⟨g_sp_is_part_motions, ⟨trivial, ⟨trivial, trivial⟩⟩⟩⟩, trivial⟩⟩⟩, trivial⟩⟩⟩ (len_is_motion8 K) (rd_is_motion8 K)
  -- nth_behind
  have h_14 : HasF ⟨P, w, K, mg, base, 1⟩ "nth_behind" (sp_nth_behind K) := has_fa (h := ⟨P, w, K, mg, base, 0⟩) F_14 sc_nth_behind l_14 (FunD.bindsN (ps := ["some", "place", "many"]) F_14 fun _ _ _ _ _ _ us hl => match us, hl with | [_, _, _], _ => rfl) (b_nth_behind K) (ck_nth_behind K) ⟨⟨trivial, trivial, ⟨trivial, trivial⟩, trivial⟩, ⟨⟨⟨⟨m_len, ⟨trivial, trivial⟩⟩, trivial⟩, ⟨trivial, ⟨trivial, trivial⟩⟩, trivial⟩, trivial⟩⟩ (len_nth_behind K) (rd_nth_behind K)
  -- nth_ahead
  have h_15 : HasF ⟨P, w, K, mg, base, 1⟩ "nth_ahead" (sp_nth_ahead K) := has_fa (h := ⟨P, w, K, mg, base, 0⟩) F_15 sc_nth_ahead l_15 (FunD.bindsN (ps := ["some", "place", "many"]) F_15 fun _ _ _ _ _ _ us hl => match us, hl with | [_, _, _], _ => rfl) (b_nth_ahead K) (ck_nth_ahead K) ⟨⟨trivial, trivial, ⟨trivial, trivial⟩, trivial⟩, ⟨⟨⟨⟨m_len, ⟨trivial, trivial⟩⟩, trivial⟩, ⟨trivial, ⟨trivial, trivial⟩⟩, trivial⟩, trivial⟩⟩ (len_nth_ahead K) (rd_nth_ahead K)
  -- to_row
  have g_sp_begins : HasF ⟨P, w, K, mg, base, 1⟩ "begins" (sp_begins K) := h_8.mono (k := 1) (Nat.le_of_ble_eq_true rfl)
  have g_sp_end_of : HasF ⟨P, w, K, mg, base, 1⟩ "end_of" (sp_end_of K) := h_6.mono (k := 1) (Nat.le_of_ble_eq_true rfl)
  have h_16 : HasF ⟨P, w, K, mg, base, 2⟩ "to_row" (sp_to_row K) := has_fa (h := ⟨P, w, K, mg, base, 1⟩) F_16 sc_to_row l_16 (FunD.bindsN (ps := ["text", "number", "column"]) F_16 fun _ _ _ _ _ _ us hl => match us, hl with | [_, _, _], _ => rfl) (b_to_row K) (ck_to_row K) ⟨⟨g_sp_begins, ⟨trivial, trivial⟩⟩, ⟨⟨⟨trivial, trivial, ⟨m_len, ⟨trivial, trivial⟩⟩⟩, ⟨trivial, trivial⟩, trivial⟩, ⟨⟨m_min, ⟨⟨⟨trivial, trivial⟩, trivial⟩, ⟨⟨g_sp_end_of, ⟨trivial, ⟨⟨trivial, trivial⟩, trivial⟩⟩⟩, trivial⟩⟩⟩, trivial⟩⟩⟩ (len_to_row K) (rd_to_row K)
  -- partner
  have h_17 : HasF ⟨P, w, K, mg, base, 1⟩ "partner" (sp_partner K) := has_fa (h := ⟨P, w, K, mg, base, 0⟩) F_17 sc_partner l_17 (FunD.bindsN (ps := ["text", "place"]) F_17 fun _ _ _ _ _ _ us hl => match us, hl with | [_, _], _ => rfl) (b_partner K) (ck_partner K) ⟨⟨trivial, trivial, ⟨trivial, trivial⟩⟩, ⟨⟨⟨⟨trivial, trivial⟩, ⟨trivial, ⟨c_OPEN, c_SHUT⟩⟩⟩, ⟨trivial, trivial⟩, trivial⟩, ⟨⟨⟨trivial, c_OPEN⟩, trivial, trivial⟩, ⟨⟨⟨trivial, c_OPEN⟩, c_OPEN, c_SHUT⟩, ⟨⟨⟨⟨trivial, c_OPEN⟩, c_SHUT, c_OPEN⟩, ⟨trivial, ⟨trivial, trivial⟩⟩⟩, ⟨trivial, ⟨trivial, ⟨⟨⟨trivial, trivial, ⟨m_len, ⟨trivial, trivial⟩⟩⟩, ⟨⟨⟨trivial, ⟨m_int, ⟨⟨⟨trivial, trivial⟩, trivial⟩, trivial⟩⟩⟩, ⟨m_int, ⟨⟨⟨trivial, trivial⟩, trivial⟩, trivial⟩⟩⟩, ⟨⟨⟨trivial, trivial⟩, ⟨trivial, trivial⟩, trivial⟩, ⟨⟨trivial, trivial⟩, trivial⟩⟩⟩⟩, ⟨trivial, trivial⟩⟩⟩⟩⟩⟩⟩⟩⟩ (len_partner K) (rd_partner K)
  -- found_at
  have h_18 : HasF ⟨P, w, K, mg, base, 1⟩ "found_at" (sp_found_at K) := has_fa (h := ⟨P, w, K, mg, base, 0⟩) F_18 sc_found_at l_18 (FunD.bindsN (ps := ["text", "pattern"]) F_18 fun _ _ _ _ _ _ us hl => match us, hl with | [_, _], _ => rfl) (b_found_at K) (ck_found_at K) ⟨⟨⟨m_range, ⟨⟨m_len, ⟨trivial, trivial⟩⟩, trivial⟩⟩, trivial, ⟨⟨trivial, trivial, ⟨trivial, ⟨m_len, ⟨trivial, trivial⟩⟩⟩⟩, trivial⟩, trivial⟩, trivial⟩ (len_found_at K) (rd_found_at K)
  -- search_on
  have g_sp_found_at : HasF ⟨P, w, K, mg, base, 1⟩ "found_at" (sp_found_at K) := h_18.mono (k := 1) (Nat.le_of_ble_eq_true rfl)
  have g_sp_nth_behind : HasF ⟨P, w, K, mg, base, 1⟩ "nth_behind" (sp_nth_behind K) := h_14.mono (k := 1) (Nat.le_of_ble_eq_true rfl)
  have h_19 : HasF ⟨P, w, K, mg, base, 2⟩ "search_on" (sp_search_on K) := has_fa (h := ⟨P, w, K, mg, base, 1⟩) F_19 sc_search_on l_19 (FunD.bindsN (ps := ["text", "place", "pattern"]) F_19 fun _ _ _ _ _ _ us hl => match us, hl with | [_, _, _], _ => rfl) (b_search_on K) (ck_search_on K) ⟨⟨g_sp_found_at, ⟨trivial, ⟨trivial, trivial⟩⟩⟩, ⟨⟨⟨⟨trivial, trivial⟩, ⟨⟨trivial, trivial⟩, trivial⟩⟩, ⟨g_sp_nth_behind, ⟨trivial, ⟨trivial, ⟨trivial, trivial⟩⟩⟩⟩, ⟨trivial, trivial⟩⟩, trivial⟩⟩ (len_search_on K) (rd_search_on K)
  -- search_back
  have g_sp_found_at : HasF ⟨P, w, K, mg, base, 1⟩ "found_at" (sp_found_at K) := h_18.mono (k := 1) (Nat.le_of_ble_eq_true rfl)
  have g_sp_nth_ahead : HasF ⟨P, w, K, mg, base, 1⟩ "nth_ahead" (sp_nth_ahead K) := h_15.mono (k := 1) (Nat.le_of_ble_eq_true rfl)
  have h_20 : HasF ⟨P, w, K, mg, base, 2⟩ "search_back" (sp_search_back K) := has_fa (h := ⟨P, w, K, mg, base, 1⟩) F_20 sc_search_back l_20 (FunD.bindsN (ps := ["text", "place", "pattern"]) F_20 fun _ _ _ _ _ _ us hl => match us, hl with | [_, _, _], _ => rfl) (b_search_back K) (ck_search_back K) ⟨⟨g_sp_found_at, ⟨trivial, ⟨trivial, trivial⟩⟩⟩, ⟨⟨⟨⟨trivial, trivial⟩, ⟨⟨trivial, trivial⟩, trivial⟩⟩, ⟨g_sp_nth_ahead, ⟨trivial, ⟨trivial, ⟨trivial, trivial⟩⟩⟩⟩, ⟨trivial, trivial⟩⟩, trivial⟩⟩ (len_search_back K) (rd_search_back K)
  -- within
  have g_sp_begin_of : HasF ⟨P, w, K, mg, base, 2⟩ "begin_of" (sp_begin_of K) := h_5.mono (k := 2) (Nat.le_of_ble_eq_true rfl)
  have g_sp_end_of : HasF ⟨P, w, K, mg, base, 2⟩ "end_of" (sp_end_of K) := h_6.mono (k := 2) (Nat.le_of_ble_eq_true rfl)
  have g_sp_nth_behind : HasF ⟨P, w, K, mg, base, 2⟩ "nth_behind" (sp_nth_behind K) := h_14.mono (k := 2) (Nat.le_of_ble_eq_true rfl)
  have g_sp_partner : HasF ⟨P, w, K, mg, base, 2⟩ "partner" (sp_partner K) := h_17.mono (k := 2) (Nat.le_of_ble_eq_true rfl)
  have g_sp_to_row : HasF ⟨P, w, K, mg, base, 2⟩ "to_row" (sp_to_row K) := h_16.mono (k := 2) (Nat.le_of_ble_eq_true rfl)
  have h_21 : HasF ⟨P, w, K, mg, base, 3⟩ "within" (sp_within K) := has_fa (h := ⟨P, w, K, mg, base, 2⟩) F_21 sc_within l_21 (FunD.bindsN (ps := ["text", "place", "motion"]) F_21 fun _ _ _ _ _ _ us hl => match us, hl with | [_, _, _], _ => rfl) (b_within K) (ck_within K) ⟨⟨trivial, trivial⟩, ⟨⟨⟨trivial, trivial⟩, ⟨⟨g_sp_begin_of, ⟨trivial, ⟨trivial, trivial⟩⟩⟩, trivial⟩, trivial⟩, ⟨⟨⟨trivial, trivial⟩, ⟨⟨g_sp_end_of, ⟨trivial, ⟨trivial, trivial⟩⟩⟩, trivial⟩, trivial⟩, ⟨⟨⟨trivial, trivial⟩, ⟨⟨trivial, ⟨g_sp_begin_of, ⟨trivial, ⟨trivial, trivial⟩⟩⟩, ⟨g_sp_end_of, ⟨trivial, ⟨trivial, trivial⟩⟩⟩⟩, ⟨⟨⟨⟨g_sp_begin_of, ⟨trivial, ⟨trivial, trivial⟩⟩⟩, ⟨m_len, ⟨trivial, trivial⟩⟩⟩, ⟨m_len, ⟨⟨trivial, ⟨trivial, trivial⟩⟩, trivial⟩⟩⟩, trivial⟩⟩, trivial⟩, ⟨⟨⟨trivial, trivial⟩, ⟨trivial, trivial⟩, trivial⟩, ⟨⟨⟨trivial, trivial⟩, ⟨⟨m_len, ⟨trivial, trivial⟩⟩, trivial⟩, trivial⟩, ⟨⟨⟨trivial, trivial⟩, ⟨⟨g_sp_partner, ⟨trivial, ⟨trivial, trivial⟩⟩⟩, trivial⟩, trivial⟩, ⟨⟨⟨trivial, trivial⟩, ⟨⟨g_sp_to_row, ⟨trivial, ⟨⟨⟨trivial, trivial⟩, trivial⟩, ⟨trivial, trivial⟩⟩⟩⟩, trivial⟩, trivial⟩, ⟨⟨⟨m_range, ⟨⟨trivial, trivial⟩, ⟨⟨g_sp_end_of, ⟨trivial, ⟨trivial, trivial⟩⟩⟩, trivial⟩⟩⟩, trivial, ⟨⟨trivial, trivial⟩, ⟨trivial, trivial⟩⟩, trivial⟩, ⟨⟨g_sp_nth_behind, ⟨trivial, ⟨trivial, ⟨⟨trivial, trivial⟩, trivial⟩⟩⟩⟩, trivial⟩⟩⟩⟩⟩⟩⟩⟩⟩⟩ (len_within K) (rd_within K)
  -- place_by
  have g_sp_nth_ahead : HasF ⟨P, w, K, mg, base, 3⟩ "nth_ahead" (sp_nth_ahead K) := h_15.mono (k := 3) (Nat.le_of_ble_eq_true rfl)
  have g_sp_nth_behind : HasF ⟨P, w, K, mg, base, 3⟩ "nth_behind" (sp_nth_behind K) := h_14.mono (k := 3) (Nat.le_of_ble_eq_true rfl)
  have g_sp_row_of : HasF ⟨P, w, K, mg, base, 3⟩ "row_of" (sp_row_of K) := h_7.mono (k := 3) (Nat.le_of_ble_eq_true rfl)
  have g_sp_search_back : HasF ⟨P, w, K, mg, base, 3⟩ "search_back" (sp_search_back K) := h_20.mono (k := 3) (Nat.le_of_ble_eq_true rfl)
  have g_sp_search_on : HasF ⟨P, w, K, mg, base, 3⟩ "search_on" (sp_search_on K) := h_19.mono (k := 3) (Nat.le_of_ble_eq_true rfl)
  have g_sp_to_row : HasF ⟨P, w, K, mg, base, 3⟩ "to_row" (sp_to_row K) := h_16.mono (k := 3) (Nat.le_of_ble_eq_true rfl)
  have g_sp_within : HasF ⟨P, w, K, mg, base, 3⟩ "within" (sp_within K) := h_21.mono (k := 3) (Nat.le_of_ble_eq_true rfl)
  have g_sp_word_begins : HasF ⟨P, w, K, mg, base, 3⟩ "word_begins" (sp_word_begins K) := h_9.mono (k := 3) (Nat.le_of_ble_eq_true rfl)
  have g_sp_word_ends : HasF ⟨P, w, K, mg, base, 3⟩ "word_ends" (sp_word_ends K) := h_10.mono (k := 3) (Nat.le_of_ble_eq_true rfl)
  have h_22 : HasF ⟨P, w, K, mg, base, 4⟩ "place_by" (sp_place_by K) := has_fa (h := ⟨P, w, K, mg, base, 3⟩) F_22 sc_place_by l_22 (FunD.bindsN (ps := ["text", "place", "motion", "column", "marks", "pattern"]) F_22 fun _ _ _ _ _ _ us hl => match us, hl with | [_, _, _, _, _, _], _ => rfl) (b_place_by K) (ck_place_by K) ⟨⟨trivial, trivial⟩, ⟨⟨⟨trivial, trivial⟩, ⟨⟨⟨trivial, trivial⟩, ⟨m_max, ⟨trivial, ⟨⟨trivial, ⟨trivial, trivial⟩⟩, trivial⟩⟩⟩, trivial⟩, trivial⟩, trivial⟩, ⟨⟨⟨trivial, trivial⟩, ⟨⟨⟨trivial, ⟨m_len, ⟨trivial, trivial⟩⟩⟩, ⟨m_min, ⟨⟨m_len, ⟨trivial, trivial⟩⟩, ⟨⟨trivial, ⟨trivial, trivial⟩⟩, trivial⟩⟩⟩, trivial⟩, trivial⟩, trivial⟩, ⟨⟨⟨trivial, ⟨trivial, ⟨trivial, trivial⟩⟩⟩, ⟨⟨⟨trivial, trivial⟩, ⟨trivial, trivial⟩, ⟨trivial, ⟨trivial, trivial⟩⟩⟩, ⟨⟨g_sp_to_row, ⟨trivial, ⟨⟨⟨g_sp_row_of, ⟨trivial, ⟨trivial, trivial⟩⟩⟩, trivial⟩, ⟨trivial, trivial⟩⟩⟩⟩, trivial⟩⟩, trivial⟩, ⟨⟨⟨trivial, trivial⟩, ⟨⟨g_sp_nth_behind, ⟨⟨g_sp_word_begins, ⟨trivial, trivial⟩⟩, ⟨trivial, ⟨⟨trivial, trivial⟩, trivial⟩⟩⟩⟩, trivial⟩, trivial⟩, ⟨⟨⟨trivial, trivial⟩, ⟨⟨g_sp_nth_ahead, ⟨⟨g_sp_word_begins, ⟨trivial, trivial⟩⟩, ⟨trivial, ⟨⟨trivial, trivial⟩, trivial⟩⟩⟩⟩, trivial⟩, trivial⟩, ⟨⟨⟨trivial, trivial⟩, ⟨⟨g_sp_nth_behind, ⟨⟨g_sp_word_ends, ⟨trivial, trivial⟩⟩, ⟨trivial, ⟨⟨trivial, trivial⟩, trivial⟩⟩⟩⟩, trivial⟩, trivial⟩, ⟨⟨⟨trivial, trivial⟩, ⟨⟨trivial, ⟨trivial, trivial⟩⟩, trivial⟩, trivial⟩, ⟨⟨⟨trivial, trivial⟩, ⟨⟨g_sp_search_on, ⟨trivial, ⟨trivial, ⟨⟨trivial, trivial⟩, trivial⟩⟩⟩⟩, trivial⟩, trivial⟩, ⟨⟨⟨trivial, ⟨trivial, ⟨trivial, trivial⟩⟩⟩, ⟨⟨⟨trivial, trivial⟩, ⟨trivial, trivial⟩, trivial⟩, ⟨⟨⟨trivial, trivial⟩, ⟨g_sp_search_on, ⟨trivial, ⟨trivial, ⟨trivial, trivial⟩⟩⟩⟩, ⟨g_sp_search_back, ⟨trivial, ⟨trivial, ⟨trivial, trivial⟩⟩⟩⟩⟩, trivial⟩⟩, trivial⟩, ⟨⟨g_sp_within, ⟨trivial, ⟨trivial, ⟨trivial, trivial⟩⟩⟩⟩, trivial⟩⟩⟩⟩⟩⟩⟩⟩⟩⟩⟩ (len_place_by K) (rd_place_by K)
  -- need_motion
  have g_sp_is_motion : HasF ⟨P, w, K, mg, base, 3⟩ "is_motion" (sp_is_motion K) := h_13.mono (k := 3) (Nat.le_of_ble_eq_true rfl)
  have h_23 : HasF ⟨P, w, K, mg, base, 4⟩ "need_motion" (sp_need_motion K) := has_fa (h := ⟨P, w, K, mg, base, 3⟩) F_23 sc_need_motion l_23 (FunD.bindsN (ps := ["thing"]) F_23 fun _ _ _ _ _ _ us hl => match us, hl with | [_], _ => rfl) (b_need_motion K) (ck_need_motion K) ⟨⟨⟨g_sp_is_motion, ⟨trivial, trivial⟩⟩, ⟨trivial, trivial⟩, trivial⟩, trivial⟩ (len_need_motion K) (rd_need_motion K)
  -- goes
  have g_sp_begin_of : HasF ⟨P, w, K, mg, base, 4⟩ "begin_of" (sp_begin_of K) := h_5.mono (k := 4) (Nat.le_of_ble_eq_true rfl)
  have g_sp_need_motion : HasF ⟨P, w, K, mg, base, 4⟩ "need_motion" (sp_need_motion K) := h_23.mono (k := 4) (Nat.le_of_ble_eq_true rfl)
  have g_sp_need_place : HasF ⟨P, w, K, mg, base, 4⟩ "need_place" (sp_need_place K) := h_4.mono (k := 4) (Nat.le_of_ble_eq_true rfl)
  have g_sp_place_by : HasF ⟨P, w, K, mg, base, 4⟩ "place_by" (sp_place_by K) := h_22.mono (k := 4) (Nat.le_of_ble_eq_true rfl)
  have h_24 : HasF ⟨P, w, K, mg, base, 5⟩ "goes" (sp_goes K) := has_fa (h := ⟨P, w, K, mg, base, 4⟩) F_24 sc_goes l_24 (FunD.bindsN (ps := ["text", "place", "motion"]) F_24 fun _ _ _ _ _ _ us hl => match us, hl with | [_, _, _], _ => rfl) (b_goes K) (ck_goes K) ⟨⟨g_sp_need_place, ⟨trivial, ⟨trivial, trivial⟩⟩⟩, ⟨⟨g_sp_need_motion, ⟨trivial, trivial⟩⟩, ⟨⟨g_sp_place_by, ⟨trivial, ⟨trivial, ⟨trivial, ⟨⟨trivial, ⟨g_sp_begin_of, ⟨trivial, ⟨trivial, trivial⟩⟩⟩⟩, ⟨trivial, ⟨trivial, trivial⟩⟩⟩⟩⟩⟩⟩, trivial⟩⟩⟩ (len_goes K) (rd_goes K)
  -- is_area
  have g_sp_is_motion : HasF ⟨P, w, K, mg, base, 3⟩ "is_motion" (sp_is_motion K) := h_13.mono (k := 3) (Nat.le_of_ble_eq_true rfl)
  have g_sp_is_whole : HasF ⟨P, w, K, mg, base, 3⟩ "is_whole" (sp_is_whole K) := h_0.mono (k := 3) (Nat.le_of_ble_eq_true rfl)
  have h_25 : HasF ⟨P, w, K, mg, base, 4⟩ "is_area" (sp_is_area K) := has_fa (h := ⟨P, w, K, mg, base, 3⟩) F_25 sc_is_area l_25 (FunD.bindsN (ps := ["thing"]) F_25 fun _ _ _ _ _ _ us hl => match us, hl with | [_], _ => rfl) (b_is_area K) (ck_is_area K) ⟨⟨⟨⟨m_isinstance, ⟨trivial, ⟨m_tuple, trivial⟩⟩⟩, ⟨⟨⟨m_len, ⟨trivial, trivial⟩⟩, trivial⟩, ⟨m_isinstance, ⟨⟨trivial, trivial⟩, ⟨m_str, trivial⟩⟩⟩⟩⟩, ⟨trivial, trivial⟩, trivial⟩, ⟨⟨⟨⟨trivial, trivial⟩, ⟨trivial, ⟨trivial, trivial⟩⟩⟩, ⟨⟨⟨m_len, ⟨trivial, trivial⟩⟩, trivial⟩, trivial⟩, trivial⟩, ⟨⟨⟨⟨m_len, ⟨trivial, trivial⟩⟩, trivial⟩, ⟨trivial, trivial⟩, trivial⟩, ⟨⟨⟨⟨trivial, trivial⟩, trivial⟩, ⟨⟨g_sp_is_motion, ⟨⟨trivial, trivial⟩, trivial⟩⟩, trivial⟩, trivial⟩, ⟨⟨⟨⟨trivial, trivial⟩, trivial⟩, ⟨⟨g_sp_is_whole, ⟨⟨trivial, trivial⟩, ⟨trivial, ⟨c_TIMES_areas, trivial⟩⟩⟩⟩, trivial⟩, trivial⟩, ⟨⟨⟨⟨trivial, trivial⟩, trivial⟩, ⟨⟨m_isinstance, ⟨⟨trivial, trivial⟩, ⟨m_str, trivial⟩⟩⟩, ⟨⟨⟨m_len, ⟨⟨trivial, trivial⟩, trivial⟩⟩, trivial⟩, ⟨⟨trivial, trivial⟩, c_OPEN⟩⟩⟩⟩, trivial⟩⟩⟩⟩⟩⟩ (len_is_area K) (rd_is_area K)
  -- word_at
  have h_26 : HasF ⟨P, w, K, mg, base, 1⟩ "word_at" (sp_word_at K) := has_fa (h := ⟨P, w, K, mg, base, 0⟩) F_26 sc_word_at l_26 (FunD.bindsN (ps := ["text", "place"]) F_26 fun _ _ _ _ _ _ us hl => match us, hl with | [_, _], _ => rfl) (b_word_at K) (ck_word_at K) ⟨trivial, ⟨⟨⟨⟨trivial, trivial⟩, ⟨⟨trivial, ⟨trivial, trivial⟩⟩, c_WORD⟩⟩, ⟨⟨trivial, trivial⟩, trivial⟩⟩, ⟨trivial, ⟨⟨⟨⟨trivial, ⟨m_len, ⟨trivial, trivial⟩⟩⟩, ⟨⟨trivial, trivial⟩, c_WORD⟩⟩, ⟨⟨trivial, trivial⟩, trivial⟩⟩, ⟨⟨⟨trivial, trivial⟩, ⟨trivial, ⟨trivial, trivial⟩⟩, trivial⟩, trivial⟩⟩⟩⟩⟩ (len_word_at K) (rd_word_at K)
  -- inside
  have h_27 : HasF ⟨P, w, K, mg, base, 1⟩ "inside" (sp_inside K) := has_fa (h := ⟨P, w, K, mg, base, 0⟩) F_27 sc_inside l_27 (FunD.bindsN (ps := ["text", "place", "sign"]) F_27 fun _ _ _ _ _ _ us hl => match us, hl with | [_, _, _], _ => rfl) (b_inside K) (ck_inside K) ⟨⟨c_SHUT, ⟨c_OPEN, ⟨trivial, trivial⟩⟩⟩, ⟨trivial, ⟨trivial, ⟨⟨⟨⟨trivial, trivial⟩, ⟨trivial, trivial⟩⟩, ⟨⟨trivial, trivial⟩, ⟨⟨⟨trivial, ⟨m_int, ⟨⟨⟨trivial, trivial⟩, trivial⟩, trivial⟩⟩⟩, ⟨m_int, ⟨⟨⟨trivial, trivial⟩, trivial⟩, trivial⟩⟩⟩, trivial⟩⟩⟩, ⟨⟨⟨trivial, trivial⟩, ⟨trivial, trivial⟩, trivial⟩, ⟨trivial, ⟨trivial, ⟨⟨⟨trivial, ⟨m_len, ⟨trivial, trivial⟩⟩⟩, ⟨⟨⟨trivial, ⟨m_int, ⟨⟨⟨trivial, trivial⟩, trivial⟩, trivial⟩⟩⟩, ⟨m_int, ⟨⟨⟨trivial, trivial⟩, trivial⟩, trivial⟩⟩⟩, ⟨⟨⟨trivial, trivial⟩, ⟨⟨⟨trivial, trivial⟩, ⟨trivial, trivial⟩⟩, trivial⟩, trivial⟩, ⟨⟨trivial, trivial⟩, trivial⟩⟩⟩⟩, ⟨trivial, trivial⟩⟩⟩⟩⟩⟩⟩⟩⟩ (len_inside K) (rd_inside K)
  -- rows_from
  have g_sp_begins : HasF ⟨P, w, K, mg, base, 1⟩ "begins" (sp_begins K) := h_8.mono (k := 1) (Nat.le_of_ble_eq_true rfl)
  have g_sp_end_of : HasF ⟨P, w, K, mg, base, 1⟩ "end_of" (sp_end_of K) := h_6.mono (k := 1) (Nat.le_of_ble_eq_true rfl)
  have g_sp_row_of : HasF ⟨P, w, K, mg, base, 1⟩ "row_of" (sp_row_of K) := h_7.mono (k := 1) (Nat.le_of_ble_eq_true rfl)
  have h_28 : HasF ⟨P, w, K, mg, base, 2⟩ "rows_from" (sp_rows_from K) := has_fa (h := ⟨P, w, K, mg, base, 1⟩) F_28 sc_rows_from l_28 (FunD.bindsN (ps := ["text", "place", "many"]) F_28 fun _ _ _ _ _ _ us hl => match us, hl with | [_, _, _], _ => rfl) (b_rows_from K) (ck_rows_from K) ⟨⟨g_sp_begins, ⟨trivial, trivial⟩⟩, ⟨⟨g_sp_row_of, ⟨trivial, ⟨trivial, trivial⟩⟩⟩, ⟨⟨m_min, ⟨⟨⟨m_len, ⟨trivial, trivial⟩⟩, trivial⟩, ⟨⟨⟨trivial, trivial⟩, trivial⟩, trivial⟩⟩⟩, ⟨⟨⟨trivial, trivial⟩, ⟨⟨g_sp_end_of, ⟨trivial, ⟨⟨trivial, trivial⟩, trivial⟩⟩⟩, trivial⟩⟩, trivial⟩⟩⟩⟩ (len_rows_from K) (rd_rows_from K)
  -- area_by
  have g_sp_inside : HasF ⟨P, w, K, mg, base, 4⟩ "inside" (sp_inside K) := h_27.mono (k := 4) (Nat.le_of_ble_eq_true rfl)
  have g_sp_place_by : HasF ⟨P, w, K, mg, base, 4⟩ "place_by" (sp_place_by K) := h_22.mono (k := 4) (Nat.le_of_ble_eq_true rfl)
  have g_sp_rows_from : HasF ⟨P, w, K, mg, base, 4⟩ "rows_from" (sp_rows_from K) := h_28.mono (k := 4) (Nat.le_of_ble_eq_true rfl)
  have g_sp_word_at : HasF ⟨P, w, K, mg, base, 4⟩ "word_at" (sp_word_at K) := h_26.mono (k := 4) (Nat.le_of_ble_eq_true rfl)
  have h_29 : HasF ⟨P, w, K, mg, base, 5⟩ "area_by" (sp_area_by K) := has_fa (h := ⟨P, w, K, mg, base, 4⟩) F_29 sc_area_by l_29 (FunD.bindsN (ps := ["text", "place", "area", "anchor", "column", "marks", "pattern"]) F_29 fun _ _ _ _ _ _ us hl => match us, hl with | [_, _, _, _, _, _, _], _ => rfl) (b_area_by K) (ck_area_by K) ⟨⟨⟨⟨trivial, trivial⟩, trivial⟩, ⟨⟨⟨g_sp_rows_from, ⟨trivial, ⟨trivial, ⟨⟨trivial, trivial⟩, trivial⟩⟩⟩⟩, ⟨trivial, ⟨trivial, trivial⟩⟩⟩, ⟨⟨trivial, ⟨trivial, ⟨trivial, trivial⟩⟩⟩, trivial⟩⟩, trivial⟩, ⟨trivial, ⟨⟨⟨⟨trivial, trivial⟩, trivial⟩, ⟨⟨g_sp_place_by, ⟨trivial, ⟨trivial, ⟨⟨trivial, trivial⟩, ⟨trivial, ⟨trivial, ⟨trivial, trivial⟩⟩⟩⟩⟩⟩⟩, ⟨⟨⟨trivial, trivial⟩, trivial, ⟨⟨m_min, ⟨trivial, ⟨trivial, trivial⟩⟩⟩, ⟨⟨m_max, ⟨trivial, ⟨trivial, trivial⟩⟩⟩, trivial⟩⟩⟩, trivial⟩⟩, ⟨⟨⟨⟨trivial, trivial⟩, trivial⟩, ⟨⟨g_sp_word_at, ⟨trivial, ⟨trivial, trivial⟩⟩⟩, trivial⟩, ⟨⟨⟨⟨trivial, trivial⟩, trivial⟩, ⟨⟨g_sp_inside, ⟨trivial, ⟨trivial, ⟨⟨trivial, trivial⟩, trivial⟩⟩⟩⟩, trivial⟩, ⟨⟨⟨trivial, trivial⟩, ⟨⟨⟨m_min, ⟨trivial, ⟨trivial, trivial⟩⟩⟩, ⟨⟨m_max, ⟨trivial, ⟨trivial, trivial⟩⟩⟩, trivial⟩⟩, trivial⟩, trivial⟩, trivial⟩⟩, trivial⟩⟩, trivial⟩⟩, ⟨⟨⟨⟨trivial, trivial⟩, ⟨⟨trivial, trivial⟩, ⟨trivial, trivial⟩⟩⟩, ⟨trivial, trivial⟩, trivial⟩, ⟨⟨⟨trivial, trivial⟩, trivial⟩, trivial⟩⟩⟩⟩⟩ (len_area_by K) (rd_area_by K)
  -- area_of
  have g_sp_area_by : HasF ⟨P, w, K, mg, base, 5⟩ "area_by" (sp_area_by K) := h_29.mono (k := 5) (Nat.le_of_ble_eq_true rfl)
  have g_sp_begin_of : HasF ⟨P, w, K, mg, base, 5⟩ "begin_of" (sp_begin_of K) := h_5.mono (k := 5) (Nat.le_of_ble_eq_true rfl)
  have g_sp_is_area : HasF ⟨P, w, K, mg, base, 5⟩ "is_area" (sp_is_area K) := h_25.mono (k := 5) (Nat.le_of_ble_eq_true rfl)
  have g_sp_need_place : HasF ⟨P, w, K, mg, base, 5⟩ "need_place" (sp_need_place K) := h_4.mono (k := 5) (Nat.le_of_ble_eq_true rfl)
  have h_30 : HasF ⟨P, w, K, mg, base, 6⟩ "area_of" (sp_area_of K) := has_fa (h := ⟨P, w, K, mg, base, 5⟩) F_30 sc_area_of l_30 (FunD.bindsN (ps := ["text", "place", "area"]) F_30 fun _ _ _ _ _ _ us hl => match us, hl with | [_, _, _], _ => rfl) (b_area_of K) (ck_area_of K) ⟨⟨g_sp_need_place, ⟨trivial, ⟨trivial, trivial⟩⟩⟩, ⟨⟨⟨g_sp_is_area, ⟨trivial, trivial⟩⟩, ⟨trivial, trivial⟩, trivial⟩, ⟨⟨g_sp_area_by, ⟨trivial, ⟨trivial, ⟨trivial, ⟨trivial, ⟨⟨trivial, ⟨g_sp_begin_of, ⟨trivial, ⟨trivial, trivial⟩⟩⟩⟩, ⟨trivial, ⟨trivial, trivial⟩⟩⟩⟩⟩⟩⟩⟩, trivial⟩⟩⟩ (len_area_of K) (rd_area_of K)
  -- is_part_deeds
  have g_sp_are_signs : HasF ⟨P, w, K, mg, base, 4⟩ "are_signs" (sp_are_signs K) := h_1.mono (k := 4) (Nat.le_of_ble_eq_true rfl)
  have g_sp_is_area : HasF ⟨P, w, K, mg, base, 4⟩ "is_area" (sp_is_area K) := h_25.mono (k := 4) (Nat.le_of_ble_eq_true rfl)
  have g_sp_is_motion : HasF ⟨P, w, K, mg, base, 4⟩ "is_motion" (sp_is_motion K) := h_13.mono (k := 4) (Nat.le_of_ble_eq_true rfl)
  have g_sp_is_named : HasF ⟨P, w, K, mg, base, 4⟩ "is_named" (sp_is_named K) := h_11.mono (k := 4) (Nat.le_of_ble_eq_true rfl)
  have g_sp_is_whole : HasF ⟨P, w, K, mg, base, 4⟩ "is_whole" (sp_is_whole K) := h_0.mono (k := 4) (Nat.le_of_ble_eq_true rfl)
  have h_31 : HasF ⟨P, w, K, mg, base, 5⟩ "is_part_deeds" (sp_is_part_deeds K) := has_fa (h := ⟨P, w, K, mg, base, 4⟩) F_31 sc_is_part_deeds l_31 (FunD.bindsN (ps := ["kind", "thing"]) F_31 fun _ _ _ _ _ _ us hl => match us, hl with | [_, _], _ => rfl) (b_is_part_deeds K) (ck_is_part_deeds K) ⟨⟨⟨trivial, trivial⟩, ⟨⟨g_sp_is_motion, ⟨trivial, trivial⟩⟩, trivial⟩, trivial⟩, ⟨⟨⟨trivial, trivial⟩, ⟨⟨g_sp_is_area, ⟨trivial, trivial⟩⟩, trivial⟩, trivial⟩, ⟨⟨⟨trivial, trivial⟩, ⟨⟨g_sp_is_named, ⟨trivial, ⟨c_NAMES, trivial⟩⟩⟩, trivial⟩, trivial⟩, ⟨⟨⟨trivial, trivial⟩, ⟨⟨⟨m_isinstance, ⟨trivial, ⟨m_str, trivial⟩⟩⟩, ⟨trivial, ⟨trivial, ⟨trivial, trivial⟩⟩⟩⟩, trivial⟩, trivial⟩, ⟨⟨⟨trivial, trivial⟩, ⟨⟨⟨m_isinstance, ⟨trivial, ⟨m_str, trivial⟩⟩⟩, ⟨trivial, ⟨trivial, ⟨trivial, trivial⟩⟩⟩⟩, trivial⟩, trivial⟩, ⟨⟨⟨trivial, trivial⟩, ⟨⟨g_sp_is_whole, ⟨trivial, ⟨trivial, ⟨trivial, trivial⟩⟩⟩⟩, trivial⟩, trivial⟩, ⟨⟨⟨trivial, trivial⟩, ⟨⟨g_sp_are_signs, ⟨trivial, ⟨trivial, ⟨trivial, ⟨trivial, trivial⟩⟩⟩⟩⟩, trivial⟩, trivial⟩, ⟨⟨⟨trivial, trivial⟩, ⟨⟨g_sp_is_whole, ⟨trivial, ⟨trivial, ⟨trivial, trivial⟩⟩⟩⟩, trivial⟩, trivial⟩, ⟨⟨g_sp_is_whole, ⟨trivial, ⟨trivial, ⟨trivial, trivial⟩⟩⟩⟩, trivial⟩⟩⟩⟩⟩⟩⟩⟩⟩ (len_is_part_deeds K) (rd_is_part_deeds K)
  -- is_deed
  have g_sp_is_part_deeds : HasF ⟨P, w, K, mg, base, 5⟩ "is_part_deeds" (sp_is_part_deeds K) := h_31.mono (k := 5) (Nat.le_of_ble_eq_true rfl)
  have h_32 : HasF ⟨P, w, K, mg, base, 6⟩ "is_deed" (sp_is_deed K) := has_fa (h := ⟨P, w, K, mg, base, 5⟩) F_32 sc_is_deed l_32 (FunD.bindsN (ps := ["thing"]) F_32 fun _ _ _ _ _ _ us hl => match us, hl with | [_], _ => rfl) (b_is_deed K) (ck_is_deed K) ⟨⟨⟨⟨m_isinstance, ⟨trivial, ⟨m_tuple, trivial⟩⟩⟩, ⟨⟨⟨m_len, ⟨trivial, trivial⟩⟩, trivial⟩, ⟨⟨m_isinstance, ⟨⟨trivial, trivial⟩, ⟨m_str, trivial⟩⟩⟩, ⟨(d_SHAPES base 5), ⟨trivial, trivial⟩⟩⟩⟩⟩, ⟨trivial, trivial⟩, trivial⟩, ⟨⟨(d_SHAPES base 5), ⟨trivial, trivial⟩⟩, ⟨⟨⟨⟨m_len, ⟨trivial, trivial⟩⟩, ⟨⟨m_len, ⟨trivial, trivial⟩⟩, trivial⟩⟩, ⟨m_all, ⟨⟨⟨m_zip, ⟨trivial, ⟨⟨trivial, trivial, trivial⟩, trivial⟩⟩⟩, ⟨trivial, ⟨trivial, trivial⟩⟩, trivial, ⟨g_sp_is_part_deeds, ⟨trivial, ⟨trivial, trivial⟩⟩⟩⟩, trivial⟩⟩⟩, trivial⟩⟩⟩ (len_is_deed K) (rd_is_deed K)
  -- Window.__init__
  have h_33 : HasMk ⟨P, w, K, mg, base, 2⟩ "Window" (sp_Window_init K) := has_mk (h := ⟨P, w, K, mg, base, 0⟩) F_33 sc_Window_init (He.mkr_ok (c.d.fact 118 (f := .mkr "Window") rfl)) (He.glo_ok X G (c.d.fact 119 (f := .glo "Window") rfl)) (FunD.bindsN (ps := ["self", "cursor"]) F_33 fun _ _ _ _ _ _ us hl => match us, hl with | [_, _], _ => rfl) (b_Window_init K) (ck_Window_init K) ⟨⟨n_Window_spot, trivial, trivial⟩, ⟨⟨n_Window_anchor, trivial, trivial⟩, ⟨⟨n_Window_column, trivial, trivial⟩, trivial⟩⟩⟩ (len_Window_init K) (rd_Window_init K)
  -- Editor.__init__
  have g_sp_need_text : HasF ⟨P, w, K, mg, base, 3⟩ "need_text" (sp_need_text K) := h_3.mono (k := 3) (Nat.le_of_ble_eq_true rfl)
  have k_sp_Window_init : HasMk ⟨P, w, K, mg, base, 3⟩ "Window" (sp_Window_init K) := h_33.mono (k := 3) (Nat.le_of_ble_eq_true rfl)
  have h_34 : HasMk ⟨P, w, K, mg, base, 5⟩ "Editor" (sp_Editor_init K) := has_mk (h := ⟨P, w, K, mg, base, 3⟩) F_34 sc_Editor_init (He.mkr_ok (c.d.fact 116 (f := .mkr "Editor") rfl)) (He.glo_ok X G (c.d.fact 117 (f := .glo "Editor") rfl)) (FunD.bindsN (ps := ["self", "text"]) F_34 fun _ _ _ _ _ _ us hl => match us, hl with | [_, _], _ => rfl) (b_Editor_init K) (ck_Editor_init K) ⟨⟨g_sp_need_text, ⟨trivial, trivial⟩⟩, ⟨⟨n_Editor_text, trivial, trivial⟩, ⟨⟨n_Editor_windows, trivial, ⟨⟨k_sp_Window_init, ⟨trivial, trivial⟩⟩, trivial⟩⟩, ⟨⟨n_Editor_active, trivial, trivial⟩, ⟨⟨n_Editor_marks, trivial, trivial⟩, ⟨⟨n_Editor_registers, trivial, trivial⟩, ⟨⟨n_Editor_pattern, trivial, trivial⟩, ⟨⟨n_Editor_macros, trivial, trivial⟩, ⟨⟨n_Editor_taking, trivial, trivial⟩, ⟨⟨n_Editor_taken, trivial, trivial⟩, ⟨⟨n_Editor_last, trivial, trivial⟩, ⟨⟨n_Editor_states, trivial, ⟨⟨trivial, ⟨trivial, trivial⟩⟩, trivial⟩⟩, ⟨⟨n_Editor_state, trivial, trivial⟩, ⟨⟨n_Editor_deep, trivial, trivial⟩, ⟨⟨n_Editor_played, trivial, trivial⟩, trivial⟩⟩⟩⟩⟩⟩⟩⟩⟩⟩⟩⟩⟩⟩⟩ (len_Editor_init K) (rd_Editor_init K)
  -- Editor.now
  have h_35 : HasM ⟨P, w, K, mg, base, 1⟩ "Editor" "now" (sp_Editor_now K) := has_m (h := ⟨P, w, K, mg, base, 0⟩) F_35 sc_Editor_now C_Editor (He.meth_ok (c.d.fact 114 (f := .meth "Editor" "now") rfl)) (FunD.bindsN (ps := ["self"]) F_35 fun _ _ _ _ _ _ us hl => match us, hl with | [_], _ => rfl) (b_Editor_now K) (ck_Editor_now K) ⟨⟨n_Editor_text, trivial⟩, trivial⟩ (len_Editor_now K) (rd_Editor_now K)
  -- Editor.cursor
  have h_36 : HasM ⟨P, w, K, mg, base, 1⟩ "Editor" "cursor" (sp_Editor_cursor K) := has_m (h := ⟨P, w, K, mg, base, 0⟩) F_36 sc_Editor_cursor C_Editor (He.meth_ok (c.d.fact 110 (f := .meth "Editor" "cursor") rfl)) (FunD.bindsN (ps := ["self"]) F_36 fun _ _ _ _ _ _ us hl => match us, hl with | [_], _ => rfl) (b_Editor_cursor K) (ck_Editor_cursor K) ⟨⟨n_Window_spot, ⟨⟨n_Editor_windows, trivial⟩, ⟨n_Editor_active, trivial⟩⟩⟩, trivial⟩ (len_Editor_cursor K) (rd_Editor_cursor K)
  -- Editor.chosen
  have h_37 : HasM ⟨P, w, K, mg, base, 1⟩ "Editor" "chosen" (sp_Editor_chosen K) := has_m (h := ⟨P, w, K, mg, base, 0⟩) F_37 sc_Editor_chosen C_Editor (He.meth_ok (c.d.fact 109 (f := .meth "Editor" "chosen") rfl)) (FunD.bindsN (ps := ["self"]) F_37 fun _ _ _ _ _ _ us hl => match us, hl with | [_], _ => rfl) (b_Editor_chosen K) (ck_Editor_chosen K) ⟨⟨⟨n_Editor_windows, trivial⟩, ⟨n_Editor_active, trivial⟩⟩, ⟨⟨⟨⟨n_Window_anchor, trivial⟩, trivial⟩, ⟨trivial, trivial⟩, trivial⟩, ⟨⟨⟨m_min, ⟨⟨n_Window_anchor, trivial⟩, ⟨⟨n_Window_spot, trivial⟩, trivial⟩⟩⟩, ⟨⟨m_max, ⟨⟨n_Window_anchor, trivial⟩, ⟨⟨n_Window_spot, trivial⟩, trivial⟩⟩⟩, trivial⟩⟩, trivial⟩⟩⟩ (len_Editor_chosen K) (rd_Editor_chosen K)
  -- Editor.all_windows
  have h_38 : HasM ⟨P, w, K, mg, base, 1⟩ "Editor" "all_windows" (sp_Editor_all_windows K) := has_m (h := ⟨P, w, K, mg, base, 0⟩) F_38 sc_Editor_all_windows C_Editor (He.meth_ok (c.d.fact 107 (f := .meth "Editor" "all_windows") rfl)) (FunD.bindsN (ps := ["self"]) F_38 fun _ _ _ _ _ _ us hl => match us, hl with | [_], _ => rfl) (b_Editor_all_windows K) (ck_Editor_all_windows K) ⟨⟨⟨n_Editor_active, trivial⟩, ⟨⟨⟨n_Editor_windows, trivial⟩, trivial, trivial, ⟨n_Window_spot, trivial⟩⟩, trivial⟩⟩, trivial⟩ (len_Editor_all_windows K) (rd_Editor_all_windows K)
  -- Editor.all_marks
  have h_39 : HasM ⟨P, w, K, mg, base, 1⟩ "Editor" "all_marks" (sp_Editor_all_marks K) := has_m (h := ⟨P, w, K, mg, base, 0⟩) F_39 sc_Editor_all_marks C_Editor (He.meth_ok (c.d.fact 104 (f := .meth "Editor" "all_marks") rfl)) (FunD.bindsN (ps := ["self"]) F_39 fun _ _ _ _ _ _ us hl => match us, hl with | [_], _ => rfl) (b_Editor_all_marks K) (ck_Editor_all_marks K) ⟨⟨m_sorted, ⟨⟨n_Editor_marks, trivial⟩, trivial⟩⟩, trivial⟩ (len_Editor_all_marks K) (rd_Editor_all_marks K)
  -- Editor.all_registers
  have h_40 : HasM ⟨P, w, K, mg, base, 1⟩ "Editor" "all_registers" (sp_Editor_all_registers K) := has_m (h := ⟨P, w, K, mg, base, 0⟩) F_40 sc_Editor_all_registers C_Editor (He.meth_ok (c.d.fact 105 (f := .meth "Editor" "all_registers") rfl)) (FunD.bindsN (ps := ["self"]) F_40 fun _ _ _ _ _ _ us hl => match us, hl with | [_], _ => rfl) (b_Editor_all_registers K) (ck_Editor_all_registers K) ⟨⟨⟨m_sorted, ⟨⟨m_list, ⟨⟨n_Editor_registers, trivial⟩, trivial⟩⟩, trivial⟩⟩, trivial, trivial, ⟨⟨trivial, trivial⟩, ⟨⟨n_Editor_registers, trivial⟩, trivial⟩⟩⟩, trivial⟩ (len_Editor_all_registers K) (rd_Editor_all_registers K)
  -- Editor.all_macros
  have h_41 : HasM ⟨P, w, K, mg, base, 1⟩ "Editor" "all_macros" (sp_Editor_all_macros K) := has_m (h := ⟨P, w, K, mg, base, 0⟩) F_41 sc_Editor_all_macros C_Editor (He.meth_ok (c.d.fact 103 (f := .meth "Editor" "all_macros") rfl)) (FunD.bindsN (ps := ["self"]) F_41 fun _ _ _ _ _ _ us hl => match us, hl with | [_], _ => rfl) (b_Editor_all_macros K) (ck_Editor_all_macros K) ⟨⟨⟨m_sorted, ⟨⟨n_Editor_macros, trivial⟩, trivial⟩⟩, ⟨⟨n_Editor_taking, trivial⟩, trivial⟩⟩, trivial⟩ (len_Editor_all_macros K) (rd_Editor_all_macros K)
  -- Editor.all_states
  have h_42 : HasM ⟨P, w, K, mg, base, 1⟩ "Editor" "all_states" (sp_Editor_all_states K) := has_m (h := ⟨P, w, K, mg, base, 0⟩) F_42 sc_Editor_all_states C_Editor (He.meth_ok (c.d.fact 106 (f := .meth "Editor" "all_states") rfl)) (FunD.bindsN (ps := ["self"]) F_42 fun _ _ _ _ _ _ us hl => match us, hl with | [_], _ => rfl) (b_Editor_all_states K) (ck_Editor_all_states K) ⟨⟨⟨⟨n_Editor_states, trivial⟩, ⟨trivial, ⟨trivial, trivial⟩⟩, trivial, trivial⟩, ⟨⟨n_Editor_state, trivial⟩, trivial⟩⟩, trivial⟩ (len_Editor_all_states K) (rd_Editor_all_states K)
  -- Editor.go
  have g_sp_begin_of : HasF ⟨P, w, K, mg, base, 4⟩ "begin_of" (sp_begin_of K) := h_5.mono (k := 4) (Nat.le_of_ble_eq_true rfl)
  have g_sp_place_by : HasF ⟨P, w, K, mg, base, 4⟩ "place_by" (sp_place_by K) := h_22.mono (k := 4) (Nat.le_of_ble_eq_true rfl)
  have h_43 : HasM ⟨P, w, K, mg, base, 5⟩ "Editor" "go" (sp_Editor_go K) := has_m (h := ⟨P, w, K, mg, base, 4⟩) F_43 sc_Editor_go C_Editor (He.meth_ok (c.d.fact 112 (f := .meth "Editor" "go") rfl)) (FunD.bindsN (ps := ["self", "motion", "column"]) F_43 fun _ _ _ _ _ _ us hl => match us, hl with | [_, _, _], _ => rfl) (b_Editor_go K) (ck_Editor_go K) ⟨⟨⟨n_Editor_windows, trivial⟩, ⟨n_Editor_active, trivial⟩⟩, ⟨⟨⟨trivial, trivial⟩, ⟨⟨⟨n_Window_spot, trivial⟩, ⟨g_sp_begin_of, ⟨⟨n_Editor_text, trivial⟩, ⟨⟨n_Window_spot, trivial⟩, trivial⟩⟩⟩⟩, trivial⟩, trivial⟩, ⟨⟨g_sp_place_by, ⟨⟨n_Editor_text, trivial⟩, ⟨⟨n_Window_spot, trivial⟩, ⟨trivial, ⟨trivial, ⟨⟨n_Editor_marks, trivial⟩, ⟨⟨n_Editor_pattern, trivial⟩, trivial⟩⟩⟩⟩⟩⟩⟩, ⟨⟨⟨trivial, trivial⟩, ⟨trivial, trivial⟩, trivial⟩, ⟨⟨n_Window_spot, trivial, trivial⟩, ⟨⟨n_Window_column, trivial, ⟨⟨⟨trivial, trivial⟩, ⟨trivial, ⟨trivial, trivial⟩⟩⟩, trivial, trivial⟩⟩, ⟨⟨⟨⟨trivial, trivial⟩, trivial⟩, ⟨⟨n_Editor_pattern, trivial, ⟨trivial, trivial⟩⟩, trivial⟩, trivial⟩, ⟨trivial, trivial⟩⟩⟩⟩⟩⟩⟩⟩ (len_Editor_go K) (rd_Editor_go K)
  -- Editor.area
  have g_sp_area_by : HasF ⟨P, w, K, mg, base, 5⟩ "area_by" (sp_area_by K) := h_29.mono (k := 5) (Nat.le_of_ble_eq_true rfl)
  have g_sp_begin_of : HasF ⟨P, w, K, mg, base, 5⟩ "begin_of" (sp_begin_of K) := h_5.mono (k := 5) (Nat.le_of_ble_eq_true rfl)
  have h_44 : HasM ⟨P, w, K, mg, base, 6⟩ "Editor" "area" (sp_Editor_area K) := has_m (h := ⟨P, w, K, mg, base, 5⟩) F_44 sc_Editor_area C_Editor (He.meth_ok (c.d.fact 108 (f := .meth "Editor" "area") rfl)) (FunD.bindsN (ps := ["self", "area"]) F_44 fun _ _ _ _ _ _ us hl => match us, hl with | [_, _], _ => rfl) (b_Editor_area K) (ck_Editor_area K) ⟨⟨⟨n_Editor_windows, trivial⟩, ⟨n_Editor_active, trivial⟩⟩, ⟨⟨n_Window_column, trivial⟩, ⟨⟨⟨trivial, trivial⟩, ⟨⟨⟨n_Window_spot, trivial⟩, ⟨g_sp_begin_of, ⟨⟨n_Editor_text, trivial⟩, ⟨⟨n_Window_spot, trivial⟩, trivial⟩⟩⟩⟩, trivial⟩, trivial⟩, ⟨⟨g_sp_area_by, ⟨⟨n_Editor_text, trivial⟩, ⟨⟨n_Window_spot, trivial⟩, ⟨trivial, ⟨⟨n_Window_anchor, trivial⟩, ⟨trivial, ⟨⟨n_Editor_marks, trivial⟩, ⟨⟨n_Editor_pattern, trivial⟩, trivial⟩⟩⟩⟩⟩⟩⟩⟩, trivial⟩⟩⟩⟩ (len_Editor_area K) (rd_Editor_area K)
  -- Editor.noted
  have g_sp_Editor_area : HasM ⟨P, w, K, mg, base, 6⟩ "Editor" "area" (sp_Editor_area K) := h_44.mono (k := 6) (Nat.le_of_ble_eq_true rfl)
  have h_45 : HasM ⟨P, w, K, mg, base, 7⟩ "Editor" "noted" (sp_Editor_noted K) := has_m (h := ⟨P, w, K, mg, base, 6⟩) F_45 sc_Editor_noted C_Editor (He.meth_ok (c.d.fact 113 (f := .meth "Editor" "noted") rfl)) (FunD.bindsN (ps := ["self", "deed"]) F_45 fun _ _ _ _ _ _ us hl => match us, hl with | [_, _], _ => rfl) (b_Editor_noted K) (ck_Editor_noted K) ⟨⟨⟨n_Editor_windows, trivial⟩, ⟨n_Editor_active, trivial⟩⟩, ⟨⟨⟨⟨trivial, trivial⟩, trivial⟩, ⟨⟨n_Window_anchor, trivial, ⟨⟨⟨n_Window_anchor, trivial⟩, trivial⟩, ⟨n_Window_spot, trivial⟩, trivial⟩⟩, trivial⟩, ⟨⟨⟨⟨trivial, trivial⟩, trivial⟩, ⟨⟨⟨n_Editor_marks, trivial⟩, ⟨trivial, trivial⟩, ⟨n_Window_spot, trivial⟩⟩, trivial⟩, ⟨⟨g_sp_Editor_area, trivial, ⟨⟨trivial, trivial⟩, trivial⟩⟩, ⟨⟨⟨trivial, trivial⟩, ⟨trivial, trivial⟩, trivial⟩, ⟨⟨⟨n_Editor_registers, trivial⟩, ⟨trivial, trivial⟩, ⟨⟨trivial, trivial⟩, ⟨⟨⟨n_Editor_text, trivial⟩, ⟨trivial, trivial⟩, ⟨trivial, trivial⟩⟩, trivial⟩⟩⟩, trivial⟩⟩⟩⟩, trivial⟩⟩, ⟨trivial, trivial⟩⟩⟩ (len_Editor_noted K) (rd_Editor_noted K)
  -- Editor.one
  have g_sp_Editor_go : HasM ⟨P, w, K, mg, base, 7⟩ "Editor" "go" (sp_Editor_go K) := h_43.mono (k := 7) (Nat.le_of_ble_eq_true rfl)
  have g_sp_Editor_noted : HasM ⟨P, w, K, mg, base, 7⟩ "Editor" "noted" (sp_Editor_noted K) := h_45.mono (k := 7) (Nat.le_of_ble_eq_true rfl)
  have h_46 : HasM ⟨P, w, K, mg, base, 8⟩ "Editor" "one" (sp_Editor_one K) := has_m (h := ⟨P, w, K, mg, base, 7⟩) F_46 sc_Editor_one C_Editor (He.meth_ok (c.d.fact 115 (f := .meth "Editor" "one") rfl)) (FunD.bindsN (ps := ["self", "deed"]) F_46 fun _ _ _ _ _ _ us hl => match us, hl with | [_, _], _ => rfl) (b_Editor_one K) (ck_Editor_one K) ⟨⟨trivial, trivial⟩, ⟨⟨n_Window_column, ⟨⟨n_Editor_windows, trivial⟩, ⟨n_Editor_active, trivial⟩⟩⟩, ⟨⟨⟨trivial, trivial⟩, ⟨⟨g_sp_Editor_go, trivial, ⟨⟨trivial, trivial⟩, ⟨trivial, trivial⟩⟩⟩, trivial⟩, trivial⟩, ⟨⟨⟨trivial, (t_CHANGES base 7)⟩, ⟨trivial, trivial⟩, ⟨⟨⟨trivial, ⟨trivial, ⟨trivial, ⟨trivial, trivial⟩⟩⟩⟩, ⟨trivial, trivial⟩, ⟨⟨⟨trivial, ⟨trivial, ⟨trivial, ⟨trivial, trivial⟩⟩⟩⟩, ⟨trivial, trivial⟩, ⟨⟨⟨trivial, ⟨trivial, ⟨trivial, ⟨trivial, ⟨trivial, trivial⟩⟩⟩⟩⟩, ⟨trivial, trivial⟩, ⟨⟨g_sp_Editor_noted, trivial, ⟨trivial, trivial⟩⟩, trivial⟩⟩, trivial⟩⟩, trivial⟩⟩, trivial⟩⟩, ⟨⟨⟨trivial, trivial⟩, ⟨⟨n_Window_column, ⟨⟨n_Editor_windows, trivial⟩, ⟨n_Editor_active, trivial⟩⟩, trivial⟩, trivial⟩, trivial⟩, ⟨trivial, trivial⟩⟩⟩⟩⟩⟩ (len_Editor_one K) (rd_Editor_one K)
  -- Editor.do
  have g_sp_is_deed : HasF ⟨P, w, K, mg, base, 8⟩ "is_deed" (sp_is_deed K) := h_32.mono (k := 8) (Nat.le_of_ble_eq_true rfl)
  have g_sp_Editor_one : HasM ⟨P, w, K, mg, base, 8⟩ "Editor" "one" (sp_Editor_one K) := h_46.mono (k := 8) (Nat.le_of_ble_eq_true rfl)
  have h_47 : HasM ⟨P, w, K, mg, base, 9⟩ "Editor" "do" (sp_Editor_do K) := has_m (h := ⟨P, w, K, mg, base, 8⟩) F_47 sc_Editor_do C_Editor (He.meth_ok (c.d.fact 111 (f := .meth "Editor" "do") rfl)) (FunD.bindsN (ps := ["self", "deed"]) F_47 fun _ _ _ _ _ _ us hl => match us, hl with | [_, _], _ => rfl) (b_Editor_do K) (ck_Editor_do K) ⟨⟨⟨g_sp_is_deed, ⟨trivial, trivial⟩⟩, ⟨trivial, trivial⟩, trivial⟩, ⟨⟨n_Editor_played, trivial, trivial⟩, ⟨⟨g_sp_Editor_one, trivial, ⟨trivial, trivial⟩⟩, ⟨⟨⟨⟨⟨n_Editor_taking, trivial⟩, trivial⟩, ⟨⟨trivial, trivial⟩, ⟨⟨trivial, trivial⟩, ⟨trivial, ⟨trivial, trivial⟩⟩⟩⟩⟩, ⟨⟨⟨n_Editor_taken, trivial⟩, ⟨trivial, trivial⟩⟩, trivial⟩, trivial⟩, ⟨trivial, trivial⟩⟩⟩⟩⟩ (len_Editor_do K) (rd_Editor_do K)
  -- _law_rows
  have h_48 : HasF ⟨P, w, K, mg, base, 1⟩ "_law_rows" (sp_law_rows K) := has_fa (h := ⟨P, w, K, mg, base, 0⟩) F_48 sc_law_rows l_48 (FunD.bindsN (ps := ["text"]) F_48 fun _ _ _ _ _ _ us hl => match us, hl with | [_], _ => rfl) (b_law_rows K) (ck_law_rows K) ⟨⟨trivial, trivial⟩, ⟨⟨trivial, trivial, ⟨⟨⟨trivial, trivial⟩, ⟨⟨trivial, ⟨trivial, trivial⟩⟩, trivial⟩, ⟨⟨⟨⟨trivial, trivial⟩, trivial⟩, ⟨trivial, trivial⟩⟩, trivial⟩⟩, trivial⟩⟩, ⟨trivial, trivial⟩⟩⟩ (len_law_rows K) (rd_law_rows K)
  -- _law_spot
  have h_49 : HasF ⟨P, w, K, mg, base, 1⟩ "_law_spot" (sp_law_spot K) := has_fa (h := ⟨P, w, K, mg, base, 0⟩) F_49 sc_law_spot l_49 (FunD.bindsN (ps := ["text", "place"]) F_49 fun _ _ _ _ _ _ us hl => match us, hl with | [_, _], _ => rfl) (b_law_spot K) (ck_law_spot K) ⟨trivial, ⟨trivial, ⟨⟨⟨trivial, trivial, trivial⟩, trivial, ⟨⟨trivial, trivial⟩, ⟨⟨⟨trivial, trivial⟩, ⟨⟨trivial, trivial⟩, ⟨trivial, trivial⟩⟩, trivial⟩, trivial⟩⟩⟩, ⟨⟨trivial, ⟨trivial, trivial⟩⟩, trivial⟩⟩⟩⟩ (len_law_spot K) (rd_law_spot K)
  -- _law_back
  have h_50 : HasF ⟨P, w, K, mg, base, 1⟩ "_law_back" (sp_law_back K) := has_fa (h := ⟨P, w, K, mg, base, 0⟩) F_50 sc_law_back l_50 (FunD.bindsN (ps := ["rows", "row", "column"]) F_50 fun _ _ _ _ _ _ us hl => match us, hl with | [_, _, _], _ => rfl) (b_law_back K) (ck_law_back K) ⟨⟨⟨m_sum, ⟨⟨⟨trivial, trivial, trivial⟩, trivial, trivial, ⟨⟨m_len, ⟨trivial, trivial⟩⟩, trivial⟩⟩, trivial⟩⟩, ⟨m_min, ⟨trivial, ⟨⟨m_len, ⟨⟨trivial, trivial⟩, trivial⟩⟩, trivial⟩⟩⟩⟩, trivial⟩ (len_law_back K) (rd_law_back K)
  -- _law_new
  have h_51 : HasF ⟨P, w, K, mg, base, 1⟩ "_law_new" (sp_law_new K) := has_fa (h := ⟨P, w, K, mg, base, 0⟩) F_51 sc_law_new l_51 (FunD.bindsN (ps := ["text"]) F_51 fun _ _ _ _ _ _ us hl => match us, hl with | [_], _ => rfl) (b_law_new K) (ck_law_new K) ⟨⟨trivial, trivial, ⟨trivial, ⟨⟨trivial, ⟨trivial, ⟨trivial, trivial⟩⟩⟩, trivial⟩, ⟨trivial, trivial, ⟨trivial, trivial, ⟨trivial, trivial, ⟨trivial, trivial, trivial⟩⟩⟩⟩⟩⟩, ⟨⟨trivial, ⟨⟨trivial, trivial, ⟨trivial, trivial, ⟨trivial, trivial, ⟨trivial, trivial, ⟨trivial, ⟨⟨trivial, ⟨trivial, trivial⟩⟩, trivial⟩, ⟨trivial, trivial, trivial⟩⟩⟩⟩⟩⟩, trivial⟩⟩, ⟨⟨trivial, trivial, trivial⟩, ⟨trivial, trivial⟩⟩⟩⟩ (len_law_new K) (rd_law_new K)
  -- _law_win
  have h_52 : HasF ⟨P, w, K, mg, base, 1⟩ "_law_win" (sp_law_win K) := has_fa (h := ⟨P, w, K, mg, base, 0⟩) F_52 sc_law_win l_52 (FunD.bindsN (ps := ["world"]) F_52 fun _ _ _ _ _ _ us hl => match us, hl with | [_], _ => rfl) (b_law_win K) (ck_law_win K) ⟨⟨⟨trivial, trivial⟩, ⟨trivial, trivial⟩⟩, trivial⟩ (len_law_win K) (rd_law_win K)
  -- _law_starts
  have h_53 : HasF ⟨P, w, K, mg, base, 1⟩ "_law_starts" (sp_law_starts K) := has_fa (h := ⟨P, w, K, mg, base, 0⟩) F_53 sc_law_starts l_53 (FunD.bindsN (ps := ["text", "pattern"]) F_53 fun _ _ _ _ _ _ us hl => match us, hl with | [_, _], _ => rfl) (b_law_starts K) (ck_law_starts K) ⟨⟨⟨m_range, ⟨⟨m_len, ⟨trivial, trivial⟩⟩, trivial⟩⟩, trivial, ⟨⟨trivial, trivial, ⟨trivial, ⟨m_len, ⟨trivial, trivial⟩⟩⟩⟩, trivial⟩, trivial⟩, trivial⟩ (len_law_starts K) (rd_law_starts K)
  -- _law_goal
  have g_sp_law_back : HasF ⟨P, w, K, mg, base, 5⟩ "_law_back" (sp_law_back K) := h_50.mono (k := 5) (Nat.le_of_ble_eq_true rfl)
  have g_sp_law_rows : HasF ⟨P, w, K, mg, base, 5⟩ "_law_rows" (sp_law_rows K) := h_48.mono (k := 5) (Nat.le_of_ble_eq_true rfl)
  have g_sp_law_spot : HasF ⟨P, w, K, mg, base, 5⟩ "_law_spot" (sp_law_spot K) := h_49.mono (k := 5) (Nat.le_of_ble_eq_true rfl)
  have g_sp_law_starts : HasF ⟨P, w, K, mg, base, 5⟩ "_law_starts" (sp_law_starts K) := h_53.mono (k := 5) (Nat.le_of_ble_eq_true rfl)
  have g_sp_law_win : HasF ⟨P, w, K, mg, base, 5⟩ "_law_win" (sp_law_win K) := h_52.mono (k := 5) (Nat.le_of_ble_eq_true rfl)
  have g_sp_goes : HasF ⟨P, w, K, mg, base, 5⟩ "goes" (sp_goes K) := h_24.mono (k := 5) (Nat.le_of_ble_eq_true rfl)
  have h_54 : HasF ⟨P, w, K, mg, base, 6⟩ "_law_goal" (sp_law_goal K) := has_fa (h := ⟨P, w, K, mg, base, 5⟩) F_54 sc_law_goal l_54 (FunD.bindsN (ps := ["world", "motion"]) F_54 fun _ _ _ _ _ _ us hl => match us, hl with | [_, _], _ => rfl) (b_law_goal K) (ck_law_goal K) ⟨⟨g_sp_law_win, ⟨trivial, trivial⟩⟩, ⟨⟨trivial, trivial⟩, ⟨⟨⟨⟨trivial, trivial⟩, trivial⟩, ⟨⟨⟨trivial, trivial⟩, ⟨trivial, trivial⟩⟩, trivial⟩, trivial⟩, ⟨⟨⟨⟨trivial, trivial⟩, ⟨trivial, ⟨trivial, trivial⟩⟩⟩, ⟨⟨⟨⟨trivial, trivial⟩, trivial⟩, ⟨trivial, trivial⟩, trivial⟩, ⟨⟨g_sp_law_starts, ⟨trivial, ⟨⟨trivial, trivial⟩, trivial⟩⟩⟩, ⟨⟨⟨trivial, trivial⟩, trivial⟩, ⟨⟨trivial, trivial, trivial, ⟨trivial, ⟨⟨trivial, ⟨trivial, trivial⟩⟩, ⟨trivial, trivial⟩⟩, ⟨⟨trivial, ⟨trivial, trivial⟩⟩, ⟨⟨trivial, trivial⟩, trivial⟩⟩⟩⟩, ⟨⟨⟨trivial, trivial⟩, ⟨m_abs, ⟨⟨⟨m_min, ⟨trivial, trivial⟩⟩, trivial⟩, trivial⟩⟩, trivial⟩, trivial⟩⟩⟩⟩⟩, trivial⟩, ⟨⟨⟨⟨⟨trivial, trivial⟩, ⟨trivial, ⟨trivial, trivial⟩⟩⟩, ⟨⟨trivial, trivial⟩, trivial⟩⟩, ⟨⟨g_sp_law_rows, ⟨trivial, trivial⟩⟩, ⟨⟨⟨⟨g_sp_law_spot, ⟨trivial, ⟨⟨trivial, trivial⟩, trivial⟩⟩⟩, trivial⟩, ⟨⟨trivial, trivial⟩, ⟨⟨⟨trivial, trivial⟩, trivial⟩, trivial, trivial⟩⟩⟩, ⟨⟨⟨trivial, trivial, ⟨m_len, ⟨trivial, trivial⟩⟩⟩, ⟨g_sp_law_back, ⟨trivial, ⟨trivial, ⟨⟨trivial, trivial⟩, trivial⟩⟩⟩⟩, trivial⟩, trivial⟩⟩⟩, trivial⟩, ⟨⟨g_sp_goes, ⟨trivial, ⟨⟨trivial, trivial⟩, ⟨trivial, trivial⟩⟩⟩⟩, trivial⟩⟩⟩⟩⟩⟩ (len_law_goal K) (rd_law_goal K)
  -- _law_area_in
  have g_sp_law_goal : HasF ⟨P, w, K, mg, base, 6⟩ "_law_goal" (sp_law_goal K) := h_54.mono (k := 6) (Nat.le_of_ble_eq_true rfl)
  have g_sp_law_win : HasF ⟨P, w, K, mg, base, 6⟩ "_law_win" (sp_law_win K) := h_52.mono (k := 6) (Nat.le_of_ble_eq_true rfl)
  have g_sp_area_of : HasF ⟨P, w, K, mg, base, 6⟩ "area_of" (sp_area_of K) := h_30.mono (k := 6) (Nat.le_of_ble_eq_true rfl)
  have h_55 : HasF ⟨P, w, K, mg, base, 7⟩ "_law_area_in" (sp_law_area_in K) := has_fa (h := ⟨P, w, K, mg, base, 6⟩) F_55 sc_law_area_in l_55 (FunD.bindsN (ps := ["world", "area"]) F_55 fun _ _ _ _ _ _ us hl => match us, hl with | [_, _], _ => rfl) (b_law_area_in K) (ck_law_area_in K) ⟨⟨g_sp_law_win, ⟨trivial, trivial⟩⟩, ⟨⟨⟨⟨trivial, trivial⟩, ⟨trivial, ⟨trivial, trivial⟩⟩⟩, ⟨⟨g_sp_area_of, ⟨⟨trivial, trivial⟩, ⟨⟨trivial, trivial⟩, ⟨trivial, trivial⟩⟩⟩⟩, trivial⟩, trivial⟩, ⟨⟨trivial, trivial⟩, ⟨⟨⟨⟨trivial, trivial⟩, trivial⟩, ⟨⟨g_sp_law_goal, ⟨trivial, ⟨⟨trivial, trivial⟩, trivial⟩⟩⟩, trivial⟩, trivial⟩, ⟨⟨⟨⟨trivial, trivial⟩, ⟨trivial, ⟨trivial, trivial⟩⟩⟩, ⟨trivial, trivial⟩, trivial⟩, ⟨⟨trivial, ⟨⟨m_min, ⟨⟨trivial, trivial⟩, ⟨trivial, trivial⟩⟩⟩, ⟨⟨m_max, ⟨⟨trivial, trivial⟩, ⟨trivial, trivial⟩⟩⟩, trivial⟩⟩⟩, trivial⟩⟩⟩⟩⟩⟩ (len_law_area_in K) (rd_law_area_in K)
  -- _law_noted
  have g_sp_law_area_in : HasF ⟨P, w, K, mg, base, 7⟩ "_law_area_in" (sp_law_area_in K) := h_55.mono (k := 7) (Nat.le_of_ble_eq_true rfl)
  have g_sp_law_win : HasF ⟨P, w, K, mg, base, 7⟩ "_law_win" (sp_law_win K) := h_52.mono (k := 7) (Nat.le_of_ble_eq_true rfl)
  have h_56 : HasF ⟨P, w, K, mg, base, 8⟩ "_law_noted" (sp_law_noted K) := has_fa (h := ⟨P, w, K, mg, base, 7⟩) F_56 sc_law_noted l_56 (FunD.bindsN (ps := ["world", "deed"]) F_56 fun _ _ _ _ _ _ us hl => match us, hl with | [_, _], _ => rfl) (b_law_noted K) (ck_law_noted K) ⟨⟨g_sp_law_win, ⟨trivial, trivial⟩⟩, ⟨⟨⟨⟨trivial, trivial⟩, trivial⟩, ⟨⟨⟨⟨⟨trivial, trivial⟩, trivial⟩, ⟨trivial, trivial⟩, trivial⟩, ⟨trivial, trivial⟩⟩, trivial⟩, ⟨⟨⟨⟨trivial, trivial⟩, trivial⟩, ⟨⟨⟨trivial, trivial⟩, ⟨trivial, trivial⟩, ⟨trivial, trivial⟩⟩, trivial⟩, ⟨⟨g_sp_law_area_in, ⟨trivial, ⟨⟨trivial, trivial⟩, trivial⟩⟩⟩, ⟨⟨⟨trivial, trivial⟩, ⟨trivial, trivial⟩, trivial⟩, ⟨⟨⟨trivial, trivial⟩, ⟨trivial, trivial⟩, ⟨⟨trivial, trivial⟩, ⟨⟨⟨trivial, trivial⟩, ⟨trivial, trivial⟩, ⟨trivial, trivial⟩⟩, trivial⟩⟩⟩, trivial⟩⟩⟩⟩, trivial⟩⟩, ⟨trivial, trivial⟩⟩⟩ (len_law_noted K) (rd_law_noted K)
  -- _law_go
  have g_sp_law_goal : HasF ⟨P, w, K, mg, base, 6⟩ "_law_goal" (sp_law_goal K) := h_54.mono (k := 6) (Nat.le_of_ble_eq_true rfl)
  have g_sp_law_spot : HasF ⟨P, w, K, mg, base, 6⟩ "_law_spot" (sp_law_spot K) := h_49.mono (k := 6) (Nat.le_of_ble_eq_true rfl)
  have g_sp_law_win : HasF ⟨P, w, K, mg, base, 6⟩ "_law_win" (sp_law_win K) := h_52.mono (k := 6) (Nat.le_of_ble_eq_true rfl)
  have h_57 : HasF ⟨P, w, K, mg, base, 7⟩ "_law_go" (sp_law_go K) := has_fa (h := ⟨P, w, K, mg, base, 6⟩) F_57 sc_law_go l_57 (FunD.bindsN (ps := ["world", "motion"]) F_57 fun _ _ _ _ _ _ us hl => match us, hl with | [_, _], _ => rfl) (b_law_go K) (ck_law_go K) ⟨⟨g_sp_law_win, ⟨trivial, trivial⟩⟩, ⟨⟨g_sp_law_goal, ⟨trivial, ⟨trivial, trivial⟩⟩⟩, ⟨⟨⟨trivial, trivial⟩, ⟨trivial, trivial⟩, trivial⟩, ⟨⟨trivial, trivial⟩, ⟨⟨⟨trivial, trivial⟩, ⟨⟨⟨g_sp_law_spot, ⟨⟨trivial, trivial⟩, ⟨⟨trivial, trivial⟩, trivial⟩⟩⟩, trivial⟩, trivial⟩, trivial⟩, ⟨⟨trivial, ⟨trivial, trivial⟩⟩, ⟨⟨⟨⟨⟨trivial, trivial⟩, ⟨trivial, ⟨trivial, trivial⟩⟩⟩, trivial, trivial⟩, ⟨trivial, trivial⟩⟩, ⟨⟨⟨⟨trivial, trivial⟩, trivial⟩, ⟨⟨trivial, trivial, ⟨trivial, trivial⟩⟩, trivial⟩, trivial⟩, ⟨trivial, trivial⟩⟩⟩⟩⟩⟩⟩⟩⟩ (len_law_go K) (rd_law_go K)
  -- _law_one
  have g_sp_law_go : HasF ⟨P, w, K, mg, base, 8⟩ "_law_go" (sp_law_go K) := h_57.mono (k := 8) (Nat.le_of_ble_eq_true rfl)
  have g_sp_law_noted : HasF ⟨P, w, K, mg, base, 8⟩ "_law_noted" (sp_law_noted K) := h_56.mono (k := 8) (Nat.le_of_ble_eq_true rfl)
  have g_sp_law_win : HasF ⟨P, w, K, mg, base, 8⟩ "_law_win" (sp_law_win K) := h_52.mono (k := 8) (Nat.le_of_ble_eq_true rfl)
  have h_58 : HasF ⟨P, w, K, mg, base, 9⟩ "_law_one" (sp_law_one K) := has_fa (h := ⟨P, w, K, mg, base, 8⟩) F_58 sc_law_one l_58 (FunD.bindsN (ps := ["world", "deed", "deep"]) F_58 fun _ _ _ _ _ _ us hl => match us, hl with | [_, _, _], _ => rfl) (b_law_one K) (ck_law_one K) ⟨⟨trivial, trivial⟩, ⟨⟨⟨trivial, trivial⟩, ⟨⟨g_sp_law_go, ⟨trivial, ⟨⟨trivial, trivial⟩, trivial⟩⟩⟩, trivial⟩, trivial⟩, ⟨⟨g_sp_law_noted, ⟨trivial, ⟨trivial, trivial⟩⟩⟩, ⟨⟨⟨trivial, trivial⟩, ⟨⟨g_sp_law_win, ⟨trivial, trivial⟩⟩, ⟨⟨trivial, ⟨trivial, trivial⟩⟩, trivial⟩⟩, trivial⟩, ⟨trivial, trivial⟩⟩⟩⟩⟩ (len_law_one K) (rd_law_one K)
  -- _law_do
  have g_sp_law_one : HasF ⟨P, w, K, mg, base, 9⟩ "_law_one" (sp_law_one K) := h_58.mono (k := 9) (Nat.le_of_ble_eq_true rfl)
  have h_59 : HasF ⟨P, w, K, mg, base, 10⟩ "_law_do" (sp_law_do K) := has_fa (h := ⟨P, w, K, mg, base, 9⟩) F_59 sc_law_do l_59 (FunD.bindsN (ps := ["world", "deed"]) F_59 fun _ _ _ _ _ _ us hl => match us, hl with | [_, _], _ => rfl) (b_law_do K) (ck_law_do K) ⟨⟨trivial, trivial, trivial⟩, ⟨⟨g_sp_law_one, ⟨trivial, ⟨trivial, ⟨trivial, trivial⟩⟩⟩⟩, ⟨⟨⟨⟨⟨trivial, trivial⟩, trivial⟩, ⟨⟨trivial, trivial⟩, ⟨⟨trivial, trivial⟩, ⟨trivial, ⟨trivial, trivial⟩⟩⟩⟩⟩, ⟨⟨⟨trivial, trivial⟩, ⟨trivial, trivial⟩⟩, trivial⟩, trivial⟩, ⟨trivial, trivial⟩⟩⟩⟩ (len_law_do K) (rd_law_do K)
  -- _law_same
  have g_sp_law_win : HasF ⟨P, w, K, mg, base, 1⟩ "_law_win" (sp_law_win K) := h_52.mono (k := 1) (Nat.le_of_ble_eq_true rfl)
  have g_sp_Editor_all_macros : HasM ⟨P, w, K, mg, base, 1⟩ "Editor" "all_macros" (sp_Editor_all_macros K) := h_41.mono (k := 1) (Nat.le_of_ble_eq_true rfl)
  have g_sp_Editor_all_marks : HasM ⟨P, w, K, mg, base, 1⟩ "Editor" "all_marks" (sp_Editor_all_marks K) := h_39.mono (k := 1) (Nat.le_of_ble_eq_true rfl)
  have g_sp_Editor_all_registers : HasM ⟨P, w, K, mg, base, 1⟩ "Editor" "all_registers" (sp_Editor_all_registers K) := h_40.mono (k := 1) (Nat.le_of_ble_eq_true rfl)
  have g_sp_Editor_all_states : HasM ⟨P, w, K, mg, base, 1⟩ "Editor" "all_states" (sp_Editor_all_states K) := h_42.mono (k := 1) (Nat.le_of_ble_eq_true rfl)
  have g_sp_Editor_all_windows : HasM ⟨P, w, K, mg, base, 1⟩ "Editor" "all_windows" (sp_Editor_all_windows K) := h_38.mono (k := 1) (Nat.le_of_ble_eq_true rfl)
  have g_sp_Editor_chosen : HasM ⟨P, w, K, mg, base, 1⟩ "Editor" "chosen" (sp_Editor_chosen K) := h_37.mono (k := 1) (Nat.le_of_ble_eq_true rfl)
  have g_sp_Editor_cursor : HasM ⟨P, w, K, mg, base, 1⟩ "Editor" "cursor" (sp_Editor_cursor K) := h_36.mono (k := 1) (Nat.le_of_ble_eq_true rfl)
  have g_sp_Editor_now : HasM ⟨P, w, K, mg, base, 1⟩ "Editor" "now" (sp_Editor_now K) := h_35.mono (k := 1) (Nat.le_of_ble_eq_true rfl)
  have h_60 : HasF ⟨P, w, K, mg, base, 2⟩ "_law_same" (sp_law_same K) := has_fa (h := ⟨P, w, K, mg, base, 1⟩) F_60 sc_law_same l_60 (FunD.bindsN (ps := ["editor", "world"]) F_60 fun _ _ _ _ _ _ us hl => match us, hl with | [_, _], _ => rfl) (b_law_same K) (ck_law_same K) ⟨⟨g_sp_law_win, ⟨trivial, trivial⟩⟩, ⟨⟨⟨⟨trivial, trivial⟩, trivial⟩, ⟨⟨m_min, ⟨⟨trivial, trivial⟩, ⟨⟨trivial, trivial⟩, trivial⟩⟩⟩, ⟨⟨m_max, ⟨⟨trivial, trivial⟩, ⟨⟨trivial, trivial⟩, trivial⟩⟩⟩, trivial⟩⟩, trivial⟩, ⟨⟨⟨⟨⟨g_sp_Editor_now, trivial⟩, ⟨⟨g_sp_Editor_cursor, trivial⟩, ⟨⟨g_sp_Editor_chosen, trivial⟩, trivial⟩⟩⟩, ⟨⟨trivial, trivial⟩, ⟨⟨trivial, trivial⟩, ⟨trivial, trivial⟩⟩⟩⟩, ⟨trivial, trivial⟩, trivial⟩, ⟨⟨⟨⟨g_sp_Editor_all_windows, trivial⟩, ⟨⟨trivial, trivial⟩, ⟨⟨⟨trivial, trivial⟩, trivial, trivial, ⟨trivial, trivial⟩⟩, trivial⟩⟩⟩, ⟨trivial, trivial⟩, trivial⟩, ⟨⟨⟨⟨g_sp_Editor_all_marks, trivial⟩, ⟨m_sorted, ⟨⟨trivial, trivial⟩, trivial⟩⟩⟩, ⟨trivial, trivial⟩, trivial⟩, ⟨⟨⟨⟨g_sp_Editor_all_registers, trivial⟩, ⟨⟨m_sorted, ⟨⟨m_list, ⟨⟨trivial, trivial⟩, trivial⟩⟩, trivial⟩⟩, trivial, trivial, ⟨⟨trivial, trivial⟩, ⟨⟨trivial, trivial⟩, trivial⟩⟩⟩⟩, ⟨trivial, trivial⟩, trivial⟩, ⟨⟨⟨⟨g_sp_Editor_all_macros, trivial⟩, ⟨⟨m_sorted, ⟨⟨trivial, trivial⟩, trivial⟩⟩, ⟨⟨trivial, trivial⟩, trivial⟩⟩⟩, ⟨trivial, trivial⟩, trivial⟩, ⟨⟨⟨g_sp_Editor_all_states, trivial⟩, ⟨⟨⟨trivial, trivial⟩, trivial, trivial, ⟨trivial, trivial⟩⟩, ⟨⟨trivial, trivial⟩, trivial⟩⟩⟩, trivial⟩⟩⟩⟩⟩⟩⟩⟩ (len_law_same K) (rd_law_same K)
  -- _law_cell_at
  have h_61 : HasF ⟨P, w, K, mg, base, 1⟩ "_law_cell_at" (sp_law_cell_at K) := has_fa (h := ⟨P, w, K, mg, base, 0⟩) F_61 sc_law_cell_at l_61 (FunD.bindsN (ps := ["script", "k"]) F_61 fun _ _ _ _ _ _ us hl => match us, hl with | [_, _], _ => rfl) (b_law_cell_at K) (ck_law_cell_at K) ⟨⟨⟨trivial, ⟨m_len, ⟨trivial, trivial⟩⟩⟩, ⟨⟨trivial, trivial⟩, trivial⟩, trivial⟩, ⟨⟨⟨trivial, trivial⟩, ⟨trivial, trivial⟩, trivial⟩, ⟨⟨⟨⟨trivial, ⟨trivial, ⟨m_len, ⟨trivial, trivial⟩⟩⟩⟩, trivial⟩, trivial⟩, trivial⟩⟩⟩ (len_law_cell_at K) (rd_law_cell_at K)
  -- _law_mixed
  have g_sp_law_cell_at : HasF ⟨P, w, K, mg, base, 1⟩ "_law_cell_at" (sp_law_cell_at K) := h_61.mono (k := 1) (Nat.le_of_ble_eq_true rfl)
  have h_62 : HasF ⟨P, w, K, mg, base, 2⟩ "_law_mixed" (sp_law_mixed K) := has_fa (h := ⟨P, w, K, mg, base, 1⟩) F_62 sc_law_mixed l_62 (FunD.bindsN (ps := ["script", "k", "many"]) F_62 fun _ _ _ _ _ _ us hl => match us, hl with | [_, _, _], _ => rfl) (b_law_mixed K) (ck_law_mixed K) ⟨⟨⟨⟨⟨⟨g_sp_law_cell_at, ⟨trivial, ⟨trivial, trivial⟩⟩⟩, ⟨trivial, trivial⟩⟩, trivial⟩, trivial⟩, trivial⟩, ⟨⟨⟨⟨⟨⟨trivial, trivial⟩, ⟨trivial, trivial⟩⟩, trivial⟩, trivial⟩, trivial⟩, trivial⟩⟩ (len_law_mixed K) (rd_law_mixed K)
  -- _law_draw
  have g_sp_law_mixed : HasF ⟨P, w, K, mg, base, 2⟩ "_law_mixed" (sp_law_mixed K) := h_62.mono (k := 2) (Nat.le_of_ble_eq_true rfl)
  have h_63 : HasF ⟨P, w, K, mg, base, 3⟩ "_law_draw" (sp_law_draw K) := has_fa (h := ⟨P, w, K, mg, base, 2⟩) F_63 sc_law_draw l_63 (FunD.bindsN (ps := ["script", "town", "many"]) F_63 fun _ _ _ _ _ _ us hl => match us, hl with | [_, _, _], _ => rfl) (b_law_draw K) (ck_law_draw K) ⟨⟨trivial, ⟨trivial, trivial⟩⟩, ⟨⟨g_sp_law_mixed, ⟨trivial, ⟨⟨m_len, ⟨trivial, trivial⟩⟩, ⟨trivial, trivial⟩⟩⟩⟩, trivial⟩⟩ (len_law_draw K) (rd_law_draw K)
  -- _law_pick
  have g_sp_law_draw : HasF ⟨P, w, K, mg, base, 3⟩ "_law_draw" (sp_law_draw K) := h_63.mono (k := 3) (Nat.le_of_ble_eq_true rfl)
  have h_64 : HasF ⟨P, w, K, mg, base, 4⟩ "_law_pick" (sp_law_pick K) := has_fa (h := ⟨P, w, K, mg, base, 3⟩) F_64 sc_law_pick l_64 (FunD.bindsN (ps := ["script", "town", "some"]) F_64 fun _ _ _ _ _ _ us hl => match us, hl with | [_, _, _], _ => rfl) (b_law_pick K) (ck_law_pick K) ⟨⟨trivial, ⟨g_sp_law_draw, ⟨trivial, ⟨trivial, ⟨⟨m_len, ⟨trivial, trivial⟩⟩, trivial⟩⟩⟩⟩⟩, trivial⟩ (len_law_pick K) (rd_law_pick K)
  -- _law_piece
  have g_sp_law_draw : HasF ⟨P, w, K, mg, base, 4⟩ "_law_draw" (sp_law_draw K) := h_63.mono (k := 4) (Nat.le_of_ble_eq_true rfl)
  have g_sp_law_pick : HasF ⟨P, w, K, mg, base, 4⟩ "_law_pick" (sp_law_pick K) := h_64.mono (k := 4) (Nat.le_of_ble_eq_true rfl)
  have h_65 : HasF ⟨P, w, K, mg, base, 5⟩ "_law_piece" (sp_law_piece K) := has_fa (h := ⟨P, w, K, mg, base, 4⟩) F_65 sc_law_piece l_65 (FunD.bindsN (ps := ["script", "town", "most"]) F_65 fun _ _ _ _ _ _ us hl => match us, hl with | [_, _, _], _ => rfl) (b_law_piece K) (ck_law_piece K) ⟨trivial, ⟨⟨trivial, ⟨trivial, ⟨trivial, ⟨trivial, ⟨trivial, ⟨trivial, ⟨trivial, ⟨trivial, ⟨trivial, ⟨trivial, ⟨trivial, ⟨trivial, ⟨trivial, ⟨trivial, trivial⟩⟩⟩⟩⟩⟩⟩⟩⟩⟩⟩⟩⟩⟩, ⟨⟨trivial, ⟨⟨trivial, ⟨trivial, ⟨trivial, ⟨trivial, ⟨trivial, ⟨trivial, ⟨trivial, trivial⟩⟩⟩⟩⟩⟩⟩, trivial⟩⟩, ⟨⟨⟨m_range, ⟨⟨g_sp_law_draw, ⟨trivial, ⟨trivial, ⟨trivial, trivial⟩⟩⟩⟩, trivial⟩⟩, trivial, ⟨⟨trivial, ⟨g_sp_law_pick, ⟨trivial, ⟨trivial, ⟨trivial, trivial⟩⟩⟩⟩⟩, trivial⟩⟩, ⟨trivial, trivial⟩⟩⟩⟩⟩ (len_law_piece K) (rd_law_piece K)
  -- _law_text
  have g_sp_law_draw : HasF ⟨P, w, K, mg, base, 5⟩ "_law_draw" (sp_law_draw K) := h_63.mono (k := 5) (Nat.le_of_ble_eq_true rfl)
  have g_sp_law_piece : HasF ⟨P, w, K, mg, base, 5⟩ "_law_piece" (sp_law_piece K) := h_65.mono (k := 5) (Nat.le_of_ble_eq_true rfl)
  have h_66 : HasF ⟨P, w, K, mg, base, 6⟩ "_law_text" (sp_law_text K) := has_fa (h := ⟨P, w, K, mg, base, 5⟩) F_66 sc_law_text l_66 (FunD.bindsN (ps := ["script", "town", "most"]) F_66 fun _ _ _ _ _ _ us hl => match us, hl with | [_, _, _], _ => rfl) (b_law_text K) (ck_law_text K) ⟨⟨g_sp_law_draw, ⟨trivial, ⟨trivial, ⟨trivial, trivial⟩⟩⟩⟩, ⟨⟨⟨trivial, trivial⟩, ⟨trivial, trivial⟩, trivial⟩, ⟨⟨⟨trivial, trivial⟩, ⟨trivial, ⟨⟨trivial, ⟨⟨⟨m_range, ⟨⟨g_sp_law_draw, ⟨trivial, ⟨trivial, ⟨trivial, trivial⟩⟩⟩⟩, trivial⟩⟩, trivial, trivial, ⟨trivial, ⟨g_sp_law_draw, ⟨trivial, ⟨trivial, ⟨⟨m_len, ⟨trivial, trivial⟩⟩, trivial⟩⟩⟩⟩⟩⟩, trivial⟩⟩, trivial⟩⟩, trivial⟩, ⟨⟨⟨g_sp_law_piece, ⟨trivial, ⟨trivial, ⟨trivial, trivial⟩⟩⟩⟩, trivial, trivial⟩, trivial⟩⟩⟩⟩ (len_law_text K) (rd_law_text K)
  -- _law_motion
  have g_sp_law_draw : HasF ⟨P, w, K, mg, base, 4⟩ "_law_draw" (sp_law_draw K) := h_63.mono (k := 4) (Nat.le_of_ble_eq_true rfl)
  have g_sp_law_pick : HasF ⟨P, w, K, mg, base, 4⟩ "_law_pick" (sp_law_pick K) := h_64.mono (k := 4) (Nat.le_of_ble_eq_true rfl)
  have h_67 : HasF ⟨P, w, K, mg, base, 5⟩ "_law_motion" (sp_law_motion K) := has_fa (h := ⟨P, w, K, mg, base, 4⟩) F_67 sc_law_motion l_67 (FunD.bindsN (ps := ["script", "town", "text"]) F_67 fun _ _ _ _ _ _ us hl => match us, hl with | [_, _, _], _ => rfl) (b_law_motion K) (ck_law_motion K) ⟨⟨g_sp_law_draw, ⟨trivial, ⟨trivial, ⟨⟨g_sp_law_pick, ⟨trivial, ⟨trivial, ⟨⟨trivial, ⟨trivial, ⟨trivial, ⟨trivial, trivial⟩⟩⟩⟩, trivial⟩⟩⟩⟩, trivial⟩⟩⟩⟩, ⟨⟨g_sp_law_pick, ⟨trivial, ⟨trivial, ⟨⟨⟨m_list, m_range, trivial⟩, ⟨trivial, ⟨trivial, ⟨trivial, ⟨trivial, ⟨trivial, ⟨trivial, ⟨trivial, ⟨trivial, trivial⟩⟩⟩⟩⟩⟩⟩⟩⟩, trivial⟩⟩⟩⟩, ⟨⟨⟨trivial, trivial⟩, ⟨⟨⟨⟨trivial, ⟨trivial, ⟨trivial, ⟨trivial, ⟨trivial, ⟨trivial, ⟨trivial, trivial⟩⟩⟩⟩⟩⟩⟩, trivial⟩, ⟨trivial, trivial⟩⟩, trivial⟩, trivial⟩, ⟨⟨⟨trivial, trivial⟩, ⟨⟨⟨⟨trivial, ⟨trivial, ⟨trivial, ⟨trivial, ⟨trivial, trivial⟩⟩⟩⟩⟩, ⟨trivial, trivial⟩⟩, trivial⟩, trivial⟩, trivial⟩, ⟨⟨⟨trivial, trivial⟩, ⟨⟨trivial, ⟨⟨trivial, ⟨g_sp_law_draw, ⟨trivial, ⟨trivial, ⟨⟨g_sp_law_pick, ⟨trivial, ⟨trivial, ⟨⟨trivial, ⟨trivial, ⟨trivial, trivial⟩⟩⟩, trivial⟩⟩⟩⟩, trivial⟩⟩⟩⟩⟩, trivial⟩⟩, trivial⟩, trivial⟩, ⟨⟨⟨trivial, trivial⟩, ⟨⟨trivial, trivial⟩, ⟨⟨trivial, ⟨⟨trivial, ⟨g_sp_law_draw, ⟨trivial, ⟨trivial, ⟨⟨m_len, ⟨trivial, trivial⟩⟩, trivial⟩⟩⟩⟩⟩, ⟨trivial, trivial⟩⟩⟩, trivial⟩⟩, trivial⟩, ⟨⟨⟨trivial, trivial⟩, ⟨⟨trivial, trivial⟩, trivial⟩, trivial⟩, ⟨⟨⟨trivial, trivial⟩, ⟨⟨trivial, ⟨⟨g_sp_law_pick, ⟨trivial, ⟨trivial, ⟨⟨trivial, ⟨trivial, ⟨trivial, ⟨trivial, trivial⟩⟩⟩⟩, trivial⟩⟩⟩⟩, trivial⟩⟩, trivial⟩, trivial⟩, ⟨⟨⟨trivial, trivial⟩, ⟨⟨g_sp_law_draw, ⟨trivial, ⟨trivial, ⟨⟨⟨m_len, ⟨trivial, trivial⟩⟩, trivial⟩, trivial⟩⟩⟩⟩, ⟨⟨trivial, trivial, ⟨⟨trivial, trivial⟩, ⟨g_sp_law_draw, ⟨trivial, ⟨trivial, ⟨trivial, trivial⟩⟩⟩⟩⟩⟩, ⟨⟨trivial, ⟨⟨⟨trivial, trivial⟩, trivial, trivial⟩, trivial⟩⟩, trivial⟩⟩⟩, trivial⟩, ⟨⟨g_sp_law_pick, ⟨trivial, ⟨trivial, ⟨⟨⟨trivial, trivial⟩, ⟨⟨trivial, trivial⟩, trivial⟩⟩, trivial⟩⟩⟩⟩, trivial⟩⟩⟩⟩⟩⟩⟩⟩⟩⟩ (len_law_motion K) (rd_law_motion K)
  -- _law_area_of
  have g_sp_law_draw : HasF ⟨P, w, K, mg, base, 5⟩ "_law_draw" (sp_law_draw K) := h_63.mono (k := 5) (Nat.le_of_ble_eq_true rfl)
  have g_sp_law_motion : HasF ⟨P, w, K, mg, base, 5⟩ "_law_motion" (sp_law_motion K) := h_67.mono (k := 5) (Nat.le_of_ble_eq_true rfl)
  have g_sp_law_pick : HasF ⟨P, w, K, mg, base, 5⟩ "_law_pick" (sp_law_pick K) := h_64.mono (k := 5) (Nat.le_of_ble_eq_true rfl)
  have h_68 : HasF ⟨P, w, K, mg, base, 6⟩ "_law_area_of" (sp_law_area_of K) := has_fa (h := ⟨P, w, K, mg, base, 5⟩) F_68 sc_law_area_of l_68 (FunD.bindsN (ps := ["script", "town", "text"]) F_68 fun _ _ _ _ _ _ us hl => match us, hl with | [_, _, _], _ => rfl) (b_law_area_of K) (ck_law_area_of K) ⟨⟨g_sp_law_draw, ⟨trivial, ⟨trivial, ⟨trivial, trivial⟩⟩⟩⟩, ⟨⟨⟨trivial, trivial⟩, ⟨⟨trivial, ⟨⟨g_sp_law_motion, ⟨trivial, ⟨trivial, ⟨trivial, trivial⟩⟩⟩⟩, trivial⟩⟩, trivial⟩, trivial⟩, ⟨⟨⟨trivial, trivial⟩, ⟨⟨trivial, ⟨⟨trivial, ⟨g_sp_law_draw, ⟨trivial, ⟨trivial, ⟨trivial, trivial⟩⟩⟩⟩⟩, trivial⟩⟩, trivial⟩, trivial⟩, ⟨⟨⟨trivial, trivial⟩, ⟨⟨trivial, trivial⟩, trivial⟩, trivial⟩, ⟨⟨⟨trivial, trivial⟩, ⟨trivial, ⟨⟨g_sp_law_pick, ⟨trivial, ⟨trivial, ⟨⟨trivial, ⟨trivial, ⟨trivial, trivial⟩⟩⟩, trivial⟩⟩⟩⟩, trivial⟩⟩, ⟨trivial, trivial⟩⟩, trivial⟩⟩⟩⟩⟩ (len_law_area_of K) (rd_law_area_of K)
  -- _law_deed
  have g_sp_law_area_of : HasF ⟨P, w, K, mg, base, 6⟩ "_law_area_of" (sp_law_area_of K) := h_68.mono (k := 6) (Nat.le_of_ble_eq_true rfl)
  have g_sp_law_draw : HasF ⟨P, w, K, mg, base, 6⟩ "_law_draw" (sp_law_draw K) := h_63.mono (k := 6) (Nat.le_of_ble_eq_true rfl)
  have g_sp_law_motion : HasF ⟨P, w, K, mg, base, 6⟩ "_law_motion" (sp_law_motion K) := h_67.mono (k := 6) (Nat.le_of_ble_eq_true rfl)
  have g_sp_law_pick : HasF ⟨P, w, K, mg, base, 6⟩ "_law_pick" (sp_law_pick K) := h_64.mono (k := 6) (Nat.le_of_ble_eq_true rfl)
  have g_sp_law_piece : HasF ⟨P, w, K, mg, base, 6⟩ "_law_piece" (sp_law_piece K) := h_65.mono (k := 6) (Nat.le_of_ble_eq_true rfl)
  have h_69 : HasF ⟨P, w, K, mg, base, 7⟩ "_law_deed" (sp_law_deed K) := has_fa (h := ⟨P, w, K, mg, base, 6⟩) F_69 sc_law_deed l_69 (FunD.bindsN (ps := ["script", "town", "text", "words"]) F_69 fun _ _ _ _ _ _ us hl => match us, hl with | [_, _, _, _], _ => rfl) (b_law_deed K) (ck_law_deed K) ⟨⟨g_sp_law_pick, ⟨trivial, ⟨trivial, ⟨trivial, trivial⟩⟩⟩⟩, ⟨⟨g_sp_law_pick, ⟨trivial, ⟨trivial, ⟨⟨trivial, ⟨trivial, ⟨trivial, ⟨trivial, ⟨trivial, trivial⟩⟩⟩⟩⟩, trivial⟩⟩⟩⟩, ⟨⟨⟨trivial, trivial⟩, ⟨⟨trivial, ⟨⟨g_sp_law_motion, ⟨trivial, ⟨trivial, ⟨trivial, trivial⟩⟩⟩⟩, trivial⟩⟩, trivial⟩, trivial⟩, ⟨⟨⟨trivial, ⟨trivial, ⟨trivial, trivial⟩⟩⟩, ⟨⟨trivial, ⟨⟨g_sp_law_area_of, ⟨trivial, ⟨trivial, ⟨trivial, trivial⟩⟩⟩⟩, ⟨trivial, trivial⟩⟩⟩, trivial⟩, trivial⟩, ⟨⟨⟨trivial, trivial⟩, ⟨⟨trivial, ⟨⟨g_sp_law_area_of, ⟨trivial, ⟨trivial, ⟨trivial, trivial⟩⟩⟩⟩, ⟨⟨g_sp_law_pick, ⟨trivial, ⟨trivial, ⟨⟨trivial, ⟨trivial, trivial⟩⟩, trivial⟩⟩⟩⟩, trivial⟩⟩⟩, trivial⟩, trivial⟩, ⟨⟨⟨trivial, trivial⟩, ⟨⟨trivial, ⟨⟨g_sp_law_area_of, ⟨trivial, ⟨trivial, ⟨trivial, trivial⟩⟩⟩⟩, ⟨⟨g_sp_law_pick, ⟨trivial, ⟨trivial, ⟨⟨trivial, ⟨trivial, trivial⟩⟩, trivial⟩⟩⟩⟩, trivial⟩⟩⟩, trivial⟩, trivial⟩, ⟨⟨⟨trivial, ⟨trivial, ⟨trivial, trivial⟩⟩⟩, ⟨⟨trivial, ⟨trivial, ⟨⟨trivial, ⟨g_sp_law_draw, ⟨trivial, ⟨trivial, ⟨⟨g_sp_law_pick, ⟨trivial, ⟨trivial, ⟨⟨trivial, ⟨trivial, ⟨trivial, trivial⟩⟩⟩, trivial⟩⟩⟩⟩, trivial⟩⟩⟩⟩⟩, trivial⟩⟩⟩, trivial⟩, trivial⟩, ⟨⟨⟨trivial, trivial⟩, ⟨⟨⟨g_sp_law_piece, ⟨trivial, ⟨trivial, ⟨trivial, trivial⟩⟩⟩⟩, trivial, trivial⟩, ⟨⟨trivial, ⟨⟨⟨trivial, trivial⟩, trivial, trivial⟩, trivial⟩⟩, trivial⟩⟩, trivial⟩, ⟨⟨⟨trivial, ⟨trivial, ⟨trivial, trivial⟩⟩⟩, ⟨⟨trivial, ⟨trivial, trivial⟩⟩, trivial⟩, trivial⟩, ⟨⟨⟨trivial, trivial⟩, ⟨⟨trivial, ⟨⟨g_sp_law_draw, ⟨trivial, ⟨trivial, ⟨⟨g_sp_law_pick, ⟨trivial, ⟨trivial, ⟨⟨trivial, ⟨trivial, trivial⟩⟩, trivial⟩⟩⟩⟩, trivial⟩⟩⟩⟩, trivial⟩⟩, trivial⟩, trivial⟩, ⟨⟨⟨trivial, trivial⟩, ⟨trivial, ⟨⟨g_sp_law_draw, ⟨trivial, ⟨trivial, ⟨trivial, trivial⟩⟩⟩⟩, trivial⟩⟩, ⟨trivial, trivial⟩⟩, trivial⟩⟩⟩⟩⟩⟩⟩⟩⟩⟩⟩ (len_law_deed K) (rd_law_deed K)
  -- law
  have g_sp_law_deed : HasF ⟨P, w, K, mg, base, 10⟩ "_law_deed" (sp_law_deed K) := h_69.mono (k := 10) (Nat.le_of_ble_eq_true rfl)
  have g_sp_law_do : HasF ⟨P, w, K, mg, base, 10⟩ "_law_do" (sp_law_do K) := h_59.mono (k := 10) (Nat.le_of_ble_eq_true rfl)
  have g_sp_law_draw : HasF ⟨P, w, K, mg, base, 10⟩ "_law_draw" (sp_law_draw K) := h_63.mono (k := 10) (Nat.le_of_ble_eq_true rfl)
  have g_sp_law_new : HasF ⟨P, w, K, mg, base, 10⟩ "_law_new" (sp_law_new K) := h_51.mono (k := 10) (Nat.le_of_ble_eq_true rfl)
  have g_sp_law_same : HasF ⟨P, w, K, mg, base, 10⟩ "_law_same" (sp_law_same K) := h_60.mono (k := 10) (Nat.le_of_ble_eq_true rfl)
  have g_sp_law_text : HasF ⟨P, w, K, mg, base, 10⟩ "_law_text" (sp_law_text K) := h_66.mono (k := 10) (Nat.le_of_ble_eq_true rfl)
  have g_sp_Editor_do : HasM ⟨P, w, K, mg, base, 10⟩ "Editor" "do" (sp_Editor_do K) := h_47.mono (k := 10) (Nat.le_of_ble_eq_true rfl)
  have k_sp_Editor_init : HasMk ⟨P, w, K, mg, base, 10⟩ "Editor" (sp_Editor_init K) := h_34.mono (k := 10) (Nat.le_of_ble_eq_true rfl)
  exact fn_has (h := ⟨P, w, K, mg, base, 10⟩) F_70 sc_law (b_law K) (ck_law K) ⟨trivial, ⟨⟨g_sp_law_text, ⟨trivial, ⟨trivial, ⟨trivial, trivial⟩⟩⟩⟩, ⟨⟨k_sp_Editor_init, ⟨trivial, trivial⟩⟩, ⟨⟨g_sp_law_new, ⟨trivial, trivial⟩⟩, ⟨⟨⟨⟨⟨trivial, trivial⟩, trivial⟩, ⟨⟨trivial, trivial⟩, trivial⟩⟩, ⟨trivial, ⟨trivial, trivial⟩⟩⟩, ⟨⟨⟨m_range, ⟨⟨g_sp_law_draw, ⟨trivial, ⟨trivial, ⟨trivial, trivial⟩⟩⟩⟩, trivial⟩⟩, trivial, ⟨⟨g_sp_law_deed, ⟨trivial, ⟨trivial, ⟨⟨trivial, trivial⟩, ⟨trivial, trivial⟩⟩⟩⟩⟩, ⟨⟨⟨⟨⟨g_sp_Editor_do, trivial, ⟨trivial, trivial⟩⟩, ⟨g_sp_law_do, ⟨trivial, ⟨trivial, trivial⟩⟩⟩⟩, ⟨g_sp_law_same, ⟨trivial, ⟨trivial, trivial⟩⟩⟩⟩, ⟨trivial, trivial⟩, trivial⟩, trivial⟩⟩⟩, ⟨trivial, trivial⟩⟩⟩⟩⟩⟩⟩ (len_law K) (rd_law K)
end Hd
open PySem PySem.W PySem.Calls PyProof.Rows
theorem PySem.Challenge.cw_editheart_k09_whole_notes_holds : PySem.Challenge.rw_editheart_k09_whole_notes.Holds := by
  w_on; o_law
  refine HandSHeadRun.head_any (r := OpenLaw.row PySem.Challenge.rw_editheart_k09_whole_notes) (q := view (OpenLaw.row PySem.Challenge.rw_editheart_k09_whole_notes).prog [98]) (H := Hd.hk) (ob := Hd.ob) (M := 8000) (loose := Hd.loose) (d := HandSHeadRun.topDef (OpenLaw.row PySem.Challenge.rw_editheart_k09_whole_notes).prog 98) (kwd := []) Hd.ob_eq
    (by kernel_rfl) (fun s => by kernel_rfl) Hd.run (by kernel_rfl) (by kernel_rfl) (by kernel_rfl) (by rfl) (by first | assumption | decide +kernel) (by decide +kernel) ⟨rfl, rfl, rfl, rfl, rfl, by decide +kernel⟩ ?hw ?hc
  case hw => w_witness2
  case hc =>
    refine L2.walk_ofE (l := PySem.Challenge.rw_editheart_k09_whole_notes) (n := 63) (k := 11) (x := "script") (CX := L2.CX0) rfl (by decide) (by kernel_rfl) ⟨rfl, by decide, by decide⟩ ?F (fun _ _ _ _ z => z)
    intro w mg fa h Y G hmg0
    obtain ⟨K, KX, c⟩ := Y
    have hmg : mg ("law" : PySem.Str) = some (.ref fa) := by
      have e : (HandSHeadRun.topDef (OpenLaw.row PySem.Challenge.rw_editheart_k09_whole_notes).prog 98).name = ("law" : PySem.Str) := by kernel_rfl
      rw [← e]
      exact hmg0
    obtain ⟨fd, hb, hF⟩ := Hd.facts (P := (PySem.Challenge.rw_editheart_k09_whole_notes).prog) (w := w) KX G hmg c.t c.more
    exact ⟨K, fd, Ed.sp_law K, KX, hb, fun H a ns hl _ hS => ⟨a, ns, rfl, hS, hl, fun _ => rfl⟩, hF⟩
