import PyProof.Rows.All
import Wide.All
import OpenK.AllK
import Wide.FinOn
import KE.KStateDown
import Lean
import HandS.ForMost
import HandS.Exc
import HandS.Codes
import HandS.Defaults
import HandS.Head0
import HandS.Head1
import HandS.Head2
import HandS.HeadEnd
import HandS.HeadHook1
import HandS.HeadHook2
import HandS.HeadHook3
import HandS.HeadHook4
import HandS.HeadNt
import HandS.EndTab
import PySem.Challenge.RW_anyseven_k88_whole_some_row_or_none
import HandS.ExcInit
import HandS.ExcField
import HandS.ExcIs
import KE.KSuper
import HandS.Evl
import HandS.Style
import HandS.Conv
import HandS.More
import HandS.TupAny
import HandS.IsInst
import HandS.Deep
import HandS.Wide
import HandS.Star
import HandS.TupLe
import HandS.Sort
import KE.GoesEnum
import HandS.Zip
import HandS.ClsMeth
import HandS.Nested
import HandS.Property
import HandS.OwnEq
import KE.KTypeName
import PyProof.InstNe
import HandS.Records
import HandS.SlotsOwn
import HandS.Lambda
set_option Elab.async false
set_option linter.all false
set_option maxRecDepth 100000
set_option maxHeartbeats 4000000
/-! Lay0: the classes, kinds and their addresses. -/
namespace Y
open PySem PySem.Spec PyProof.Rows L2
inductive Cl where
  | row | rule | some | just | told | sbook | book | found | barred
  deriving DecidableEq
def Cl.nm : Cl → Str
  | .row => "Row" | .rule => "Rule" | .some => "Some" | .just => "Just" | .told => "Told" | .sbook => "SayingBook" | .book => "Book" | .found => "Found" | .barred => "Barred"
def Cl.fl : Cl → List Str
  | .row => ["gains", "heights", "days", "total"]
  | .rule => ["length", "low", "high"]
  | .some => ["length", "low", "high"]
  | .just => ["length", "number"]
  | .told => ["begin", "length", "low", "high"]
  | .sbook => ["days", "sayings"]
  | .book => ["days", "rules"]
  | .found => ["word", "parts", "row"]
  | .barred => ["word", "parts", "rings"]
/-- the global's address -/
def gad (K : PySem.W.Frag) (x : Str) : Addr := match PySem.W.nsIn K mainGlobals x with
  | some (some (.ref a)) => a
  | _ => 0
def Cl.ad (_ : PySem.W.Frag) : Cl → Addr
  | .row => 525 | .rule => 648 | .some => 732 | .just => 791 | .told => 851 | .sbook => 1005 | .book => 1337 | .found => 1166 | .barred => 1187
def paperAd (_ : PySem.W.Frag) : Addr := 1124
def denialAd (_ : PySem.W.Frag) : Addr := 1145
inductive Ky where
  | non | bl | int | str | lst | tup | cl (c : Cl)
  deriving DecidableEq
inductive Tg0 where
  | int | bool | list | tuple | cl (c : Cl) | paper | denial
  deriving DecidableEq
def Cl.all : List Cl := [.row, .rule, .some, .just, .told, .sbook, .book, .found, .barred]
def Ky.all : List Ky := [.non, .bl, .int, .str, .lst, .tup] ++ Cl.all.map Ky.cl
def Tg0.all : List Tg0 := [.int, .bool, .list, .tuple, .paper, .denial] ++ Cl.all.map Tg0.cl
def Ky.val (K : PySem.W.Frag) : Ky → Value
  | .non => .type "NoneType" | .bl => .type "bool" | .int => .type "int" | .str => .type "str" | .lst => .type "list" | .tup => .type "tuple" | .cl c => .ref (c.ad K)
/-- Paper's, Denial's address -/
def Tg0.val (K : PySem.W.Frag) : Tg0 → Value
  | .int => .type "int" | .bool => .type "bool" | .list => .type "list" | .tuple => .type "tuple" | .cl c => .ref (c.ad K) | .paper => .ref (paperAd K) | .denial => .ref (denialAd K)
def kyB : Ky → Tg0 → Bool
  | .bl, .int => true | .bl, .bool => true | .int, .int => true | .lst, .list => true | .tup, .tuple => true
  | .cl c, .cl c' => decide (c = c')
  | .cl .found, .paper => true | .cl .barred, .paper => true | .cl .barred, .denial => true
  | _, _ => false
end Y
set_option Elab.async false
set_option linter.all false
set_option maxRecDepth 100000
set_option maxHeartbeats 0
/-! Hd: the defs by their places, the head's facts. -/
namespace Y
open PySem PySem.Spec PyProof.Rows L2
def top (i : Nat) : Stmt := PySem.Challenge.pw_anyseven_k88_whole_some_row_or_none.main.body.getD i (.Pass ⟨0, 0, 0, 0⟩)

abbrev s_is_integer : Stmt := top 18
abbrev n_is_integer : List Str := ["value"]
abbrev f_is_integer : Addr := 274
def d_is_integer : He5.DefA := ⟨fun _ => f_is_integer, "is_integer", "is_integer", C8.fnArgs s_is_integer, C8.fnBody s_is_integer, C8.fnScope s_is_integer, [], []⟩
abbrev s_is_within : Stmt := top 19
abbrev n_is_within : List Str := ["value", "least", "most"]
abbrev f_is_within : Addr := 281
def d_is_within : He5.DefA := ⟨fun _ => f_is_within, "is_within", "is_within", C8.fnArgs s_is_within, C8.fnBody s_is_within, C8.fnScope s_is_within, [], []⟩
abbrev s_are_integers : Stmt := top 20
abbrev n_are_integers : List Str := ["value", "each"]
abbrev f_are_integers : Addr := 286
def d_are_integers : He5.DefA := ⟨fun _ => f_are_integers, "are_integers", "are_integers", C8.fnArgs s_are_integers, C8.fnBody s_are_integers, C8.fnScope s_are_integers, [], []⟩
abbrev s_need_number : Stmt := top 22
abbrev n_need_number : List Str := ["value", "part", "least", "most"]
abbrev f_need_number : Addr := 300
def d_need_number : He5.DefA := ⟨fun _ => f_need_number, "need_number", "need_number", C8.fnArgs s_need_number, C8.fnBody s_need_number, C8.fnScope s_need_number, [], []⟩
abbrev s_need_row : Stmt := top 30
abbrev n_need_row : List Str := ["value", "part"]
abbrev f_need_row : Addr := 410
def d_need_row : He5.DefA := ⟨fun _ => f_need_row, "need_row", "need_row", C8.fnArgs s_need_row, C8.fnBody s_need_row, C8.fnScope s_need_row, [], []⟩
abbrev s_heights_of : Stmt := top 32
abbrev n_heights_of : List Str := ["gains", "found", "gain"]
abbrev f_heights_of : Addr := 424
def d_heights_of : He5.DefA := ⟨fun _ => f_heights_of, "heights_of", "heights_of", C8.fnArgs s_heights_of, C8.fnBody s_heights_of, C8.fnScope s_heights_of, [], []⟩
abbrev s_need_bound : Stmt := top 37
abbrev n_need_bound : List Str := ["value", "part"]
abbrev f_need_bound : Addr := 536
def d_need_bound : He5.DefA := ⟨fun _ => f_need_bound, "need_bound", "need_bound", C8.fnArgs s_need_bound, C8.fnBody s_need_bound, C8.fnScope s_need_bound, [], []⟩
abbrev s_are_bounds : Stmt := top 38
abbrev n_are_bounds : List Str := ["low", "high"]
abbrev f_are_bounds : Addr := 543
def d_are_bounds : He5.DefA := ⟨fun _ => f_are_bounds, "are_bounds", "are_bounds", C8.fnArgs s_are_bounds, C8.fnBody s_are_bounds, C8.fnScope s_are_bounds, [], []⟩
abbrev s_contrary : Stmt := top 39
abbrev n_contrary : List Str := ["bound"]
abbrev f_contrary : Addr := 550
def d_contrary : He5.DefA := ⟨fun _ => f_contrary, "contrary", "contrary", C8.fnArgs s_contrary, C8.fnBody s_contrary, C8.fnScope s_contrary, [], []⟩
abbrev s_need_bounds : Stmt := top 50
abbrev n_need_bounds : List Str := ["low", "high"]
abbrev f_need_bounds : Addr := 659
def d_need_bounds : He5.DefA := ⟨fun _ => f_need_bounds, "need_bounds", "need_bounds", C8.fnArgs s_need_bounds, C8.fnBody s_need_bounds, C8.fnScope s_need_bounds, [], []⟩
abbrev s_is_saying : Stmt := top 51
abbrev n_is_saying : List Str := ["value"]
abbrev f_is_saying : Addr := 666
def d_is_saying : He5.DefA := ⟨fun _ => f_is_saying, "is_saying", "is_saying", C8.fnArgs s_is_saying, C8.fnBody s_is_saying, C8.fnScope s_is_saying, [], []⟩
abbrev s_sums_in : Stmt := top 53
abbrev n_sums_in : List Str := ["row", "length", "heights", "begin"]
abbrev f_sums_in : Addr := 678
def d_sums_in : He5.DefA := ⟨fun _ => f_sums_in, "sums_in", "sums_in", C8.fnArgs s_sums_in, C8.fnBody s_sums_in, C8.fnScope s_sums_in, [], []⟩
abbrev s_need_fit : Stmt := top 57
abbrev n_need_fit : List Str := ["days", "saying"]
abbrev f_need_fit : Addr := 862
def d_need_fit : He5.DefA := ⟨fun _ => f_need_fit, "need_fit", "need_fit", C8.fnArgs s_need_fit, C8.fnBody s_need_fit, C8.fnScope s_need_fit, [], []⟩
abbrev s_need_saying_book : Stmt := top 70
abbrev n_need_saying_book : List Str := ["value"]
abbrev f_need_saying_book : Addr := 911
def d_need_saying_book : He5.DefA := ⟨fun _ => f_need_saying_book, "need_saying_book", "need_saying_book", C8.fnArgs s_need_saying_book, C8.fnBody s_need_saying_book, C8.fnScope s_need_saying_book, [], []⟩
abbrev s_are_sayings : Stmt := top 71
abbrev n_are_sayings : List Str := ["value", "each"]
abbrev f_are_sayings : Addr := 916
def d_are_sayings : He5.DefA := ⟨fun _ => f_are_sayings, "are_sayings", "are_sayings", C8.fnArgs s_are_sayings, C8.fnBody s_are_sayings, C8.fnScope s_are_sayings, [], []⟩
abbrev s_saying_backwards : Stmt := top 72
abbrev n_saying_backwards : List Str := ["saying", "days"]
abbrev f_saying_backwards : Addr := 923
def d_saying_backwards : He5.DefA := ⟨fun _ => f_saying_backwards, "saying_backwards", "saying_backwards", C8.fnArgs s_saying_backwards, C8.fnBody s_saying_backwards, C8.fnScope s_saying_backwards, [], []⟩
abbrev s_begins_of : Stmt := top 77
abbrev n_begins_of : List Str := ["days", "length"]
abbrev f_begins_of : Addr := 1016
def d_begins_of : He5.DefA := ⟨fun _ => f_begins_of, "begins_of", "begins_of", C8.fnArgs s_begins_of, C8.fnBody s_begins_of, C8.fnScope s_begins_of, [], []⟩
abbrev s_all_with : Stmt := top 78
abbrev n_all_with : List Str := ["days", "length", "low", "high", "begin"]
abbrev f_all_with : Addr := 1021
def d_all_with : He5.DefA := ⟨fun _ => f_all_with, "all_with", "all_with", C8.fnArgs s_all_with, C8.fnBody s_all_with, C8.fnScope s_all_with, [], []⟩
abbrev s_many_own : Stmt := top 79
abbrev n_many_own : List Str := ["days", "saying", "many"]
abbrev f_many_own : Addr := 1028
def d_many_own : He5.DefA := ⟨fun _ => f_many_own, "many_own", "many_own", C8.fnArgs s_many_own, C8.fnBody s_many_own, C8.fnScope s_many_own, [], []⟩
abbrev s_need_few : Stmt := top 80
abbrev n_need_few : List Str := ["many"]
abbrev f_need_few : Addr := 1035
def d_need_few : He5.DefA := ⟨fun _ => f_need_few, "need_few", "need_few", C8.fnArgs s_need_few, C8.fnBody s_need_few, C8.fnScope s_need_few, [], []⟩
abbrev s_multiplied : Stmt := top 81
abbrev n_multiplied : List Str := ["numbers", "found", "number"]
abbrev f_multiplied : Addr := 1042
def d_multiplied : He5.DefA := ⟨fun _ => f_multiplied, "multiplied", "multiplied", C8.fnArgs s_multiplied, C8.fnBody s_multiplied, C8.fnScope s_multiplied, [], []⟩
abbrev s_own_choices : Stmt := top 82
abbrev n_own_choices : List Str := ["days", "saying", "length", "begins", "begin", "number", "one", "other"]
abbrev f_own_choices : Addr := 1047
def d_own_choices : He5.DefA := ⟨fun _ => f_own_choices, "own_choices", "own_choices", C8.fnArgs s_own_choices, C8.fnBody s_own_choices, C8.fnScope s_own_choices, [], []⟩
abbrev s_lists_of : Stmt := top 83
abbrev n_lists_of : List Str := ["book", "saying"]
abbrev f_lists_of : Addr := 1052
def d_lists_of : He5.DefA := ⟨fun _ => f_lists_of, "lists_of", "lists_of", C8.fnArgs s_lists_of, C8.fnBody s_lists_of, C8.fnScope s_lists_of, [], []⟩
abbrev s_together : Stmt := top 84
abbrev n_together : List Str := ["lists", "choices", "found", "row", "choice"]
abbrev f_together : Addr := 1057
def d_together : He5.DefA := ⟨fun _ => f_together, "together", "together", C8.fnArgs s_together, C8.fnBody s_together, C8.fnScope s_together, [], []⟩
abbrev s_steps_in : Stmt := top 85
abbrev n_steps_in : List Str := ["choice", "found", "number", "stretches", "begin", "length", "low", "high"]
abbrev f_steps_in : Addr := 1064
def d_steps_in : He5.DefA := ⟨fun _ => f_steps_in, "steps_in", "steps_in", C8.fnArgs s_steps_in, C8.fnBody s_steps_in, C8.fnScope s_steps_in, [], []⟩
abbrev s_ring_at : Stmt := top 86
abbrev n_ring_at : List Str := ["came", "place", "_", "found", "here"]
abbrev f_ring_at : Addr := 1071
def d_ring_at : He5.DefA := ⟨fun _ => f_ring_at, "ring_at", "ring_at", C8.fnArgs s_ring_at, C8.fnBody s_ring_at, C8.fnScope s_ring_at, [], []⟩
abbrev s_row_or_ring : Stmt := top 87
abbrev n_row_or_ring : List Str := ["days", "choice", "steps", "costs", "came", "moved", "_", "step", "cost"]
abbrev f_row_or_ring : Addr := 1076
def d_row_or_ring : He5.DefA := ⟨fun _ => f_row_or_ring, "row_or_ring", "row_or_ring", C8.fnArgs s_row_or_ring, C8.fnBody s_row_or_ring, C8.fnScope s_row_or_ring, [], []⟩
abbrev s_looked_through : Stmt := top 88
abbrev n_looked_through : List Str := ["days", "lists", "rings", "choice", "row", "ring"]
abbrev f_looked_through : Addr := 1083
def d_looked_through : He5.DefA := ⟨fun _ => f_looked_through, "looked_through", "looked_through", C8.fnArgs s_looked_through, C8.fnBody s_looked_through, C8.fnScope s_looked_through, [], []⟩
abbrev s_many_choices : Stmt := top 89
abbrev n_many_choices : List Str := ["book", "saying"]
abbrev f_many_choices : Addr := 1088
def d_many_choices : He5.DefA := ⟨fun _ => f_many_choices, "many_choices", "many_choices", C8.fnArgs s_many_choices, C8.fnBody s_many_choices, C8.fnScope s_many_choices, [], []⟩
abbrev s_fixed : Stmt := top 91
abbrev n_fixed : List Str := ["value", "part"]
abbrev f_fixed : Addr := 1093
def d_fixed : He5.DefA := ⟨fun _ => f_fixed, "fixed", "fixed", C8.fnArgs s_fixed, C8.fnBody s_fixed, C8.fnScope s_fixed, [], []⟩
abbrev s_some_row : Stmt := top 97
abbrev n_some_row : List Str := ["book", "row", "rings"]
abbrev f_some_row : Addr := 1196
def d_some_row : He5.DefA := ⟨fun _ => f_some_row, "some_row", "some_row", C8.fnArgs s_some_row, C8.fnBody s_some_row, C8.fnScope s_some_row, [], []⟩
abbrev s_are_rules : Stmt := top 105
abbrev n_are_rules : List Str := ["value", "rule"]
abbrev f_are_rules : Addr := 1222
def d_are_rules : He5.DefA := ⟨fun _ => f_are_rules, "are_rules", "are_rules", C8.fnArgs s_are_rules, C8.fnBody s_are_rules, C8.fnScope s_are_rules, [], []⟩
abbrev s_led_by : Stmt := top 113
abbrev n_led_by : List Str := ["choice", "step", "place", "number", "way", "begin", "length", "low", "high"]
abbrev f_led_by : Addr := 1348
def d_led_by : He5.DefA := ⟨fun _ => f_led_by, "led_by", "led_by", C8.fnArgs s_led_by, C8.fnBody s_led_by, C8.fnScope s_led_by, [], []⟩
abbrev s_is_ring : Stmt := top 114
abbrev n_is_ring : List Str := ["choice", "value", "step", "place", "total", "led"]
abbrev f_is_ring : Addr := 1353
def d_is_ring : He5.DefA := ⟨fun _ => f_is_ring, "is_ring", "is_ring", C8.fnArgs s_is_ring, C8.fnBody s_is_ring, C8.fnScope s_is_ring, [], []⟩
abbrev s_are_rings : Stmt := top 115
abbrev n_are_rings : List Str := ["lists", "value", "choices", "choice", "ring"]
abbrev f_are_rings : Addr := 1358
def d_are_rings : He5.DefA := ⟨fun _ => f_are_rings, "are_rings", "are_rings", C8.fnArgs s_are_rings, C8.fnBody s_are_rings, C8.fnScope s_are_rings, [], []⟩
abbrev s_is_row_of : Stmt := top 116
abbrev n_is_row_of : List Str := ["book", "value"]
abbrev f_is_row_of : Addr := 1365
def d_is_row_of : He5.DefA := ⟨fun _ => f_is_row_of, "is_row_of", "is_row_of", C8.fnArgs s_is_row_of, C8.fnBody s_is_row_of, C8.fnScope s_is_row_of, [], []⟩
abbrev s_shows_some_row : Stmt := top 117
abbrev n_shows_some_row : List Str := ["book", "value"]
abbrev f_shows_some_row : Addr := 1372
def d_shows_some_row : He5.DefA := ⟨fun _ => f_shows_some_row, "shows_some_row", "shows_some_row", C8.fnArgs s_shows_some_row, C8.fnBody s_shows_some_row, C8.fnScope s_shows_some_row, [], []⟩
abbrev s_Lurn : Stmt := top 119
abbrev n_Lurn : List Str := ["_law_script", "_law_cell"]
abbrev f_Lurn : Addr := 1377
def d_Lurn : He5.DefA := ⟨fun _ => f_Lurn, "_law_urn", "_law_urn", C8.fnArgs s_Lurn, C8.fnBody s_Lurn, C8.fnScope s_Lurn, [], []⟩
abbrev s_Ltake : Stmt := top 120
abbrev n_Ltake : List Str := ["_law_urn_here", "_law_many_here", "_law_rest", "_law_at", "_law_cell", "_law_mixed"]
abbrev f_Ltake : Addr := 1384
def d_Ltake : He5.DefA := ⟨fun _ => f_Ltake, "_law_take", "_law_take", C8.fnArgs s_Ltake, C8.fnBody s_Ltake, C8.fnScope s_Ltake, [], []⟩
abbrev s_Lpick : Stmt := top 121
abbrev n_Lpick : List Str := ["_law_urn_here", "_law_some"]
abbrev f_Lpick : Addr := 1391
def d_Lpick : He5.DefA := ⟨fun _ => f_Lpick, "_law_pick", "_law_pick", C8.fnArgs s_Lpick, C8.fnBody s_Lpick, C8.fnScope s_Lpick, [], []⟩
abbrev s_Lsums : Stmt := top 122
abbrev n_Lsums : List Str := ["_law_gains", "_law_length", "_law_at"]
abbrev f_Lsums : Addr := 1396
def d_Lsums : He5.DefA := ⟨fun _ => f_Lsums, "_law_sums", "_law_sums", C8.fnArgs s_Lsums, C8.fnBody s_Lsums, C8.fnScope s_Lsums, [], []⟩
abbrev s_Lwithin : Stmt := top 123
abbrev n_Lwithin : List Str := ["_law_total", "_law_low", "_law_high"]
abbrev f_Lwithin : Addr := 1403
def d_Lwithin : He5.DefA := ⟨fun _ => f_Lwithin, "_law_within", "_law_within", C8.fnArgs s_Lwithin, C8.fnBody s_Lwithin, C8.fnScope s_Lwithin, [], []⟩
abbrev s_Lkeeps : Stmt := top 124
abbrev n_Lkeeps : List Str := ["_law_gains", "_law_saying_here", "_law_sums_here", "_law_told", "_law_total"]
abbrev f_Lkeeps : Addr := 1408
def d_Lkeeps : He5.DefA := ⟨fun _ => f_Lkeeps, "_law_keeps", "_law_keeps", C8.fnArgs s_Lkeeps, C8.fnBody s_Lkeeps, C8.fnScope s_Lkeeps, [], []⟩
abbrev s_Lmade : Stmt := top 125
abbrev n_Lmade : List Str := ["_law_saying_here"]
abbrev f_Lmade : Addr := 1415
def d_Lmade : He5.DefA := ⟨fun _ => f_Lmade, "_law_made", "_law_made", C8.fnArgs s_Lmade, C8.fnBody s_Lmade, C8.fnScope s_Lmade, [], []⟩
abbrev s_Lbook : Stmt := top 126
abbrev n_Lbook : List Str := ["_law_days", "_law_sayings", "_law_saying_here"]
abbrev f_Lbook : Addr := 1420
def d_Lbook : He5.DefA := ⟨fun _ => f_Lbook, "_law_book", "_law_book", C8.fnArgs s_Lbook, C8.fnBody s_Lbook, C8.fnScope s_Lbook, [], []⟩
abbrev s_Lnear : Stmt := top 127
abbrev n_Lnear : List Str := ["_law_urn_here", "_law_total", "_law_wide", "_law_low", "_law_high", "_law_way"]
abbrev f_Lnear : Addr := 1427
def d_Lnear : He5.DefA := ⟨fun _ => f_Lnear, "_law_near", "_law_near", C8.fnArgs s_Lnear, C8.fnBody s_Lnear, C8.fnScope s_Lnear, [], []⟩
abbrev s_Lsaying : Stmt := top 128
abbrev n_Lsaying : List Str := ["_law_urn_here", "_law_gains", "_law_kinds", "_law_kind", "_law_days", "_law_length", "_law_sums_here", "_law_off", "_law_begin", "_law_low", "_law_high", "_law_total"]
abbrev f_Lsaying : Addr := 1434
def d_Lsaying : He5.DefA := ⟨fun _ => f_Lsaying, "_law_saying", "_law_saying", C8.fnArgs s_Lsaying, C8.fnBody s_Lsaying, C8.fnScope s_Lsaying, [], []⟩
abbrev s_Lmany : Stmt := top 129
abbrev n_Lmany : List Str := ["_law_days", "_law_saying_here", "_law_begins"]
abbrev f_Lmany : Addr := 1441
def d_Lmany : He5.DefA := ⟨fun _ => f_Lmany, "_law_many", "_law_many", C8.fnArgs s_Lmany, C8.fnBody s_Lmany, C8.fnScope s_Lmany, [], []⟩
abbrev s_Ltimes : Stmt := top 131
abbrev n_Ltimes : List Str := ["_law_numbers", "_law_total", "_law_number"]
abbrev f_Ltimes : Addr := 1453
def d_Ltimes : He5.DefA := ⟨fun _ => f_Ltimes, "_law_times", "_law_times", C8.fnArgs s_Ltimes, C8.fnBody s_Ltimes, C8.fnScope s_Ltimes, [], []⟩
abbrev s_Lchoices : Stmt := top 132
abbrev n_Lchoices : List Str := ["_law_days", "_law_saying_here", "_law_length", "_law_begins", "_law_begin", "_law_found", "_law_one", "_law_other"]
abbrev f_Lchoices : Addr := 1458
def d_Lchoices : He5.DefA := ⟨fun _ => f_Lchoices, "_law_choices", "_law_choices", C8.fnArgs s_Lchoices, C8.fnBody s_Lchoices, C8.fnScope s_Lchoices, [], []⟩
abbrev s_Ltogether : Stmt := top 133
abbrev n_Ltogether : List Str := ["_law_lists", "_law_choices_here", "_law_found", "_law_longer", "_law_row", "_law_choice"]
abbrev f_Ltogether : Addr := 1463
def d_Ltogether : He5.DefA := ⟨fun _ => f_Ltogether, "_law_together", "_law_together", C8.fnArgs s_Ltogether, C8.fnBody s_Ltogether, C8.fnScope s_Ltogether, [], []⟩
abbrev s_Lled : Stmt := top 134
abbrev n_Lled : List Str := ["_law_choice", "_law_step", "_law_place", "_law_number", "_law_way", "_law_begin", "_law_length", "_law_low", "_law_high"]
abbrev f_Lled : Addr := 1470
def d_Lled : He5.DefA := ⟨fun _ => f_Lled, "_law_led", "_law_led", C8.fnArgs s_Lled, C8.fnBody s_Lled, C8.fnScope s_Lled, [], []⟩
abbrev s_Lis_ring : Stmt := top 135
abbrev n_Lis_ring : List Str := ["_law_choice", "_law_steps", "_law_step", "_law_part", "_law_place", "_law_total", "_law_led_here"]
abbrev f_Lis_ring : Addr := 1475
def d_Lis_ring : He5.DefA := ⟨fun _ => f_Lis_ring, "_law_is_ring", "_law_is_ring", C8.fnArgs s_Lis_ring, C8.fnBody s_Lis_ring, C8.fnScope s_Lis_ring, [], []⟩
abbrev s_Lare_rings : Stmt := top 136
abbrev n_Lare_rings : List Str := ["_law_lists", "_law_rings", "_law_choices_here", "_law_choice", "_law_ring"]
abbrev f_Lare_rings : Addr := 1480
def d_Lare_rings : He5.DefA := ⟨fun _ => f_Lare_rings, "_law_are_rings", "_law_are_rings", C8.fnArgs s_Lare_rings, C8.fnBody s_Lare_rings, C8.fnScope s_Lare_rings, [], []⟩
abbrev s_Lrows : Stmt := top 137
abbrev n_Lrows : List Str := ["_law_days", "_law_most", "_law_found", "_law_day", "_law_longer", "_law_row", "_law_gain"]
abbrev f_Lrows : Addr := 1485
def d_Lrows : He5.DefA := ⟨fun _ => f_Lrows, "_law_rows", "_law_rows", C8.fnArgs s_Lrows, C8.fnBody s_Lrows, C8.fnScope s_Lrows, [], []⟩
abbrev s_Lworld : Stmt := top 138
abbrev n_Lworld : List Str := ["_law_urn_here", "_law_days", "_law_most", "_law_day"]
abbrev f_Lworld : Addr := 1490
def d_Lworld : He5.DefA := ⟨fun _ => f_Lworld, "_law_world", "_law_world", C8.fnArgs s_Lworld, C8.fnBody s_Lworld, C8.fnScope s_Lworld, [], []⟩
abbrev s_Lheard : Stmt := top 139
abbrev n_Lheard : List Str := ["_law_ask", "_law_caught", "error"]
abbrev f_Lheard : Addr := 1497
def d_Lheard : He5.DefA := ⟨fun _ => f_Lheard, "_law_heard", "_law_heard", C8.fnArgs s_Lheard, C8.fnBody s_Lheard, C8.fnScope s_Lheard, [], []⟩
abbrev s_Lfound_right : Stmt := top 140
abbrev n_Lfound_right : List Str := ["_law_days", "_law_sayings", "_law_kept", "_law_book_here", "_law_many_here", "_law_saying_here", "_law_heard_here", "_law_told"]
abbrev f_Lfound_right : Addr := 1502
def d_Lfound_right : He5.DefA := ⟨fun _ => f_Lfound_right, "_law_found_right", "_law_found_right", C8.fnArgs s_Lfound_right, C8.fnBody s_Lfound_right, C8.fnScope s_Lfound_right, [], []⟩
abbrev s_Lworld_right : Stmt := top 141
abbrev n_Lworld_right : List Str := ["_law_urn_here", "_law_days", "_law_most", "_law_gains", "_law_sayings", "_law_turn", "_law_kept", "_law_row", "_law_saying_here", "_law_book_here", "_law_total"]
abbrev f_Lworld_right : Addr := 1507
def d_Lworld_right : He5.DefA := ⟨fun _ => f_Lworld_right, "_law_world_right", "_law_world_right", C8.fnArgs s_Lworld_right, C8.fnBody s_Lworld_right, C8.fnScope s_Lworld_right, [], []⟩
abbrev s_law : Stmt := top 142
abbrev n_law : List Str := ["_law_script", "_law_urn_here", "_law_lap", "_law_free", "_law_wide", "_law_odd", "_law_heard_here"]
abbrev f_law : Addr := 1514
def d_law : He5.DefA := ⟨fun _ => f_law, "law", "law", C8.fnArgs s_law, C8.fnBody s_law, C8.fnScope s_law, [], []⟩
abbrev s_Row_init : Stmt := inClass (top 33) 0
abbrev n_Row_init : List Str := ["self", "gains"]
abbrev f_Row_init : Addr := 438
def d_Row_init : He5.DefA := ⟨fun _ => f_Row_init, "__init__", "Row.__init__", C8.fnArgs s_Row_init, C8.fnBody s_Row_init, C8.fnScope s_Row_init, [], []⟩
abbrev s_Row_of : Stmt := inClass (top 33) 1
abbrev n_Row_of : List Str := ["heights", "ahead", "behind"]
abbrev f_Row_of : Addr := 443
def d_Row_of : He5.DefA := ⟨fun _ => f_Row_of, "of", "Row.of", C8.fnArgs s_Row_of, C8.fnBody s_Row_of, C8.fnScope s_Row_of, [], []⟩
abbrev s_Row_eq : Stmt := inClass (top 33) 11
abbrev n_Row_eq : List Str := ["self", "other"]
abbrev f_Row_eq : Addr := 517
def d_Row_eq : He5.DefA := ⟨fun _ => f_Row_eq, "__eq__", "Row.__eq__", C8.fnArgs s_Row_eq, C8.fnBody s_Row_eq, C8.fnScope s_Row_eq, [], []⟩
abbrev s_Rule_init : Stmt := inClass (top 43) 0
abbrev n_Rule_init : List Str := ["self", "length", "low", "high"]
abbrev f_Rule_init : Addr := 586
def d_Rule_init : He5.DefA := ⟨fun _ => f_Rule_init, "__init__", "Rule.__init__", C8.fnArgs s_Rule_init, C8.fnBody s_Rule_init, C8.fnScope s_Rule_init, [.non, .non], []⟩
abbrev s_Rule_keeps : Stmt := inClass (top 43) 2
abbrev n_Rule_keeps : List Str := ["self", "row"]
abbrev f_Rule_keeps : Addr := 603
def d_Rule_keeps : He5.DefA := ⟨fun _ => f_Rule_keeps, "keeps", "Rule.keeps", C8.fnArgs s_Rule_keeps, C8.fnBody s_Rule_keeps, C8.fnScope s_Rule_keeps, [], []⟩
abbrev s_Rule_first_broken : Stmt := inClass (top 43) 3
abbrev n_Rule_first_broken : List Str := ["self", "row", "begin"]
abbrev f_Rule_first_broken : Addr := 610
def d_Rule_first_broken : He5.DefA := ⟨fun _ => f_Rule_first_broken, "first_broken", "Rule.first_broken", C8.fnArgs s_Rule_first_broken, C8.fnBody s_Rule_first_broken, C8.fnScope s_Rule_first_broken, [], []⟩
abbrev s_Rule_turned : Stmt := inClass (top 43) 4
abbrev n_Rule_turned : List Str := ["self"]
abbrev f_Rule_turned : Addr := 617
def d_Rule_turned : He5.DefA := ⟨fun _ => f_Rule_turned, "turned", "Rule.turned", C8.fnArgs s_Rule_turned, C8.fnBody s_Rule_turned, C8.fnScope s_Rule_turned, [], []⟩
abbrev s_Some_init : Stmt := inClass (top 54) 0
abbrev n_Some_init : List Str := ["self", "length", "low", "high"]
abbrev f_Some_init : Addr := 693
def d_Some_init : He5.DefA := ⟨fun _ => f_Some_init, "__init__", "Some.__init__", C8.fnArgs s_Some_init, C8.fnBody s_Some_init, C8.fnScope s_Some_init, [.non, .non], []⟩
abbrev s_Some_keeps : Stmt := inClass (top 54) 2
abbrev n_Some_keeps : List Str := ["self", "row", "total"]
abbrev f_Some_keeps : Addr := 708
def d_Some_keeps : He5.DefA := ⟨fun _ => f_Some_keeps, "keeps", "Some.keeps", C8.fnArgs s_Some_keeps, C8.fnBody s_Some_keeps, C8.fnScope s_Some_keeps, [], []⟩
abbrev s_Some_turned : Stmt := inClass (top 54) 3
abbrev n_Some_turned : List Str := ["self"]
abbrev f_Some_turned : Addr := 715
def d_Some_turned : He5.DefA := ⟨fun _ => f_Some_turned, "turned", "Some.turned", C8.fnArgs s_Some_turned, C8.fnBody s_Some_turned, C8.fnScope s_Some_turned, [], []⟩
abbrev s_Just_init : Stmt := inClass (top 55) 0
abbrev n_Just_init : List Str := ["self", "length", "number"]
abbrev f_Just_init : Addr := 750
def d_Just_init : He5.DefA := ⟨fun _ => f_Just_init, "__init__", "Just.__init__", C8.fnArgs s_Just_init, C8.fnBody s_Just_init, C8.fnScope s_Just_init, [], []⟩
abbrev s_Just_keeps : Stmt := inClass (top 55) 2
abbrev n_Just_keeps : List Str := ["self", "row", "totals"]
abbrev f_Just_keeps : Addr := 767
def d_Just_keeps : He5.DefA := ⟨fun _ => f_Just_keeps, "keeps", "Just.keeps", C8.fnArgs s_Just_keeps, C8.fnBody s_Just_keeps, C8.fnScope s_Just_keeps, [], []⟩
abbrev s_Just_turned : Stmt := inClass (top 55) 3
abbrev n_Just_turned : List Str := ["self"]
abbrev f_Just_turned : Addr := 774
def d_Just_turned : He5.DefA := ⟨fun _ => f_Just_turned, "turned", "Just.turned", C8.fnArgs s_Just_turned, C8.fnBody s_Just_turned, C8.fnScope s_Just_turned, [], []⟩
abbrev s_Told_init : Stmt := inClass (top 56) 0
abbrev n_Told_init : List Str := ["self", "begin", "length", "low", "high"]
abbrev f_Told_init : Addr := 810
def d_Told_init : He5.DefA := ⟨fun _ => f_Told_init, "__init__", "Told.__init__", C8.fnArgs s_Told_init, C8.fnBody s_Told_init, C8.fnScope s_Told_init, [.non, .non], []⟩
abbrev s_Told_keeps : Stmt := inClass (top 56) 2
abbrev n_Told_keeps : List Str := ["self", "row"]
abbrev f_Told_keeps : Addr := 827
def d_Told_keeps : He5.DefA := ⟨fun _ => f_Told_keeps, "keeps", "Told.keeps", C8.fnArgs s_Told_keeps, C8.fnBody s_Told_keeps, C8.fnScope s_Told_keeps, [], []⟩
abbrev s_Told_turned : Stmt := inClass (top 56) 3
abbrev n_Told_turned : List Str := ["self"]
abbrev f_Told_turned : Addr := 834
def d_Told_turned : He5.DefA := ⟨fun _ => f_Told_turned, "turned", "Told.turned", C8.fnArgs s_Told_turned, C8.fnBody s_Told_turned, C8.fnScope s_Told_turned, [], []⟩
abbrev s_SayingBook_init : Stmt := inClass (top 74) 0
abbrev n_SayingBook_init : List Str := ["self", "days", "sayings", "saying"]
abbrev f_SayingBook_init : Addr := 944
def d_SayingBook_init : He5.DefA := ⟨fun _ => f_SayingBook_init, "__init__", "SayingBook.__init__", C8.fnArgs s_SayingBook_init, C8.fnBody s_SayingBook_init, C8.fnScope s_SayingBook_init, [], []⟩
abbrev s_SayingBook_keeps : Stmt := inClass (top 74) 2
abbrev n_SayingBook_keeps : List Str := ["self", "row"]
abbrev f_SayingBook_keeps : Addr := 961
def d_SayingBook_keeps : He5.DefA := ⟨fun _ => f_SayingBook_keeps, "keeps", "SayingBook.keeps", C8.fnArgs s_SayingBook_keeps, C8.fnBody s_SayingBook_keeps, C8.fnScope s_SayingBook_keeps, [], []⟩
abbrev s_SayingBook_first_broken : Stmt := inClass (top 74) 3
abbrev n_SayingBook_first_broken : List Str := ["self", "row", "number", "saying"]
abbrev f_SayingBook_first_broken : Addr := 968
def d_SayingBook_first_broken : He5.DefA := ⟨fun _ => f_SayingBook_first_broken, "first_broken", "SayingBook.first_broken", C8.fnArgs s_SayingBook_first_broken, C8.fnBody s_SayingBook_first_broken, C8.fnScope s_SayingBook_first_broken, [], []⟩
abbrev s_SayingBook_turned : Stmt := inClass (top 74) 6
abbrev n_SayingBook_turned : List Str := ["self", "saying"]
abbrev f_SayingBook_turned : Addr := 985
def d_SayingBook_turned : He5.DefA := ⟨fun _ => f_SayingBook_turned, "turned", "SayingBook.turned", C8.fnArgs s_SayingBook_turned, C8.fnBody s_SayingBook_turned, C8.fnScope s_SayingBook_turned, [], []⟩
abbrev s_SayingBook_backwards : Stmt := inClass (top 74) 7
abbrev n_SayingBook_backwards : List Str := ["self", "saying"]
abbrev f_SayingBook_backwards : Addr := 990
def d_SayingBook_backwards : He5.DefA := ⟨fun _ => f_SayingBook_backwards, "backwards", "SayingBook.backwards", C8.fnArgs s_SayingBook_backwards, C8.fnBody s_SayingBook_backwards, C8.fnScope s_SayingBook_backwards, [], []⟩
abbrev s_Paper_init : Stmt := inClass (top 92) 0
abbrev n_Paper_init : List Str := ["self", "word", "parts"]
abbrev f_Paper_init : Addr := 1107
def d_Paper_init : He5.DefA := ⟨fun _ => f_Paper_init, "__init__", "Paper.__init__", C8.fnArgs s_Paper_init, C8.fnBody s_Paper_init, C8.fnScope s_Paper_init, [], []⟩
abbrev s_Paper_bool : Stmt := inClass (top 92) 1
abbrev n_Paper_bool : List Str := ["self"]
abbrev f_Paper_bool : Addr := 1114
def d_Paper_bool : He5.DefA := ⟨fun _ => f_Paper_bool, "__bool__", "Paper.__bool__", C8.fnArgs s_Paper_bool, C8.fnBody s_Paper_bool, C8.fnScope s_Paper_bool, [], []⟩
abbrev s_Paper_eq : Stmt := inClass (top 92) 2
abbrev n_Paper_eq : List Str := ["self", "other"]
abbrev f_Paper_eq : Addr := 1121
def d_Paper_eq : He5.DefA := ⟨fun _ => f_Paper_eq, "__eq__", "Paper.__eq__", C8.fnArgs s_Paper_eq, C8.fnBody s_Paper_eq, C8.fnScope s_Paper_eq, [], []⟩
abbrev s_Denial_bool : Stmt := inClass (top 93) 0
abbrev n_Denial_bool : List Str := ["self"]
abbrev f_Denial_bool : Addr := 1142
def d_Denial_bool : He5.DefA := ⟨fun _ => f_Denial_bool, "__bool__", "Denial.__bool__", C8.fnArgs s_Denial_bool, C8.fnBody s_Denial_bool, C8.fnScope s_Denial_bool, [], []⟩
abbrev s_Found_init : Stmt := inClass (top 95) 0
abbrev n_Found_init : List Str := ["self", "row"]
abbrev f_Found_init : Addr := 1163
abbrev s_Barred_init : Stmt := inClass (top 96) 0
abbrev n_Barred_init : List Str := ["self", "rings"]
abbrev f_Barred_init : Addr := 1184
abbrev s_Book_init : Stmt := inClass (top 111) 0
abbrev n_Book_init : List Str := ["self", "days", "rules"]
abbrev f_Book_init : Addr := 1269
def d_Book_init : He5.DefA := ⟨fun _ => f_Book_init, "__init__", "Book.__init__", C8.fnArgs s_Book_init, C8.fnBody s_Book_init, C8.fnScope s_Book_init, [], []⟩
abbrev s_BadBook_init : Stmt := inClass (top 5) 0
abbrev n_BadBook_init : List Str := ["self", "part"]
abbrev f_BadBook_init : Addr := 86
def d_BadBook_init : He5.DefA := ⟨fun _ => f_BadBook_init, "__init__", "BadBook.__init__", C8.fnArgs s_BadBook_init, C8.fnBody s_BadBook_init, C8.fnScope s_BadBook_init, [], []⟩
abbrev s_TooMany_init : Stmt := inClass (top 14) 0
abbrev n_TooMany_init : List Str := ["self", "what", "most"]
abbrev f_TooMany_init : Addr := 243
def d_TooMany_init : He5.DefA := ⟨fun _ => f_TooMany_init, "__init__", "TooMany.__init__", C8.fnArgs s_TooMany_init, C8.fnBody s_TooMany_init, C8.fnScope s_TooMany_init, [], []⟩
def fn0 : List He5.DefA := [d_is_integer, d_is_within, d_are_integers, d_need_number, d_need_row, d_heights_of, d_need_bound, d_are_bounds, d_contrary, d_need_bounds, d_is_saying, d_sums_in, d_need_fit, d_need_saying_book, d_are_sayings, d_saying_backwards, d_begins_of, d_all_with, d_many_own, d_need_few]
def fn1 : List He5.DefA := [d_multiplied, d_own_choices, d_lists_of, d_together, d_steps_in, d_ring_at, d_row_or_ring, d_looked_through, d_many_choices, d_fixed, d_some_row, d_are_rules, d_led_by, d_is_ring, d_are_rings, d_is_row_of, d_shows_some_row, d_Lurn, d_Ltake, d_Lpick]
def fn2 : List He5.DefA := [d_Lsums, d_Lwithin, d_Lkeeps, d_Lmade, d_Lbook, d_Lnear, d_Lsaying, d_Lmany, d_Ltimes, d_Lchoices, d_Ltogether, d_Lled, d_Lis_ring, d_Lare_rings, d_Lrows, d_Lworld, d_Lheard, d_Lfound_right, d_Lworld_right, d_law]
def fn3 : List He5.DefA := [d_Row_init, d_Row_of, d_Row_eq, d_Rule_init, d_Rule_keeps, d_Rule_first_broken, d_Rule_turned, d_Some_init, d_Some_keeps, d_Some_turned, d_Just_init, d_Just_keeps, d_Just_turned, d_Told_init, d_Told_keeps, d_Told_turned, d_SayingBook_init, d_SayingBook_keeps, d_SayingBook_first_broken, d_SayingBook_turned]
def fn4 : List He5.DefA := [d_SayingBook_backwards, d_Paper_init, d_Paper_bool, d_Paper_eq, d_Denial_bool, d_Book_init, d_BadBook_init, d_TooMany_init]
def fn : List He5.DefA := fn0 ++ fn1 ++ fn2 ++ fn3 ++ fn4
def asL : List Addr := [0, 2, 3, 30, 31, 85, 86, 88, 89, 242, 243, 245, 246, 273, 274, 280, 281, 285, 286, 299, 300, 409, 410, 423, 424, 437, 438, 442, 443, 444, 445, 516, 517, 524, 525, 535, 536, 542, 543, 549, 550, 579, 585, 586, 602, 603, 609, 610, 616, 617, 647, 648, 658, 659, 665, 666, 677, 678, 686, 692, 693, 707, 708, 714, 715, 731, 732, 749, 750, 766, 767, 773, 774, 790, 791, 803, 809, 810, 826, 827, 833, 834, 850, 851, 861, 862, 910, 911, 915, 916, 922, 923, 943, 944, 960, 961, 967, 968, 984, 985, 989, 990, 1004, 1005, 1015, 1016, 1020, 1021, 1027, 1028, 1034, 1035, 1041, 1042, 1046, 1047, 1051, 1052, 1056, 1057, 1063, 1064, 1070, 1071, 1075, 1076, 1082, 1083, 1087, 1088, 1092, 1093, 1106, 1107, 1113, 1114, 1120, 1121, 1123, 1124, 1141, 1142, 1144, 1145, 1151, 1156, 1157, 1162, 1163, 1165, 1166, 1172, 1177, 1178, 1183, 1184, 1186, 1187, 1195, 1196, 1221, 1222, 1268, 1269, 1336, 1337, 1347, 1348, 1352, 1353, 1357, 1358, 1364, 1365, 1371, 1372, 1376, 1377, 1383, 1384, 1390, 1391, 1395, 1396, 1402, 1403, 1407, 1408, 1414, 1415, 1419, 1420, 1426, 1427, 1433, 1434, 1440, 1441, 1452, 1453, 1457, 1458, 1462, 1463, 1469, 1470, 1474, 1475, 1479, 1480, 1484, 1485, 1489, 1490, 1496, 1497, 1501, 1502, 1506, 1507, 1513, 1514]
def eqO (a b : Option (Option Value)) : Bool := decide (a = b)
def gloL0 : List (Str × Addr) := [("is_integer", 274), ("is_within", 281), ("are_integers", 286), ("need_number", 300), ("need_row", 410), ("heights_of", 424), ("need_bound", 536), ("are_bounds", 543), ("contrary", 550), ("need_bounds", 659), ("is_saying", 666), ("sums_in", 678), ("need_fit", 862), ("need_saying_book", 911), ("are_sayings", 916), ("saying_backwards", 923), ("begins_of", 1016), ("all_with", 1021), ("many_own", 1028), ("need_few", 1035)]
def gloL1 : List (Str × Addr) := [("multiplied", 1042), ("own_choices", 1047), ("lists_of", 1052), ("together", 1057), ("steps_in", 1064), ("ring_at", 1071), ("row_or_ring", 1076), ("looked_through", 1083), ("many_choices", 1088), ("fixed", 1093), ("some_row", 1196), ("are_rules", 1222), ("led_by", 1348), ("is_ring", 1353), ("are_rings", 1358), ("is_row_of", 1365), ("shows_some_row", 1372), ("_law_urn", 1377), ("_law_take", 1384), ("_law_pick", 1391)]
def gloL2 : List (Str × Addr) := [("_law_sums", 1396), ("_law_within", 1403), ("_law_keeps", 1408), ("_law_made", 1415), ("_law_book", 1420), ("_law_near", 1427), ("_law_saying", 1434), ("_law_many", 1441), ("_law_times", 1453), ("_law_choices", 1458), ("_law_together", 1463), ("_law_led", 1470), ("_law_is_ring", 1475), ("_law_are_rings", 1480), ("_law_rows", 1485), ("_law_world", 1490), ("_law_heard", 1497), ("_law_found_right", 1502), ("_law_world_right", 1507), ("law", 1514)]
def gloL3 : List (Str × Addr) := [("Row", 525), ("Rule", 648), ("Some", 732), ("Just", 791), ("Told", 851), ("SayingBook", 1005), ("Book", 1337), ("Found", 1166), ("Barred", 1187), ("DayError", 31), ("BadBook", 89), ("TooMany", 246), ("Paper", 1124), ("Denial", 1145)]
def gloL : List (Str × Addr) := gloL0 ++ gloL1 ++ gloL2 ++ gloL3
def freeL : List Str := ["isinstance", "int", "bool", "list", "tuple", "all", "any", "len", "range", "zip", "enumerate", "min", "max", "sum", "abs", "super"]
def intL : List (Str × Int) := [("MOST_DAYS_rows", 48), ("MOST_LENGTH", 48), ("LAST_BEGIN", 47), ("MOST_DAYS_sayingbooks", 12), ("MOST_SAYINGS", 8), ("MOST_CHOICES", 400), ("MOST_DAYS_books", 48), ("MOST_RULES", 8)]
def methL : List (Addr × Str × Addr) := [(525, "__eq__", 517), (648, "keeps", 603), (648, "first_broken", 610), (648, "turned", 617), (732, "keeps", 708), (732, "turned", 715), (791, "keeps", 767), (791, "turned", 774), (851, "keeps", 827), (851, "turned", 834), (1005, "keeps", 961), (1005, "first_broken", 968), (1005, "turned", 985), (1005, "backwards", 990), (1124, "__bool__", 1114), (1124, "__eq__", 1121), (1145, "__bool__", 1142)]
def methI : List (Addr × Str × Addr) := [(1166, "__bool__", 1114), (1187, "__bool__", 1142), (1166, "__eq__", 1121), (1187, "__eq__", 1121)]
def mkL : List (Addr × Addr) := [(525, 438), (648, 586), (732, 693), (791, 750), (851, 810), (1005, 944), (1337, 1269), (1166, 1163), (1187, 1184)]
def exL : List (Addr × Addr) := [(89, 86), (246, 243)]
def clsL : List Addr := [525, 648, 732, 791, 851, 1005, 1337, 1166, 1187]
/-! ### the facts -/
abbrev Fr0 := PySem.W.Frag
def oexB (K : Fr0) (C : Addr) : Bool := (match K.lookup C with
  | some ⟨.type "type", _, .cls cd, sl⟩ => (match cd.mro, sl.toList with
    | .ref C' :: bm, [_, _, _, _, some (.builtin n), _] => decide (C' = C) && (decide (n = "ValueError.__new__") && (!cd.hasDel && (cd.hasDict && PySem.HandSPX.refsVE bm)))
    | _, _ => false)
  | _ => false) && (eqO (PySem.W.findIn K (.ref C) "__setattr__") (some (some (.builtin "object.__setattr__"))) && (decide (PySem.W.subIn K (.ref C) (.type "BaseException") = some true) && (decide (PySem.W.typeIn K (.ref C) = some (.type "type")) && PySem.W.keepIn K (.ref C))))
def clsB (K : Fr0) (C : Addr) : Bool := PySem.W.plainGet K C Str.empty && (PySem.W.hasDictIn K C && (PySem.W.plainOver K C && eqO (PySem.W.findIn K (.ref C) "__setattr__") (some (some (.builtin "object.__setattr__")))))
def methB (K : Fr0) (p : Addr × Str × Addr) : Bool := eqO (PySem.W.findIn K (.ref p.1) p.2.1) (some (some (.ref p.2.2))) && (PySem.W.isFn K (.ref p.2.2) && PySem.W.keepIn K (.ref p.2.2))
def mkB (K : Fr0) (p : Addr × Addr) : Bool := PySem.W.makesIn K p.1 && (eqO (PySem.W.findIn K (.ref p.1) "__init__") (some (some (.ref p.2))) && (PySem.W.isFn K (.ref p.2) && PySem.W.keepIn K (.ref p.1)))
def exiB (K : Fr0) (p : Addr × Addr) : Bool := oexB K p.1 && (eqO (PySem.W.findIn K (.ref p.1) "__init__") (some (some (.ref p.2))) && (PySem.W.isFn K (.ref p.2) && (L2.xfB K p.1 && (eqO (PySem.W.findIn K (.ref p.1) "__class__") (some (some (.builtin "object.__class__"))) && (decide (PySem.W.mroIn K p.1 (.type "object") = some true) && decide (PySem.W.exmOne K (.ref p.1) (.ref 31) = some true))))))
def kyL : List Ky := Ky.all
def kitB (K : Fr0) (t : Ky) : Bool := Tg0.all.all fun c => decide (PySem.W.kitOne K (t.val K) (c.val K) = some (kyB t c))
def ecB (K : Fr0) : Bool := decide (PySem.W.kitOne K (.ref 89) (.ref 89) = some true) && (decide (PySem.W.kitOne K (.ref 246) (.ref 89) = some false) && decide (PySem.W.kitOne K (.ref 246) (.ref 246) = some true))
def clsHB (K : Fr0) (c : Cl) : Bool := eqO (PySem.W.findIn K (.ref (c.ad K)) "__class__") (some (some (.builtin "object.__class__"))) && decide (PySem.W.mroIn K (c.ad K) (.type "object") = some true)
def objB (K : Fr0) : Bool := decide (PySem.W.specialIn K (.builtin "object.__class__") "__get__" = some (some (.builtin "getset_descriptor.__get__"))) && decide (PySem.W.takesIn K (.builtin "object.__class__") = some true)
def supB (K : Fr0) (f cc D P0 : Addr) (q : Str) (ps : Arguments) (body : List Stmt) (sc : Scope) : Bool := (match K.lookup f with
  | some ⟨_, _, .func fd, _⟩ => decide (fd.name = "__init__") && (decide (fd.qualname = q) && (decide (fd.globals = mainGlobals) && (decide (fd.closure = [(("__class__" : Str), cc)]) && (decide (fd.builtins = builtinsNs) && (PySem.W.codeIn K fd.code q && PySem.W.keepIn K (.ref f))))))
  | _ => false) && ((match K.lookup cc with
  | some ⟨_, _, .cell (some (.ref d)), _⟩ => decide (d = D)
  | _ => false) && (decide (PySem.W.mroIn K D (.ref D) = some true) && (decide (PySem.W.ks_superIn K D D "__init__" = some (some (.ref P0))) && decide (PySem.W.typeIn K (.ref P0) = some (.type "function")))))
def nmB (K : Fr0) (C : Addr) (n : Str) : Bool := match PySem.W.clsIn K C with
  | some cd => decide (cd.name = n)
  | none => false
def thB (K : Fr0) : Bool := eqO (PySem.W.nsIn K cStatics "thirdparty.any") (some none)
def noatL : List (Addr × Str) := [Cl.row, .rule, .some, .just, .told, .sbook, .book, .found, .barred].flatMap fun c => c.fl.map fun f => (c.ad [], f)
/-- the class's name as its object keeps it -/
def nmS (K : Fr0) (C : Addr) (n : Str) : Bool := match K.lookup C with
  | some ⟨_, _, .cls _, sl⟩ => (match sl.toList with
    | _ :: _ :: some (.str x _) :: _ => decide (x = n)
    | _ => false)
  | _ => false
/-- the text that the def's code names as its file's is the program's -/
def fileB (K : Fr0) (f : Addr) : Bool := match K.lookup f with
  | some ⟨_, _, .func fd, _⟩ => (match fd.code with
    | .ref c => (match K.lookup c with
      | some ⟨_, _, .fields vs, _⟩ => (match vs.toList with
        | _ :: _ :: .str x _ :: _ => decide (x = PySem.Challenge.pw_anyseven_k88_whole_some_row_or_none.main.file)
        | _ => false)
      | _ => false)
    | _ => false)
  | _ => false
/-- a def without defaults -/
def dnB (K : Fr0) (f : Addr) : Bool := match K.lookup f with
  | some ⟨_, _, .func fd, _⟩ => (match fd.defaults with
    | .none => true
    | _ => false)
  | _ => false
def factsL (K : Fr0) : List Bool :=
  [gloL.all fun p => eqO (PySem.W.nsIn K mainGlobals p.1) (some (some (.ref p.2))),
   freeL.all fun x => eqO (PySem.W.nsIn K mainGlobals x) (some none),
   intL.all fun p => (match PySem.W.nsIn K mainGlobals p.1 with
    | some (some (.int j _)) => decide (j = p.2)
    | _ => false),
   clsL.all (clsB K), noatL.all fun p => eqO (PySem.W.findIn K (.ref p.1) p.2) (some none),
   methL.all (methB K), methI.all (methB K), mkL.all (mkB K), exL.all (exiB K),
   kyL.all (kitB K), Cl.all.all (clsHB K), objB K, thB K, PySem.W.keepIn K (.ref 31), ecB K,
   eqO (PySem.W.findIn K (.ref 89) "part") (some none), eqO (PySem.W.findIn K (.ref 246) "what") (some none), eqO (PySem.W.findIn K (.ref 246) "most") (some none),
   He5.wrapB K 525 "staticmethod" "staticmethod.__get__" "of",
   decide (He5.wf K 525 "staticmethod" "of" = f_Row_of), decide (He.ma K 525 "of" = 445),
   supB K f_Found_init 1151 1166 f_Paper_init "Found.__init__" (C8.fnArgs s_Found_init) (C8.fnBody s_Found_init) (C8.fnScope s_Found_init),
   supB K f_Barred_init 1172 1187 f_Paper_init "Barred.__init__" (C8.fnArgs s_Barred_init) (C8.fnBody s_Barred_init) (C8.fnScope s_Barred_init),
   nmB K 1166 "Found", nmB K 1187 "Barred",
   eqO (PySem.W.findIn K (.ref 1166) "__ne__") (some (some (.builtin "object.__ne__"))), eqO (PySem.W.findIn K (.ref 1187) "__ne__") (some (some (.builtin "object.__ne__"))),
   clsL.all fun C => PySem.W.readsIn K C (.type "type"), eqO (PySem.W.specialIn K (.ref 525) "__getattribute__") (some (some (.builtin "type.__getattribute__"))),
   fileB K f_Found_init, fileB K f_Barred_init, nmS K 1166 "Found", nmS K 1187 "Barred", dnB K f_Found_init, dnB K f_Barred_init, decide ((He.cT K (("_law_found_right" : Str), (none : Option Str))).2 ≠ (He.cT K (("law" : Str), (none : Option Str))).2)]
def fnD : List He5.DefA := fn
def obsK (K : Fr0) : Bool × List He5.FnW := ((factsL K).all id && fnD.all fun d => d.ok K, fnD.map (fun d => He5.fnA K (d.at_ K)) ++ [He5.fnA K f_Found_init, He5.fnA K f_Barred_init])
def valK : Bool × List He5.FnW := (true, fnD.map He5.DefA.val ++ ([some ("__init__", "Found.__init__", C8.fnArgs s_Found_init, .stmts (C8.fnBody s_Found_init), C8.fnScope s_Found_init, mainGlobals, [(("__class__" : Str), (1151 : Addr))], builtinsNs),
  some ("__init__", "Barred.__init__", C8.fnArgs s_Barred_init, .stmts (C8.fnBody s_Barred_init), C8.fnScope s_Barred_init, mainGlobals, [(("__class__" : Str), (1172 : Addr))], builtinsNs)] : List He5.FnW))
/-! ### the Hook -/
def tf : List He.Defn := [("_law_found_right", none), ("law", none)]
structure SaysY (h : Heap) (K : PySem.W.Frag) : Prop where
  t : obsK K = valK
  hd : ∀ p ∈ tf, PySem.W.codeHdIn K (He.cT K p).1 (He.cT K p).2 = true
  out : ∀ p ∈ tf, K.lookup (He.cT K p).2 = none
  empty : ∀ p ∈ tf, h.get? (He.cT K p).2 = some { cls := .none, data := .fields #[] }
abbrev AlY : Type := (Bool × List He5.FnW) × Bool
abbrev KY (g : Addr → Option Obj) : PySem.W.Frag := He.frT g asL
def obsY (g : Addr → Option Obj) : AlY := (obsK (KY g), He.tabsB g tf (KY g))
def valY : AlY := (valK, true)
theorem saysY_of {h : Heap} (e : obsY h.get? = valY) : SaysY h (KY h.get?) := by
  have e1 : obsK (KY h.get?) = valK := congrArg (fun z : AlY => z.1) e
  have h2 : He.tabsB h.get? tf (KY h.get?) = true := congrArg (fun z : AlY => z.2) e
  have key : ∀ p ∈ tf, PySem.W.codeHdIn (KY h.get?) (He.cT (KY h.get?) p).1 (He.cT (KY h.get?) p).2 = true ∧ ∃ o, h.get? (He.cT (KY h.get?) p).2 = some o ∧ He.emptyTab o = true := fun p hp => by
    obtain ⟨h3, h4⟩ := He.ba (List.all_eq_true.mp h2 p hp)
    refine ⟨h3, ?_⟩
    cases q : h.get? (He.cT (KY h.get?) p).2 with
    | none =>
      rw [q] at h4
      cases h4
    | some o =>
      rw [q] at h4
      exact ⟨o, rfl, h4⟩
  exact ⟨e1, fun p hp => (key p hp).1, fun p hp => by
    obtain ⟨_, o, q, z⟩ := key p hp
    exact He.frT_none q z, fun p hp => by
    obtain ⟨_, o, q, z⟩ := key p hp
    rw [q, He.emptyTab_eq z]⟩
def hkY : PySem.W.Hook where
  α := AlY
  obs := fun s => obsY s.heap.get?
  val := fun _ => valY
  says := fun _ h => ∃ K : PySem.W.Frag, K.In h ∧ SaysY h K
  of := fun _ _ e => ⟨_, He.frT_in, saysY_of e⟩
  keeps := fun _ _ _ ⟨K, hK, c⟩ k => ⟨K, PySem.W.Frag.In.keeps hK k, ⟨c.t, c.hd, c.out, fun p hp => k _ _ (c.empty p hp)⟩⟩
def obY (s : PySem.W.SharedT) : AlY := obsY (HandSHeadRun.getT s)
theorem obY_eq (s : PySem.W.SharedT) : obY s = hkY.obs s.abs := by
  have e : HandSHeadRun.getT s = s.abs.heap.get? := funext (HandSHeadRun.getT_eq s)
  show obsY (HandSHeadRun.getT s) = obsY s.abs.heap.get?
  rw [e]

def names0 : List PySem.Str := (["_wall", "__name__", "DayError", "BadRow", "BadRule", "BadBook", "BadSaying", "BadNumber", "Misfit", "Missing", "NoRule", "NoSaying", "Twice", "Impossible", "TooMany", "BadText", "DIGITS", "is_integer", "is_within", "are_integers", "first_twice", "need_number", "need_numbers", "MOST_DIGITS", "integer_of", "Scan", "MOST_DAYS_rows", "need_row", "need_stretch", "heights_of", "Row", "MOST_LENGTH", "FREE", "need_bound", "are_bounds"] : List String).map PySem.Str.ofString
def names1 : List PySem.Str := (["contrary", "bound_text", "take_bound", "take_rule", "Rule", "LAST_BEGIN", "ANY", "SOME", "JUST", "TOLD", "need_bounds", "is_saying", "need_saying", "sums_in", "Some", "Just", "Told", "need_fit", "take_bounds", "take_told", "take_behind", "take_saying", "read_with", "saying_text", "MOST_DAYS_sayingbooks", "MOST_SAYINGS", "COLON_sayingbooks", "NEXT_sayingbooks", "NONE_sayingbooks", "need_saying_book", "are_sayings", "saying_backwards", "take_sayings", "SayingBook", "MOST_CHOICES"] : List String).map PySem.Str.ofString
def names2 : List PySem.Str := (["begins_of", "all_with", "many_own", "need_few", "multiplied", "own_choices", "lists_of", "together", "steps_in", "ring_at", "row_or_ring", "looked_through", "many_choices", "fixed", "Paper", "Denial", "Found", "Barred", "some_row", "MOST_DAYS_books", "MOST_RULES", "COLON_books", "NEXT_books", "NONE_books", "Empty", "are_rules", "take_rules", "take_book", "are_empty", "empty_pair", "drawn_together", "Book", "led_by", "is_ring", "are_rings"] : List String).map PySem.Str.ofString
def names3 : List PySem.Str := (["is_row_of", "shows_some_row", "_law_urn", "_law_take", "_law_pick", "_law_sums", "_law_within", "_law_keeps", "_law_made", "_law_book", "_law_near", "_law_saying", "_law_many", "_law_many_against", "_law_times", "_law_choices", "_law_together", "_law_led", "_law_is_ring", "_law_are_rings", "_law_rows", "_law_world", "_law_heard", "_law_found_right", "_law_world_right"] : List String).map PySem.Str.ofString
def names : List PySem.Str := names0 ++ names1 ++ names2 ++ names3

abbrev RR : PySem.W.OpenRow := PySem.W.OpenLaw.row PySem.Challenge.rw_anyseven_k88_whole_some_row_or_none
end Y
set_option Elab.async false
set_option linter.all false
set_option maxRecDepth 100000
set_option maxHeartbeats 0
namespace Y
open PySem PySem.Spec PyProof.Rows L2
noncomputable abbrev endY (w : World) (os : OsState) : Option PySem.W.SharedT := HandSHeadRun.endF (HandSHeadRun.stepQ (HandSHeadRun.denQ HandSHeadRun.tabQ) RR.prog w) 20000 RR.prog w os
abbrev viewY : Program := PySem.W.view RR.prog [142]
def okB (K : Fr0) : Bool := fnD.all fun d => d.ok K
def fnsB (K : Fr0) : List He5.FnW := fnD.map (fun d => He5.fnA K (d.at_ K)) ++ [He5.fnA K f_Found_init, He5.fnA K f_Barred_init]
theorem runA1 (w : World) : ∀ os, (endY w os).map (fun s => HandSHeadRun.looksF RR.prog (PySem.W.boot_heap w.params) s.abs) = some (true) := by
  intro os
  kernel_rfl
theorem runA2 (w : World) : ∀ os, (endY w os).map (fun s => HandSHeadRun.seenQ viewY names (importedModules RR.prog.main.body) (fun s => PySem.W.xlAt viewY [] s && PySem.W.recOk RR.toRowW.records s) s.abs) = some (PySem.W.openGood viewY names) := by
  intro os
  kernel_rfl
theorem runB (w : World) : ∀ os, (endY w os).map (fun s => ((factsL (KY (HandSHeadRun.getT s))).take 6).all id) = some (true) := by
  intro os
  kernel_rfl
theorem runC (w : World) : ∀ os, (endY w os).map (fun s => (((factsL (KY (HandSHeadRun.getT s))).drop 6).all id, He.tabsB (HandSHeadRun.getT s) tf (KY (HandSHeadRun.getT s)), fnsB (KY (HandSHeadRun.getT s)))) = some (true, true, valK.2) := by
  intro os
  kernel_rfl
theorem runD (w : World) : ∀ os, (endY w os).map (fun s => okB (KY (HandSHeadRun.getT s))) = some (true) := by
  intro os
  kernel_rfl
end Y
set_option Elab.async false
set_option linter.all false
set_option maxRecDepth 100000
set_option maxHeartbeats 4000000
/-! Lay1: data over a heap that only grows; expressions that evaluate to data. -/
namespace Y
open PySem PySem.Spec PyProof.Rows L2

/-! ### heaps -/
def Ex (H H' : Hp) : Prop := ∀ a o, H a = some o → H' a = some o
theorem Ex.refl (H : Hp) : Ex H H := fun _ _ h => h
theorem Ex.trans {H H1 H2 : Hp} (a : Ex H H1) (b : Ex H1 H2) : Ex H H2 := fun x o h => b x o (a x o h)
theorem Ex.new {H : Hp} {p : Addr} {o : HO} (h : H p = none) : Ex H (upd H p o) := fun a u e => by
  rw [upd_ne (ne_of_none e h)]
  exact e
theorem Ex.back {H H' : Hp} (e : Ex H H') {p : Addr} (h : H' p = none) : H p = none := by
  cases h1 : H p with
  | none => rfl
  | some o =>
    rw [e p o h1] at h
    cases h
theorem Ex.upd {H H' : Hp} (e : Ex H H') {p : Addr} {o : HO} (h : H p = none) : Ex H (upd H' p o) := fun a u ha => by
  rw [upd_ne (ne_of_none ha h)]
  exact e a u ha
def uni (G G' : Hp) : Hp := fun a => match G a with
  | some o => some o
  | none => G' a
theorem uni_l (G G' : Hp) : Ex G (uni G G') := fun a o h => by
  unfold uni
  rw [h]
theorem uni_r {G G' H : Hp} (e : Ex G H) (e' : Ex G' H) : Ex G' (uni G G') := fun a o h => by
  unfold uni
  cases q : G a with
  | none => exact h
  | some u =>
    have h1 := e a u q
    rw [e' a o h] at h1
    exact h1.symm
theorem uni_ex {G G' H : Hp} (e : Ex G H) (e' : Ex G' H) : Ex (uni G G') H := fun a o h => by
  unfold uni at h
  cases q : G a with
  | none =>
    rw [q] at h
    exact e' a o h
  | some u =>
    rw [q] at h
    have : u = o := Option.some.inj h
    rw [← this]
    exact e a u q
theorem uni_none {G G' : Hp} {a : Addr} (h : G a = none) (h' : G' a = none) : uni G G' a = none := by
  unfold uni
  rw [h]
  exact h'
/-- from (G, H) to (G', H'): both grow, what is new in G' is new in H -/
structure Stp (G H G' H' : Hp) : Prop where
  h : Ex H H'
  g : Ex G G'
  gh : Ex G' H'
  new : ∀ a, G a = none → H a ≠ none → G' a = none
theorem Stp.refl {G H : Hp} (e : Ex G H) : Stp G H G H := ⟨Ex.refl _, Ex.refl _, e, fun _ h _ => h⟩
theorem Stp.trans {G H G1 H1 G2 H2 : Hp} (a : Stp G H G1 H1) (b : Stp G1 H1 G2 H2) : Stp G H G2 H2 :=
  ⟨a.h.trans b.h, a.g.trans b.g, b.gh, fun x h n => b.new x (a.new x h n) fun q => n (a.h.back q)⟩
/-- a step from an older base, taken up again -/
theorem Stp.join {G H G1 H1 G2 H2 : Hp} (a : Stp G H G1 H1) (b : Stp G H1 G2 H2) : Stp G1 H1 (uni G1 G2) H2 ∧ Ex G2 (uni G1 G2) := by
  have e1 : Ex G1 H2 := a.gh.trans b.h
  refine ⟨⟨b.h, uni_l _ _, uni_ex e1 b.gh, fun x h n => ?_⟩, uni_r e1 b.gh⟩
  exact uni_none h (b.new x (a.g.back h) n)
theorem Stp.new1 {G H : Hp} (e : Ex G H) {p : Addr} {o : HO} (h : H p = none) : Stp G H (L2.upd G p o) (L2.upd H p o) := by
  refine ⟨Ex.new h, Ex.new (e.back h), fun a u q => ?_, fun a q n => ?_⟩
  · by_cases z : a = p
    · subst z
      rw [upd_same] at q ⊢
      exact q
    · rw [upd_ne z] at q ⊢
      exact e a u q
  · have z : a ≠ p := fun z => n (by rw [z]; exact h)
    rw [upd_ne z]
    exact q

/-! ### data -/
inductive Dt where
  | non | bl (b : Bool) | int (i : Int) | str (x : Str) | lst (ds : List Dt) | tup (ds : List Dt) | obj (c : Cl) (ds : List Dt) | adr (a : Addr) | ty (n : String) | scr (xs : List V)
section
variable (K : PySem.W.Frag) (H : Hp)
mutual
def Rep : V → Dt → Prop
  | v, .non => v = .non
  | v, .bl b => v = .bl b
  | v, .int i => v = .int i
  | v, .str x => v = .str x
  | v, .lst ds => ∃ a xs, v = .ref a ∧ H a = some (.lst xs) ∧ Reps xs ds
  | v, .tup ds => ∃ a xs, v = .ref a ∧ SqT K H a xs ∧ Reps xs ds
  | v, .obj c ds => ∃ a dx xs, v = .ref a ∧ H a = some (.ins (c.ad K) dx (c.fl.zip xs)) ∧ xs.length = c.fl.length ∧ Reps xs ds
  | v, .adr a => v = .ref a
  | v, .ty n => v = .ty n
  | v, .scr xs => ∃ a, v = .ref a ∧ SqL K H a xs
def Reps : List V → List Dt → Prop
  | [], [] => True
  | v :: vs, d :: ds => Rep v d ∧ Reps vs ds
  | _, _ => False
end
end
section
variable {K : PySem.W.Frag} {H H' : Hp}
theorem rd_ex {a : Addr} {u : HO} (e : Ex H H') (h : Rd H a u) : Rd H' a u := by
  rcases h with h | ⟨o, h⟩
  · exact Or.inl (e a _ h)
  · exact Or.inr ⟨o, e a _ h⟩
theorem sqS_ex {a : Addr} {xs : List V} (e : Ex H H') (h : SqL K H a xs) : SqL K H' a xs := by
  rcases h with h | h
  · exact Or.inl (rd_ex e h)
  · exact Or.inr h
theorem sqL_ex {a : Addr} {xs : List V} (e : Ex H H') (h : H a = some (.lst xs)) : SqL K H' a xs := SqL.of (e _ _ h)
theorem sqT_ex {a : Addr} {xs : List V} (e : Ex H H') (h : SqT K H a xs) : SqT K H' a xs := by
  rcases h with h | h
  · exact Or.inl (rd_ex e h)
  · exact Or.inr h
mutual
theorem Rep.ex (e : Ex H H') : ∀ {v : V} {d : Dt}, Rep K H v d → Rep K H' v d
  | _, .non, h => h
  | _, .bl _, h => h
  | _, .int _, h => h
  | _, .str _, h => h
  | _, .lst ds, ⟨a, xs, h1, h2, h3⟩ => ⟨a, xs, h1, e _ _ h2, Reps.ex e h3⟩
  | _, .tup ds, ⟨a, xs, h1, h2, h3⟩ => ⟨a, xs, h1, sqT_ex e h2, Reps.ex e h3⟩
  | _, .obj c ds, ⟨a, dx, xs, h1, h2, h3, h4⟩ => ⟨a, dx, xs, h1, e _ _ h2, h3, Reps.ex e h4⟩
  | _, .adr _, h => h
  | _, .ty _, h => h
  | _, .scr _, ⟨a, h1, h2⟩ => ⟨a, h1, sqS_ex e h2⟩
theorem Reps.ex (e : Ex H H') : ∀ {vs : List V} {ds : List Dt}, Reps K H vs ds → Reps K H' vs ds
  | [], [], _ => True.intro
  | _ :: _, _ :: _, ⟨h, t⟩ => ⟨Rep.ex e h, Reps.ex e t⟩
  | [], _ :: _, h => h.elim
  | _ :: _, [], h => h.elim
end
theorem Reps.length : ∀ {vs : List V} {ds : List Dt}, Reps K H vs ds → vs.length = ds.length
  | [], [], _ => rfl
  | _ :: _, _ :: _, ⟨_, t⟩ => congrArg Nat.succ (Reps.length t)
  | [], _ :: _, h => h.elim
  | _ :: _, [], h => h.elim
theorem Reps.get : ∀ {vs : List V} {ds : List Dt} {i : Nat} {d : Dt}, Reps K H vs ds → ds[i]? = some d → ∃ v, vs[i]? = some v ∧ Rep K H v d
  | _ :: _, _ :: _, 0, _, ⟨h, _⟩, e => by
    simp only [List.getElem?_cons_zero, Option.some.injEq] at e ⊢
    subst e
    exact ⟨_, rfl, h⟩
  | _ :: _, _ :: _, i + 1, _, ⟨_, t⟩, e => by
    simp only [List.getElem?_cons_succ] at e ⊢
    exact Reps.get t e
  | [], [], _, _, _, e => by simp at e
  | [], _ :: _, _, _, h, _ => h.elim
  | _ :: _, [], _, _, h, _ => h.elim
theorem Reps.at : ∀ {vs : List V} {ds : List Dt} {i : Nat} {v : V}, Reps K H vs ds → vs[i]? = some v → ∃ d, ds[i]? = some d ∧ Rep K H v d
  | _ :: _, _ :: _, 0, _, ⟨h, _⟩, e => by
    simp only [List.getElem?_cons_zero, Option.some.injEq] at e ⊢
    subst e
    exact ⟨_, rfl, h⟩
  | _ :: _, _ :: _, i + 1, _, ⟨_, t⟩, e => by
    simp only [List.getElem?_cons_succ] at e ⊢
    exact Reps.at t e
  | [], [], _, _, _, e => by simp at e
  | [], _ :: _, _, _, h, _ => h.elim
  | _ :: _, [], _, _, h, _ => h.elim
theorem Reps.append : ∀ {vs ws : List V} {ds es : List Dt}, Reps K H vs ds → Reps K H ws es → Reps K H (vs ++ ws) (ds ++ es)
  | [], _, [], _, _, s => s
  | _ :: _, _, _ :: _, _, ⟨h, t⟩, s => ⟨h, Reps.append t s⟩
  | [], _, _ :: _, _, h, _ => h.elim
  | _ :: _, _, [], _, h, _ => h.elim
theorem Reps.one {v : V} {d : Dt} (h : Rep K H v d) : Reps K H [v] [d] := ⟨h, True.intro⟩
theorem Reps.set : ∀ {vs : List V} {ds : List Dt} {v : V} {d : Dt} (i : Nat), Reps K H vs ds → Rep K H v d → Reps K H (vs.set i v) (ds.set i d)
  | [], [], _, _, _, _, _ => True.intro
  | _ :: _, _ :: _, _, _, 0, ⟨_, t⟩, r => ⟨r, t⟩
  | _ :: _, _ :: _, _, _, i + 1, ⟨h, t⟩, r => ⟨h, Reps.set i t r⟩
  | [], _ :: _, _, _, _, h, _ => h.elim
  | _ :: _, [], _, _, _, h, _ => h.elim
theorem Reps.take : ∀ {vs : List V} {ds : List Dt} (n : Nat), Reps K H vs ds → Reps K H (vs.take n) (ds.take n)
  | _, _, 0, _ => by simp [Reps]
  | [], [], n + 1, _ => True.intro
  | _ :: _, _ :: _, n + 1, ⟨h, t⟩ => ⟨h, Reps.take n t⟩
  | [], _ :: _, _ + 1, h => h.elim
  | _ :: _, [], _ + 1, h => h.elim
theorem Reps.drop : ∀ {vs : List V} {ds : List Dt} (n : Nat), Reps K H vs ds → Reps K H (vs.drop n) (ds.drop n)
  | _, _, 0, h => by simpa using h
  | [], [], n + 1, _ => True.intro
  | _ :: _, _ :: _, n + 1, ⟨_, t⟩ => Reps.drop n t
  | [], _ :: _, _ + 1, h => h.elim
  | _ :: _, [], _ + 1, h => h.elim
theorem Reps.reverse : ∀ {vs : List V} {ds : List Dt}, Reps K H vs ds → Reps K H vs.reverse ds.reverse
  | [], [], _ => True.intro
  | _ :: _, _ :: _, ⟨h, t⟩ => by
    rw [List.reverse_cons, List.reverse_cons]
    exact Reps.append (Reps.reverse t) (Reps.one h)
  | [], _ :: _, h => h.elim
  | _ :: _, [], h => h.elim
theorem Reps.repl {v : V} {d : Dt} (h : Rep K H v d) : ∀ n : Nat, Reps K H (List.replicate n v) (List.replicate n d)
  | 0 => True.intro
  | n + 1 => ⟨h, Reps.repl h n⟩
theorem reps_ints : ∀ (ns : List Int), Reps K H (ns.map V.int) (ns.map Dt.int)
  | [] => True.intro
  | _ :: r => ⟨rfl, reps_ints r⟩
theorem Reps.ints : ∀ {vs : List V} {ns : List Int}, Reps K H vs (ns.map Dt.int) → vs = ns.map V.int
  | [], [], _ => rfl
  | _ :: _, _ :: _, ⟨h, t⟩ => by
    have h : _ = V.int _ := h
    rw [h, Reps.ints t]
    rfl
  | [], _ :: _, h => h.elim
  | _ :: _, [], h => h.elim
theorem Reps.bls : ∀ {vs : List V} {ns : List Bool}, Reps K H vs (ns.map Dt.bl) → vs = ns.map V.bl
  | [], [], _ => rfl
  | _ :: _, _ :: _, ⟨h, t⟩ => by
    have h : _ = V.bl _ := h
    rw [h, Reps.bls t]
    rfl
  | [], _ :: _, h => h.elim
  | _ :: _, [], h => h.elim
end

/-! ### slots -/
structure Slo (K : PySem.W.Frag) (G : Hp) (σ : L2.St) (ds : List (Option Dt)) : Prop where
  len : σ.length = ds.length
  at_ : ∀ (i : Nat) (d : Dt), ds[i]? = some (some d) → ∃ v, σ[i]? = some (some v) ∧ Rep K G v d
section
variable {K : PySem.W.Frag} {G G' : Hp} {σ : L2.St} {ds ds' : List (Option Dt)}
theorem Slo.ex (e : Ex G G') (h : Slo K G σ ds) : Slo K G' σ ds := ⟨h.len, fun i d q => by
  obtain ⟨v, e1, r⟩ := h.at_ i d q
  exact ⟨v, e1, r.ex e⟩⟩
theorem Slo.set (h : Slo K G σ ds) (i : Nat) {v : V} {d : Dt} (r : Rep K G v d) : Slo K G (σ.set i (some v)) (ds.set i (some d)) := by
  refine ⟨by rw [List.length_set, List.length_set, h.len], fun j e q => ?_⟩
  by_cases z : i = j
  · subst z
    rw [List.getElem?_set] at q
    simp only [if_true] at q
    split at q
    · have e1 : d = e := Option.some.inj (Option.some.inj q)
      subst e1
      refine ⟨v, ?_, r⟩
      rw [List.getElem?_set_self (by rw [h.len]; assumption)]
    · cases q
  · rw [List.getElem?_set_ne z] at q ⊢
    exact h.at_ j e q
/-- forgetting slots -/
theorem Slo.weak (h : Slo K G σ ds) (l : ds'.length = ds.length) (w : ∀ (i : Nat) (d : Dt), ds'[i]? = some (some d) → ds[i]? = some (some d)) : Slo K G σ ds' :=
  ⟨h.len.trans l.symm, fun i d q => h.at_ i d (w i d q)⟩
end
/-- a list of ours at l, not yet data -/
def Own (K : PySem.W.Frag) (H0 G H : Hp) (l : Addr) (items : List Dt) : Prop := ∃ vs, H l = some (.lst vs) ∧ Reps K G vs items ∧ G l = none ∧ H0 l = none
theorem Own.stp {K : PySem.W.Frag} {H0 G H G' H' : Hp} {l : Addr} {items : List Dt} (o : Own K H0 G H l items) (s : Stp G H G' H') : Own K H0 G' H' l items := by
  obtain ⟨vs, h1, h2, h3, h4⟩ := o
  exact ⟨vs, s.h _ _ h1, h2.ex s.g, s.new l h3 (by rw [h1]; simp), h4⟩
/-- the state of a def's body: from the entry (G0, H0) to (G, H); the slots hold ds; ow: lists of ours -/
structure Sta (K : PySem.W.Frag) (G0 H0 : Hp) (ds : List (Option Dt)) (ow : List (Addr × List Dt)) (σ : L2.St) (G H : Hp) : Prop where
  st : Stp G0 H0 G H
  env : Slo K G σ ds
  own : ∀ p ∈ ow, Own K H0 G H p.1 p.2
  nd : (ow.map (·.1)).Nodup
theorem Sta.stp {K : PySem.W.Frag} {G0 H0 G H G' H' : Hp} {ds : List (Option Dt)} {ow : List (Addr × List Dt)} {σ : L2.St} (s : Sta K G0 H0 ds ow σ G H) (t : Stp G H G' H') : Sta K G0 H0 ds ow σ G' H' :=
  ⟨s.st.trans t, s.env.ex t.g, fun p hp => (s.own p hp).stp t, s.nd⟩
theorem Sta.ex {K : PySem.W.Frag} {G0 H0 G H : Hp} {ds : List (Option Dt)} {ow : List (Addr × List Dt)} {σ : L2.St} (s : Sta K G0 H0 ds ow σ G H) : Ex G H := s.st.gh

/-! ### expressions -/
def wpE (X : Cx) (e : Expr) : TE := fun σ H Q => ∀ (pins : List (Addr × Obj)) (s : Shared), Inv X pins σ H s → wpAny (model X.prog X.w) X.A (eval e X.env) (EP X pins σ Q) X.xe s
def wpT (X : Cx) (e : Expr) : TT := fun σ H Q => ∀ (pins : List (Addr × Obj)) (s : Shared), Inv X pins σ H s → wpAny (model X.prog X.w) X.A (isTrue e X.env (eval e X.env)) (TP X pins σ Q) X.xe s
def wpW (X : Cx) (e : Expr) : TT := fun σ H Q => ∀ (whole : Sem Value) (pins : List (Addr × Obj)) (s : Shared), Inv X pins σ H s → wpAny (model X.prog X.w) X.A (isTrue e X.env whole) (TP X pins σ Q) X.xe s
def wpA (X : Cx) (es : List Expr) : TA := fun σ H Q => ∀ (pos : Pos) (pins : List (Addr × Obj)) (s : Shared), Inv X pins σ H s → wpAny (model X.prog X.w) X.A (spliced (backTo pos (starEach es X.env))) (AP X pins σ Q) X.xe s
def wpS (X : Cx) (st : Stmt) : TS := fun D σ H => ∀ (pins : List (Addr × Obj)) (s : Shared), Inv X pins σ H s → wpAny (model X.prog X.w) X.A (exec st X.env) (SP X pins D) X.xe s
def wpB (X : Cx) (st : List Stmt) : TS := fun D σ H => ∀ (pins : List (Addr × Obj)) (s : Shared), Inv X pins σ H s → wpAny (model X.prog X.w) X.A (execs st X.env) (SP X pins D) X.xe s
section
variable {X : Cx} {e : Expr} {es : List Expr} {st : Stmt} {sts : List Stmt}
theorem pe_wp : PE X e (wpE X e) := ⟨fun pins s _ _ _ I h => h pins s I⟩
theorem pt_wp : PT X e (wpT X e) := ⟨fun pins s _ _ _ I h => h pins s I⟩
theorem pw_wp : PW X e (wpW X e) := ⟨fun w pins s _ _ _ I h => h w pins s I⟩
theorem pa_wp : PA X es (wpA X es) := ⟨fun pos pins s _ _ _ I h => h pos pins s I⟩
theorem ps_wp : PS X st (wpS X st) := ⟨fun pins s _ _ _ I h => h pins s I⟩
theorem pb_wp : PSs X sts (wpB X sts) := ⟨fun pins s _ _ _ I h => h pins s I⟩
theorem wpE_of {t : TE} (p : PE X e t) {σ : L2.St} {H : Hp} {Q : VK} (h : t σ H Q) : wpE X e σ H Q := fun pins s I => p.run pins s σ H Q I h
theorem wpT_of {t : TT} (p : PT X e t) {σ : L2.St} {H : Hp} {Q : Bool → Hp → Prop} (h : t σ H Q) : wpT X e σ H Q := fun pins s I => p.run pins s σ H Q I h
theorem wpW_of {t : TT} (p : PW X e t) {σ : L2.St} {H : Hp} {Q : Bool → Hp → Prop} (h : t σ H Q) : wpW X e σ H Q := fun w pins s I => p.run w pins s σ H Q I h
theorem wpA_of {t : TA} (p : PA X es t) {σ : L2.St} {H : Hp} {Q : List V → Hp → Prop} (h : t σ H Q) : wpA X es σ H Q := fun pos pins s I => p.run pos pins s σ H Q I h
theorem wpS_of {t : TS} (p : PS X st t) {σ : L2.St} {H : Hp} {D : Ends} (h : t D σ H) : wpS X st D σ H := fun pins s I => p.run pins s σ H D I h
theorem wpB_of {t : TS} (p : PSs X sts t) {σ : L2.St} {H : Hp} {D : Ends} (h : t D σ H) : wpB X sts D σ H := fun pins s I => p.run pins s σ H D I h
end
/-- e gives the data d -/
def Rn (X : Cx) (e : Expr) (σ : L2.St) (G H : Hp) (d : Dt) : Prop :=
  ∀ H1, Ex H H1 → ∀ Q : VK, (∀ v G2 H2, Stp G H1 G2 H2 → Rep X.K G2 v d → Q v H2) → wpE X e σ H1 Q
def RnA (X : Cx) (es : List Expr) (σ : L2.St) (G H : Hp) (ds : List Dt) : Prop :=
  ∀ H1, Ex H H1 → ∀ Q : List V → Hp → Prop, (∀ vs G2 H2, Stp G H1 G2 H2 → Reps X.K G2 vs ds → Q vs H2) → wpA X es σ H1 Q
def RnT (X : Cx) (e : Expr) (σ : L2.St) (G H : Hp) (b : Bool) : Prop :=
  ∀ H1, Ex H H1 → ∀ Q : Bool → Hp → Prop, (∀ G2 H2, Stp G H1 G2 H2 → Q b H2) → wpT X e σ H1 Q
def RnW (X : Cx) (e : Expr) (σ : L2.St) (G H : Hp) (b : Bool) : Prop :=
  ∀ H1, Ex H H1 → ∀ Q : Bool → Hp → Prop, (∀ G2 H2, Stp G H1 G2 H2 → Q b H2) → wpW X e σ H1 Q
theorem Stp.up {G H H2 : Hp} (s : Ex G H) (e : Ex H H2) : Stp G H G H2 := ⟨e, Ex.refl _, s.trans e, fun _ h _ => h⟩
theorem Stp.under {G H G2 H1 H2 : Hp} (s : Stp G H1 G2 H2) (e : Ex H H1) : Stp G H G2 H2 := ⟨e.trans s.h, s.g, s.gh, fun a h n => s.new a h fun q => n (e.back q)⟩
section
variable {X : Cx} {σ : L2.St} {G H G1 H1 : Hp} {d d1 d2 d3 : Dt} {ds ds1 ds2 : List Dt} {a b c e : Expr} {es : List Expr} {pos : Pos} {k k1 k2 : Bool}
theorem Rn.mono (s : Stp G H G1 H1) (h : Rn X e σ G H d) : Rn X e σ G1 H1 d := fun H2 e2 Q k => h H2 (s.h.trans e2) Q fun v G3 H3 s3 r => by
  obtain ⟨j, u⟩ := (show Stp G H G1 H2 from ⟨s.h.trans e2, s.g, s.gh.trans e2, s.new⟩).join s3
  exact k v _ H3 j (r.ex u)
theorem RnA.mono (s : Stp G H G1 H1) (h : RnA X es σ G H ds) : RnA X es σ G1 H1 ds := fun H2 e2 Q k => h H2 (s.h.trans e2) Q fun v G3 H3 s3 r => by
  obtain ⟨j, u⟩ := (show Stp G H G1 H2 from ⟨s.h.trans e2, s.g, s.gh.trans e2, s.new⟩).join s3
  exact k v _ H3 j (r.ex u)
theorem RnT.mono (s : Stp G H G1 H1) (h : RnT X e σ G H k) : RnT X e σ G1 H1 k := fun H2 e2 Q k => h H2 (s.h.trans e2) Q fun G3 H3 s3 => by
  obtain ⟨j, u⟩ := (show Stp G H G1 H2 from ⟨s.h.trans e2, s.g, s.gh.trans e2, s.new⟩).join s3
  exact k _ H3 j
theorem RnW.mono (s : Stp G H G1 H1) (h : RnW X e σ G H k) : RnW X e σ G1 H1 k := fun H2 e2 Q k => h H2 (s.h.trans e2) Q fun G3 H3 s3 => by
  obtain ⟨j, u⟩ := (show Stp G H G1 H2 from ⟨s.h.trans e2, s.g, s.gh.trans e2, s.new⟩).join s3
  exact k _ H3 j
theorem rn_to (h : Rn X e σ G H d1) (q : d1 = d2) : Rn X e σ G H d2 := q ▸ h
theorem rt_to (h : RnT X e σ G H k1) (q : k1 = k2) : RnT X e σ G H k2 := q ▸ h
/-- from a reading that needs nothing else -/
theorem rn_of {t : TE} (s : Ex G H) (p : PE X e t) (q : ∀ H1, Ex H H1 → Ex G H1 → ∀ Q : VK, (∀ v G2 H2, Stp G H1 G2 H2 → Rep X.K G2 v d → Q v H2) → t σ H1 Q) : Rn X e σ G H d := fun H1 e1 Q k => wpE_of p (q H1 e1 (s.trans e1) Q k)
/-- two in a row -/
theorem two (ha : Rn X a σ G H d1) (hb : Rn X b σ G H d2) {H1 : Hp} (e1 : Ex H H1) {R : V → V → Hp → Prop}
    (k : ∀ x y G2 H2, Stp G H1 G2 H2 → Rep X.K G2 x d1 → Rep X.K G2 y d2 → R x y H2) : wpE X a σ H1 fun x H2 => wpE X b σ H2 fun y H3 => R x y H3 :=
  ha H1 e1 _ fun x G2 H2 s2 rx => hb H2 (e1.trans s2.h) _ fun y G3 H3 s3 ry => by
    obtain ⟨j, u⟩ := s2.join s3
    exact k x y _ H3 (s2.trans j) (rx.ex (uni_l _ _)) (ry.ex u)

theorem rn_int {i : Int} {j : Nat} (s : Ex G H) : Rn X (.Constant (.int i) j pos) σ G H (.int i) := rn_of s pe_int fun H1 e eg Q k => k _ G H1 (Stp.refl eg) rfl
theorem rn_bl {i : Bool} {j : Nat} (s : Ex G H) : Rn X (.Constant (.bool i) j pos) σ G H (.bl i) := rn_of s pe_bl fun H1 e eg Q k => k _ G H1 (Stp.refl eg) rfl
theorem rn_non {j : Nat} (s : Ex G H) : Rn X (.Constant .none j pos) σ G H .non := rn_of s pe_non fun H1 e eg Q k => k _ G H1 (Stp.refl eg) rfl
theorem rn_str {x : Str} {j : Nat} (s : Ex G H) : Rn X (.Constant (.str x) j pos) σ G H (.str x) := rn_of s pe_str fun H1 e eg Q k => k _ G H1 (Stp.refl eg) rfl
theorem rn_var {G0 H0 : Hp} {dss : List (Option Dt)} {ow : List (Addr × List Dt)} (s : Sta X.K G0 H0 dss ow σ G H) (i : Nat) {x : Str} (h : dss[i]? = some (some d) := by rfl) (hN : X.N[i]? = some x := by rfl)
    (hv : Vis X.env.scope x := by first | exact Or.inl rfl | exact Or.inr (Or.inl rfl) | exact Or.inr (Or.inr rfl)) (hd : (x == ("__debug__" : Str)) = false := by decide) (hcd : (x == ("__classdict__" : Str)) = false := by decide) : Rn X (.Name x pos) σ G H d :=
  rn_of s.ex (pe_var hN hv hd hcd) fun H1 e eg Q k => by
    obtain ⟨v, e1, r⟩ := s.env.at_ i d h
    exact ⟨v, e1, k v G H1 (Stp.refl eg) r⟩
/-- a global that holds a scalar -/
theorem rn_glob {x : Str} {v : V} {u : Value} (s : Ex G H) (hg : Gl X x) (hm : X.mg x = some u) (r : RelV v u) (rd : ∀ G, Rep X.K G v d) (hd : (x == ("__debug__" : Str)) = false := by decide) : Rn X (.Name x pos) σ G H d :=
  rn_of s (pe_glob hg hm r hd) fun H1 e eg Q k => k v G H1 (Stp.refl eg) (rd G)

/-! ### operators -/
theorem rn_op {op : Operator} {r : R2} (ho : OpR X (binaryOp op) r) (ha : Rn X a σ G H d1) (hb : Rn X b σ G H d2)
    (hr : ∀ x y G2 H2, Stp G H G2 H2 → Rep X.K G2 x d1 → Rep X.K G2 y d2 → ∀ Q : VK, (∀ v G3 H3, Stp G2 H2 G3 H3 → Rep X.K G3 v d → Q v H3) → r x y H2 Q) : Rn X (.BinOp a op b pos) σ G H d := fun H1 e Q k =>
  wpE_of (pe_op ho pe_wp pe_wp) (two ha hb e fun x y G2 H2 s2 rx ry => hr x y G2 H2 (s2.under e) rx ry Q fun v G3 H3 s3 rv => k v G3 H3 (s2.trans s3) rv)
/-- a comparison -/
def RnC (X : Cx) (op : CmpOp) (a b : Expr) (σ : L2.St) (G H : Hp) (d : Dt) : Prop :=
  behindInMarks op b = false ∧ ∃ r : R2, OpR X (compareOp op) r ∧ ∀ H1, Ex H H1 → ∀ Q : VK, (∀ v G2 H2, Stp G H1 G2 H2 → Rep X.K G2 v d → Q v H2) → wpE X a σ H1 fun x H2 => wpE X b σ H2 fun y H3 => r x y H3 Q
theorem rc_v {op : CmpOp} (h : RnC X op a b σ G H d) : Rn X (.Compare a [op] [b] pos) σ G H d := fun H1 e Q k => by
  obtain ⟨hm, r, ho, q⟩ := h
  exact wpE_of (pe_cmpR ho pe_wp pe_wp hm) (q H1 e Q k)
theorem rc_t {op : CmpOp} {b1 : Bool} (h : RnC X op a b σ G H (.bl b1)) : RnT X (.Compare a [op] [b] pos) σ G H b1 := fun H1 e Q k => by
  obtain ⟨hm, r, ho, q⟩ := h
  exact wpT_of (pt_cmpR ho pe_wp pe_wp hm) (q H1 e _ fun v G2 H2 s2 rv => ⟨b1, rv, k G2 H2 s2⟩)
theorem rc_of {op : CmpOp} {r : R2} (ho : OpR X (compareOp op) r) (hm : behindInMarks op b = false) (ha : Rn X a σ G H d1) (hb : Rn X b σ G H d2)
    (hr : ∀ x y G2 H2, Stp G H G2 H2 → Rep X.K G2 x d1 → Rep X.K G2 y d2 → ∀ Q : VK, (∀ v G3 H3, Stp G2 H2 G3 H3 → Rep X.K G3 v d → Q v H3) → r x y H2 Q) : RnC X op a b σ G H d :=
  ⟨hm, r, ho, fun H1 e Q k => two ha hb e fun x y G2 H2 s2 rx ry => hr x y G2 H2 (s2.under e) rx ry Q fun v G3 H3 s3 rv => k v G3 H3 (s2.trans s3) rv⟩
theorem rn_opI0 {op : Operator} {g : Int → Int → Int} {i j : Int} (ho : OpR X (binaryOp op) (rI0 fun i j => .int (g i j))) (ha : Rn X a σ G H (.int i)) (hb : Rn X b σ G H (.int j)) : Rn X (.BinOp a op b pos) σ G H (.int (g i j)) :=
  rn_op ho ha hb fun x y G2 H2 s rx ry Q k => ⟨i, j, rx, ry, k _ _ _ (Stp.refl s.gh) rfl⟩
theorem rn_opI {op : Operator} {C : Int → Int → Prop} {g : Int → Int → Int} {i j : Int} (ho : OpR X (binaryOp op) (rI C fun i j => .int (g i j))) (ha : Rn X a σ G H (.int i)) (hb : Rn X b σ G H (.int j)) (hc : C i j) : Rn X (.BinOp a op b pos) σ G H (.int (g i j)) :=
  rn_op ho ha hb fun x y G2 H2 s rx ry Q k => ⟨i, j, rx, ry, hc, k _ _ _ (Stp.refl s.gh) rfl⟩
theorem rn_add {i j : Int} (ha : Rn X a σ G H (.int i)) (hb : Rn X b σ G H (.int j)) : Rn X (.BinOp a .Add b pos) σ G H (.int (i + j)) := rn_opI0 (g := fun i j => i + j) op_add ha hb
theorem rn_sub {i j : Int} (ha : Rn X a σ G H (.int i)) (hb : Rn X b σ G H (.int j)) : Rn X (.BinOp a .Sub b pos) σ G H (.int (i - j)) := rn_opI0 (g := fun i j => i - j) op_sub ha hb
theorem rn_mul {i j : Int} (ha : Rn X a σ G H (.int i)) (hb : Rn X b σ G H (.int j)) (hc : CMul i j) : Rn X (.BinOp a .Mult b pos) σ G H (.int (i * j)) := rn_opI (g := fun i j => i * j) op_mul ha hb hc
theorem rn_mod {i j : Int} (ha : Rn X a σ G H (.int i)) (hb : Rn X b σ G H (.int j)) (hc : 0 < j) : Rn X (.BinOp a .Mod b pos) σ G H (.int (i % j)) := rn_opI (g := fun i j => i % j) op_mod ha hb hc
theorem rn_neg {i : Int} (ha : Rn X a σ G H (.int i)) : Rn X (.UnaryOp .USub a pos) σ G H (.int (-i)) := fun H1 e Q k =>
  wpE_of (pe_un un_neg pe_wp) (ha H1 e _ fun v G2 H2 s2 r => ⟨i, r, k _ G2 H2 s2 rfl⟩)
theorem rc_I {op : CmpOp} {g : Int → Int → Bool} {i j : Int} (ho : OpR X (compareOp op) (rI0 fun i j => .bl (g i j))) (hm : behindInMarks op b = false) (ha : Rn X a σ G H (.int i)) (hb : Rn X b σ G H (.int j)) : RnC X op a b σ G H (.bl (g i j)) :=
  rc_of ho hm ha hb fun x y G2 H2 s rx ry Q k => ⟨i, j, rx, ry, k _ _ _ (Stp.refl s.gh) rfl⟩
theorem rc_lt {i j : Int} (ha : Rn X a σ G H (.int i)) (hb : Rn X b σ G H (.int j)) : RnC X .Lt a b σ G H (.bl (decide (i < j))) := rc_I (g := fun i j => decide (i < j)) op_lt (nomark _) ha hb
theorem rc_le {i j : Int} (ha : Rn X a σ G H (.int i)) (hb : Rn X b σ G H (.int j)) : RnC X .LtE a b σ G H (.bl (decide (i ≤ j))) := rc_I (g := fun i j => decide (i ≤ j)) op_le (nomark _) ha hb
theorem rc_gt {i j : Int} (ha : Rn X a σ G H (.int i)) (hb : Rn X b σ G H (.int j)) : RnC X .Gt a b σ G H (.bl (decide (j < i))) := rc_I (g := fun i j => decide (j < i)) op_gt (nomark _) ha hb
theorem rc_ge {i j : Int} (ha : Rn X a σ G H (.int i)) (hb : Rn X b σ G H (.int j)) : RnC X .GtE a b σ G H (.bl (decide (j ≤ i))) := rc_I (g := fun i j => decide (j ≤ i)) op_ge (nomark _) ha hb
/-- scalars -/
def Dt.sv : Dt → Option V
  | .non => some .non
  | .bl b => some (.bl b)
  | .int i => some (.int i)
  | .str x => some (.str x)
  | _ => none
theorem rep_sv {K : PySem.W.Frag} {G : Hp} {v w : V} {d : Dt} (h : d.sv = some w) (r : Rep K G v d) : v = w := by
  cases d with
  | non => cases h; exact r
  | bl b => cases h; exact r
  | int i => cases h; exact r
  | str x => cases h; exact r
  | _ => cases h
theorem rc_eqS {x y : V} (ha : Rn X a σ G H d1) (hb : Rn X b σ G H d2) (h1 : d1.sv = some x := by rfl) (h2 : d2.sv = some y := by rfl) (hs : scal x y = true := by rfl) : RnC X .Eq a b σ G H (.bl (decide (x = y))) :=
  rc_of op_eq (nomark _) ha hb fun v w G2 H2 s rx ry Q k => by
    rw [rep_sv h1 rx, rep_sv h2 ry]
    exact ⟨hs, k _ _ _ (Stp.refl s.gh) rfl⟩
theorem rc_neS {x y : V} (ha : Rn X a σ G H d1) (hb : Rn X b σ G H d2) (h1 : d1.sv = some x := by rfl) (h2 : d2.sv = some y := by rfl) (hs : scal x y = true := by rfl) : RnC X .NotEq a b σ G H (.bl (!decide (x = y))) :=
  rc_of op_ne (nomark _) ha hb fun v w G2 H2 s rx ry Q k => by
    rw [rep_sv h1 rx, rep_sv h2 ry]
    exact ⟨hs, k _ _ _ (Stp.refl s.gh) rfl⟩
theorem rc_to {op : CmpOp} (h : RnC X op a b σ G H d1) (q : d1 = d2) : RnC X op a b σ G H d2 := q ▸ h
theorem decI {i j : Int} : decide (V.int i = V.int j) = decide (i = j) := by
  by_cases h : i = j
  · subst h; simp
  · rw [decide_eq_false h, decide_eq_false fun q => h (V.int.inj q)]
theorem decS {i j : Str} : decide (V.str i = V.str j) = decide (i = j) := by
  by_cases h : i = j
  · subst h; simp
  · rw [decide_eq_false h, decide_eq_false fun q => h (V.str.inj q)]
theorem rc_eqI {i j : Int} (ha : Rn X a σ G H (.int i)) (hb : Rn X b σ G H (.int j)) : RnC X .Eq a b σ G H (.bl (decide (i = j))) := rc_to (rc_eqS ha hb) (by rw [decI])
theorem rc_neI {i j : Int} (ha : Rn X a σ G H (.int i)) (hb : Rn X b σ G H (.int j)) : RnC X .NotEq a b σ G H (.bl (!decide (i = j))) := rc_to (rc_neS ha hb) (by rw [decI])
theorem rc_eqT {i j : Str} (ha : Rn X a σ G H (.str i)) (hb : Rn X b σ G H (.str j)) : RnC X .Eq a b σ G H (.bl (decide (i = j))) := rc_to (rc_eqS ha hb) (by rw [decS])
theorem rc_neT {i j : Str} (ha : Rn X a σ G H (.str i)) (hb : Rn X b σ G H (.str j)) : RnC X .NotEq a b σ G H (.bl (!decide (i = j))) := rc_to (rc_neS ha hb) (by rw [decS])
/-- is None -/
def Dt.isN : Dt → Bool
  | .non => true
  | _ => false
theorem rep_isN {K : PySem.W.Frag} {G : Hp} {v : V} {d : Dt} (r : Rep K G v d) : decide (v = .non) = d.isN := by
  cases d with
  | non =>
    have r : v = .non := r
    rw [r] <;> rfl
  | bl b =>
    have r : v = .bl b := r
    rw [r] <;> rfl
  | int i =>
    have r : v = .int i := r
    rw [r] <;> rfl
  | str x =>
    have r : v = .str x := r
    rw [r] <;> rfl
  | lst ds =>
    obtain ⟨a, xs, e, _⟩ := r
    rw [e] <;> rfl
  | tup ds =>
    obtain ⟨a, xs, e, _⟩ := r
    rw [e] <;> rfl
  | obj c ds =>
    obtain ⟨a, xs, z, e, _⟩ := r
    rw [e] <;> rfl
  | adr a =>
    have r : v = .ref a := r
    rw [r] <;> rfl
  | ty n =>
    have r : v = .ty n := r
    rw [r] <;> rfl
  | scr xs =>
    obtain ⟨a, e, _⟩ := r
    rw [e] <;> rfl
theorem rc_isN {j pos'} (s : Ex G H) (ha : Rn X a σ G H d) : RnC X .Is a (.Constant .none j pos') σ G H (.bl d.isN) :=
  rc_of op_isN (nomark _) ha (rn_non s) fun v w G2 H2 s rx ry Q k => ⟨ry, by rw [rep_isN rx]; exact k _ _ _ (Stp.refl s.gh) rfl⟩
theorem rc_notN {j pos'} (s : Ex G H) (ha : Rn X a σ G H d) : RnC X .IsNot a (.Constant .none j pos') σ G H (.bl (!d.isN)) :=
  rc_of op_notN (nomark _) ha (rn_non s) fun v w G2 H2 s rx ry Q k => ⟨ry, by rw [rep_isN rx]; exact k _ _ _ (Stp.refl s.gh) rfl⟩

/-! ### tests -/
theorem rt_v (ha : Rn X a σ G H (.bl k)) (he : ∀ whole, isTrue a X.env whole = (do let v ← whole; standAt a.pos; holding [v] (truthy v)) := by intro _; rfl) : RnT X a σ G H k := fun H1 e Q q =>
  wpT_of (pt_val pe_wp he) (ha H1 e _ fun v G2 H2 s r => ⟨k, r, q G2 H2 s⟩)
theorem rt_not (ha : RnT X a σ G H k) : RnT X (.UnaryOp .Not a pos) σ G H (!k) := fun H1 e Q q => wpT_of (pt_not pt_wp) (ha H1 e _ fun G2 H2 s => q G2 H2 s)
theorem rw_and1 (ha : RnT X a σ G H k) : RnW X (.BoolOp .And [a] pos) σ G H k := fun H1 e Q q => wpW_of (pw_and1 pt_wp) (ha H1 e _ q)
theorem rw_or1 (ha : RnT X a σ G H k) : RnW X (.BoolOp .Or [a] pos) σ G H k := fun H1 e Q q => wpW_of (pw_or1 pt_wp) (ha H1 e _ q)
theorem rw_and (ha : RnT X a σ G H k1) (hb : k1 = true → RnW X (.BoolOp .And (b :: es) pos) σ G H k2) : RnW X (.BoolOp .And (a :: b :: es) pos) σ G H (k1 && k2) := fun H1 e Q q =>
  wpW_of (pw_and pt_wp pw_wp) (ha H1 e _ fun G2 H2 s => by
    cases k1 with
    | true => exact iteT (hb rfl H2 (e.trans s.h) _ fun G3 H3 s3 => q _ _ (s.trans (s.join s3).1))
    | false => exact iteF (q G2 H2 s))
theorem rw_or (ha : RnT X a σ G H k1) (hb : k1 = false → RnW X (.BoolOp .Or (b :: es) pos) σ G H k2) : RnW X (.BoolOp .Or (a :: b :: es) pos) σ G H (k1 || k2) := fun H1 e Q q =>
  wpW_of (pw_or pt_wp pw_wp) (ha H1 e _ fun G2 H2 s => by
    cases k1 with
    | true => exact iteT (q G2 H2 s)
    | false => exact iteF (hb rfl H2 (e.trans s.h) _ fun G3 H3 s3 => q _ _ (s.trans (s.join s3).1)))
theorem rt_w (h : RnW X e σ G H k) : RnT X e σ G H k := fun H1 e1 Q q => wpT_of (PW.pt pw_wp) (h H1 e1 Q q)
/-! .. as values -/
theorem rn_one {op : PySem.BoolOp} (h : Rn X a σ G H d) : Rn X (.BoolOp op [a] pos) σ G H d := fun H1 e Q k => wpE_of (pe_one pe_wp) (h H1 e Q k)
theorem rn_and (ha : Rn X a σ G H (.bl k)) (h0 : k = false → d = .bl false) (hb : k = true → Rn X (.BoolOp .And (b :: es) pos) σ G H d) : Rn X (.BoolOp .And (a :: b :: es) pos) σ G H d := fun H1 e Q q =>
  wpE_of (pe_and pe_wp pe_wp) (ha H1 e _ fun v G2 H2 s r => ⟨k, r, by
    cases k with
    | true => exact iteT (hb rfl H2 (e.trans s.h) _ fun v G3 H3 s3 rv => q v _ _ (s.trans (s.join s3).1) (rv.ex (s.join s3).2))
    | false => exact iteF (q _ G2 H2 s (by rw [h0 rfl] <;> rfl))⟩)
theorem rn_or (ha : Rn X a σ G H (.bl k)) (h0 : k = true → d = .bl true) (hb : k = false → Rn X (.BoolOp .Or (b :: es) pos) σ G H d) : Rn X (.BoolOp .Or (a :: b :: es) pos) σ G H d := fun H1 e Q q =>
  wpE_of (pe_or pe_wp pe_wp) (ha H1 e _ fun v G2 H2 s r => ⟨k, r, by
    cases k with
    | false => exact iteF (hb rfl H2 (e.trans s.h) _ fun v G3 H3 s3 rv => q v _ _ (s.trans (s.join s3).1) (rv.ex (s.join s3).2))
    | true => exact iteT (q _ G2 H2 s (by rw [h0 rfl] <;> rfl))⟩)
theorem rn_not (ha : Rn X a σ G H (.bl k)) : Rn X (.UnaryOp .Not a pos) σ G H (.bl (!k)) := fun H1 e Q q => wpE_of (pe_not pe_wp) (ha H1 e _ fun v G2 H2 s r => ⟨k, r, q _ G2 H2 s rfl⟩)
theorem rn_if (hc : RnT X c σ G H k) (h1 : k = true → Rn X a σ G H d) (h2 : k = false → Rn X b σ G H d) : Rn X (.IfExp c a b pos) σ G H d := fun H1 e Q q =>
  wpE_of (pe_ifExp pt_wp pe_wp pe_wp) (hc H1 e _ fun G2 H2 s => by
    cases k with
    | true => exact iteT (h1 rfl H2 (e.trans s.h) _ fun v G3 H3 s3 rv => q v _ _ (s.trans (s.join s3).1) (rv.ex (s.join s3).2))
    | false => exact iteF (h2 rfl H2 (e.trans s.h) _ fun v G3 H3 s3 rv => q v _ _ (s.trans (s.join s3).1) (rv.ex (s.join s3).2)))

/-! ### chains of int comparisons -/
theorem chain {op op' : CmpOp} {g g' : Int → Int → Bool} {i j l : Int} (ha : Rn X a σ G H (.int i)) (hb : Rn X b σ G H (.int j)) (hc : Rn X c σ G H (.int l)) {H1 : Hp} (e : Ex H H1) {Q : VK} (q : ∀ v G2 H2, Stp G H1 G2 H2 → Rep X.K G2 v (.bl (g i j && g' j l)) → Q v H2) :
    tChain (rI0 fun i j => .bl (g i j)) (rI0 fun i j => .bl (g' i j)) (wpE X a) (wpE X b) (wpE X c) σ H1 Q :=
  two ha hb e fun x y G2 H2 s rx ry => ⟨i, j, rx, ry, g i j, rfl, by
    cases hk : g i j with
    | true =>
      refine iteT (hc H2 (e.trans s.h) _ fun w G3 H3 s3 rw => ⟨j, l, ry, rw, q _ _ _ (s.trans (s.join s3).1) ?_⟩)
      rw [hk]
      rfl
    | false =>
      refine iteF (q _ _ _ s ?_)
      rw [hk]
      rfl⟩
theorem rn_chain {op op' : CmpOp} {g g' : Int → Int → Bool} {i j l : Int} (ho : OpR X (compareOp op) (rI0 fun i j => .bl (g i j))) (ho' : OpR X (compareOp op') (rI0 fun i j => .bl (g' i j))) (ha : Rn X a σ G H (.int i)) (hb : Rn X b σ G H (.int j)) (hc : Rn X c σ G H (.int l)) (hm : lastMarks [op, op'] [b, c] = false := by with_unfolding_all rfl) :
    Rn X (.Compare a [op, op'] [b, c] pos) σ G H (.bl (g i j && g' j l)) := fun H1 e Q q => wpE_of (pe_chain ho ho' pe_wp pe_wp pe_wp hm) (chain (op := op) (op' := op') ha hb hc e q)
theorem rt_chain {op op' : CmpOp} {g g' : Int → Int → Bool} {i j l : Int} (ho : OpR X (compareOp op) (rI0 fun i j => .bl (g i j))) (ho' : OpR X (compareOp op') (rI0 fun i j => .bl (g' i j))) (ha : Rn X a σ G H (.int i)) (hb : Rn X b σ G H (.int j)) (hc : Rn X c σ G H (.int l)) (hm : lastMarks [op, op'] [b, c] = false := by with_unfolding_all rfl) :
    RnT X (.Compare a [op, op'] [b, c] pos) σ G H (g i j && g' j l) := fun H1 e Q q => wpT_of (pt_chain ho ho' pe_wp pe_wp pe_wp hm) (chain (op := op) (op' := op') ha hb hc e fun v G2 H2 s r => ⟨_, r, q G2 H2 s⟩)
end
end Y
set_option Elab.async false
set_option linter.all false
set_option maxRecDepth 100000
set_option maxHeartbeats 4000000
/-! Lay2: arguments, displays, fields, items, calls of built-ins. -/
namespace Y
open PySem PySem.Spec PyProof.Rows L2

/-- what the written part says of our classes -/
structure ClsOk (K : PySem.W.Frag) : Prop where
  cls : ∀ c : Cl, Cls K (c.ad K)
  noat : ∀ (c : Cl) (f : Str), f ∈ c.fl → NoAttr K (c.ad K) f

theorem zlook : ∀ {names : List Str} {xs : List V} {i : Nat} {f : Str} {v : V}, names.Nodup → names[i]? = some f → xs[i]? = some v → (names.zip xs).lookup f = some v
  | [], _, _, _, _, _, h, _ => by simp at h
  | _ :: _, [], _, _, _, _, _, h => by simp at h
  | n :: ns, x :: xs, 0, f, v, _, h1, h2 => by
    simp only [List.getElem?_cons_zero, Option.some.injEq] at h1 h2
    subst h1 h2
    rw [List.zip_cons_cons]
    simp [List.lookup]
  | n :: ns, x :: xs, i + 1, f, v, nd, h1, h2 => by
    simp only [List.getElem?_cons_succ] at h1 h2
    rw [List.nodup_cons] at nd
    have ne : f ≠ n := fun z => nd.1 (by rw [← z]; exact List.mem_of_getElem? h1)
    rw [List.zip_cons_cons]
    have e : (f == n) = false := by simpa using ne
    simp only [List.lookup, e]
    exact zlook nd.2 h1 h2
theorem znone : ∀ {names : List Str} {xs : List V} {f : Str}, f ∉ names → (names.zip xs).lookup f = none
  | [], _, _, _ => rfl
  | _ :: _, [], _, _ => rfl
  | n :: ns, x :: xs, f, h => by
    rw [List.mem_cons, not_or] at h
    rw [List.zip_cons_cons]
    have e : (f == n) = false := by simpa using h.1
    simp only [List.lookup, e]
    exact znone h.2
theorem Cl.nd (c : Cl) : c.fl.Nodup := by cases c <;> decide +kernel

section
variable {X : Cx} {σ : L2.St} {G H G1 H1 : Hp} {d d1 d2 d3 : Dt} {ds ds1 ds2 : List Dt} {a b c e : Expr} {es : List Expr} {pos p : Pos} {k k1 k2 : Bool}
/-! ### arguments, displays -/
theorem ra_nil (s : Ex G H) : RnA X [] σ G H [] := fun H1 e Q q => wpA_of pa_nil (q _ _ _ (Stp.refl (s.trans e)) True.intro)
theorem ra_cons (h : Rn X a σ G H d) (hr : RnA X es σ G H ds) (he : starEach (a :: es) X.env = (false, eval a X.env) :: starEach es X.env := by rfl) : RnA X (a :: es) σ G H (d :: ds) := fun H1 e1 Q q =>
  wpA_of (pa_cons pe_wp pa_wp he) (h H1 e1 _ fun v G2 H2 s2 r => hr H2 (e1.trans s2.h) _ fun vs G3 H3 s3 rs => q (v :: vs) _ _ (s2.trans (s2.join s3).1) ⟨r.ex (uni_l _ _), rs.ex (s2.join s3).2⟩)
theorem rep_new_tup {K : PySem.W.Frag} {G H : Hp} {vs : List V} {p : Addr} (e : Ex G H) (r : Reps K G vs ds) (n : H p = none) : Rep K (upd G p (.tup vs)) (.ref p) (.tup ds) :=
  ⟨p, vs, rfl, SqT.of upd_same, r.ex (Ex.new (e.back n))⟩
theorem rep_new_lst {K : PySem.W.Frag} {G H : Hp} {vs : List V} {p : Addr} (e : Ex G H) (r : Reps K G vs ds) (n : H p = none) : Rep K (upd G p (.lst vs)) (.ref p) (.lst ds) :=
  ⟨p, vs, rfl, upd_same, r.ex (Ex.new (e.back n))⟩
theorem rn_tup {x1} (h : RnA X es σ G H ds) (hl : ds.length ≤ 100000) : Rn X (.Tuple es x1 pos) σ G H (.tup ds) := fun H1 e Q q =>
  wpE_of (pe_tup pa_wp) (h H1 e _ fun vs G2 H2 s r => ⟨by rw [r.length]; exact Nat.le_trans hl (by decide), fun p n => q _ _ _ (s.trans (Stp.new1 s.gh n)) (rep_new_tup s.gh r n)⟩)
theorem rn_lst (h : RnA X es σ G H ds) (hl : ds.length ≤ 100000) : Rn X (.List es pos) σ G H (.lst ds) := fun H1 e Q q =>
  wpE_of (pe_lst pa_wp) (h H1 e _ fun vs G2 H2 s r => ⟨by rw [r.length]; exact Nat.le_trans hl (by decide), fun p n => q _ _ _ (s.trans (Stp.new1 s.gh n)) (rep_new_lst s.gh r n)⟩)

/-! ### attributes -/
theorem rn_fld {cl : Cl} {f : Str} {i : Nat} (T : ClsOk X.K) (h : Rn X a σ G H (.obj cl ds)) (hf : cl.fl[i]? = some f) (hd : ds[i]? = some d) (hb : attributeBase a f X.env (eval a X.env) = eval a X.env := by rfl) : Rn X (.Attribute a f pos) σ G H d := fun H1 e Q q =>
  wpE_of (pe_fld pe_wp hb) (h H1 e _ fun v G2 H2 s r => by
    obtain ⟨x, dx, xs, rfl, hx, hl, rs⟩ := r
    obtain ⟨w, e1, rw'⟩ := rs.get hd
    exact ⟨x, _, dx, _, w, rfl, s.gh _ _ hx, T.cls cl, T.noat cl f (List.mem_of_getElem? hf), zlook cl.nd hf e1, q w G2 H2 s rw'⟩)

/-! ### items -/
theorem atI_get {ds : List Dt} {vs : List V} {K : PySem.W.Frag} {i : Int} (r : Reps K G vs ds) (h : atI ds i = some d) : ∃ v, atI vs i = some v ∧ Rep K G v d := by
  unfold atI at h ⊢
  rw [r.length]
  cases q : ixN ds.length i with
  | none =>
    rw [q] at h
    cases h
  | some j =>
    rw [q] at h
    exact r.get h
theorem rn_ixL {i : Int} (h : Rn X a σ G H (.lst ds)) (hi : Rn X b σ G H (.int i)) (hd : atI ds i = some d) (hs : PlainIx b := by intro _ _; rfl) : Rn X (.Subscript a b pos) σ G H d := fun H1 e Q q =>
  wpE_of (pe_ix ix_list pe_wp pe_wp hs) (two h hi e fun x y G2 H2 s rx ry => by
    obtain ⟨l, xs, rfl, hx, rs⟩ := rx
    obtain ⟨v, e1, rv⟩ := atI_get rs hd
    exact ⟨l, xs, i, v, rfl, ry, sqL_ex s.gh hx, e1, q v G2 H2 s rv⟩)
theorem rn_ixT {i : Int} (h : Rn X a σ G H (.tup ds)) (hi : Rn X b σ G H (.int i)) (hd : atI ds i = some d) (hs : PlainIx b := by intro _ _; rfl) : Rn X (.Subscript a b pos) σ G H d := fun H1 e Q q =>
  wpE_of (pe_ix ix_tup pe_wp pe_wp hs) (two h hi e fun x y G2 H2 s rx ry => by
    obtain ⟨l, xs, rfl, hx, rs⟩ := rx
    obtain ⟨v, e1, rv⟩ := atI_get rs hd
    exact ⟨l, xs, i, v, rfl, ry, sqT_ex s.gh hx, e1, q v G2 H2 s rv⟩)
/-- an item of a list of ours -/
theorem rn_ixO {i : Int} {l : Addr} {H0 : Hp} (o : Own X.K H0 G H l ds) (h : Rn X a σ G H (.adr l)) (hi : Rn X b σ G H (.int i)) (hd : atI ds i = some d) (hs : PlainIx b := by intro _ _; rfl) : Rn X (.Subscript a b pos) σ G H d := fun H1 e Q q =>
  wpE_of (pe_ix ix_list pe_wp pe_wp hs) (two h hi e fun x y G2 H2 s rx ry => by
    obtain ⟨vs, o1, o2, o3, o4⟩ := o
    obtain ⟨v, e1, rv⟩ := atI_get o2 hd
    exact ⟨l, vs, i, v, rx, ry, SqL.of (s.h _ _ (e _ _ o1)), e1, q v G2 H2 s (rv.ex s.g)⟩)
/-! slices -/
theorem rn_slL {lo hi : Option Expr} {p2 : Pos} {tl th : TO} {l u : Option Int} (h : Rn X a σ G H (.lst ds)) (hl : PO X lo tl) (hu : PO X hi th)
    (ql : ∀ H1, Ex H H1 → ∀ Q : Option Int → Hp → Prop, (∀ G2 H2, Stp G H1 G2 H2 → Q l H2) → tl σ H1 Q) (qu : ∀ H1, Ex H H1 → ∀ Q : Option Int → Hp → Prop, (∀ G2 H2, Stp G H1 G2 H2 → Q u H2) → th σ H1 Q) :
    Rn X (.Subscript a (.Slice lo hi none p2) pos) σ G H (.lst ((ds.drop (HT.sIx ds.length 0 l)).take (HT.sIx ds.length ds.length u - HT.sIx ds.length 0 l))) := fun H1 e Q q =>
  wpE_of (pe_slice sl_list pe_wp hl hu) (h H1 e _ fun x G2 H2 s r => ql H2 (e.trans s.h) _ fun G3 H3 s3 => qu H3 ((e.trans s.h).trans s3.h) _ fun G4 H4 s4 => by
    obtain ⟨z, xs, rfl, hx, rs⟩ := r
    have s5 := s.trans (Stp.up s.gh (s3.h.trans s4.h))
    refine ⟨z, xs, rfl, sqL_ex s5.gh hx, fun p n => q _ _ _ (s5.trans (Stp.new1 s5.gh n)) ?_⟩
    have hl := rs.length
    unfold cutV
    rw [hl]
    exact rep_new_lst s5.gh ((rs.drop _).take _) n)
theorem po_n (s : Ex G H) : ∀ H1, Ex H H1 → ∀ Q : Option Int → Hp → Prop, (∀ G2 H2, Stp G H1 G2 H2 → Q none H2) → tNoPart σ H1 Q := fun H1 e Q q => q G H1 (Stp.refl (s.trans e))
theorem po_i {i : Int} (h : Rn X b σ G H (.int i)) : ∀ H1, Ex H H1 → ∀ Q : Option Int → Hp → Prop, (∀ G2 H2, Stp G H1 G2 H2 → Q (some i) H2) → tPart (wpE X b) σ H1 Q := fun H1 e Q q => h H1 e _ fun v G2 H2 s r => ⟨i, r, q G2 H2 s⟩
theorem rn_revL {kk : Nat} {p1 p2 p3 : Pos} (h : Rn X a σ G H (.lst ds)) : Rn X (.Subscript a (.Slice none none (some (.UnaryOp .USub (.Constant (.int 1) kk p1) p2)) p3) pos) σ G H (.lst ds.reverse) := fun H1 e Q q =>
  wpE_of (pe_revL pe_wp) (h H1 e _ fun x G2 H2 s r => by
    obtain ⟨z, xs, rfl, hx, rs⟩ := r
    exact ⟨z, xs, rfl, sqL_ex s.gh hx, fun p n => q _ _ _ (s.trans (Stp.new1 s.gh n)) (rep_new_lst s.gh rs.reverse n)⟩)
theorem rn_revO {kk : Nat} {p1 p2 p3 : Pos} {l : Addr} {H0 : Hp} (o : Own X.K H0 G H l ds) (h : Rn X a σ G H (.adr l)) : Rn X (.Subscript a (.Slice none none (some (.UnaryOp .USub (.Constant (.int 1) kk p1) p2)) p3) pos) σ G H (.lst ds.reverse) := fun H1 e Q q =>
  wpE_of (pe_revL pe_wp) (h H1 e _ fun x G2 H2 s r => by
    obtain ⟨vs, o1, o2, o3, o4⟩ := o
    exact ⟨l, vs, r, SqL.of (s.h _ _ (e _ _ o1)), fun p n => q _ _ _ (s.trans (Stp.new1 s.gh n)) (rep_new_lst s.gh (o2.reverse.ex s.g) n)⟩)
/-- a tuple's slice -/
theorem rn_slT {lo hi : Option Expr} {p2 : Pos} {tl th : TO} {l u : Option Int} (h : Rn X a σ G H (.tup ds)) (hl : PO X lo tl) (hu : PO X hi th)
    (ql : ∀ H1, Ex H H1 → ∀ Q : Option Int → Hp → Prop, (∀ G2 H2, Stp G H1 G2 H2 → Q l H2) → tl σ H1 Q) (qu : ∀ H1, Ex H H1 → ∀ Q : Option Int → Hp → Prop, (∀ G2 H2, Stp G H1 G2 H2 → Q u H2) → th σ H1 Q)
    (hne : ¬ (HT.sIx ds.length 0 l = 0 ∧ HT.sIx ds.length ds.length u = ds.length)) :
    Rn X (.Subscript a (.Slice lo hi none p2) pos) σ G H (.tup ((ds.drop (HT.sIx ds.length 0 l)).take (HT.sIx ds.length ds.length u - HT.sIx ds.length 0 l))) := fun H1 e Q q =>
  wpE_of (pe_slice sl_tup pe_wp hl hu) (h H1 e _ fun x G2 H2 s r => ql H2 (e.trans s.h) _ fun G3 H3 s3 => qu H3 ((e.trans s.h).trans s3.h) _ fun G4 H4 s4 => by
    obtain ⟨z, xs, rfl, hx, rs⟩ := r
    have s5 := s.trans (Stp.up s.gh (s3.h.trans s4.h))
    have hl := rs.length
    refine ⟨z, xs, rfl, sqT_ex s5.gh hx, by rw [hl]; exact hne, fun p n => q _ _ _ (s5.trans (Stp.new1 s5.gh n)) ?_⟩
    unfold cutV
    rw [hl]
    exact rep_new_tup s5.gh ((rs.drop _).take _) n)

/-! ### calls of built-ins -/
theorem rn_cb {x : Str} {id : String} {r : List V → Hp → VK → Prop} (hc : CallR X (.builtin id) r) (hg : Gl X x) (hm : X.mg x = none) (hv : bootBuiltins x = some (.builtin id)) (ha : RnA X (e :: es) σ G H ds)
    (hr : ∀ vs G2 H2, Stp G H G2 H2 → Reps X.K G2 vs ds → ∀ Q : VK, (∀ v G3 H3, Stp G2 H2 G3 H3 → Rep X.K G3 v d → Q v H3) → r vs H2 Q)
    (hn : x ≠ "__name__" := by decide) (hdb : (x == ("__debug__" : Str)) = false := by decide) (he : starEach (e :: es) X.env = (false, eval e X.env) :: starEach es X.env := by rfl) (hpl : (backTo pos (starEach es X.env)).any (·.1) = false := by rfl) :
    Rn X (.Call (.Name x p) (e :: es) [] pos) σ G H d := fun H1 e1 Q q =>
  wpE_of (pe_callB hc hg hm hv pa_wp (hn := hn) (hdb := hdb) (he := he) (hpl := hpl)) (ha H1 e1 _ fun vs G2 H2 s rs => hr vs G2 H2 (s.under e1) rs Q fun v G3 H3 s3 rv => q v G3 H3 (s.trans s3) rv)
theorem rn_cty {x : Str} {T : String} {r : List V → Hp → VK → Prop} (hc : CallR X (.type T) r) (hg : Gl X x) (hm : X.mg x = none) (hv : bootBuiltins x = some (.type T)) (ha : RnA X (e :: es) σ G H ds)
    (hr : ∀ vs G2 H2, Stp G H G2 H2 → Reps X.K G2 vs ds → ∀ Q : VK, (∀ v G3 H3, Stp G2 H2 G3 H3 → Rep X.K G3 v d → Q v H3) → r vs H2 Q)
    (hn : x ≠ "__name__" := by decide) (hdb : (x == ("__debug__" : Str)) = false := by decide) (he : starEach (e :: es) X.env = (false, eval e X.env) :: starEach es X.env := by rfl) (hpl : (backTo pos (starEach es X.env)).any (·.1) = false := by rfl) :
    Rn X (.Call (.Name x p) (e :: es) [] pos) σ G H d := fun H1 e1 Q q =>
  wpE_of (pe_callTy hc hg hm hv pa_wp (hn := hn) (hdb := hdb) (he := he) (hpl := hpl)) (ha H1 e1 _ fun vs G2 H2 s rs => hr vs G2 H2 (s.under e1) rs Q fun v G3 H3 s3 rv => q v G3 H3 (s.trans s3) rv)
theorem reps1 {K : PySem.W.Frag} {vs : List V} (r : Reps K G vs [d]) : ∃ v, vs = [v] ∧ Rep K G v d := by
  cases vs with
  | nil => exact r.elim
  | cons v t =>
    cases t with
    | nil => exact ⟨v, rfl, r.1⟩
    | cons _ _ => exact r.2.elim
theorem reps2 {K : PySem.W.Frag} {vs : List V} (r : Reps K G vs [d1, d2]) : ∃ v w, vs = [v, w] ∧ Rep K G v d1 ∧ Rep K G w d2 := by
  cases vs with
  | nil => exact r.elim
  | cons v t =>
    obtain ⟨w, e, rw'⟩ := reps1 r.2
    rw [e]
    exact ⟨v, w, rfl, r.1, rw'⟩
end
/-- the built-ins' names that the module leaves alone -/
structure Free (X : Cx) (x : Str) : Prop where
  g : Gl X x
  m : X.mg x = none
section
variable {X : Cx} {σ : L2.St} {G H G1 H1 : Hp} {d d1 d2 d3 : Dt} {ds ds1 ds2 : List Dt} {a b c e : Expr} {es : List Expr} {pos p : Pos} {k k1 k2 : Bool}
theorem ra_one (h : Rn X a σ G H d) (he : starEach [a] X.env = (false, eval a X.env) :: starEach [] X.env := by rfl) : RnA X [a] σ G H [d] := fun H1 e1 Q q => wpA_of (pa_cons pe_wp pa_nil he) (h H1 e1 _ fun v G2 H2 s r => q [v] G2 H2 s (Reps.one r))
theorem rn_cb1 {x : Str} {id : String} {r : List V → Hp → VK → Prop} (hc : CallR X (.builtin id) r) (f : Free X x) (hv : bootBuiltins x = some (.builtin id)) (h : Rn X a σ G H d1)
    (hr : ∀ v G2 H2, Stp G H G2 H2 → Rep X.K G2 v d1 → ∀ Q : VK, (∀ v G3 H3, Stp G2 H2 G3 H3 → Rep X.K G3 v d → Q v H3) → r [v] H2 Q)
    (hn : x ≠ "__name__" := by decide) (hdb : (x == ("__debug__" : Str)) = false := by decide) (he : starEach [a] X.env = (false, eval a X.env) :: starEach [] X.env := by rfl) (hpl : (backTo pos (starEach [] X.env)).any (·.1) = false := by rfl) :
    Rn X (.Call (.Name x p) [a] [] pos) σ G H d :=
  rn_cb hc f.g f.m hv (ra_one h he) (fun vs G2 H2 s rs Q q => by
    obtain ⟨v, rfl, rv⟩ := reps1 rs
    exact hr v G2 H2 s rv Q q) hn hdb he hpl
theorem rn_cty1 {x : Str} {T : String} {r : List V → Hp → VK → Prop} (hc : CallR X (.type T) r) (f : Free X x) (hv : bootBuiltins x = some (.type T)) (h : Rn X a σ G H d1)
    (hr : ∀ v G2 H2, Stp G H G2 H2 → Rep X.K G2 v d1 → ∀ Q : VK, (∀ v G3 H3, Stp G2 H2 G3 H3 → Rep X.K G3 v d → Q v H3) → r [v] H2 Q)
    (hn : x ≠ "__name__" := by decide) (hdb : (x == ("__debug__" : Str)) = false := by decide) (he : starEach [a] X.env = (false, eval a X.env) :: starEach [] X.env := by rfl) (hpl : (backTo pos (starEach [] X.env)).any (·.1) = false := by rfl) :
    Rn X (.Call (.Name x p) [a] [] pos) σ G H d :=
  rn_cty hc f.g f.m hv (ra_one h he) (fun vs G2 H2 s rs Q q => by
    obtain ⟨v, rfl, rv⟩ := reps1 rs
    exact hr v G2 H2 s rv Q q) hn hdb he hpl
theorem rn_lenL (f : Free X "len") (h : Rn X a σ G H (.lst ds)) (he : starEach [a] X.env = (false, eval a X.env) :: starEach [] X.env := by rfl) (hpl : (backTo pos (starEach [] X.env)).any (·.1) = false := by rfl) : Rn X (.Call (.Name "len" p) [a] [] pos) σ G H (.int ds.length) :=
  rn_cb1 call_len_seq f PySem.boot_len h (fun v G2 H2 s r Q q => by
    obtain ⟨l, xs, rfl, hx, rs⟩ := r
    exact ⟨l, xs, rfl, .inl (sqL_ex s.gh hx), q _ _ _ (Stp.refl s.gh) (by rw [rs.length] <;> rfl)⟩) (by decide) (by decide) he hpl
theorem rn_lenT (f : Free X "len") (h : Rn X a σ G H (.tup ds)) (he : starEach [a] X.env = (false, eval a X.env) :: starEach [] X.env := by rfl) (hpl : (backTo pos (starEach [] X.env)).any (·.1) = false := by rfl) : Rn X (.Call (.Name "len" p) [a] [] pos) σ G H (.int ds.length) :=
  rn_cb1 call_len_seq f PySem.boot_len h (fun v G2 H2 s r Q q => by
    obtain ⟨l, xs, rfl, hx, rs⟩ := r
    exact ⟨l, xs, rfl, .inr (sqT_ex s.gh hx), q _ _ _ (Stp.refl s.gh) (by rw [rs.length] <;> rfl)⟩) (by decide) (by decide) he hpl
theorem rn_lenO (f : Free X "len") {l : Addr} {H0 : Hp} (o : Own X.K H0 G H l ds) (h : Rn X a σ G H (.adr l)) (he : starEach [a] X.env = (false, eval a X.env) :: starEach [] X.env := by rfl) (hpl : (backTo pos (starEach [] X.env)).any (·.1) = false := by rfl) : Rn X (.Call (.Name "len" p) [a] [] pos) σ G H (.int ds.length) :=
  rn_cb1 call_len_seq f PySem.boot_len h (fun v G2 H2 s r Q q => by
    obtain ⟨vs, o1, o2, o3, o4⟩ := o
    exact ⟨l, vs, r ▸ rfl, .inl (SqL.of (s.h _ _ o1)), q _ _ _ (Stp.refl s.gh) (by rw [o2.length] <;> rfl)⟩) (by decide) (by decide) he hpl
theorem rn_tupL (f : Free X "tuple") (h : Rn X a σ G H (.lst ds)) (he : starEach [a] X.env = (false, eval a X.env) :: starEach [] X.env := by rfl) (hpl : (backTo pos (starEach [] X.env)).any (·.1) = false := by rfl) : Rn X (.Call (.Name "tuple" p) [a] [] pos) σ G H (.tup ds) :=
  rn_cty1 call_tuple_of f (by decide +kernel) h (fun v G2 H2 s r Q q => by
    obtain ⟨l, xs, rfl, hx, rs⟩ := r
    exact ⟨l, xs, rfl, .inl ⟨sqL_ex s.gh hx, fun p n => q _ _ _ (Stp.new1 s.gh n) (rep_new_tup s.gh rs n)⟩⟩) (by decide) (by decide) he hpl
theorem rn_tupT (f : Free X "tuple") (h : Rn X a σ G H (.tup ds)) (he : starEach [a] X.env = (false, eval a X.env) :: starEach [] X.env := by rfl) (hpl : (backTo pos (starEach [] X.env)).any (·.1) = false := by rfl) : Rn X (.Call (.Name "tuple" p) [a] [] pos) σ G H (.tup ds) :=
  rn_cty1 call_tuple_of f (by decide +kernel) h (fun v G2 H2 s r Q q => by
    obtain ⟨l, xs, rfl, hx, rs⟩ := r
    exact ⟨l, xs, rfl, .inr ⟨sqT_ex s.gh hx, q _ _ _ (Stp.refl s.gh) ⟨l, xs, rfl, hx, rs⟩⟩⟩) (by decide) (by decide) he hpl
/-- of a list of ours -/
theorem rn_tupO (f : Free X "tuple") {l : Addr} {H0 : Hp} (o : Own X.K H0 G H l ds) (h : Rn X a σ G H (.adr l)) (he : starEach [a] X.env = (false, eval a X.env) :: starEach [] X.env := by rfl) (hpl : (backTo pos (starEach [] X.env)).any (·.1) = false := by rfl) : Rn X (.Call (.Name "tuple" p) [a] [] pos) σ G H (.tup ds) :=
  rn_cty1 call_tuple_of f (by decide +kernel) h (fun v G2 H2 s r Q q => by
    obtain ⟨vs, o1, o2, o3, o4⟩ := o
    exact ⟨l, vs, r ▸ rfl, .inl ⟨SqL.of (s.h _ _ o1), fun p n => q _ _ _ (Stp.new1 s.gh n) (rep_new_tup s.gh (o2.ex s.g) n)⟩⟩) (by decide) (by decide) he hpl
theorem rn_listT (f : Free X "list") (h : Rn X a σ G H (.tup ds)) (he : starEach [a] X.env = (false, eval a X.env) :: starEach [] X.env := by rfl) (hpl : (backTo pos (starEach [] X.env)).any (·.1) = false := by rfl) : Rn X (.Call (.Name "list" p) [a] [] pos) σ G H (.lst ds) :=
  rn_cty1 call_list_of f (by decide +kernel) h (fun v G2 H2 s r Q q => by
    obtain ⟨l, xs, rfl, hx, rs⟩ := r
    exact ⟨l, xs, rfl, .inr (sqT_ex s.gh hx), fun p n => q _ _ _ (Stp.new1 s.gh n) (rep_new_lst s.gh rs n)⟩) (by decide) (by decide) he hpl
theorem rn_intI (f : Free X "int") {i : Int} (h : Rn X a σ G H (.int i)) (he : starEach [a] X.env = (false, eval a X.env) :: starEach [] X.env := by rfl) (hpl : (backTo pos (starEach [] X.env)).any (·.1) = false := by rfl) : Rn X (.Call (.Name "int" p) [a] [] pos) σ G H (.int i) :=
  rn_cty1 call_int1 f (by decide +kernel) h (fun v G2 H2 s r Q q => .inl ⟨i, r ▸ rfl, q _ _ _ (Stp.refl s.gh) rfl⟩) (by decide) (by decide) he hpl
theorem rn_intB (f : Free X "int") {i : Bool} (h : Rn X a σ G H (.bl i)) (he : starEach [a] X.env = (false, eval a X.env) :: starEach [] X.env := by rfl) (hpl : (backTo pos (starEach [] X.env)).any (·.1) = false := by rfl) : Rn X (.Call (.Name "int" p) [a] [] pos) σ G H (.int (if i then 1 else 0)) :=
  rn_cty1 call_int1 f (by decide +kernel) h (fun v G2 H2 s r Q q => .inr ⟨i, r ▸ rfl, q _ _ _ (Stp.refl s.gh) rfl⟩) (by decide) (by decide) he hpl
theorem rn_boolB (f : Free X "bool") {i : Bool} (h : Rn X a σ G H (.bl i)) (he : starEach [a] X.env = (false, eval a X.env) :: starEach [] X.env := by rfl) (hpl : (backTo pos (starEach [] X.env)).any (·.1) = false := by rfl) : Rn X (.Call (.Name "bool" p) [a] [] pos) σ G H (.bl i) :=
  rn_cty1 call_bool1 f (by decide +kernel) h (fun v G2 H2 s r Q q => .inr ⟨i, r ▸ rfl, q _ _ _ (Stp.refl s.gh) rfl⟩) (by decide) (by decide) he hpl
theorem rn_abs (f : Free X "abs") {i : Int} (h : Rn X a σ G H (.int i)) (he : starEach [a] X.env = (false, eval a X.env) :: starEach [] X.env := by rfl) (hpl : (backTo pos (starEach [] X.env)).any (·.1) = false := by rfl) : Rn X (.Call (.Name "abs" p) [a] [] pos) σ G H (.int (if i < 0 then -i else i)) :=
  rn_cb1 call_abs f (by decide +kernel) h (fun v G2 H2 s r Q q => ⟨i, r ▸ rfl, q _ _ _ (Stp.refl s.gh) rfl⟩) (by decide) (by decide) he hpl
theorem rn_sum (f : Free X "sum") (hc : X.calm = true) {ns : List Int} (h : Rn X a σ G H (.lst (ns.map .int))) (he : starEach [a] X.env = (false, eval a X.env) :: starEach [] X.env := by rfl) (hpl : (backTo pos (starEach [] X.env)).any (·.1) = false := by rfl) : Rn X (.Call (.Name "sum" p) [a] [] pos) σ G H (.int ns.sum) :=
  rn_cb1 (cr_sum hc) f (by decide +kernel) h (fun v G2 H2 s r Q q => by
    obtain ⟨l, xs, rfl, hx, rs⟩ := r
    have e := rs.ints
    subst e
    exact ⟨l, ns, rfl, sqL_ex s.gh hx, q _ _ _ (Stp.refl s.gh) rfl⟩) (by decide) (by decide) he hpl
def lmax (ns : List Int) : Int := ns.foldl (fun a b => if b > a then b else a) (ns.headD 0)
def lmin (ns : List Int) : Int := ns.foldl (fun a b => if b < a then b else a) (ns.headD 0)
theorem fmax : ∀ (ns : List Int) (a : Int), (ns.foldl (fun a b => if b > a then b else a) a = a ∨ ns.foldl (fun a b => if b > a then b else a) a ∈ ns) ∧ a ≤ ns.foldl (fun a b => if b > a then b else a) a ∧ ∀ y ∈ ns, y ≤ ns.foldl (fun a b => if b > a then b else a) a
  | [], a => ⟨.inl rfl, Int.le_refl _, fun _ h => by cases h⟩
  | b :: r, a => by
    obtain ⟨h1, h2, h3⟩ := fmax r (if b > a then b else a)
    rw [List.foldl_cons]
    have e : (if b > a then b else a) = b ∨ (if b > a then b else a) = a := by split <;> simp
    have l1 : a ≤ (if b > a then b else a) ∧ b ≤ (if b > a then b else a) := by split <;> omega
    refine ⟨?_, by omega, fun y hy => ?_⟩
    · rcases h1 with h | h
      · rcases e with z | z
        · exact .inr (by rw [h, z]; exact List.mem_cons_self)
        · exact .inl (h.trans z)
      · exact .inr (List.mem_cons_of_mem _ h)
    · rcases List.mem_cons.mp hy with z | z
      · subst z
        omega
      · exact h3 y z
theorem fmin : ∀ (ns : List Int) (a : Int), (ns.foldl (fun a b => if b < a then b else a) a = a ∨ ns.foldl (fun a b => if b < a then b else a) a ∈ ns) ∧ ns.foldl (fun a b => if b < a then b else a) a ≤ a ∧ ∀ y ∈ ns, ns.foldl (fun a b => if b < a then b else a) a ≤ y
  | [], a => ⟨.inl rfl, Int.le_refl _, fun _ h => by cases h⟩
  | b :: r, a => by
    obtain ⟨h1, h2, h3⟩ := fmin r (if b < a then b else a)
    rw [List.foldl_cons]
    have e : (if b < a then b else a) = b ∨ (if b < a then b else a) = a := by split <;> simp
    have l1 : (if b < a then b else a) ≤ a ∧ (if b < a then b else a) ≤ b := by split <;> omega
    refine ⟨?_, by omega, fun y hy => ?_⟩
    · rcases h1 with h | h
      · rcases e with z | z
        · exact .inr (by rw [h, z]; exact List.mem_cons_self)
        · exact .inl (h.trans z)
      · exact .inr (List.mem_cons_of_mem _ h)
    · rcases List.mem_cons.mp hy with z | z
      · subst z
        omega
      · exact h3 y z
theorem lmax_spec {ns : List Int} (h : ns ≠ []) : lmax ns ∈ ns ∧ ∀ y ∈ ns, y ≤ lmax ns := by
  cases ns with
  | nil => exact absurd rfl h
  | cons b r =>
    have e : lmax (b :: r) = r.foldl (fun a b => if b > a then b else a) b := by
      show (b :: r).foldl _ b = _
      rw [List.foldl_cons, if_neg (by omega)]
    obtain ⟨h1, h2, h3⟩ := fmax r b
    rw [e]
    refine ⟨?_, fun y hy => ?_⟩
    · rcases h1 with z | z
      · rw [z]; exact List.mem_cons_self
      · exact List.mem_cons_of_mem _ z
    · rcases List.mem_cons.mp hy with z | z
      · rw [z]; exact h2
      · exact h3 y z
theorem lmin_spec {ns : List Int} (h : ns ≠ []) : lmin ns ∈ ns ∧ ∀ y ∈ ns, lmin ns ≤ y := by
  cases ns with
  | nil => exact absurd rfl h
  | cons b r =>
    have e : lmin (b :: r) = r.foldl (fun a b => if b < a then b else a) b := by
      show (b :: r).foldl _ b = _
      rw [List.foldl_cons, if_neg (by omega)]
    obtain ⟨h1, h2, h3⟩ := fmin r b
    rw [e]
    refine ⟨?_, fun y hy => ?_⟩
    · rcases h1 with z | z
      · rw [z]; exact List.mem_cons_self
      · exact List.mem_cons_of_mem _ z
    · rcases List.mem_cons.mp hy with z | z
      · rw [z]; exact h2
      · exact h3 y z
theorem rn_max (f : Free X "max") (hc : X.calm = true) {ns : List Int} (hne : ns ≠ []) (h : Rn X a σ G H (.lst (ns.map .int))) (he : starEach [a] X.env = (false, eval a X.env) :: starEach [] X.env := by rfl) (hpl : (backTo pos (starEach [] X.env)).any (·.1) = false := by rfl) : Rn X (.Call (.Name "max" p) [a] [] pos) σ G H (.int (lmax ns)) :=
  rn_cb1 (cr_max hc) f (by decide +kernel) h (fun v G2 H2 s r Q q => by
    obtain ⟨l, xs, rfl, hx, rs⟩ := r
    have e := rs.ints
    subst e
    refine ⟨l, ns, rfl, sqL_ex s.gh hx, List.length_pos_iff.mpr hne, fun m hm hle => ?_⟩
    obtain ⟨h1, h2⟩ := lmax_spec hne
    have e : m = lmax ns := Int.le_antisymm (h2 m hm) (hle _ h1)
    rw [e]
    exact q _ _ _ (Stp.refl s.gh) rfl) (by decide) (by decide) he hpl
theorem rn_min (f : Free X "min") (hc : X.calm = true) {ns : List Int} (hne : ns ≠ []) (h : Rn X a σ G H (.lst (ns.map .int))) (he : starEach [a] X.env = (false, eval a X.env) :: starEach [] X.env := by rfl) (hpl : (backTo pos (starEach [] X.env)).any (·.1) = false := by rfl) : Rn X (.Call (.Name "min" p) [a] [] pos) σ G H (.int (lmin ns)) :=
  rn_cb1 (cr_min hc) f (by decide +kernel) h (fun v G2 H2 s r Q q => by
    obtain ⟨l, xs, rfl, hx, rs⟩ := r
    have e := rs.ints
    subst e
    refine ⟨l, ns, rfl, sqL_ex s.gh hx, List.length_pos_iff.mpr hne, fun m hm hle => ?_⟩
    obtain ⟨h1, h2⟩ := lmin_spec hne
    have e : m = lmin ns := Int.le_antisymm (hle _ h1) (h2 m hm)
    rw [e]
    exact q _ _ _ (Stp.refl s.gh) rfl) (by decide) (by decide) he hpl
theorem rn_max2 (f : Free X "max") (hc : X.calm = true) {i j : Int} (h1 : Rn X a σ G H (.int i)) (h2 : Rn X b σ G H (.int j)) (s0 : Ex G H) (he : starEach [a, b] X.env = (false, eval a X.env) :: starEach [b] X.env := by rfl) (he2 : starEach [b] X.env = (false, eval b X.env) :: starEach [] X.env := by rfl)
    (hpl : (backTo pos (starEach [b] X.env)).any (·.1) = false := by rfl) : Rn X (.Call (.Name "max" p) [a, b] [] pos) σ G H (.int (if j > i then j else i)) :=
  rn_cb (call_max2 hc) f.g f.m (by decide +kernel) (ra_cons h1 (ra_one h2 he2) he) (fun vs G2 H2 s rs Q q => by
    obtain ⟨v, w, rfl, r1, r2⟩ := reps2 rs
    exact ⟨i, j, by rw [show v = V.int i from r1, show w = V.int j from r2], q _ _ _ (Stp.refl s.gh) rfl⟩) (by decide) (by decide) he hpl
/-- all([..]) -/
theorem rn_all (f : Free X "all") (hc : X.calm = true) {bs : List Bool} (h : Rn X a σ G H (.lst (bs.map .bl))) (he : starEach [a] X.env = (false, eval a X.env) :: starEach [] X.env := by rfl) (hpl : (backTo pos (starEach [] X.env)).any (·.1) = false := by rfl) : Rn X (.Call (.Name "all" p) [a] [] pos) σ G H (.bl (bs.all id)) :=
  rn_cb1 (cr_all hc) f (by decide +kernel) h (fun v G2 H2 s r Q q => by
    obtain ⟨l, xs, rfl, hx, rs⟩ := r
    have e := rs.bls
    subst e
    exact ⟨l, bs, rfl, sqL_ex s.gh hx, q _ _ _ (Stp.refl s.gh) rfl⟩) (by decide) (by decide) he hpl
theorem rn_any (f : Free X "any") (hc : X.calm = true) {bs : List Bool} (h : Rn X a σ G H (.lst (bs.map .bl))) (he : starEach [a] X.env = (false, eval a X.env) :: starEach [] X.env := by rfl) (hpl : (backTo pos (starEach [] X.env)).any (·.1) = false := by rfl) : Rn X (.Call (.Name "any" p) [a] [] pos) σ G H (.bl (bs.any id)) :=
  rn_cb1 (cr_any hc) f (by decide +kernel) h (fun v G2 H2 s r Q q => by
    obtain ⟨l, xs, rfl, hx, rs⟩ := r
    have e := rs.bls
    subst e
    exact ⟨l, bs, rfl, sqL_ex s.gh hx, q _ _ _ (Stp.refl s.gh) rfl⟩) (by decide) (by decide) he hpl
end
end Y
set_option Elab.async false
set_option linter.all false
set_option maxRecDepth 100000
set_option maxHeartbeats 4000000
/-! Lay3: promises, calls of our own, statements, loops, comprehensions. -/
namespace Y
open PySem PySem.Spec PyProof.Rows L2

/-! ### promises -/
/-- R: what the def gives for which arguments; nothing that stands is changed -/
def Pu (K : PySem.W.Frag) (R : List Dt → Dt → Prop) : Sp := fun vs H Q _ => ∃ G ds d, Ex G H ∧ Reps K G vs ds ∧ R ds d ∧ ∀ v G2 H2, Stp G H G2 H2 → Rep K G2 v d → Q v H2
def hide (x : Addr) (H : Hp) : Hp := fun a => if a = x then none else H a
theorem hide_ex (x : Addr) (H : Hp) : Ex (hide x H) H := fun a o h => by
  unfold hide at h
  split at h
  · cases h
  · exact h
theorem hide_same {x : Addr} {H : Hp} : hide x H x = none := if_pos rfl
theorem hide_ne {x a : Addr} {H : Hp} (h : a ≠ x) : hide x H a = H a := if_neg h
theorem hide_mono {x : Addr} {H H' : Hp} (e : Ex H H') : Ex (hide x H) (hide x H') := fun a o h => by
  by_cases z : a = x
  · subst z
    rw [hide_same] at h
    cases h
  · rw [hide_ne z] at h ⊢
    exact e a o h
theorem hide_upd {x : Addr} {H : Hp} {o : HO} : hide x (upd H x o) = hide x H := by
  funext a
  by_cases z : a = x
  · subst z
    rw [hide_same, hide_same]
  · rw [hide_ne z, hide_ne z, upd_ne z]
theorem ex_hide {x : Addr} {G H : Hp} (e : Ex G H) (n : G x = none) : Ex G (hide x H) := fun a o h => by
  rw [hide_ne (ne_of_none h n)]
  exact e a o h
/-- seen with x hidden -/
theorem Stp.hid {x : Addr} {G H G2 H2 : Hp} (s : Stp G H G2 H2) (n : G x = none) (hx : H x ≠ none) : Stp G (hide x H) G2 (hide x H2) :=
  ⟨hide_mono s.h, s.g, ex_hide s.gh (s.new x n hx), fun a h q => s.new a h fun z => q (by
    unfold hide
    split
    · rfl
    · exact z)⟩
/-- __init__ of the class cl: the fields behind it -/
def Ini (K : PySem.W.Frag) (cl : Cl) (R : List Dt → List Dt → Prop) : Sp := fun vs H Q _ => ∃ G x dx vs' ds fs, vs = .ref x :: vs' ∧ Ex G H ∧ G x = none ∧ G dx = none ∧ H x = some (.ins (cl.ad K) dx []) ∧ H dx ≠ none ∧ Reps K G vs' ds ∧ R ds fs ∧
  ∀ G2 H2 ws, Stp G (hide x H) G2 (hide x H2) → H2 x = some (.ins (cl.ad K) dx (cl.fl.zip ws)) → ws.length = cl.fl.length → Reps K G2 ws fs → Q .non H2
section
variable {X : Cx} {σ : L2.St} {G H G1 H1 : Hp} {d d1 d2 d3 : Dt} {ds ds1 ds2 dds fs : List Dt} {a b c e o : Expr} {es : List Expr} {pos p apos : Pos} {k j : Nat}
theorem Rn.up (h : Rn X e σ G H d) (q : Ex H H1) : Rn X e σ G H1 d := fun H2 e2 Q k => h H2 (q.trans e2) Q k
theorem rn_call {x : Str} {R : List Dt → Dt → Prop} {dvs : List V} (c : C8.Cal X.prog X.w X.K X.mg X.base k x (Pu X.K R) dvs) (hr : Room j X.A) (hk : k ≤ j) (hg : Gl X x) (ha : RnA X (e :: es) σ G H ds) (hdv : ∀ G, Reps X.K G dvs dds) (hR : R (ds ++ dds) d)
    (hdb : (x == ("__debug__" : Str)) = false := by decide) (he : starEach (e :: es) X.env = (false, eval e X.env) :: starEach es X.env := by rfl) (hpl : (backTo pos (starEach es X.env)).any (·.1) = false := by rfl) : Rn X (.Call (.Name x p) (e :: es) [] pos) σ G H d := fun H1 e1 Q q =>
  wpE_of (C8.pe_c c hr hk hg pa_wp hdb he hpl) (ha H1 e1 _ fun vs G2 H2 s rs => ⟨G2, ds ++ dds, d, s.gh, rs.append (hdv G2), hR, fun v G3 H3 s3 rv => q v G3 H3 (s.trans s3) rv⟩)
theorem rn_meth {pl : Sem Bool} {cl : Cl} {m : Str} {R : List Dt → Dt → Prop} {dvs : List V} (c : C8.Met X.prog X.w X.K X.mg X.base k (cl.ad X.K) m (Pu X.K R) dvs) (hr : Room j X.A) (hk : k ≤ j) (ho : Rn X o σ G H (.obj cl fs)) (hm : m ∉ cl.fl) (ha : RnA X (e :: es) σ G H ds) (hdv : ∀ G, Reps X.K G dvs dds) (hR : R (.obj cl fs :: (ds ++ dds)) d)
    (hst : starEach (e :: es) X.env = (false, eval e X.env) :: starEach es X.env := by rfl) (hpl : (backTo pos (starEach es X.env)).any (·.1) = false := by rfl)
    (ht : eval (.Call (.Attribute o m apos) (e :: es) [] pos) X.env = (do
      let ov ← eval o X.env
      standAt apos.atName
      let (f, first) ← holding [ov] (getMethod ov m pl)
      callWith pos f first (backTo pos (starEach (e :: es) X.env)) (backToKw pos (keywordEach [] X.env))) := by rfl) : Rn X (.Call (.Attribute o m apos) (e :: es) [] pos) σ G H d := fun H1 e1 Q q =>
  wpE_of (C8.pe_mt (pl := pl) c hr hk pe_wp pa_wp hst hpl ht) (ho H1 e1 _ fun v G2 H2 s r => by
    obtain ⟨x, dx, xs, rfl, hx, hl, rs⟩ := id r
    refine ⟨x, dx, _, rfl, s.gh _ _ hx, znone hm, ha H2 (e1.trans s.h) _ fun vs G3 H3 s3 rs' => ?_⟩
    obtain ⟨jn, ex⟩ := s.join s3
    exact ⟨_, .obj cl fs :: (ds ++ dds), d, jn.gh, ⟨r.ex (uni_l _ _), (rs'.ex ex).append (hdv _)⟩, hR, fun v G4 H4 s4 rv => q v G4 H4 ((s.trans jn).trans s4) rv⟩)
theorem rn_meth0 {pl : Sem Bool} {cl : Cl} {m : Str} {R : List Dt → Dt → Prop} {dvs : List V} (c : C8.Met X.prog X.w X.K X.mg X.base k (cl.ad X.K) m (Pu X.K R) dvs) (hr : Room j X.A) (hk : k ≤ j) (ho : Rn X o σ G H (.obj cl fs)) (hm : m ∉ cl.fl) (hdv : ∀ G, Reps X.K G dvs dds) (hR : R (.obj cl fs :: dds) d)
    (ht : eval (.Call (.Attribute o m apos) [] [] pos) X.env = (do
      let ov ← eval o X.env
      standAt apos.atName
      let (f, first) ← holding [ov] (getMethod ov m pl)
      callWith pos f first (backTo pos (starEach [] X.env)) (backToKw pos (keywordEach [] X.env))) := by rfl) : Rn X (.Call (.Attribute o m apos) [] [] pos) σ G H d := fun H1 e1 Q q =>
  wpE_of (C8.pe_mt0 (pl := pl) c hr hk pe_wp ht) (ho H1 e1 _ fun v G2 H2 s r => by
    obtain ⟨x, dx, xs, rfl, hx, hl, rs⟩ := id r
    exact ⟨x, dx, _, rfl, s.gh _ _ hx, znone hm, G2, .obj cl fs :: dds, d, s.gh, ⟨r, hdv _⟩, hR, fun v G4 H4 s4 rv => q v G4 H4 (s.trans s4) rv⟩)
theorem rn_make {x : Str} {cl : Cl} {R : List Dt → List Dt → Prop} {dvs : List V} (c : C8.Mak X.prog X.w X.K X.mg X.base k x (cl.ad X.K) (Ini X.K cl R) dvs) (hr : Room j X.A) (hk : k + 1 ≤ j) (hg : Gl X x) (ha : RnA X (e :: es) σ G H ds) (hdv : ∀ G, Reps X.K G dvs dds) (hR : R (ds ++ dds) fs)
    (hdb : (x == ("__debug__" : Str)) = false := by decide) (he : starEach (e :: es) X.env = (false, eval e X.env) :: starEach es X.env := by rfl) (hpl : (backTo pos (starEach es X.env)).any (·.1) = false := by rfl) : Rn X (.Call (.Name x p) (e :: es) [] pos) σ G H (.obj cl fs) := fun H1 e1 Q q =>
  wpE_of (C8.pe_mk c hr hk hg pa_wp hdb he hpl) (ha H1 e1 _ fun vs G2 H2 s rs => by
    intro y dy ny ndy ne
    have nyd : y ≠ dy := fun z => ne z.symm
    have e2 : Ex H2 (upd (upd H2 dy (.own y)) y (.ins (cl.ad X.K) dy [])) := (Ex.new ndy).trans (Ex.new (by rw [upd_ne nyd]; exact ny))
    refine ⟨G2, y, dy, vs ++ dvs, ds ++ dds, fs, rfl, s.gh.trans e2, s.gh.back ny, s.gh.back ndy, upd_same, by rw [upd_ne ne, upd_same]; simp, rs.append (hdv G2), hR, fun G3 H3 ws s3 h3 hl r3 => ⟨rfl, ?_⟩⟩
    have n3 : G3 y = none := s3.gh.back hide_same
    have e3 : Ex H2 H3 := fun a u h => by
      have z : a ≠ y := ne_of_none h ny
      have h1 := s3.h a u (by rw [hide_ne z]; exact e2 a u h)
      rw [hide_ne z] at h1
      exact h1
    refine q _ (upd G3 y (.ins (cl.ad X.K) dy (cl.fl.zip ws))) H3 (s.trans ⟨e3, s3.g.trans (Ex.new n3), fun a u h => ?_, fun a h n => ?_⟩) ⟨y, dy, ws, rfl, upd_same, hl, r3.ex (Ex.new n3)⟩
    · by_cases z : a = y
      · subst z
        rw [upd_same] at h
        rw [h3]
        exact h
      · rw [upd_ne z] at h
        exact hide_ex _ _ _ _ (s3.gh a u h)
    · have z : a ≠ y := fun z => n (by rw [z]; exact ny)
      rw [upd_ne z]
      refine s3.new a h ?_
      rw [hide_ne z]
      cases q : H2 a with
      | none => exact absurd q n
      | some u =>
        rw [e2 a u q]
        simp)
end

/-! ### a def by its body -/
def ini (N : List Str) (ds : List Dt) : List (Option Dt) := ds.map some ++ List.replicate (N.length - ds.length) none
theorem slo_start {K : PySem.W.Frag} {G : Hp} {N : List Str} {vs : List V} {ds : List Dt} (r : Reps K G vs ds) : Slo K G (L2.start N vs) (ini N ds) := by
  refine ⟨by simp [L2.start, ini, r.length], fun i d h => ?_⟩
  unfold ini at h
  unfold L2.start
  have hl := r.length
  by_cases z : i < ds.length
  · rw [List.getElem?_append_left (by simpa using z), List.getElem?_map] at h
    rw [List.getElem?_append_left (by simpa [hl] using z), List.getElem?_map]
    cases q : ds[i]? with
    | none =>
      rw [q] at h
      cases h
    | some d' =>
      rw [q] at h
      have e : d' = d := Option.some.inj (Option.some.inj h)
      subst e
      obtain ⟨v, e1, rv⟩ := r.get q
      exact ⟨v, by rw [e1] <;> rfl, rv⟩
  · rw [List.getElem?_append_right (by simpa using z)] at h
    rw [List.getElem?_replicate] at h
    split at h <;> cases h
theorem sta_start {K : PySem.W.Frag} {G H : Hp} {N : List Str} {vs : List V} {ds : List Dt} (e : Ex G H) (r : Reps K G vs ds) : Sta K G H (ini N ds) [] (L2.start N vs) G H :=
  ⟨Stp.refl e, slo_start r, (fun _ h => by cases h), List.nodup_nil⟩
section
variable {P : Program} {w : World} {K : PySem.W.Frag} {mg : Str → Option Value} {base : Heap}
/-- the context of a def's body -/
abbrev bx (P : Program) (w : World) (K : PySem.W.Frag) (mg : Str → Option Value) (base : Heap) (N : List Str) (q : Str) (st : Stmt) (f : Addr) (cdv : Value) (A : Around) (outer : List Env) (s : Shared) (H : Hp) (E : XK) : Cx := (cxOf C8.CX0 P w K mg base N q (C8.fnScope st) f cdv A outer s H E).nox
/-- the ends of a def -/
abbrev dE (Q : VK) : Ends := { nx := fun _ H' => Q .non H', rt := Q }
theorem fn_pu {x qual : Str} {st : Stmt} {f : Addr} {fd : FuncData} {N ps : List Str} {k : Nat} {R : List Dt → Dt → Prop} (F : C8.Fun K x qual st f fd) (S : FnScope N ps (C8.fnScope st)) (len : ∀ ds d, R ds d → ds.length = ps.length)
    (body : ∀ (cdv : Value) (A : Around) (outer : List Env) (s : Shared) (G H : Hp) (Q : VK) (E : XK) (σ : L2.St) (ds : List Dt) (d : Dt), Room k (A.deeper (envOfC qual (C8.fnScope st) s.heap.objs.size f cdv)) → R ds d → Sta K G H (ini N ds) [] σ G H →
      (∀ v G2 H2, Stp G H G2 H2 → Rep K G2 v d → Q v H2) → wpB (bx P w K mg base N qual st f cdv A outer s H E) (C8.fnBody st) (dE Q) σ H) : FnOk P w K mg base C8.CX0 (k + 1) f fd ps (Pu K R) :=
  C8.fn0 F S (fun vs H Q E h => by
    obtain ⟨G, ds, d, _, r, hR, _⟩ := h
    rw [r.length]
    exact len ds d hR) fun cdv A outer s H vs Q E hr h => by
    obtain ⟨G, ds, d, e, r, hR, q⟩ := h
    exact ⟨_, pb_wp, body cdv A outer s G H Q E _ ds d hr hR (sta_start e r) q⟩
theorem cal_pu {x : Str} {st : Stmt} {f : Addr} {fd : FuncData} {N ps : List Str} {dS : List Value} {dvs : List V} {k : Nat} {R : List Dt → Dt → Prop} (F : C8.Def K mg x st f fd) (b : Binds K fd ps dS) (dv : Vals dvs dS) (S : FnScope N ps (C8.fnScope st)) (len : ∀ ds d, R ds d → ds.length = ps.length)
    (body : ∀ (cdv : Value) (A : Around) (outer : List Env) (s : Shared) (G H : Hp) (Q : VK) (E : XK) (σ : L2.St) (ds : List Dt) (d : Dt), Room k (A.deeper (envOfC x (C8.fnScope st) s.heap.objs.size f cdv)) → R ds d → Sta K G H (ini N ds) [] σ G H →
      (∀ v G2 H2, Stp G H G2 H2 → Rep K G2 v d → Q v H2) → wpB (bx P w K mg base N x st f cdv A outer s H E) (C8.fnBody st) (dE Q) σ H) : C8.Cal P w K mg base (k + 1) x (Pu K R) dvs :=
  ⟨f, fd, ps, dS, fn_pu F.fn S len body, F.mgf, F.kp, b, dv⟩
end

/-! ### statements -/
section
variable {X : Cx} {σ : L2.St} {G0 H0 G H G1 H1 : Hp} {d d1 d2 d3 : Dt} {ds ds1 ds2 : List Dt} {dss : List (Option Dt)} {ow : List (Addr × List Dt)} {a b c e : Expr} {es : List Expr} {pos p : Pos} {k : Bool} {D : Ends} {st : Stmt} {rest body orelse : List Stmt}
theorem wb_cons (h : wpS X st { D with nx := wpB X rest D } σ H) : wpB X (st :: rest) D σ H := wpB_of (pss_cons ps_wp pb_wp) h
theorem wb_nil (h : D.nx σ H) : wpB X [] D σ H := wpB_of pss_nil h
theorem rs_ret (h : Rn X e σ G H d) (q : ∀ v G2 H2, Stp G H G2 H2 → Rep X.K G2 v d → D.rt v H2) : wpB X (.Return (some e) pos :: rest) D σ H :=
  wb_cons (wpS_of (ps_ret pe_wp) (h H (Ex.refl H) _ fun v G2 H2 s r => q v G2 H2 s r))
theorem rs_expr (h : Rn X e σ G H d) (q : ∀ v G2 H2, Stp G H G2 H2 → Rep X.K G2 v d → wpB X rest D σ H2) (hs : swapsWith e none pos.line X.env = pure false := by rfl) : wpB X (.Expr e pos :: rest) D σ H :=
  wb_cons (wpS_of (ps_expr pe_wp hs) (h H (Ex.refl H) _ fun v G2 H2 s r => q v G2 H2 s r))
/-- return, from a state -/
theorem rs_retS (s : Sta X.K G0 H0 dss ow σ G H) (h : Rn X e σ G H d) (q : ∀ v G2 H2, Stp G0 H0 G2 H2 → Rep X.K G2 v d → D.rt v H2) : wpB X (.Return (some e) pos :: rest) D σ H :=
  rs_ret h fun v G2 H2 s2 r => q v G2 H2 (s.st.trans s2) r
theorem rs_if (h : RnT X c σ G H k) (h1 : k = true → ∀ G2 H2, Stp G H G2 H2 → wpB X body { D with nx := wpB X rest D } σ H2) (h2 : k = false → ∀ G2 H2, Stp G H G2 H2 → wpB X orelse { D with nx := wpB X rest D } σ H2) : wpB X (.If c body orelse pos :: rest) D σ H :=
  wb_cons (wpS_of (ps_if pt_wp pb_wp pb_wp) (h H (Ex.refl H) _ fun G2 H2 s => by
    cases k with
    | true => exact iteT (h1 rfl G2 H2 s)
    | false => exact iteF (h2 rfl G2 H2 s)))
/-- if .. : .. without else, whose test says no -/
theorem rs_skip (s : Sta X.K G0 H0 dss ow σ G H) (h : RnT X c σ G H false) (q : ∀ G2 H2, Sta X.K G0 H0 dss ow σ G2 H2 → wpB X rest D σ H2) : wpB X (.If c body [] pos :: rest) D σ H :=
  rs_if h (fun z => by cases z) fun _ G2 H2 s2 => wb_nil (q G2 H2 (s.stp s2))
theorem rs_set {i : Nat} {x : Str} {pos' : Pos} (s : Sta X.K G0 H0 dss ow σ G H) (h : Rn X e σ G H d) (hN : X.N.Nodup) (hi : X.N[i]? = some x) (hx : Loc X.env.scope x) (q : ∀ σ2 G2 H2, Sta X.K G0 H0 (dss.set i (some d)) ow σ2 G2 H2 → wpB X rest D σ2 H2)
    (hs : swapsWith e (some (.Name x pos')) pos.line X.env = pure false := by rfl) (hf : X.fn x = true ∨ X.env.scope.names.lookup x = some .local := by first | exact .inl rfl | exact .inr rfl | assumption) : wpB X (.Assign [.Name x pos'] e pos :: rest) D σ H :=
  wb_cons (wpS_of (ps_set hN hi hx pe_wp hs hf) (h H (Ex.refl H) _ fun v G2 H2 s2 r => q _ G2 H2 ⟨s.st.trans s2, (s.env.ex s2.g).set i r, fun p hp => (s.own p hp).stp s2, s.nd⟩))

/-! ### lists of ours -/
/-- e gives a new list of these -/
def RnO (X : Cx) (e : Expr) (σ : L2.St) (G H : Hp) (ds : List Dt) : Prop :=
  ∀ H1, Ex H H1 → ∀ Q : VK, (∀ l vs G2 H2, Stp G H1 G2 H2 → H1 l = none → G2 l = none → H2 l = some (.lst vs) → Reps X.K G2 vs ds → Q (.ref l) H2) → wpE X e σ H1 Q
theorem ro_lst (h : RnA X es σ G H ds) (hl : ds.length ≤ 100000) : RnO X (.List es pos) σ G H ds := fun H1 e Q q =>
  wpE_of (pe_lst pa_wp) (h H1 e _ fun vs G2 H2 s r => ⟨by rw [r.length]; exact Nat.le_trans hl (by decide), fun p n => q p vs G2 _ (s.trans ⟨Ex.new n, Ex.refl _, s.gh.trans (Ex.new n), fun _ h _ => h⟩) (s.h.back n) (s.gh.back n) upd_same r⟩)
theorem flat_rep {v : V} : ∀ n : Nat, (List.replicate n [v]).flatten = List.replicate n v
  | 0 => rfl
  | n + 1 => by rw [List.replicate_succ, List.flatten_cons, flat_rep n, List.replicate_succ] <;> rfl
theorem map_erase {α β : Type} (f : α → β) : ∀ (l : List α) (j : Nat), (l.eraseIdx j).map f = (l.map f).eraseIdx j
  | [], _ => by simp
  | _ :: _, 0 => rfl
  | x :: l, j + 1 => by
    rw [List.eraseIdx_cons_succ, List.map_cons, List.map_cons, List.eraseIdx_cons_succ, map_erase f l j]
/-- [x] * n -/
theorem ro_rep {n : Nat} {p1 p2 : Pos} (h : RnA X es σ G H [d]) (hn : Rn X b σ G H (.int n)) (hb : n ≤ 100000) : RnO X (.BinOp (.List es p1) .Mult b pos) σ G H (List.replicate n d) := fun H1 e Q q =>
  wpE_of (pe_op op_rep (pe_lst pa_wp) pe_wp) (h H1 e _ fun vs G2 H2 s r => by
    obtain ⟨v, rfl, rv⟩ := reps1 r
    refine ⟨(by show 1 ≤ sizeLine; decide), fun p np => ?_⟩
    have s1 : Stp G H1 G2 (upd H2 p (.lst [v])) := s.trans ⟨Ex.new np, Ex.refl _, s.gh.trans (Ex.new np), fun _ h _ => h⟩
    refine hn _ (e.trans s1.h) _ fun w G3 H3 s3 r3 => ?_
    obtain ⟨j, u⟩ := s1.join s3
    have eH : H3 p = some (.lst [v]) := j.h _ _ upd_same
    refine ⟨p, n, [v], rfl, r3, eH, ?_, ?_, ?_, fun l nl => ?_⟩
    · have : (0 : Int) ≤ (n : Int) := Int.natCast_nonneg n
      omega
    · omega
    · show [v].length * (n : Int).toNat ≤ sizeLine
      rw [List.length_singleton, Nat.one_mul, Int.toNat_natCast]
      exact Nat.le_trans hb (by decide)
    · have s4 := s1.trans j
      have nG := j.gh.back nl
      have e5 : (List.replicate (n : Int).toNat [v]).flatten = List.replicate n v := by rw [Int.toNat_natCast, flat_rep]
      rw [e5]
      exact q l _ _ _ (s4.trans ⟨Ex.new nl, Ex.refl _, j.gh.trans (Ex.new nl), fun _ h _ => h⟩) (s4.h.back nl) nG upd_same (Reps.repl (rv.ex (uni_l _ _)) n))
theorem rs_setO {i : Nat} {x : Str} {pos' : Pos} (s : Sta X.K G0 H0 dss ow σ G H) (h : RnO X e σ G H ds) (hN : X.N.Nodup) (hi : X.N[i]? = some x) (hx : Loc X.env.scope x) (q : ∀ l σ2 G2 H2, Sta X.K G0 H0 (dss.set i (some (.adr l))) (ow ++ [(l, ds)]) σ2 G2 H2 → wpB X rest D σ2 H2)
    (hs : swapsWith e (some (.Name x pos')) pos.line X.env = pure false := by rfl) (hf : X.fn x = true ∨ X.env.scope.names.lookup x = some .local := by first | exact .inl rfl | exact .inr rfl | assumption) : wpB X (.Assign [.Name x pos'] e pos :: rest) D σ H :=
  wb_cons (wpS_of (ps_set hN hi hx pe_wp hs hf) (h H (Ex.refl H) _ fun l vs G2 H2 s2 n1 n2 hl r => q l _ G2 H2 ⟨s.st.trans s2, (s.env.ex s2.g).set i (show Rep X.K G2 (.ref l) (.adr l) from rfl), fun p hp => by
    rcases List.mem_append.mp hp with z | z
    · exact (s.own p z).stp s2
    · have e : p = (l, ds) := by simpa using z
      subst e
      exact ⟨vs, hl, r, n2, s.st.h.back n1⟩, by
    rw [List.map_append, List.nodup_append]
    refine ⟨s.nd, by simp, fun z hz y hy e => ?_⟩
    obtain ⟨p, hp, e1⟩ := List.mem_map.mp hz
    obtain ⟨_, o1, _⟩ := s.own p hp
    have e2 : y = l := by simpa using hy
    rw [e1, e, e2, n1] at o1
    cases o1⟩))
/-- a list of ours has grown or changed -/
theorem Sta.put {j : Nat} {l : Addr} {items : List Dt} {vs : List V} {K : PySem.W.Frag} (s : Sta K G0 H0 dss ow σ G H) (hj : ow[j]? = some (l, ds)) (r : Reps K G vs items) : Sta K G0 H0 dss (ow.set j (l, items)) σ G (upd H l (.lst vs)) := by
  obtain ⟨ws, o1, o2, o3, o4⟩ := s.own (l, ds) (List.mem_of_getElem? hj)
  have eu : ∀ {A : Hp}, A l = none → Ex A H → Ex A (upd H l (.lst vs)) := fun n e => e.upd n
  have ljt : j < ow.length := (List.getElem?_eq_some_iff.mp hj).1
  have ljv : ow[j] = (l, ds) := (List.getElem?_eq_some_iff.mp hj).2
  refine ⟨⟨eu o4 s.st.h, s.st.g, eu o3 s.st.gh, s.st.new⟩, s.env, fun p hp => ?_, ?_⟩
  · obtain ⟨i, hi, e⟩ := List.mem_iff_getElem.mp hp
    rw [List.length_set] at hi
    rw [List.getElem_set] at e
    split at e
    · subst e
      exact ⟨vs, upd_same, r, o3, o4⟩
    · rename_i ne
      have hp' : p ∈ ow := by
        rw [← e]
        exact List.getElem_mem hi
      obtain ⟨us, a1, a2, a3, a4⟩ := s.own p hp'
      refine ⟨us, ?_, a2, a3, a4⟩
      have ne2 : p.1 ≠ l := fun z => by
        have h1 : (ow.map (·.1))[i]'(by simpa using hi) = (ow.map (·.1))[j]'(by simpa using ljt) := by
          rw [List.getElem_map, List.getElem_map, e, ljv, z]
        exact ne ((List.getElem_inj s.nd).mp h1).symm
      rw [upd_ne ne2]
      exact a1
  · have e : (ow.set j (l, items)).map (·.1) = ow.map (·.1) := by
      rw [List.map_set]
      have e1 : (ow.map (·.1))[j]? = some l := by rw [List.getElem?_map, hj] <;> rfl
      obtain ⟨h1, h2⟩ := List.getElem?_eq_some_iff.mp e1
      refine List.ext_getElem (by simp) fun i a1 a2 => ?_
      rw [List.getElem_set]
      split
      · rename_i z
        subst z
        exact h2.symm
      · rfl
    rw [e]
    exact s.nd
theorem rs_bm {j : Nat} {l : Addr} {m : Str} {o : Expr} {q1 q2 : Pos} {r : V → List V → Hp → VK → Prop} {ds2 : List Dt} (s : Sta X.K G0 H0 dss ow σ G H) (hv : Rn X o σ G H (.adr l)) (hj : ow[j]? = some (l, ds)) (h : RnA X (e :: es) σ G H ds1)
    (pm : PE X (.Call (.Attribute o m q1) (e :: es) [] q2) (tBM X.K "list" r (wpE X o) (wpA X (e :: es))))
    (hr : ∀ vs ws G2 H2, Stp G H G2 H2 → Reps X.K G2 vs ds → Reps X.K G2 ws ds1 → H2 l = some (.lst vs) → ∀ Q : VK, (∀ us, Reps X.K G2 us ds2 → Q .non (upd H2 l (.lst us))) → r (.ref l) ws H2 Q)
    (q : ∀ G2 H2, Sta X.K G0 H0 dss (ow.set j (l, ds2)) σ G2 H2 → wpB X rest D σ H2)
    (hs : swapsWith (.Call (.Attribute o m q1) (e :: es) [] q2) none pos.line X.env = pure false := by rfl) :
    wpB X (.Expr (.Call (.Attribute o m q1) (e :: es) [] q2) pos :: rest) D σ H := by
  obtain ⟨ws, o1, o2, o3, o4⟩ := s.own (l, ds) (List.mem_of_getElem? hj)
  refine wb_cons (wpS_of (ps_expr pe_wp hs) (wpE_of pm (hv H (Ex.refl H) _ fun v G2 H2 s2 r2 => ?_)))
  have e : v = .ref l := r2
  subst e
  refine ⟨.inl ⟨rfl, ws, SqL.of (s2.h _ _ o1)⟩, h H2 s2.h _ fun us G3 H3 s3 r3 => ?_⟩
  obtain ⟨jn, u⟩ := s2.join s3
  have s4 := s2.trans jn
  refine hr ws us _ H3 s4 (o2.ex s4.g) (r3.ex u) (s4.h _ _ o1) _ fun us2 r4 => ?_
  exact q _ _ ((s.stp s4).put hj r4)
theorem rs_app {j : Nat} {l : Addr} {o : Expr} {q1 q2 : Pos} (s : Sta X.K G0 H0 dss ow σ G H) (hv : Rn X o σ G H (.adr l)) (hj : ow[j]? = some (l, ds)) (h : RnA X [e] σ G H [d]) (hl : ds.length < 100000) (q : ∀ G2 H2, Sta X.K G0 H0 dss (ow.set j (l, ds ++ [d])) σ G2 H2 → wpB X rest D σ H2)
    (pm : PE X (.Call (.Attribute o "append" q1) [e] [] q2) (tBM X.K "list" rAppend (wpE X o) (wpA X [e])) := by exact pe_bm PySem.F.plainAttrs_list PySem.F.slot_list_append PySem.F.type_list_append mt_append pe_wp pa_wp)
    (hs : swapsWith (.Call (.Attribute o "append" q1) [e] [] q2) none pos.line X.env = pure false := by rfl) :
    wpB X (.Expr (.Call (.Attribute o "append" q1) [e] [] q2) pos :: rest) D σ H :=
  rs_bm s hv hj h pm (fun vs ws G2 H2 s2 r1 r2 hH Q k => by
    obtain ⟨w, rfl, rw'⟩ := reps1 r2
    exact ⟨l, vs, w, rfl, rfl, hH, by rw [r1.length]; exact Nat.lt_of_lt_of_le hl (by decide), k _ (r1.append (Reps.one rw'))⟩) q hs
theorem rs_ext {j : Nat} {l : Addr} {o : Expr} {q1 q2 : Pos} (s : Sta X.K G0 H0 dss ow σ G H) (hv : Rn X o σ G H (.adr l)) (hj : ow[j]? = some (l, ds)) (h : RnO X e σ G H ds1) (hl : ds.length + ds1.length ≤ 100000) (q : ∀ G2 H2, Sta X.K G0 H0 dss (ow.set j (l, ds ++ ds1)) σ G2 H2 → wpB X rest D σ H2)
    (pm : PE X (.Call (.Attribute o "extend" q1) [e] [] q2) (tBM X.K "list" rExtend (wpE X o) (tCons (wpE X e) tNil)) := by exact pe_bm PySem.F.plainAttrs_list PySem.F.slot_list_extend PySem.F.type_list_extend mt_extend pe_wp (pa_cons pe_wp pa_nil))
    (hs : swapsWith (.Call (.Attribute o "extend" q1) [e] [] q2) none pos.line X.env = pure false := by rfl) :
    wpB X (.Expr (.Call (.Attribute o "extend" q1) [e] [] q2) pos :: rest) D σ H := by
  obtain ⟨ws, o1, o2, o3, o4⟩ := s.own (l, ds) (List.mem_of_getElem? hj)
  refine wb_cons (wpS_of (ps_expr pe_wp hs) (wpE_of pm (hv H (Ex.refl H) _ fun v G2 H2 s2 r2 => ?_)))
  have e : v = .ref l := r2
  subst e
  refine ⟨.inl ⟨rfl, ws, SqL.of (s2.h _ _ o1)⟩, h H2 s2.h _ fun b us G3 H3 s3 n1 n2 hb r3 => ?_⟩
  obtain ⟨jn, u⟩ := s2.join s3
  have s4 := s2.trans jn
  refine ⟨l, b, ws, us, rfl, rfl, s4.h _ _ o1, hb, ?_, ?_⟩
  · rw [o2.length, r3.length]
    exact Nat.le_trans hl (by decide)
  · exact q _ _ ((s.stp s4).put hj ((o2.ex s4.g).append (r3.ex u)))
/-- xs[i] = e -/
theorem rs_store {j i : Nat} {l : Addr} {o b : Expr} {p' : Pos} (s : Sta X.K G0 H0 dss ow σ G H) (h : Rn X e σ G H d) (hv : Rn X o σ G H (.adr l)) (hi : Rn X b σ G H (.int i)) (hj : ow[j]? = some (l, ds)) (hl : i < ds.length) (q : ∀ G2 H2, Sta X.K G0 H0 dss (ow.set j (l, ds.set i d)) σ G2 H2 → wpB X rest D σ H2)
    (ha : ∀ v, assign (.Subscript o b p') X.env v = (do
      let ov ← holding [v] (eval o X.env)
      let iv ← holding [v, ov] (eval b X.env)
      standAt p'
      holding [v, ov, iv] (setItem ov iv v)
      release [v, ov, iv] []) := by intro _; rfl)
    (hs : swapsWithSole [.Subscript o b p'] e pos.line X.env = pure false := by rfl) (hw : swappedStores [.Subscript o b p'] e X.env = pure none := by rfl)
    (h1 : (assignEach [.Subscript o b p'] X.env).map (·.2) = [assign (.Subscript o b p') X.env] := by rfl) :
    wpB X (.Assign [.Subscript o b p'] e pos :: rest) D σ H := by
  obtain ⟨ws, o1, o2, o3, o4⟩ := s.own (l, ds) (List.mem_of_getElem? hj)
  refine wb_cons (wpS_of (ps_asg pe_wp (pg_sub pe_wp pe_wp set_list ha) hs hw h1) (h H (Ex.refl H) _ fun v G2 H2 s2 r2 => hv H2 s2.h _ fun u G3 H3 s3 r3 => ?_))
  have e : u = .ref l := r3
  subst e
  obtain ⟨j1, u1⟩ := s2.join s3
  have s4 := s2.trans j1
  refine hi H3 s4.h _ fun w G4 H4 s5 r4 => ?_
  have e : w = .int i := r4
  subst e
  obtain ⟨j2, u2⟩ := s4.join s5
  have s6 := s4.trans j2
  refine ⟨l, ws, i, i, rfl, rfl, s6.h _ _ o1, ?_, q _ _ ((s.stp s6).put hj ((o2.ex s6.g).set i (((r2.ex (uni_l _ _)).ex (uni_l _ _)))))⟩
  have hw : ws.length = ds.length := o2.length
  rw [hw]
  unfold ixN
  rw [if_pos (by omega), if_pos (by omega)]
  simp
/-- a list of ours becomes data -/
theorem Sta.freeze {K : PySem.W.Frag} {i j : Nat} {l : Addr} (s : Sta K G0 H0 dss ow σ G H) (hj : ow[j]? = some (l, ds)) (hi : dss[i]? = some (some (.adr l))) : ∃ G2, Ex G G2 ∧ Sta K G0 H0 (dss.set i (some (.lst ds))) (ow.eraseIdx j) σ G2 H := by
  obtain ⟨ws, o1, o2, o3, o4⟩ := s.own (l, ds) (List.mem_of_getElem? hj)
  obtain ⟨v, e1, rv⟩ := s.env.at_ i _ hi
  have e : v = .ref l := rv
  subst e
  have ljt : j < ow.length := (List.getElem?_eq_some_iff.mp hj).1
  have ljv : ow[j] = (l, ds) := (List.getElem?_eq_some_iff.mp hj).2
  refine ⟨upd G l (.lst ws), Ex.new o3, ⟨s.st.h, s.st.g.trans (Ex.new o3), fun a u h => ?_, fun a h n => ?_⟩, ?_, fun p hp => ?_, ?_⟩
  · by_cases z : a = l
    · subst z
      rw [upd_same] at h
      rw [o1]
      exact h
    · rw [upd_ne z] at h
      exact s.st.gh a u h
  · have z : a ≠ l := fun z => n (by rw [z]; exact o4)
    rw [upd_ne z]
    exact s.st.new a h n
  · have h1 := (s.env.ex (Ex.new (o := .lst ws) o3)).set i (show Rep K (upd G l (.lst ws)) (.ref l) (.lst ds) from ⟨l, ws, rfl, upd_same, o2.ex (Ex.new o3)⟩)
    have e : σ.set i (some (.ref l)) = σ := by
      refine List.ext_getElem? fun z => ?_
      rw [List.getElem?_set]
      split
      · rename_i q
        subst q
        split
        · exact e1.symm
        · rename_i w
          exact (List.getElem?_eq_none (by omega)).symm
      · rfl
    rw [e] at h1
    exact h1
  · have hp' : p ∈ ow := List.mem_of_mem_eraseIdx hp
    obtain ⟨us, a1, a2, a3, a4⟩ := s.own p hp'
    have ne2 : p.1 ≠ l := fun z => by
      obtain ⟨i2, hi2, e2⟩ := List.mem_iff_getElem.mp hp
      have ndE : ((ow.eraseIdx j).map (·.1)) = (ow.map (·.1)).eraseIdx j := by
        rw [map_erase]
      have hn : l ∉ (ow.map (·.1)).eraseIdx j := by
        have e3 : (ow.map (·.1))[j]'(by simpa using ljt) = l := by rw [List.getElem_map, ljv]
        intro hm
        have := List.mem_eraseIdx_iff_getElem.mp hm
        obtain ⟨i3, hi3, ne3, e4⟩ := this
        exact ne3 ((List.getElem_inj s.nd).mp (e4.trans e3.symm))
      exact hn (by rw [← ndE, ← z]; exact List.mem_map.mpr ⟨p, hp, rfl⟩)
    exact ⟨us, a1, a2.ex (Ex.new o3), by rw [upd_ne ne2]; exact a3, a4⟩
  · rw [map_erase]
    exact s.nd.sublist (List.eraseIdx_sublist _ _)
end
end Y
set_option Elab.async false
set_option linter.all false
set_option maxRecDepth 100000
set_option maxHeartbeats 4000000
/-! Lay4: what is walked, targets, for, comprehensions. -/
namespace Y
open PySem PySem.Spec PyProof.Rows L2

/-! ### walks -/
structure Wks (K : PySem.W.Frag) (J : It) (G : Hp) (items : List Dt) : Prop where
  go : ∀ (i : Nat) (d : Dt) (G1 H1 : Hp), items[i]? = some d → Ex G G1 → Ex G1 H1 → J.go i H1
  yld : ∀ (i : Nat) (d : Dt) (G1 H1 : Hp) (x : V) (H2 : Hp), items[i]? = some d → Ex G G1 → Ex G1 H1 → J.yld i H1 x H2 → ∃ G2, Stp G1 H1 G2 H2 ∧ Rep K G2 x d
  stop : ∀ (G1 H1 : Hp), Ex G G1 → Ex G1 H1 → J.stop items.length H1
def Wk (X : Cx) (tg iter : Expr) (σ : L2.St) (G H : Hp) (items : List Dt) : Prop :=
  ∃ wi, PI X tg iter wi ∧ ∀ H1, Ex H H1 → ∀ R : It → Hp → Prop, (∀ J G2 H2, Stp G H1 G2 H2 → Wks X.K J G2 items → R J H2) → wi σ H1 R
section
variable {X : Cx} {σ : L2.St} {G0 H0 G H G1 H1 : Hp} {d d1 d2 d3 : Dt} {ds ds1 ds2 : List Dt} {dss : List (Option Dt)} {ow : List (Addr × List Dt)} {a b c e tg iter : Expr} {es : List Expr} {pos p : Pos} {k : Bool} {D : Ends} {st : Stmt} {rest body orelse : List Stmt}
theorem Wk.mono (s : Stp G H G1 H1) (h : Wk X tg iter σ G H ds) : Wk X tg iter σ G1 H1 ds := by
  obtain ⟨wi, p, q⟩ := h
  refine ⟨wi, p, fun H2 e2 R k => q H2 (s.h.trans e2) R fun J G3 H3 s3 w => ?_⟩
  obtain ⟨j, u⟩ := (show Stp G H G1 H2 from ⟨s.h.trans e2, s.g, s.gh.trans e2, s.new⟩).join s3
  exact k J _ H3 j ⟨fun i d Ga Ha h1 h2 h3 => w.go i d Ga Ha h1 (u.trans h2) h3, fun i d Ga Ha x Hb h1 h2 h3 h4 => w.yld i d Ga Ha x Hb h1 (u.trans h2) h3 h4, fun Ga Ha h2 h3 => w.stop Ga Ha (u.trans h2) h3⟩
theorem Wk.up (h : Wk X tg iter σ G H ds) (q : Ex H H1) : Wk X tg iter σ G H1 ds := by
  obtain ⟨wi, p, q'⟩ := h
  exact ⟨wi, p, fun H2 e2 R k => q' H2 (q.trans e2) R k⟩
theorem wks_list {K : PySem.W.Frag} {l : Addr} {xs : List V} (hx : G l = some (.lst xs)) (r : Reps K G xs ds) : Wks K (Itl K l) G ds where
  go := fun i d G1 H1 h e1 e2 => by
    obtain ⟨v, h1, _⟩ := r.get h
    exact ⟨xs, v, sqL_ex (e1.trans e2) hx, h1⟩
  yld := fun i d G1 H1 x H2 h e1 e2 y => by
    obtain ⟨e, q⟩ := y
    subst e
    obtain ⟨v, h1, rv⟩ := r.get h
    have e3 := q xs (sqL_ex (e1.trans e2) hx)
    rw [h1] at e3
    have e4 : v = x := Option.some.inj e3
    subst e4
    exact ⟨G1, Stp.refl e2, rv.ex e1⟩
  stop := fun G1 H1 e1 e2 => ⟨xs, sqL_ex (e1.trans e2) hx, by rw [r.length]; exact Nat.le_refl _⟩
theorem wks_tup {K : PySem.W.Frag} {l : Addr} {xs : List V} (hx : SqT K G l xs) (r : Reps K G xs ds) : Wks K (Itt K l) G ds where
  go := fun i d G1 H1 h e1 e2 => by
    obtain ⟨v, h1, _⟩ := r.get h
    exact ⟨xs, v, sqT_ex (e1.trans e2) hx, h1⟩
  yld := fun i d G1 H1 x H2 h e1 e2 y => by
    obtain ⟨e, q⟩ := y
    subst e
    obtain ⟨v, h1, rv⟩ := r.get h
    have e3 := q xs (sqT_ex (e1.trans e2) hx)
    rw [h1] at e3
    have e4 : v = x := Option.some.inj e3
    subst e4
    exact ⟨G1, Stp.refl e2, rv.ex e1⟩
  stop := fun G1 H1 e1 e2 => ⟨xs, sqT_ex (e1.trans e2) hx, by rw [r.length]; exact Nat.le_refl _⟩
def rgD (lo : Int) (n : Nat) : List Dt := (List.range n).map fun (i : Nat) => Dt.int (lo + (i : Int))
theorem wks_rg {K : PySem.W.Frag} {lo : Int} {n : Nat} : Wks K (Itr lo n) G (rgD lo n) where
  go := fun i d G1 H1 h e1 e2 => by
    have := (List.getElem?_eq_some_iff.mp h).1
    unfold rgD at this
    rw [List.length_map, List.length_range] at this
    exact this
  yld := fun i d G1 H1 x H2 h e1 e2 y => by
    obtain ⟨e, q⟩ := y
    subst e q
    refine ⟨G1, Stp.refl e2, ?_⟩
    unfold rgD at h
    rw [List.getElem?_map] at h
    cases z : (List.range n)[i]? with
    | none =>
      rw [z] at h
      cases h
    | some j =>
      rw [z] at h
      have e4 : Dt.int (lo + (j : Int)) = d := Option.some.inj h
      have e5 : j = i := by
        obtain ⟨h1, h2⟩ := List.getElem?_eq_some_iff.mp z
        rw [List.getElem_range] at h2
        exact h2.symm
      rw [← e4, e5]
      rfl
  stop := fun G1 H1 e1 e2 => by
    show n ≤ (rgD lo n).length
    unfold rgD
    rw [List.length_map, List.length_range]
    exact Nat.le_refl _
theorem wk_list (h : Rn X iter σ G H (.lst ds)) : Wk X tg iter σ G H ds := ⟨_, pi_list pe_wp, fun H1 e R q => h H1 e _ fun v G2 H2 s r => by
  obtain ⟨l, xs, rfl, hx, rs⟩ := r
  exact ⟨l, rfl, ⟨xs, sqL_ex s.gh hx⟩, q _ G2 H2 s (wks_list hx rs)⟩⟩
theorem wk_tup (h : Rn X iter σ G H (.tup ds)) : Wk X tg iter σ G H ds := ⟨_, pi_tup pe_wp, fun H1 e R q => h H1 e _ fun v G2 H2 s r => by
  obtain ⟨l, xs, rfl, hx, rs⟩ := r
  exact ⟨l, rfl, ⟨xs, sqT_ex s.gh hx⟩, q _ G2 H2 s (wks_tup hx rs)⟩⟩
theorem wk_rg1 {n : Int} (f : Free X "range") (h : Rn X a σ G H (.int n)) (hb : -100000 ≤ n ∧ n ≤ 100000) (hs : starEach [a] X.env = [(false, eval a X.env)] := by rfl) : Wk X tg (.Call (.Name "range" p) [a] [] pos) σ G H (rgD 0 n.toNat) :=
  ⟨_, pi_range1 f.g f.m (pa_cons pe_wp pa_nil hs) hs, fun H1 e R q => h H1 e _ fun v G2 H2 s r => ⟨n, by rw [show v = V.int n from r], by omega, by omega, q _ G2 H2 s wks_rg⟩⟩
theorem wk_rg2 {m n : Int} (f : Free X "range") (h1 : Rn X a σ G H (.int m)) (h2 : Rn X b σ G H (.int n)) (hb : -100000 ≤ m ∧ m ≤ 100000 ∧ -100000 ≤ n ∧ n ≤ 100000) (hs : starEach [a, b] X.env = [(false, eval a X.env), (false, eval b X.env)] := by rfl) (hs2 : starEach [b] X.env = [(false, eval b X.env)] := by rfl) :
    Wk X tg (.Call (.Name "range" p) [a, b] [] pos) σ G H (rgD m (n - m).toNat) :=
  ⟨_, pi_range2 f.g f.m (pa_cons pe_wp (pa_cons pe_wp pa_nil hs2) (by rw [hs, hs2])) hs hs2, fun H1 e R q => two h1 h2 e fun v w G2 H2 s r r' => ⟨m, n, by rw [show v = V.int m from r, show w = V.int n from r'], ⟨by omega, by omega, by omega, by omega⟩, q _ G2 H2 s wks_rg⟩⟩

/-! ### targets -/
def wpG (X : Cx) (tg : Expr) : TG := fun v σ H Q => ∀ (pins : List (Addr × Obj)) (s : Shared) (u : Value), Inv X pins σ H s → RelV v u → wpAny (model X.prog X.w) X.A (assign tg X.env u) (fun _ s' => ∃ σ' H', Inv X pins σ' H' s' ∧ Q σ' H') X.xe s
theorem pg_wp : PG X tg (wpG X tg) := ⟨fun pins s σ H v u Q I r h => h pins s u I r⟩
theorem wpG_of {g : TG} (hp : PG X tg g) {v : V} {Q : L2.St → Hp → Prop} (h : g v σ H Q) : wpG X tg v σ H Q := fun pins s u I r => hp.run pins s σ H v u Q I r h
def wpGs (X : Cx) (ts : List Expr) : TGs := fun vs σ H Q => ∀ (pins : List (Addr × Obj)) (s : Shared) (us : List Value), Inv X pins σ H s → Vals vs us → wpAny (model X.prog X.w) X.A (assignInOrder ((assignEach ts X.env).map (·.2)) us) (fun _ s' => ∃ σ' H', Inv X pins σ' H' s' ∧ Q σ' H') X.xe s
theorem pgs_wp {ts : List Expr} : PGs X ts (wpGs X ts) := ⟨fun pins s σ H v u Q I r h => h pins s u I r⟩
theorem wpGs_of {g : TGs} {ts : List Expr} (hp : PGs X ts g) {v : List V} {Q : L2.St → Hp → Prop} (h : g v σ H Q) : wpGs X ts v σ H Q := fun pins s u I r => hp.run pins s σ H v u Q I r h
/-- the target takes d: the slots' data behind it, the slots that may change -/
def TgOk (X : Cx) (tg : Expr) (d : Dt) (up : List (Option Dt) → List (Option Dt)) (is : List Nat) : Prop :=
  ∀ (σ : L2.St) (G H : Hp) (v : V), Ex G H → Rep X.K G v d → ∀ Q : L2.St → Hp → Prop, (∀ σ2 : L2.St, σ2.length = σ.length → (∀ i : Nat, i ∉ is → σ2[i]? = σ[i]?) → (∀ ds, Slo X.K G σ ds → Slo X.K G σ2 (up ds)) → Q σ2 H) → wpG X tg v σ H Q
def TgsOk (X : Cx) (ts : List Expr) (ds : List Dt) (up : List (Option Dt) → List (Option Dt)) (is : List Nat) : Prop :=
  ∀ (σ : L2.St) (G H : Hp) (vs : List V), Ex G H → Reps X.K G vs ds → ∀ Q : L2.St → Hp → Prop, (∀ σ2 : L2.St, σ2.length = σ.length → (∀ i : Nat, i ∉ is → σ2[i]? = σ[i]?) → (∀ ds, Slo X.K G σ ds → Slo X.K G σ2 (up ds)) → Q σ2 H) → wpGs X ts vs σ H Q
theorem tg_name {i : Nat} {x : Str} (hN : X.N.Nodup) (hi : X.N[i]? = some x) (hx : Loc X.env.scope x) (hf : X.fn x = true ∨ X.env.scope.names.lookup x = some .local := by first | exact .inl rfl | exact .inr rfl | assumption) : TgOk X (.Name x pos) d (fun ds => ds.set i (some d)) [i] := fun σ G H v e r Q q =>
  wpG_of (pg_name hN hi hx hf) (q _ (by rw [List.length_set]) (fun j hj => List.getElem?_set_ne fun z => hj (by rw [z]; exact List.mem_singleton_self _)) fun ds h => h.set i r)
theorem tgs_nil : TgsOk X [] [] (fun ds => ds) [] := fun σ G H vs e r Q q => by
  cases vs with
  | nil => exact wpGs_of pgs_nil ⟨rfl, q σ rfl (fun _ _ => rfl) fun _ h => h⟩
  | cons _ _ => exact r.elim
theorem tgs_cons {up1 up2 : List (Option Dt) → List (Option Dt)} {i1 i2 : List Nat} (h1 : TgOk X tg d up1 i1) (h2 : TgsOk X es ds up2 i2) (hs : (assignEach (tg :: es) X.env).map (·.2) = assign tg X.env :: (assignEach es X.env).map (·.2) := by rfl) : TgsOk X (tg :: es) (d :: ds) (fun l => up2 (up1 l)) (i1 ++ i2) := fun σ G H vs e r Q q => by
  cases vs with
  | nil => exact r.elim
  | cons v vs =>
    refine wpGs_of (pgs_cons pg_wp pgs_wp hs) ⟨v, vs, rfl, h1 σ G H v e r.1 _ fun σ2 l2 s2 k2 => h2 σ2 G H vs e r.2 _ fun σ3 l3 s3 k3 => q σ3 (l3.trans l2) (fun i hi => ?_) fun ds h => k3 _ (k2 _ h)⟩
    rw [List.mem_append, not_or] at hi
    rw [s3 i hi.2, s2 i hi.1]
theorem tg_tup {up : List (Option Dt) → List (Option Dt)} {is : List Nat} {kk : Nat} (hc : X.calm = true) (h : TgsOk X es ds up is) (hn : (assignEach es X.env).length = ds.length := by rfl) (hst : (assignEach es X.env).findIdx? (·.1) = none := by rfl) : TgOk X (.Tuple es kk pos) (.tup ds) up is := fun σ G H v e r Q q => by
  obtain ⟨l, xs, rfl, hx, rs⟩ := r
  exact wpG_of (pg_tup hc pgs_wp hn hst) ⟨l, xs, rfl, sqT_ex e hx, rs.length, h σ G H xs e rs Q q⟩

/-! ### for -/
theorem wpB_mono {D D' : Ends} (h : wpB X rest D σ H) (h1 : ∀ σ H, D.nx σ H → D'.nx σ H) (h2 : ∀ v H, D.rt v H → D'.rt v H) (h3 : ∀ σ H, D.bk σ H → D'.bk σ H) (h4 : ∀ σ H, D.ct σ H → D'.ct σ H) : wpB X rest D' σ H := fun pins s I =>
  thn (h pins s I) fun f s' x => by
    cases f with
    | next =>
      obtain ⟨σ', H', I', q⟩ := x
      exact ⟨σ', H', I', h1 _ _ q⟩
    | brk =>
      obtain ⟨σ', H', I', q⟩ := x
      exact ⟨σ', H', I', h3 _ _ q⟩
    | cont =>
      obtain ⟨σ', H', I', q⟩ := x
      exact ⟨σ', H', I', h4 _ _ q⟩
    | ret u =>
      obtain ⟨v, σ', H', I', r, q⟩ := x
      exact ⟨v, σ', H', I', r, h2 _ _ q⟩
theorem rs_for {α : Type} {enc : α → Dt} {xs : List α} {up : α → List (Option Dt) → List (Option Dt)} {is : List Nat} (W : List α → L2.St → Hp → Hp → Prop) (eg : Ex G H) (hp : PassesOwn (model X.prog X.w) X.A X.env X.xe) (hc : X.calm = true) (hw : Wk X tg iter σ G H (xs.map enc))
    (htg : ∀ x ∈ xs, TgOk X tg (enc x) (up x) is) (h0 : ∀ G1 H1, Stp G H G1 H1 → W [] σ G1 H1)
    (hs : ∀ G1 H1, Stp G H G1 H1 → ∀ pre x post, xs = pre ++ x :: post → ∀ σ' G' H' σ2 G2 H2, W pre σ' G' H' → Ex G1 G' → Stp G' H' G2 H2 → (∀ ds, Slo X.K G' σ' ds → Slo X.K G2 σ2 (up x ds)) →
      wpB X body { D with nx := fun σ3 H3 => ∃ G3, W (pre ++ [x]) σ3 G3 H3 ∧ Ex G1 G3 ∧ Ex G3 H3, ct := fun σ3 H3 => ∃ G3, W (pre ++ [x]) σ3 G3 H3 ∧ Ex G1 G3 ∧ Ex G3 H3, bk := wpB X rest D } σ2 H2)
    (hd : ∀ G1 H1, Stp G H G1 H1 → ∀ σ' G' H', W xs σ' G' H' → Ex G1 G' → Ex G' H' → wpB X rest D σ' H') (hfs : ∀ x, foldedSetIterable iter X.env x = pure x := by intro _; rfl) : wpB X (.For tg iter body [] pos :: rest) D σ H := by
  obtain ⟨wi, hpi, hwi⟩ := hw
  refine wb_cons (wpS_of (ps_for hp hc hpi pg_wp pb_wp (hs := hfs)) (hwi H (Ex.refl H) _ fun J G1 H1 s1 w => ?_))
  refine ⟨fun i m σ' H' => m = xs.length - i ∧ i ≤ xs.length ∧ ∃ G', W (xs.take i) σ' G' H' ∧ Ex G1 G' ∧ Ex G' H', ⟨_, rfl, Nat.zero_le _, G1, by rw [List.take_zero]; exact h0 G1 H1 s1, Ex.refl _, s1.gh⟩, ?_⟩
  rintro i m σ' H' ⟨rfl, hi, G', hW, e1, e2⟩
  by_cases lt : i < xs.length
  · have hx : xs[i]? = some xs[i] := List.getElem?_eq_getElem lt
    have hm : (xs.map enc)[i]? = some (enc xs[i]) := by rw [List.getElem?_map, hx] <;> rfl
    have ex : xs = xs.take i ++ xs[i] :: xs.drop (i + 1) := by rw [← List.drop_eq_getElem_cons lt, List.take_append_drop]
    have et : xs.take (i + 1) = xs.take i ++ [xs[i]] := by rw [List.take_succ_eq_append_getElem lt]
    refine .inr ⟨w.go i _ G' H' hm e1 e2, fun σ3 H3 => ∃ G3, W (xs.take i ++ [xs[i]]) σ3 G3 H3 ∧ Ex G1 G3 ∧ Ex G3 H3, fun σ3 H3 h3 => ⟨xs.length - (i + 1), by omega, rfl, by omega, by rw [et]; exact h3⟩, fun x H2 y => ?_⟩
    obtain ⟨G2, s2, r2⟩ := w.yld i _ G' H' x H2 hm e1 e2 y
    refine htg xs[i] (List.getElem_mem lt) σ' G2 H2 x s2.gh r2 _ fun σ2 _ _ k2 => ?_
    exact hs G1 H1 s1 (xs.take i) xs[i] (xs.drop (i + 1)) ex σ' G' H' σ2 G2 H2 hW e1 s2 fun ds h => k2 ds (h.ex s2.g)
  · have ei : i = xs.length := by omega
    subst ei
    refine .inl ⟨?_, ?_⟩
    · have := w.stop G' H' e1 e2
      rw [List.length_map] at this
      exact this
    · rw [List.take_length] at hW
      exact hd G1 H1 s1 σ' G' H' hW e1 e2
theorem Stp.out {G0 H0 G1 H1 G2 H2 : Hp} (a : Stp G0 H0 G1 H1) (b : Stp G1 H0 G2 H2) : Stp G0 H0 G2 H2 := ⟨b.h, a.g.trans b.g, b.gh, fun x h n => b.new x (a.new x h n) n⟩
theorem Sta.inn {K : PySem.W.Frag} (s : Sta K G0 H0 dss ow σ G H) : Sta K G H0 dss ow σ G H := ⟨⟨s.st.h, Ex.refl _, s.st.gh, fun _ h _ => h⟩, s.env, s.own, s.nd⟩
theorem Sta.out {K : PySem.W.Frag} (a : Stp G0 H0 G1 H1) (s : Sta K G1 H0 dss ow σ G H) : Sta K G0 H0 dss ow σ G H := ⟨a.out s.st, s.env, s.own, s.nd⟩
/-- a loop whose state hangs on the prefix taken -/
theorem rs_forS {α : Type} {enc : α → Dt} {xs : List α} {up : α → List (Option Dt) → List (Option Dt)} {is : List Nat} (dsf : List α → List (Option Dt)) (owf : List α → List (Addr × List Dt)) (s : Sta X.K G0 H0 (dsf []) (owf []) σ G H) (hp : PassesOwn (model X.prog X.w) X.A X.env X.xe) (hc : X.calm = true) (hw : Wk X tg iter σ G H (xs.map enc))
    (htg : ∀ x ∈ xs, TgOk X tg (enc x) (up x) is)
    (hs : ∀ G1 H1, Stp G0 H0 G1 H1 → ∀ pre x post, xs = pre ++ x :: post → ∀ σ2 G2 H2, Sta X.K G1 H0 (up x (dsf pre)) (owf pre) σ2 G2 H2 →
      wpB X body { D with nx := fun σ3 H3 => ∃ G3, Sta X.K G1 H0 (dsf (pre ++ [x])) (owf (pre ++ [x])) σ3 G3 H3, ct := fun σ3 H3 => ∃ G3, Sta X.K G1 H0 (dsf (pre ++ [x])) (owf (pre ++ [x])) σ3 G3 H3, bk := wpB X rest D } σ2 H2)
    (hd : ∀ σ' G' H', Sta X.K G0 H0 (dsf xs) (owf xs) σ' G' H' → wpB X rest D σ' H') (hfs : ∀ x, foldedSetIterable iter X.env x = pure x := by intro _; rfl) : wpB X (.For tg iter body [] pos :: rest) D σ H := by
  refine rs_for (fun pre σ' G' H' => ∃ G1 H1, Stp G0 H0 G1 H1 ∧ Stp G H G1 H1 ∧ Sta X.K G1 H0 (dsf pre) (owf pre) σ' G' H') s.ex hp hc hw htg (fun G1 H1 s1 => ⟨G1, H1, s.st.trans s1, s1, (s.stp s1).inn⟩) ?_ ?_ hfs
  · rintro G1 H1 s1 pre x post ex σ' G' H' σ2 G2 H2 ⟨Ga, Ha, sa, _, hW⟩ e1 s2 k2
    have hS : Sta X.K G1 H0 (dsf pre) (owf pre) σ' G' H' := ⟨⟨hW.st.h, e1, hW.st.gh, fun a h n => hW.st.new a (sa.new a ((s.st.trans s1).g.back h) n) n⟩, hW.env, hW.own, hW.nd⟩
    have hS2 := hS.stp s2
    refine wpB_mono (hs G1 H1 (s.st.trans s1) pre x post ex σ2 G2 H2 ⟨hS2.st, k2 _ hS.env, hS2.own, hS2.nd⟩) ?_ (fun _ _ q => q) (fun _ _ q => q) ?_
    · rintro σ3 H3 ⟨G3, h3⟩
      exact ⟨G3, ⟨G1, H1, s.st.trans s1, s1, h3⟩, h3.st.g, h3.st.gh⟩
    · rintro σ3 H3 ⟨G3, h3⟩
      exact ⟨G3, ⟨G1, H1, s.st.trans s1, s1, h3⟩, h3.st.g, h3.st.gh⟩
  · rintro G1 H1 s1 σ' G' H' ⟨Ga, Ha, sa, _, hW⟩ e1 e2
    exact hd σ' G' H' (hW.out sa)

/-! ### comprehensions -/
def wpTs (X : Cx) (ifs : List Expr) : TT := fun σ H Q => ∀ (pins : List (Addr × Obj)) (s : Shared), Inv X pins σ H s →
  wpAny (model X.prog X.w) X.A (forIn ifs true fun c r => if r = true then do let ok ← isTrue c X.env (eval c X.env); pure (ForInStep.yield ok) else pure (ForInStep.yield r)) (TP X pins σ Q) X.xe s
theorem pts_wp {ifs : List Expr} : PTs X ifs (wpTs X ifs) := ⟨fun pins s σ H Q I h => h pins s I⟩
def RnTs (X : Cx) (ifs : List Expr) (σ : L2.St) (G H : Hp) (b : Bool) : Prop := ∀ H1, Ex H H1 → ∀ Q : Bool → Hp → Prop, (∀ G2 H2, Stp G H1 G2 H2 → Q b H2) → wpTs X ifs σ H1 Q
theorem rts_nil (s : Ex G H) : RnTs X [] σ G H true := fun H1 e Q q pins s1 I => pts_nil.run pins s1 σ H1 Q I (q G H1 (Stp.refl (s.trans e)))
theorem rts_one (h : RnT X c σ G H k) : RnTs X [c] σ G H k := fun H1 e Q q pins s1 I => (pts_one pt_wp).run pins s1 σ H1 Q I (h H1 e Q q)
theorem wipe_set {σ σ2 : L2.St} (hl : σ2.length = σ.length) : ∀ (vs : List Nat), (∀ i : Nat, i ∉ vs → σ2[i]? = σ[i]?) → wipe σ2 vs = wipe σ vs := fun vs h => by
  have key : ∀ (σ : L2.St) (vs : List Nat) (i : Nat), (wipe σ vs)[i]? = if i ∈ vs ∧ i < σ.length then some none else σ[i]? := by
    intro σ vs i
    induction vs with
    | nil => simp [wipe]
    | cons v vs ih =>
      unfold wipe
      rw [List.getElem?_set, ih, wipe_length]
      by_cases z : v = i
      · subst z
        by_cases lt : v < σ.length
        · simp [lt]
        · simp [lt]
      · have z2 : ¬ i = v := fun e => z e.symm
        simp [z, z2]
  refine List.ext_getElem? fun i => ?_
  rw [key, key, hl]
  by_cases z : i ∈ vs
  · by_cases lt : i < σ.length
    · simp [z, lt]
    · rw [if_neg (fun q => lt q.2), if_neg (fun q => lt q.2), List.getElem?_eq_none (by omega), List.getElem?_eq_none (by omega)]
  · simp [z]
    exact h i z
theorem wipe_wipe {σ : L2.St} (vs : List Nat) : wipe (wipe σ vs) vs = wipe σ vs := wipe_set (wipe_length σ vs) vs fun i hi => by
  induction vs with
  | nil => rfl
  | cons v vs ih =>
    rw [List.mem_cons, not_or] at hi
    unfold wipe
    rw [List.getElem?_set_ne (fun z => hi.1 z.symm)]
    exact ih hi.2
def wipeD (dss : List (Option Dt)) : List Nat → List (Option Dt)
  | [] => dss
  | v :: vs => (wipeD dss vs).set v none
theorem slo_wipe {K : PySem.W.Frag} (h : Slo K G σ dss) : ∀ vs : List Nat, Slo K G (wipe σ vs) (wipeD dss vs)
  | [] => h
  | v :: vs => by
    have ih := slo_wipe h vs
    unfold wipe wipeD
    refine ⟨by rw [List.length_set, List.length_set, ih.len], fun i d q => ?_⟩
    rw [List.getElem?_set] at q ⊢
    split at q
    · split at q <;> cases q
    · rename_i z
      rw [if_neg z]
      exact ih.at_ i d q
theorem filter_snoc {α : Type} (c : α → Bool) (l : List α) (x : α) : (l ++ [x]).filter c = if c x = true then l.filter c ++ [x] else l.filter c := by
  rw [List.filter_append]
  by_cases h : c x = true
  · rw [if_pos h, List.filter_cons_of_pos h, List.filter_nil]
  · rw [if_neg h, List.filter_cons_of_neg h, List.filter_nil, List.append_nil]
/-- [elt for tg in iter if ..] -/
theorem lc_t {α : Type} {elt : Expr} {ifs : List Expr} {scope : Scope} {own : List (Str × Nat)} {enc : α → Dt} {xs : List α} {up : α → List (Option Dt) → List (Option Dt)} {is : List Nat} {cd : α → Bool} {f : α → Dt} (s : Sta X.K G0 H0 dss ow σ G H) (hc : X.calm = true) (hN : X.N.Nodup)
    (hw : Wk X tg iter σ G H (xs.map enc)) (ok : BlkOk X.N X.env.scope scope own) (hl : xs.length ≤ 100000) (his : ∀ i ∈ is, i ∈ own.map (·.2))
    (htg : ∀ (s1 : Shared) (HH : Hp) (C : Addr) (cl : List (Str × Addr)) (fp : List Addr), ∀ x ∈ xs, TgOk (X.blk s1 HH scope (compEnvC scope cl C X.env) fp) tg (enc x) (up x) is)
    (hif : ∀ (s1 : Shared) (HH : Hp) (C : Addr) (cl : List (Str × Addr)) (fp : List Addr), ∀ x ∈ xs, ∀ σ' G' H', Sta X.K G0 H0 (up x (wipeD dss (own.map (·.2)))) ow σ' G' H' → RnTs (X.blk s1 HH scope (compEnvC scope cl C X.env) fp) ifs σ' G' H' (cd x))
    (he : ∀ (s1 : Shared) (HH : Hp) (C : Addr) (cl : List (Str × Addr)) (fp : List Addr), ∀ x ∈ xs, cd x = true → ∀ σ' G' H', Sta X.K G0 H0 (up x (wipeD dss (own.map (·.2)))) ow σ' G' H' → Rn (X.blk s1 HH scope (compEnvC scope cl C X.env) fp) elt σ' G' H' (f x)) :
    ∃ wi, PI X tg iter wi ∧ ∀ H1, Ex H H1 → ∀ Q : VK, (∀ l vs G2 H2, Stp G H1 G2 H2 → H1 l = none → G2 l = none → H2 l = some (.lst vs) → Reps X.K G2 vs ((xs.filter cd).map f) → Q (.ref l) H2) →
      tLc wi (fun v σ H Q => ∀ (s1 : Shared) (HH : Hp) (C : Addr) (cl : List (Str × Addr)) (fp : List Addr), wpG (X.blk s1 HH scope (compEnvC scope cl C X.env) fp) tg v σ H Q) (fun σ H Q => ∀ (s1 : Shared) (HH : Hp) (C : Addr) (cl : List (Str × Addr)) (fp : List Addr), wpTs (X.blk s1 HH scope (compEnvC scope cl C X.env) fp) ifs σ H Q) (fun σ H Q => ∀ (s1 : Shared) (HH : Hp) (C : Addr) (cl : List (Str × Addr)) (fp : List Addr), wpE (X.blk s1 HH scope (compEnvC scope cl C X.env) fp) elt σ H Q) (own.map (·.2)) σ H1 Q := by
  obtain ⟨wi, hpi, hwi⟩ := hw
  refine ⟨wi, hpi, fun H1 e1 Q q => ?_⟩
  refine hwi H1 e1 _ fun J G2 H2 s2 w D nD => ?_
  have sb : Sta X.K G0 H0 dss ow σ G2 H2 := s.stp (s2.under e1)
  refine ⟨fun i m H' => m = xs.length - i ∧ i ≤ xs.length ∧ ∃ G' acc, Stp G2 H2 G' H' ∧ H' D = some (.lst acc) ∧ G' D = none ∧ Reps X.K G' acc (((xs.take i).filter cd).map f),
    ⟨_, rfl, Nat.zero_le _, G2, [], ⟨Ex.new nD, Ex.refl _, s2.gh.trans (Ex.new nD), fun _ h _ => h⟩, upd_same, s2.gh.back nD, by rw [List.take_zero]; exact True.intro⟩, ?_⟩
  rintro i m H' ⟨rfl, hi, G', acc, s3, hD, nG, r⟩
  by_cases lt : i < xs.length
  · have hx : xs[i]? = some xs[i] := List.getElem?_eq_getElem lt
    have hm : (xs.map enc)[i]? = some (enc xs[i]) := by rw [List.getElem?_map, hx] <;> rfl
    have et : xs.take (i + 1) = xs.take i ++ [xs[i]] := by rw [List.take_succ_eq_append_getElem lt]
    have mem : xs[i] ∈ xs := List.getElem_mem lt
    refine .inr ⟨w.go i _ G' H' hm s3.g s3.gh, fun H3 => ∃ G3 acc, Stp G2 H2 G3 H3 ∧ H3 D = some (.lst acc) ∧ G3 D = none ∧ Reps X.K G3 acc (((xs.take i ++ [xs[i]]).filter cd).map f), fun H3 h3 => ⟨xs.length - (i + 1), by omega, rfl, by omega, by rw [et]; exact h3⟩, fun x H4 y => ?_⟩
    obtain ⟨G4, s4, r4⟩ := w.yld i _ G' H' x H4 hm s3.g s3.gh y
    intro s1 HH C cl fp
    refine htg s1 HH C cl fp xs[i] mem (wipe σ (own.map (·.2))) G4 H4 x s4.gh r4 _ ?_
    intro σ2 l2 a2 k2
    refine ⟨?_, ?_⟩
    · have h1 : wipe σ2 (own.map (·.2)) = wipe (wipe σ (own.map (·.2))) (own.map (·.2)) := wipe_set l2 _ fun i hi => a2 i fun z => hi (his i z)
      rw [h1, wipe_wipe]
    · have s5 := s3.trans s4
      have sS : Sta X.K G0 H0 (up xs[i] (wipeD dss (own.map (·.2)))) ow σ2 G4 H4 := by
        have h := sb.stp s5
        exact ⟨h.st, k2 _ (slo_wipe h.env _), h.own, h.nd⟩
      have hD4 : H4 D = some (.lst acc) := s4.h _ _ hD
      have nG4 : G4 D = none := s4.new D nG (by rw [hD]; simp)
      intro s1 HH C cl fp
      refine hif s1 HH C cl fp xs[i] mem σ2 G4 H4 sS H4 (Ex.refl _) _ fun G5 H5 s6 => ?_
      have hD5 : H5 D = some (.lst acc) := s6.h _ _ hD4
      have nG5 : G5 D = none := s6.new D nG4 (by rw [hD4]; simp)
      have sS5 := sS.stp s6
      have r5 : Reps X.K G5 acc (((xs.take i).filter cd).map f) := (r.ex s4.g).ex s6.g
      cases hcd : cd xs[i] with
      | false =>
        refine iteF ⟨G5, acc, s5.trans s6, hD5, nG5, ?_⟩
        rw [filter_snoc, hcd]
        exact r5
      | true =>
        refine iteT fun s1 HH C cl fp => ?_
        refine he s1 HH C cl fp xs[i] mem hcd σ2 G5 H5 sS5 H5 (Ex.refl _) _ fun v G6 H6 s7 r7 => ?_
        have hD6 : H6 D = some (.lst acc) := s7.h _ _ hD5
        have nG6 : G6 D = none := s7.new D nG5 (by rw [hD5]; simp)
        have s8 := (s5.trans s6).trans s7
        refine ⟨acc, hD6, ?_, G6, acc ++ [v], ⟨s8.h.upd nD, s8.g, s8.gh.upd nG6, s8.new⟩, upd_same, nG6, ?_⟩
        · rw [r5.length, List.length_map]
          have h1 : ((xs.take i).filter cd).length ≤ 100000 := Nat.le_trans (Nat.le_trans (List.length_filter_le _ _) (by rw [List.length_take]; exact Nat.min_le_right _ _)) hl
          exact Nat.lt_of_le_of_lt h1 (by decide)
        · rw [filter_snoc, hcd, if_pos rfl, List.map_append]
          exact (r5.ex s7.g).append (Reps.one r7)
  · have ei : i = xs.length := by omega
    subst ei
    refine .inl ⟨?_, ?_⟩
    · have := w.stop G' H' s3.g s3.gh
      rw [List.length_map] at this
      exact this
    · rw [List.take_length] at r
      exact q D acc G' H' (s2.trans s3) (s2.h.back nD) nG hD r
/-- [elt for tg in iter if ..] -/
theorem ro_lc {α : Type} {elt : Expr} {ifs : List Expr} {scope : Scope} {own : List (Str × Nat)} {enc : α → Dt} {xs : List α} {up : α → List (Option Dt) → List (Option Dt)} {is : List Nat} {cd : α → Bool} {f : α → Dt} (s : Sta X.K G0 H0 dss ow σ G H) (hc : X.calm = true) (hN : X.N.Nodup)
    (hw : Wk X tg iter σ G H (xs.map enc)) (ok : BlkOk X.N X.env.scope scope own) (hl : xs.length ≤ 100000) (his : ∀ i ∈ is, i ∈ own.map (·.2))
    (htg : ∀ (s1 : Shared) (HH : Hp) (C : Addr) (cl : List (Str × Addr)) (fp : List Addr), ∀ x ∈ xs, TgOk (X.blk s1 HH scope (compEnvC scope cl C X.env) fp) tg (enc x) (up x) is)
    (hif : ∀ (s1 : Shared) (HH : Hp) (C : Addr) (cl : List (Str × Addr)) (fp : List Addr), ∀ x ∈ xs, ∀ σ' G' H', Sta X.K G0 H0 (up x (wipeD dss (own.map (·.2)))) ow σ' G' H' → RnTs (X.blk s1 HH scope (compEnvC scope cl C X.env) fp) ifs σ' G' H' (cd x))
    (he : ∀ (s1 : Shared) (HH : Hp) (C : Addr) (cl : List (Str × Addr)) (fp : List Addr), ∀ x ∈ xs, cd x = true → ∀ σ' G' H', Sta X.K G0 H0 (up x (wipeD dss (own.map (·.2)))) ow σ' G' H' → Rn (X.blk s1 HH scope (compEnvC scope cl C X.env) fp) elt σ' G' H' (f x))
    (hfs : ∀ x, foldedSetIterable iter X.env x = pure x := by intro _; rfl) :
    RnO X (.ListComp elt [⟨tg, iter, ifs, 0⟩] scope pos) σ G H ((xs.filter cd).map f) := fun H1 e1 Q q => by
  obtain ⟨wi, hpi, h⟩ := lc_t s hc hN hw ok hl his htg hif he
  exact wpE_of (pe_lc (own := own) hc hN hpi ok (fun s1 HH C cl fp => ⟨fun pins s σ H v u Q I r h => h s1 HH C cl fp pins s u I r⟩) (fun s1 HH C cl fp => ⟨fun pins s σ H Q I h => h s1 HH C cl fp pins s I⟩) (fun s1 HH C cl fp => ⟨fun pins s σ H Q I h => h s1 HH C cl fp pins s I⟩) hfs) (h H1 e1 Q q)
/-- y = [elt for tg in iter if ..], stored at once -/
theorem rs_lc0 {α : Type} {elt : Expr} {ifs : List Expr} {scope : Scope} {own : List (Str × Nat)} {enc : α → Dt} {xs : List α} {up : α → List (Option Dt) → List (Option Dt)} {is : List Nat} {cd : α → Bool} {f : α → Dt} (s : Sta X.K G0 H0 dss ow σ G H) (hc : X.calm = true) (hN : X.N.Nodup)
    (hw : Wk X tg iter σ G H (xs.map enc)) (ok : BlkOk X.N X.env.scope scope own) (hl : xs.length ≤ 100000) (his : ∀ i ∈ is, i ∈ own.map (·.2))
    (htg : ∀ (s1 : Shared) (HH : Hp) (C : Addr) (cl : List (Str × Addr)) (fp : List Addr), ∀ x ∈ xs, TgOk (X.blk s1 HH scope (compEnvC scope cl C X.env) fp) tg (enc x) (up x) is)
    (hif : ∀ (s1 : Shared) (HH : Hp) (C : Addr) (cl : List (Str × Addr)) (fp : List Addr), ∀ x ∈ xs, ∀ σ' G' H', Sta X.K G0 H0 (up x (wipeD dss (own.map (·.2)))) ow σ' G' H' → RnTs (X.blk s1 HH scope (compEnvC scope cl C X.env) fp) ifs σ' G' H' (cd x))
    (he : ∀ (s1 : Shared) (HH : Hp) (C : Addr) (cl : List (Str × Addr)) (fp : List Addr), ∀ x ∈ xs, cd x = true → ∀ σ' G' H', Sta X.K G0 H0 (up x (wipeD dss (own.map (·.2)))) ow σ' G' H' → Rn (X.blk s1 HH scope (compEnvC scope cl C X.env) fp) elt σ' G' H' (f x))
    {y : Str} {py spos : Pos} {i : Nat} (hy : X.N[i]? = some y) (hyl : X.env.scope.names.lookup y = some .local) (hsw : swapsWith (.ListComp elt [⟨tg, iter, ifs, 0⟩] scope pos) (some (.Name y py)) spos.line X.env = pure true)
    (q : ∀ l vs G2 H2, Stp G H G2 H2 → H l = none → G2 l = none → H2 l = some (.lst vs) → Reps X.K G2 vs ((xs.filter cd).map f) → wpB X rest D (σ.set i (some (.ref l))) H2)
    (hfs : ∀ x, foldedSetIterable iter X.env x = pure x := by intro _; rfl) :
    wpB X (.Assign [.Name y py] (.ListComp elt [⟨tg, iter, ifs, 0⟩] scope pos) spos :: rest) D σ H := by
  obtain ⟨wi, hpi, h⟩ := lc_t s hc hN hw ok hl his htg hif he
  exact wb_cons (wpS_of (ps_setLc (own := own) hc hN hy hyl hsw hpi ok (fun s1 HH C cl fp => ⟨fun pins s σ H v u Q I r h => h s1 HH C cl fp pins s u I r⟩) (fun s1 HH C cl fp => ⟨fun pins s σ H Q I h => h s1 HH C cl fp pins s I⟩) (fun s1 HH C cl fp => ⟨fun pins s σ H Q I h => h s1 HH C cl fp pins s I⟩) hfs) (h H (Ex.refl H) _ fun l vs G2 H2 s2 n1 n2 hl r => q l vs G2 H2 s2 n1 n2 hl r))
theorem rn_ro (h : RnO X e σ G H ds) : Rn X e σ G H (.lst ds) := fun H1 e1 Q q => h H1 e1 Q fun l vs G2 H2 s n1 n2 hl r => by
  refine q _ (upd G2 l (.lst vs)) H2 (show Stp G H1 (upd G2 l (.lst vs)) H2 from ⟨s.h, s.g.trans (Ex.new n2), fun a u h => ?_, fun a h n => ?_⟩) (show Rep X.K (upd G2 l (.lst vs)) (.ref l) (.lst ds) from ⟨l, vs, rfl, upd_same, r.ex (Ex.new n2)⟩)
  · by_cases z : a = l
    · subst z
      rw [upd_same] at h
      rw [hl]
      exact h
    · rw [upd_ne z] at h
      exact s.gh a u h
  · have z : a ≠ l := fun z => n (by rw [z]; exact n1)
    rw [upd_ne z]
    exact s.new a h n
theorem ro_to (h : RnO X e σ G H ds1) (q : ds1 = ds2) : RnO X e σ G H ds2 := q ▸ h
end
end Y
set_option Elab.async false
set_option linter.all false
set_option maxRecDepth 100000
set_option maxHeartbeats 4000000
/-! Lay5: isinstance, membership, == of data, list(range(..)), + of tuples. -/
namespace Y
open PySem PySem.Spec PyProof.Rows L2

/-! ### kinds and classes -/
theorem Cl.in_all (c : Cl) : c ∈ Cl.all := by cases c <;> decide
theorem Ky.in_all (t : Ky) : t ∈ Ky.all := by
  cases t with
  | cl c => cases c <;> decide
  | _ => decide
theorem Tg0.in_all (t : Tg0) : t ∈ Tg0.all := by
  cases t with
  | cl c => cases c <;> decide
  | _ => decide
def Tg0.dt (K : PySem.W.Frag) : Tg0 → Dt
  | .int => .ty "int" | .bool => .ty "bool" | .list => .ty "list" | .tuple => .ty "tuple" | .cl c => .adr (c.ad K) | .paper => .adr (paperAd K) | .denial => .adr (denialAd K)
def Tg0.vv (K : PySem.W.Frag) : Tg0 → V
  | .int => .ty "int" | .bool => .ty "bool" | .list => .ty "list" | .tuple => .ty "tuple" | .cl c => .ref (c.ad K) | .paper => .ref (paperAd K) | .denial => .ref (denialAd K)
def Dt.ky : Dt → Option Ky
  | .non => some .non | .bl _ => some .bl | .int _ => some .int | .str _ => some .str | .lst _ => some .lst | .tup _ => some .tup | .obj c _ => some (.cl c) | _ => none
structure KitOk (K : PySem.W.Frag) : Prop where
  kit : ∀ (t : Ky) (c : Tg0), PySem.W.kitOne K (t.val K) (c.val K) = some (kyB t c)
  ha : ∀ c : Cl, PySem.W.findIn K (.ref (c.ad K)) "__class__" = some (some (.builtin "object.__class__"))
  hm : ∀ c : Cl, PySem.W.mroIn K (c.ad K) (.type "object") = some true
  hn : PySem.W.specialIn K (.builtin "object.__class__") "__get__" = some (some (.builtin "getset_descriptor.__get__"))
  ht : PySem.W.takesIn K (.builtin "object.__class__") = some true
section
variable {K : PySem.W.Frag} {G H : Hp}
theorem rd_ty {a : Addr} {xs : List V} (h : SqL K H a xs) : TyX K H (.ref a) (.type "list") := by
  rcases h with (h | ⟨o, h⟩) | ⟨o, its, n, h, c, _⟩
  · exact .base (.lst h)
  · exact .base (.frz h)
  · exact .kList h c
theorem rd_tyT {a : Addr} {xs : List V} (h : SqT K H a xs) : TyX K H (.ref a) (.type "tuple") := by
  rcases h with (h | ⟨o, h⟩) | ⟨o, its, n, h, c, _⟩
  · exact .base (.tup h)
  · exact .fTuple h
  · exact .kTuple h c
theorem rep_ty (T : ClsOk K) (kk : KitOk K) {v : V} {d : Dt} {t : Ky} (e : Ex G H) (r : Rep K G v d) (hk : d.ky = some t) : TyX K H v (t.val K) := by
  cases d with
  | non =>
    cases hk
    cases r
    exact .base .non
  | bl b =>
    cases hk
    cases r
    exact .base (.bl b)
  | int i =>
    cases hk
    cases r
    exact .base (.int i)
  | str x =>
    cases hk
    cases r
    exact .base (.str x)
  | lst ds =>
    cases hk
    obtain ⟨a, xs, rfl, h, _⟩ := r
    exact rd_ty (sqL_ex e h)
  | tup ds =>
    cases hk
    obtain ⟨a, xs, rfl, h, _⟩ := r
    exact rd_tyT (sqT_ex e h)
  | obj c ds =>
    cases hk
    obtain ⟨a, dx, xs, rfl, h, _⟩ := r
    exact .base (.ins (e _ _ h) (T.cls c) (kk.ha c) kk.hn kk.ht (kk.hm c))
  | _ => cases hk
theorem clsV (c : Tg0) : ClsV (c.vv K) (c.val K) := by
  cases c <;> first | exact .ty _ | exact .own _
theorem rep_cls {v : V} {c : Tg0} (r : Rep K G v (c.dt K)) : v = c.vv K := by
  cases c <;> exact r
theorem kit_any (kk : KitOk K) (t : Ky) : ∀ cs : List Tg0, PySem.W.kitAny K (t.val K) (cs.map (Tg0.val K)) = some (cs.any (kyB t))
  | [] => rfl
  | c :: r => by
    rw [List.map_cons]
    unfold PySem.W.kitAny
    rw [kk.kit t c, List.any_cons]
    cases kyB t c with
    | true => rfl
    | false => exact kit_any kk t r
theorem repsCls : ∀ {vs : List V} {cs : List Tg0}, Reps K G vs (cs.map (Tg0.dt K)) → Paired ClsV vs (cs.map (Tg0.val K)) := by
  intro vs cs
  induction cs generalizing vs with
  | nil =>
    intro r
    cases vs with
    | nil => exact .nil
    | cons _ _ => exact r.elim
  | cons c r ih =>
    intro h
    cases vs with
    | nil => exact h.elim
    | cons v vs =>
      rw [rep_cls h.1]
      exact .cons (clsV c) (ih h.2)
end
section
variable {X : Cx} {σ : L2.St} {G0 H0 G H G1 H1 : Hp} {d d1 d2 d3 : Dt} {ds ds1 ds2 : List Dt} {dss : List (Option Dt)} {ow : List (Addr × List Dt)} {a b c e : Expr} {es : List Expr} {pos p p2 : Pos} {k : Bool}
/-- a built-in class by its name, an own class -/
theorem rn_bty {x : Str} {n : String} (s : Ex G H) (f : Free X x) (hv : bootBuiltins x = some (.type n)) (hn : x ≠ "__name__" := by decide) (hd : (x == ("__debug__" : Str)) = false := by decide) : Rn X (.Name x pos) σ G H (.ty n) :=
  rn_of s (pe_bltn (v := .ty n) f.g f.m hv rfl hn hd) fun H1 e eg Q k => k (.ty n) G H1 (Stp.refl eg) rfl
theorem rn_own {x : Str} {C : Addr} (s : Ex G H) (hg : Gl X x) (hm : X.mg x = some (.ref C)) (hd : (x == ("__debug__" : Str)) = false := by decide) : Rn X (.Name x pos) σ G H (.adr C) :=
  rn_of s (pe_glob hg hm (v := .ref C) rfl hd) fun H1 e eg Q k => k (.ref C) G H1 (Stp.refl eg) rfl
theorem rn_isi {t : Ky} {cc : Tg0} (T : ClsOk X.K) (kk : KitOk X.K) (f : Free X "isinstance") (ha : Rn X a σ G H d) (hk : d.ky = some t) (hc : Rn X b σ G H (cc.dt X.K))
    (he : starEach [a, b] X.env = (false, eval a X.env) :: starEach [b] X.env := by rfl) (he2 : starEach [b] X.env = (false, eval b X.env) :: starEach [] X.env := by rfl) (hpl : (backTo pos (starEach [b] X.env)).any (·.1) = false := by rfl) :
    Rn X (.Call (.Name "isinstance" p) [a, b] [] pos) σ G H (.bl (kyB t cc)) :=
  rn_cb call_isi f.g f.m (by decide +kernel) (ra_cons ha (ra_one hc he2) he) (fun vs G2 H2 s rs Q q => by
    obtain ⟨v, w, rfl, r1, r2⟩ := reps2 rs
    rw [rep_cls r2]
    exact ⟨v, cc.vv X.K, t.val X.K, cc.val X.K, kyB t cc, rfl, clsV cc, rep_ty T kk s.gh r1 hk, kk.kit t cc, q _ _ _ (Stp.refl s.gh) rfl⟩) (by decide) (by decide) he hpl
theorem rn_isiT {t : Ky} {cs : List Tg0} {kk2 : Nat} (T : ClsOk X.K) (kk : KitOk X.K) (f : Free X "isinstance") (ha : Rn X a σ G H d) (hk : d.ky = some t) (hc : RnA X es σ G H (cs.map (Tg0.dt X.K))) (hl : cs.length ≤ 100)
    (he : starEach [a, .Tuple es kk2 p2] X.env = (false, eval a X.env) :: starEach [.Tuple es kk2 p2] X.env := by rfl) (he2 : starEach [.Tuple es kk2 p2] X.env = (false, eval (.Tuple es kk2 p2) X.env) :: starEach [] X.env := by rfl) (hpl : (backTo pos (starEach [.Tuple es kk2 p2] X.env)).any (·.1) = false := by rfl) :
    Rn X (.Call (.Name "isinstance" p) [a, .Tuple es kk2 p2] [] pos) σ G H (.bl (cs.any (kyB t))) := fun H1 e1 Q q =>
  wpE_of (pe_callB call_isiT f.g f.m (by decide +kernel) (pa_cons pe_wp (pa_cons (pe_tup pa_wp) pa_nil he2) he) (hn := by decide) (hdb := by decide) (he := he) (hpl := hpl)) (ha H1 e1 _ fun v G2 H2 s r => hc H2 (e1.trans s.h) _ fun vs G3 H3 s3 rs => by
    refine ⟨?_, fun tp nt => ?_⟩
    · rw [rs.length, List.length_map]
      exact Nat.le_trans hl (by decide)
    · obtain ⟨j, u⟩ := s.join s3
      have e4 : Ex H3 (upd H3 tp (.tup vs)) := Ex.new nt
      refine ⟨v, tp, vs, t.val X.K, cs.map (Tg0.val X.K), _, rfl, upd_same, repsCls rs, rep_ty T kk (j.gh.trans e4) (r.ex (uni_l _ _)) hk, kit_any kk t cs, q _ _ _ ((s.trans j).trans ⟨e4, Ex.refl _, j.gh.trans e4, fun _ h _ => h⟩) rfl⟩)

/-! ### list(range(n)) -/
def rgI (lo : Int) (n : Nat) : List Int := (List.range n).map fun (i : Nat) => lo + (i : Int)
theorem rgD_eq {lo : Int} {n : Nat} : rgD lo n = (rgI lo n).map Dt.int := by
  unfold rgD rgI
  rw [List.map_map]
  rfl
theorem reps_rg {K : PySem.W.Frag} {n : Int} : Reps K G (rgV 0 n) ((rgI 0 n.toNat).map Dt.int) := by
  have e : rgV 0 n = (rgI 0 n.toNat).map V.int := by
    unfold rgV rgI
    rw [List.map_map, Int.sub_zero]
    rfl
  rw [e]
  exact reps_ints _
theorem rn_listrg1 {n : Int} {q1 q2 : Pos} (hc : X.calm = true) (fl : Free X "list") (fr : Free X "range") (h : Rn X a σ G H (.int n)) (hb : -100000 ≤ n ∧ n ≤ 100000) (na : starEach [a] X.env = (false, eval a X.env) :: starEach [] X.env := by rfl)
    (na2 : starEach [.Call (.Name "range" q1) [a] [] q2] X.env = (false, eval (.Call (.Name "range" q1) [a] [] q2) X.env) :: starEach [] X.env := by rfl) : Rn X (.Call (.Name "list" p) [.Call (.Name "range" q1) [a] [] q2] [] pos) σ G H (.lst ((rgI 0 n.toNat).map .int)) := fun H1 e1 Q q =>
  wpE_of (pe_listRg hc fl.g fl.m (prg_1 fr.g fr.m pe_wp na) na2) (h H1 e1 _ fun v G2 H2 s r => by
    refine ⟨n, r, ⟨by omega, by omega, by omega, by omega, by omega⟩, fun l nl => ?_⟩
    exact q _ _ _ (s.trans (Stp.new1 s.gh nl)) (rep_new_lst s.gh reps_rg nl))

/-! ### data -/
def Dt.pl : Nat → Dt → Bool
  | _, .non => true | _, .bl _ => true | _, .int _ => true | _, .str x => (PyData.str x).canLay0
  | n + 1, .lst ds => ds.all (Dt.pl n)
  | n + 1, .tup ds => ds.all (Dt.pl n)
  | _, _ => false
def Dt.py : Nat → Dt → PyData
  | _, .non => .none | _, .bl b => .bool b | _, .int i => .int i | _, .str x => .str x
  | n + 1, .lst ds => .list (ds.map (Dt.py n))
  | n + 1, .tup ds => .tuple (ds.map (Dt.py n))
  | _, _ => .none
end
theorem py_ok {K : PySem.W.Frag} {H : Hp} : ∀ (n : Nat) (d : Dt), d.pl n = true → (∀ v, Rep K H v d → Dp K H v (d.py n)) ∧ (d.py n).canLay0 = true ∧ (d.py n).depth ≤ n := by
  intro n
  induction n with
  | zero =>
    intro d h
    cases d <;> first | (simp [Dt.pl] at h; done) | skip
    · exact ⟨fun v r => by rw [show v = .non from r]; exact .non, rfl, by simp [Dt.py, PyData.depth]⟩
    · exact ⟨fun v r => by rw [show v = .bl _ from r]; exact .bl _, rfl, by simp [Dt.py, PyData.depth]⟩
    · exact ⟨fun v r => by rw [show v = .int _ from r]; exact .int _, rfl, by simp [Dt.py, PyData.depth]⟩
    · exact ⟨fun v r => by rw [show v = .str _ from r]; exact .str _, h, by simp [Dt.py, PyData.depth]⟩
  | succ n ih =>
    have all : ∀ ds : List Dt, ds.all (Dt.pl n) = true → (∀ vs, Reps K H vs ds → DpAll K H vs (ds.map (Dt.py n))) ∧ PyData.canLayAll0 (ds.map (Dt.py n)) = true ∧ PyData.depthAll (ds.map (Dt.py n)) ≤ n := by
      intro ds
      induction ds with
      | nil =>
        intro _
        refine ⟨fun vs r => ?_, by simp [PyData.canLayAll0], by simp [PyData.depthAll]⟩
        cases vs with
        | nil => exact .nil
        | cons _ _ => exact r.elim
      | cons d ds ihd =>
        intro h
        rw [List.all_cons, Bool.and_eq_true] at h
        obtain ⟨a1, a2, a3⟩ := ih d h.1
        obtain ⟨b1, b2, b3⟩ := ihd h.2
        refine ⟨fun vs r => ?_, ?_, ?_⟩
        · cases vs with
          | nil => exact r.elim
          | cons v vs => exact .cons (a1 v r.1) (b1 vs r.2)
        · simp only [List.map_cons, PyData.canLayAll0, a2, b2, Bool.and_self]
        · simp only [List.map_cons, PyData.depthAll]
          omega
    intro d h
    cases d with
    | non => exact ⟨fun v r => by rw [show v = .non from r]; exact .non, rfl, by simp [Dt.py, PyData.depth]⟩
    | bl b => exact ⟨fun v r => by rw [show v = .bl _ from r]; exact .bl _, rfl, by simp [Dt.py, PyData.depth]⟩
    | int i => exact ⟨fun v r => by rw [show v = .int _ from r]; exact .int _, rfl, by simp [Dt.py, PyData.depth]⟩
    | str x => exact ⟨fun v r => by rw [show v = .str _ from r]; exact .str _, h, by simp [Dt.py, PyData.depth]⟩
    | lst ds =>
      obtain ⟨b1, b2, b3⟩ := all ds h
      refine ⟨fun v r => ?_, by simpa [Dt.py, PyData.canLay0] using b2, by simp only [Dt.py, PyData.depth]; omega⟩
      obtain ⟨l, xs, rfl, hx, rs⟩ := r
      exact .lst (SqL.of hx) (b1 _ rs)
    | tup ds =>
      obtain ⟨b1, b2, b3⟩ := all ds h
      refine ⟨fun v r => ?_, by simpa [Dt.py, PyData.canLay0] using b2, by simp only [Dt.py, PyData.depth]; omega⟩
      obtain ⟨l, xs, rfl, hx, rs⟩ := r
      exact .tup hx (b1 _ rs)
    | obj c ds => simp [Dt.pl] at h
    | adr a => simp [Dt.pl] at h
    | ty x => simp [Dt.pl] at h
    | scr xs => simp [Dt.pl] at h
theorem py_shaped {n : Nat} {d : Dt} (h : d.pl n = true) (hn : n ≤ 64) : SeqAt.shaped (d.py n) = true := by
  obtain ⟨_, h2, h3⟩ := py_ok (K := []) (H := fun _ => none) n d h
  unfold SeqAt.shaped
  rw [h2, Bool.true_and]
  exact decide_eq_true (by omega)
theorem eqv_nilL (ds : List PyData) : PyData.eqv (.list ds) (.list []) = ds.isEmpty := by
  rw [PyData.eqv]
  cases ds <;> simp [PyData.eqvAll]
theorem eqv_nilT (ds : List PyData) : PyData.eqv (.tuple ds) (.tuple []) = ds.isEmpty := by
  rw [PyData.eqv]
  cases ds <;> simp [PyData.eqvAll]
section
variable {X : Cx} {σ : L2.St} {G0 H0 G H G1 H1 : Hp} {d d1 d2 d3 : Dt} {ds ds1 ds2 : List Dt} {a b c e : Expr} {pos p p2 : Pos} {k : Bool} {n n2 j : Nat}
theorem rc_eqD (hr : Room j X.A) (ha : Rn X a σ G H d1) (hb : Rn X b σ G H d2) (h1 : d1.pl 60 = true) (h2 : d2.pl 60 = true) : RnC X .Eq a b σ G H (.bl (PyData.eqv (d1.py 60) (d2.py 60))) :=
  rc_of (op_eqD hr.units) (nomark _) ha hb fun x y G2 H2 s rx ry Q k =>
    ⟨_, _, (py_ok 60 d1 h1).1 x (rx.ex s.gh), (py_ok 60 d2 h2).1 y (ry.ex s.gh), py_shaped h1 (by decide), py_shaped h2 (by decide), k _ _ _ (Stp.refl s.gh) rfl⟩
theorem rc_neD (hr : Room j X.A) (ha : Rn X a σ G H d1) (hb : Rn X b σ G H d2) (h1 : d1.pl 60 = true) (h2 : d2.pl 60 = true) : RnC X .NotEq a b σ G H (.bl (!PyData.eqv (d1.py 60) (d2.py 60))) :=
  rc_of (op_neD hr.units) (nomark _) ha hb fun x y G2 H2 s rx ry Q k =>
    ⟨_, _, (py_ok 60 d1 h1).1 x (rx.ex s.gh), (py_ok 60 d2 h2).1 y (ry.ex s.gh), py_shaped h1 (by decide), py_shaped h2 (by decide), k _ _ _ (Stp.refl s.gh) rfl⟩
theorem eqv_same (h : d.pl 60 = true) : PyData.eqv (d.py 60) (d.py 60) = true := SeqAt.eqv_refl _ (py_ok (K := []) (H := fun _ => none) 60 d h).2.1
theorem rc_eqSame (hr : Room j X.A) (ha : Rn X a σ G H d) (hb : Rn X b σ G H d) (h1 : d.pl 60 = true) : RnC X .Eq a b σ G H (.bl true) := rc_to (rc_eqD hr ha hb h1 h1) (by rw [eqv_same h1])
theorem rc_neSame (hr : Room j X.A) (ha : Rn X a σ G H d) (hb : Rn X b σ G H d) (h1 : d.pl 60 = true) : RnC X .NotEq a b σ G H (.bl false) := rc_to (rc_neD hr ha hb h1 h1) (by rw [eqv_same h1] <;> rfl)
theorem isEmpty_map {α β : Type} {f : α → β} {l : List α} : (l.map f).isEmpty = l.isEmpty := by cases l <;> rfl
theorem rc_eqNil (hr : Room j X.A) (s : Ex G H) (ha : Rn X a σ G H (.lst ds)) (h1 : (Dt.lst ds).pl 60 = true) : RnC X .Eq a (.List [] p) σ G H (.bl ds.isEmpty) :=
  rc_to (rc_eqD hr ha (rn_lst (ra_nil s) (by decide)) h1 (by rfl)) (by
    show Dt.bl (PyData.eqv (.list (ds.map (Dt.py 59))) (.list [])) = _
    rw [eqv_nilL, isEmpty_map])
theorem rc_neNil (hr : Room j X.A) (s : Ex G H) (ha : Rn X a σ G H (.lst ds)) (h1 : (Dt.lst ds).pl 60 = true) : RnC X .NotEq a (.List [] p) σ G H (.bl (!ds.isEmpty)) :=
  rc_to (rc_neD hr ha (rn_lst (ra_nil s) (by decide)) h1 (by rfl)) (by
    show Dt.bl (!PyData.eqv (.list (ds.map (Dt.py 59))) (.list [])) = _
    rw [eqv_nilL, isEmpty_map])
theorem rc_eqNilT (hr : Room j X.A) (s : Ex G H) (ha : Rn X a σ G H (.tup ds)) (h1 : (Dt.tup ds).pl 60 = true) : RnC X .Eq a (.Tuple [] n p) σ G H (.bl ds.isEmpty) :=
  rc_to (rc_eqD hr ha (rn_tup (ra_nil s) (by decide)) h1 (by rfl)) (by
    show Dt.bl (PyData.eqv (.tuple (ds.map (Dt.py 59))) (.tuple [])) = _
    rw [eqv_nilT, isEmpty_map])
/-- a list of ours -/
theorem rc_eqNilO {l : Addr} (hr : Room j X.A) (s : Ex G H) (o : Own X.K H0 G H l ds) (ha : Rn X a σ G H (.adr l)) (h1 : (Dt.lst ds).pl 60 = true) : RnC X .Eq a (.List [] p) σ G H (.bl ds.isEmpty) := by
  obtain ⟨vs, o1, o2, o3, o4⟩ := o
  refine rc_of (op_eqD hr.units) (nomark _) ha (rn_lst (ra_nil s) (by decide)) fun x y G2 H2 s2 rx ry Q k => ?_
  have e : x = .ref l := rx
  subst e
  have h3 : Rep X.K H2 (.ref l) (.lst ds) := ⟨l, vs, rfl, s2.h _ _ o1, (o2.ex s2.g).ex s2.gh⟩
  refine ⟨_, _, (py_ok 60 (.lst ds) h1).1 _ h3, (py_ok 60 (.lst []) rfl).1 y (ry.ex s2.gh), py_shaped h1 (by decide), py_shaped (d := .lst []) rfl (by decide), k _ _ _ (Stp.refl s2.gh) ?_⟩
  show V.bl (PyData.eqv (.list (ds.map (Dt.py 59))) (.list [])) = _
  rw [eqv_nilL, isEmpty_map]
theorem eqv_ints : ∀ (xs ys : List Int), PyData.eqvAll (xs.map .int) (ys.map .int) = decide (xs = ys)
  | [], [] => by simp [PyData.eqvAll]
  | [], _ :: _ => by simp [PyData.eqvAll]
  | _ :: _, [] => by simp [PyData.eqvAll]
  | x :: xs, y :: ys => by
    rw [List.map_cons, List.map_cons, PyData.eqvAll, eqv_ints xs ys, PyData.eqv]
    by_cases h : x = y
    · subst h
      simp
    · simp [h]
/-- ints in a list of lists of ints -/
theorem rc_inI {xs : List Int} {xss : List (List Int)} (hr : Room (j + 1) X.A) (ha : Rn X a σ G H (.lst (xs.map .int))) (hb : Rn X b σ G H (.lst (xss.map fun l => .lst (l.map .int)))) (hm : behindInMarks .In b = false := by rfl) : RnC X .In a b σ G H (.bl (decide (xs ∈ xss))) := by
  have p1 : ∀ (n : Nat) (l : List Int), (Dt.lst (l.map .int)).pl (n + 1) = true := fun n l => by
    simp only [Dt.pl, List.all_map, List.all_eq_true]
    intro x _
    cases n <;> rfl
  have p2 : (Dt.lst (xss.map fun l => .lst (l.map .int))).pl 60 = true := by
    simp only [Dt.pl, List.all_map, List.all_eq_true]
    intro x _
    exact p1 58 x
  have e1 : ∀ (n : Nat) (l : List Int), (Dt.lst (l.map .int)).py (n + 1) = .list (l.map .int) := fun n l => by
    simp only [Dt.py, List.map_map]
    congr 1
    apply List.map_congr_left
    intro x _
    cases n <;> rfl
  refine rc_of (op_inD (by have := hr.un; omega)) hm ha hb fun x y G2 H2 s rx ry Q k => ?_
  refine ⟨_, xss.map fun l => .list (l.map .int), (py_ok 60 _ (p1 59 xs)).1 x (rx.ex s.gh), ?_, py_shaped (p1 59 xs) (by decide), ?_, k _ _ _ (Stp.refl s.gh) ?_⟩
  · have h := (py_ok 60 _ p2).1 y (ry.ex s.gh)
    simp only [Dt.py, List.map_map] at h
    have e : (Dt.py 59 ∘ fun l : List Int => Dt.lst (l.map .int)) = fun l => PyData.list (l.map .int) := funext fun l => e1 58 l
    rw [e] at h
    exact h
  · have h := py_shaped p2 (by decide)
    simp only [Dt.py, List.map_map] at h
    have e : (Dt.py 59 ∘ fun l : List Int => Dt.lst (l.map .int)) = fun l => PyData.list (l.map .int) := funext fun l => e1 58 l
    rw [e] at h
    exact h
  · show V.bl _ = V.bl _
    congr 1
    rw [e1 59 xs, List.any_map]
    have e : ((fun z => PyData.eqv z (.list (xs.map .int))) ∘ fun l : List Int => PyData.list (l.map .int)) = fun l => decide (l = xs) := funext fun l => by
      show PyData.eqv (.list (l.map .int)) (.list (xs.map .int)) = _
      rw [PyData.eqv, eqv_ints]
    rw [e]
    by_cases h : xs ∈ xss
    · rw [decide_eq_true h, List.any_eq_true]
      exact ⟨xs, h, decide_eq_true rfl⟩
    · rw [decide_eq_false h, List.any_eq_false]
      intro l hl z
      exact h (of_decide_eq_true z ▸ hl)
end
end Y
set_option Elab.async false
set_option linter.all false
set_option maxRecDepth 100000
set_option maxHeartbeats 4000000
/-! Lay6: star displays, + of lists, insert, zip, two fors in a comprehension, while, targets that are tuples. -/
namespace Y
open PySem PySem.Spec PyProof.Rows L2
section
variable {X : Cx} {σ : L2.St} {G0 H0 G H G1 H1 : Hp} {d d1 d2 d3 : Dt} {ds ds1 ds2 : List Dt} {dss : List (Option Dt)} {ow : List (Addr × List Dt)} {a b c e tg iter : Expr} {es : List Expr} {pos p : Pos} {k : Bool} {D : Ends} {st : Stmt} {rest body orelse : List Stmt}
theorem ra_star (h : Rn X e σ G H (.tup ds1)) (hr : RnA X es σ G H ds2) (hs : starEach (.Starred e p :: es) X.env = (true, eval e X.env) :: starEach es X.env := by rfl) : RnA X (.Starred e p :: es) σ G H (ds1 ++ ds2) := fun H1 e1 Q q =>
  wpA_of (StX.pa_star pe_wp pa_wp hs) (h H1 e1 _ fun v G2 H2 s2 r => by
    obtain ⟨l, xs, rfl, hx, rs⟩ := r
    exact ⟨l, xs, rfl, .inl (sqT_ex s2.gh hx), hr H2 (e1.trans s2.h) _ fun vs G3 H3 s3 rs2 => q (xs ++ vs) _ _ (s2.trans (s2.join s3).1) ((rs.ex (uni_l _ _)).append (rs2.ex (s2.join s3).2))⟩)
theorem rn_cat (ha : Rn X a σ G H (.lst ds1)) (hb : Rn X b σ G H (.lst ds2)) (hl : ds1.length + ds2.length ≤ 100000) : Rn X (.BinOp a .Add b pos) σ G H (.lst (ds1 ++ ds2)) :=
  rn_op op_cat ha hb fun x y G2 H2 s rx ry Q k => by
    obtain ⟨l, xs, rfl, hx, rs⟩ := rx
    obtain ⟨m, ys, rfl, hy, rt⟩ := ry
    exact ⟨l, m, xs, ys, rfl, rfl, s.gh _ _ hx, s.gh _ _ hy, by rw [rs.length, rt.length]; exact Nat.le_trans hl (by decide), fun p n => k _ _ _ (Stp.new1 s.gh n) (rep_new_lst s.gh (rs.append rt) n)⟩
/-- x.insert(i, y), x a list of ours -/
theorem rs_ins {j i : Nat} {l : Addr} {o e2 : Expr} {q1 q2 : Pos} (s : Sta X.K G0 H0 dss ow σ G H) (hv : Rn X o σ G H (.adr l)) (hj : ow[j]? = some (l, ds)) (h : RnA X [e, e2] σ G H [.int i, d]) (hl : ds.length < 100000) (hi : i ≤ 100000) (q : ∀ G2 H2, Sta X.K G0 H0 dss (ow.set j (l, ds.take i ++ [d] ++ ds.drop i)) σ G2 H2 → wpB X rest D σ H2)
    (pm : PE X (.Call (.Attribute o "insert" q1) [e, e2] [] q2) (tBM X.K "list" (fun x vs H Q => ∃ (l : Addr) (xs : List V) (i : Int) (y : V), x = .ref l ∧ vs = [.int i, y] ∧ H l = some (.lst xs) ∧ xs.length < sizeLine ∧ 0 ≤ i ∧ i < 2 ^ 63 ∧ Q .non (upd H l (.lst (xs.take i.toNat ++ [y] ++ xs.drop i.toNat)))) (wpE X o) (wpA X [e, e2])) := by exact pe_bm PySem.F.plainAttrs_list PySem.F.slot_list_insert PySem.F.type_list_insert mt_insert pe_wp pa_wp)
    (hs : swapsWith (.Call (.Attribute o "insert" q1) [e, e2] [] q2) none pos.line X.env = pure false := by rfl) :
    wpB X (.Expr (.Call (.Attribute o "insert" q1) [e, e2] [] q2) pos :: rest) D σ H :=
  rs_bm s hv hj h pm (fun vs ws G2 H2 s2 r1 r2 hH Q k => by
    obtain ⟨w1, w2, rfl, rw1, rw2⟩ := reps2 r2
    refine ⟨l, vs, i, w2, rfl, by rw [show w1 = V.int i from rw1], hH, by rw [r1.length]; exact Nat.lt_of_lt_of_le hl (by decide), by omega, by omega, ?_⟩
    rw [Int.toNat_natCast]
    exact k _ (((r1.take i).append (Reps.one rw2)).append (r1.drop i))) q hs

/-! ### zip of two lists -/
theorem wks_zip {K : PySem.W.Frag} {l m : Addr} {xs ys : List V} (hx : G l = some (.lst xs)) (hy : G m = some (.lst ys)) (r1 : Reps K G xs ds1) (r2 : Reps K G ys ds2) : Wks K (Itz K l m) G ((ds1.zip ds2).map fun p => .tup [p.1, p.2]) where
  go := fun i d Ga Ha h e1 e2 => by
    rw [List.getElem?_map] at h
    cases z : (ds1.zip ds2)[i]? with
    | none =>
      rw [z] at h
      cases h
    | some pr =>
      obtain ⟨z1, z2⟩ := List.getElem?_zip_eq_some.mp z
      obtain ⟨v, h1, _⟩ := r1.get z1
      obtain ⟨w, h2, _⟩ := r2.get z2
      exact ⟨xs, ys, v, w, sqL_ex (e1.trans e2) hx, sqL_ex (e1.trans e2) hy, h1, h2⟩
  yld := fun i d Ga Ha x Hb h e1 e2 y => by
    obtain ⟨T, v, w, rfl, nT, rfl, q1, q2⟩ := y
    rw [List.getElem?_map] at h
    cases z : (ds1.zip ds2)[i]? with
    | none =>
      rw [z] at h
      cases h
    | some pr =>
      rw [z] at h
      have e : Dt.tup [pr.1, pr.2] = d := Option.some.inj h
      subst e
      obtain ⟨z1, z2⟩ := List.getElem?_zip_eq_some.mp z
      obtain ⟨v', h1, rv⟩ := r1.get z1
      obtain ⟨w', h2, rw'⟩ := r2.get z2
      have a1 := q1 xs (sqL_ex (e1.trans e2) hx)
      have a2 := q2 ys (sqL_ex (e1.trans e2) hy)
      rw [h1] at a1
      rw [h2] at a2
      have b1 : v' = v := Option.some.inj a1
      have b2 : w' = w := Option.some.inj a2
      subst b1 b2
      refine ⟨_, Stp.new1 e2 nT, rep_new_tup e2 ?_ nT⟩
      exact ⟨rv.ex e1, rw'.ex e1, True.intro⟩
  stop := fun Ga Ha e1 e2 => by
    refine ⟨xs, ys, sqL_ex (e1.trans e2) hx, sqL_ex (e1.trans e2) hy, ?_⟩
    rw [List.length_map, List.length_zip, r1.length, r2.length]
    omega
theorem wk_zip {kk : Nat} {tp : Pos} {ts : List Expr} (f : Free X "zip") (h1 : Rn X a σ G H (.lst ds1)) (h2 : Rn X b σ G H (.lst ds2)) (hs : starEach [a, b] X.env = (false, eval a X.env) :: starEach [b] X.env := by rfl) (hs2 : starEach [b] X.env = (false, eval b X.env) :: starEach [] X.env := by rfl) (hpl : (backTo pos (starEach [b] X.env)).any (·.1) = false := by rfl) :
    Wk X (.Tuple ts kk tp) (.Call (.Name "zip" p) [a, b] [] pos) σ G H ((ds1.zip ds2).map fun p => .tup [p.1, p.2]) :=
  ⟨_, pi_zip f.g f.m (pa_cons pe_wp (pa_cons pe_wp pa_nil hs2) hs) hs hpl, fun H1 e R q => two h1 h2 e fun v w G2 H2 s r r' => by
    obtain ⟨l, xs, rfl, hx, rs⟩ := r
    obtain ⟨m, ys, rfl, hy, rt⟩ := r'
    exact ⟨l, m, xs, ys, rfl, sqL_ex s.gh hx, sqL_ex s.gh hy, q _ G2 H2 s (wks_zip hx hy rs rt)⟩⟩

/-! ### while -/
theorem rs_while {W : Nat → L2.St → Hp → Hp → Prop} (hp : PassesOwn (model X.prog X.w) X.A X.env X.xe) {m0 : Nat} (h0 : ∃ G, W m0 σ G H)
    (ht : ∀ m σ' G' H', W m σ' G' H' → ∃ k, RnT X c σ' G' H' k ∧
      (k = true → ∀ G2 H2, Stp G' H' G2 H2 → wpB X body { D with nx := fun σ3 H3 => ∃ m' G3, m' < m ∧ W m' σ3 G3 H3, ct := fun σ3 H3 => ∃ m' G3, m' < m ∧ W m' σ3 G3 H3, bk := wpB X rest D } σ' H2) ∧
      (k = false → ∀ G2 H2, Stp G' H' G2 H2 → wpB X rest D σ' H2)) : wpB X (.While c body [] pos :: rest) D σ H := by
  refine wb_cons (wpS_of (ps_while hp pt_wp pb_wp) ⟨fun m σ' H' => ∃ G', W m σ' G' H', ⟨m0, h0⟩, ?_⟩)
  rintro m σ' H' ⟨G', hW⟩
  obtain ⟨k, hk, h1, h2⟩ := ht m σ' G' H' hW
  refine hk H' (Ex.refl H') _ fun G2 H2 s2 => ?_
  cases k with
  | true =>
    refine iteT ⟨fun σ3 H3 => ∃ m' G3, m' < m ∧ W m' σ3 G3 H3, fun σ3 H3 ⟨m', G3, lt, w⟩ => ⟨m', lt, G3, w⟩, h1 rfl G2 H2 s2⟩
  | false => exact iteF (h2 rfl G2 H2 s2)

/-! ### targets -/
/-- tg = e, tg a tuple of names -/
theorem rs_tg {up : List (Option Dt) → List (Option Dt)} {is : List Nat} (s : Sta X.K G0 H0 dss ow σ G H) (h : Rn X e σ G H d) (ht : TgOk X tg d up is) (q : ∀ σ2 G2 H2, Sta X.K G0 H0 (up dss) ow σ2 G2 H2 → wpB X rest D σ2 H2)
    (hs : swapsWithSole [tg] e pos.line X.env = pure false := by rfl) (hw : swappedStores [tg] e X.env = pure none := by rfl) (h1 : (assignEach [tg] X.env).map (·.2) = [assign tg X.env] := by rfl) : wpB X (.Assign [tg] e pos :: rest) D σ H :=
  wb_cons (wpS_of (ps_asg pe_wp pg_wp hs hw h1) (h H (Ex.refl H) _ fun v G2 H2 s2 r => ht σ G2 H2 v s2.gh r _ fun σ2 l2 a2 k2 => q σ2 G2 H2 ⟨s.st.trans s2, k2 _ (s.env.ex s2.g), fun p hp => (s.own p hp).stp s2, s.nd⟩))
/-- x, y = a, b -/
theorem rs_par {i j : Nat} {x y : Str} {px py pt : Pos} {kt k2 pt2} (s : Sta X.K G0 H0 dss ow σ G H) (ha : Rn X a σ G H d1) (hb : Rn X b σ G H d2) (hc : X.calm = true) (hN : X.N.Nodup) (hi : X.N[i]? = some x) (hj : X.N[j]? = some y) (hij : i ≠ j)
    (hx : X.env.scope.names.lookup x = some .local) (hy : X.env.scope.names.lookup y = some .local) (q : ∀ σ2 G2 H2, Sta X.K G0 H0 ((dss.set i (some d1)).set j (some d2)) ow σ2 G2 H2 → wpB X rest D σ2 H2)
    (hw : swappedStores [.Tuple [.Name x px, .Name y py] kt pt] (.Tuple [a, b] k2 pt2) X.env = pure (some [x, y]) := by rfl)
    (hs : swapsWithSole [.Tuple [.Name x px, .Name y py] kt pt] (.Tuple [a, b] k2 pt2) pos.line X.env = pure false := by rfl)
    (he : starEach [a, b] X.env = (false, eval a X.env) :: starEach [b] X.env := by rfl) (he2 : starEach [b] X.env = (false, eval b X.env) :: starEach [] X.env := by rfl) :
    wpB X (.Assign [.Tuple [.Name x px, .Name y py] kt pt] (.Tuple [a, b] k2 pt2) pos :: rest) D σ H :=
  wb_cons (wpS_of (ps_par hc hN hi hj hij hx hy pa_wp hw hs) (ra_cons ha (ra_one hb he2) he H (Ex.refl H) _ fun vs G2 H2 s2 r => by
    obtain ⟨v, w, rfl, r1, r2⟩ := reps2 r
    exact ⟨v, w, rfl, q _ G2 H2 ⟨s.st.trans s2, ((s.env.ex s2.g).set i r1).set j r2, fun p hp => (s.own p hp).stp s2, s.nd⟩⟩))
/-- x, y = a, b: a a new list of ours -/
theorem rs_parO {i j : Nat} {x y : Str} {px py pt : Pos} {kt k2 pt2} (s : Sta X.K G0 H0 dss ow σ G H) (ha : RnO X a σ G H ds1) (hb : Rn X b σ G H d2) (hc : X.calm = true) (hN : X.N.Nodup) (hi : X.N[i]? = some x) (hj : X.N[j]? = some y) (hij : i ≠ j)
    (hx : X.env.scope.names.lookup x = some .local) (hy : X.env.scope.names.lookup y = some .local) (q : ∀ l σ2 G2 H2, Sta X.K G0 H0 ((dss.set i (some (.adr l))).set j (some d2)) (ow ++ [(l, ds1)]) σ2 G2 H2 → wpB X rest D σ2 H2)
    (hw : swappedStores [.Tuple [.Name x px, .Name y py] kt pt] (.Tuple [a, b] k2 pt2) X.env = pure (some [x, y]) := by rfl)
    (hs : swapsWithSole [.Tuple [.Name x px, .Name y py] kt pt] (.Tuple [a, b] k2 pt2) pos.line X.env = pure false := by rfl)
    (he : starEach [a, b] X.env = (false, eval a X.env) :: starEach [b] X.env := by rfl) (he2 : starEach [b] X.env = (false, eval b X.env) :: starEach [] X.env := by rfl) :
    wpB X (.Assign [.Tuple [.Name x px, .Name y py] kt pt] (.Tuple [a, b] k2 pt2) pos :: rest) D σ H :=
  wb_cons (wpS_of (ps_par hc hN hi hj hij hx hy (pa_cons pe_wp (pa_cons pe_wp pa_nil he2) he) hw hs) (ha H (Ex.refl H) _ fun l vs G2 H2 s2 n1 n2 hl r => hb H2 s2.h _ fun w G3 H3 s3 r3 => by
    obtain ⟨jn, u⟩ := s2.join s3
    have s4 := s2.trans jn
    have o : Own X.K H0 (uni G2 G3) H3 l ds1 := Own.stp ⟨vs, hl, r, n2, s.st.h.back n1⟩ jn
    refine ⟨.ref l, w, rfl, q l _ _ H3 ⟨s.st.trans s4, ((s.env.ex s4.g).set i (show Rep X.K _ (.ref l) (.adr l) from rfl)).set j (r3.ex u), fun p hp => ?_, ?_⟩⟩
    · rcases List.mem_append.mp hp with z | z
      · exact (s.own p z).stp s4
      · have e : p = (l, ds1) := by simpa using z
        subst e
        exact o
    · rw [List.map_append, List.nodup_append]
      refine ⟨s.nd, by simp, fun z hz y hy e => ?_⟩
      obtain ⟨p, hp, e1⟩ := List.mem_map.mp hz
      obtain ⟨_, o1, _⟩ := s.own p hp
      have e2 : y = l := by simpa using hy
      rw [e1, e, e2, n1] at o1
      cases o1))
/-- x, y, z = a, b, c: a, b new lists of ours -/
theorem rs_par3 {i j l : Nat} {x y z : Str} {px py pz pt : Pos} {kt k2 pt2} (s : Sta X.K G0 H0 dss ow σ G H) (ha : RnO X a σ G H ds1) (hb : RnO X b σ G H ds2) (hcc : Rn X c σ G H d) (hc : X.calm = true) (hN : X.N.Nodup) (hi : X.N[i]? = some x) (hj : X.N[j]? = some y) (hl : X.N[l]? = some z) (hij : i ≠ j) (hil : i ≠ l) (hjl : j ≠ l)
    (hx : X.env.scope.names.lookup x = some .local) (hy : X.env.scope.names.lookup y = some .local) (hz : X.env.scope.names.lookup z = some .local)
    (q : ∀ p1 p2 σ2 G2 H2, Sta X.K G0 H0 (((dss.set i (some (.adr p1))).set j (some (.adr p2))).set l (some d)) (ow ++ [(p1, ds1)] ++ [(p2, ds2)]) σ2 G2 H2 → wpB X rest D σ2 H2)
    (hw : swappedStores [.Tuple [.Name x px, .Name y py, .Name z pz] kt pt] (.Tuple [a, b, c] k2 pt2) X.env = pure (some [x, y, z]) := by rfl)
    (hs : swapsWithSole [.Tuple [.Name x px, .Name y py, .Name z pz] kt pt] (.Tuple [a, b, c] k2 pt2) pos.line X.env = pure false := by rfl)
    (he : starEach [a, b, c] X.env = (false, eval a X.env) :: starEach [b, c] X.env := by rfl) (he2 : starEach [b, c] X.env = (false, eval b X.env) :: starEach [c] X.env := by rfl) (he3 : starEach [c] X.env = (false, eval c X.env) :: starEach [] X.env := by rfl) :
    wpB X (.Assign [.Tuple [.Name x px, .Name y py, .Name z pz] kt pt] (.Tuple [a, b, c] k2 pt2) pos :: rest) D σ H :=
  wb_cons (wpS_of (ps_par3 hc hN hi hj hl hij hil hjl hx hy hz (pa_cons pe_wp (pa_cons pe_wp (pa_cons pe_wp pa_nil he3) he2) he) hw hs) (ha H (Ex.refl H) _ fun l1 vs1 G2 H2 s2 n1 n2 hl1 r1 => hb H2 s2.h _ fun l2 vs2 G3 H3 s3 m1 m2 hl2 r2 => hcc H3 (s2.h.trans s3.h) _ fun w G4 H4 s4 r4 => by
    obtain ⟨j1, u1⟩ := s2.join s3
    have t1 := s2.trans j1
    obtain ⟨j2, u2⟩ := t1.join s4
    have t2 := t1.trans j2
    have ne : l2 ≠ l1 := fun e => by rw [e, hl1] at m1; cases m1
    have un : uni G2 G3 l2 = none := uni_none (s2.gh.back m1) m2
    have o1 : Own X.K H0 (uni (uni G2 G3) G4) H4 l1 ds1 := Own.stp (Own.stp ⟨vs1, hl1, r1, n2, s.st.h.back n1⟩ j1) j2
    have o2 : Own X.K H0 (uni (uni G2 G3) G4) H4 l2 ds2 := Own.stp ⟨vs2, hl2, r2.ex u1, un, s.st.h.back (s2.h.back m1)⟩ j2
    have no : ∀ p ∈ ow, p.1 ≠ l1 ∧ p.1 ≠ l2 := fun p hp => by
      obtain ⟨_, z1, _⟩ := s.own p hp
      exact ⟨fun e => (by rw [e, n1] at z1; cases z1), fun e => (by rw [e, s2.h.back m1] at z1; cases z1)⟩
    refine ⟨.ref l1, .ref l2, w, rfl, q l1 l2 _ _ H4 ⟨s.st.trans t2, (((s.env.ex t2.g).set i (show Rep X.K _ (.ref l1) (.adr l1) from rfl)).set j (show Rep X.K _ (.ref l2) (.adr l2) from rfl)).set l (r4.ex u2), fun p hp => ?_, ?_⟩⟩
    · rcases List.mem_append.mp hp with z | z
      · rcases List.mem_append.mp z with z | z
        · exact (s.own p z).stp t2
        · have e : p = (l1, ds1) := by simpa using z
          subst e
          exact o1
      · have e : p = (l2, ds2) := by simpa using z
        subst e
        exact o2
    · rw [List.map_append, List.map_append, List.nodup_append, List.nodup_append]
      refine ⟨⟨s.nd, by simp, fun z hz y hy e => ?_⟩, by simp, fun z hz y hy e => ?_⟩
      · obtain ⟨p, hp, e1⟩ := List.mem_map.mp hz
        have e2 : y = l1 := by simpa using hy
        exact (no p hp).1 (e1.trans (e.trans e2))
      · have e2 : y = l2 := by simpa using hy
        rcases List.mem_append.mp hz with hz | hz
        · obtain ⟨p, hp, e1⟩ := List.mem_map.mp hz
          exact (no p hp).2 (e1.trans (e.trans e2))
        · have e3 : z = l1 := by simpa using hz
          exact ne (e2.symm.trans (e.symm.trans e3))))
end
end Y
set_option Elab.async false
set_option linter.all false
set_option maxRecDepth 100000
set_option maxHeartbeats 4000000
/-! Lay7: a comprehension with two fors. -/
namespace Y
open PySem PySem.Spec PyProof.Rows L2
def wpI (X : Cx) (tg iter : Expr) : TI := fun σ H R => ∀ (pins : List (Addr × Obj)) (s : Shared), Inv X pins σ H s →
  wpAny (model X.prog X.w) X.A (eval iter X.env) (fun v s1 => wpAny (model X.prog X.w) X.A (pyIter v) (PIE X pins σ tg R) X.xe s1) X.xe s
section
variable {X : Cx} {σ : L2.St} {G0 H0 G H G1 H1 : Hp} {d d1 d2 d3 : Dt} {ds ds1 ds2 : List Dt} {dss : List (Option Dt)} {ow : List (Addr × List Dt)} {a b c e tg iter tg1 iter1 : Expr} {es : List Expr} {pos p : Pos} {k : Bool} {D : Ends} {st : Stmt} {rest body orelse : List Stmt}
theorem flat_snoc {α β : Type} (f : α → List β) (l : List α) (x : α) : (l ++ [x]).flatMap f = l.flatMap f ++ f x := by
  rw [List.flatMap_append]
  simp
theorem flat_le {α β : Type} (f : α → List β) (l : List α) (i : Nat) : ((l.take i).flatMap f).length ≤ (l.flatMap f).length := by
  have e : l.flatMap f = (l.take i).flatMap f ++ (l.drop i).flatMap f := by rw [← List.flatMap_append, List.take_append_drop]
  rw [e, List.length_append]
  omega
theorem tYes_of {σ : L2.St} {H : Hp} {Q : Bool → Hp → Prop} (h : Q true H) : tYes σ H Q := h
/-- [elt for tg in iter for tg1 in iter1] -/
theorem lc2_t {α β : Type} {elt : Expr} {scope : Scope} {own : List (Str × Nat)} {vs1 : List Nat} {enc : α → Dt} {enc1 : β → Dt} {xs : List α} {ys : α → List β} {up : α → List (Option Dt) → List (Option Dt)} {up1 : β → List (Option Dt) → List (Option Dt)} {is is1 : List Nat} {f : α → β → Dt}
    (s : Sta X.K G0 H0 dss ow σ G H) (hc : X.calm = true) (hN : X.N.Nodup)
    (hw : Wk X tg iter σ G H (xs.map enc)) (ok : BlkOk X.N X.env.scope scope own) (hl : (xs.flatMap fun x => (ys x).map (f x)).length ≤ 100000) (his : ∀ i ∈ is, i ∈ own.map (·.2)) (hv : ∀ i ∈ vs1, i ∈ own.map (·.2)) (his1 : ∀ i ∈ is1, i ∈ vs1)
    (htg : ∀ (s1 : Shared) (HH : Hp) (C : Addr) (cl : List (Str × Addr)) (fp : List Addr), ∀ x ∈ xs, TgOk (X.blk s1 HH scope (compEnvC scope cl C X.env) fp) tg (enc x) (up x) is)
    (htg1 : ∀ (s1 : Shared) (HH : Hp) (C : Addr) (cl : List (Str × Addr)) (fp : List Addr), ∀ x ∈ xs, ∀ y ∈ ys x, TgOk (X.blk s1 HH scope (compEnvC scope cl C X.env) fp) tg1 (enc1 y) (up1 y) is1)
    (hw1 : ∀ (s1 : Shared) (HH : Hp) (C : Addr) (cl : List (Str × Addr)) (fp : List Addr), ∀ x ∈ xs, ∀ σ' G' H', Sta X.K G0 H0 (up x (wipeD dss (own.map (·.2)))) ow σ' G' H' → Wk (X.blk s1 HH scope (compEnvC scope cl C X.env) fp) tg1 iter1 σ' G' H' ((ys x).map enc1))
    (he : ∀ (s1 : Shared) (HH : Hp) (C : Addr) (cl : List (Str × Addr)) (fp : List Addr), ∀ x ∈ xs, ∀ y ∈ ys x, ∀ σ' G' H', Sta X.K G0 H0 (up1 y (wipeD (up x (wipeD dss (own.map (·.2)))) vs1)) ow σ' G' H' → Rn (X.blk s1 HH scope (compEnvC scope cl C X.env) fp) elt σ' G' H' (f x y)) :
    ∃ wi, PI X tg iter wi ∧ ∀ H1, Ex H H1 → ∀ Q : VK, (∀ l vs G2 H2, Stp G H1 G2 H2 → H1 l = none → G2 l = none → H2 l = some (.lst vs) → Reps X.K G2 vs (xs.flatMap fun x => (ys x).map (f x)) → Q (.ref l) H2) →
      tLc2 wi (fun v σ H Q => ∀ (s1 : Shared) (HH : Hp) (C : Addr) (cl : List (Str × Addr)) (fp : List Addr), wpG (X.blk s1 HH scope (compEnvC scope cl C X.env) fp) tg v σ H Q) tYes (fun σ H R => ∀ (s1 : Shared) (HH : Hp) (C : Addr) (cl : List (Str × Addr)) (fp : List Addr), wpI (X.blk s1 HH scope (compEnvC scope cl C X.env) fp) tg1 iter1 σ H R) (fun v σ H Q => ∀ (s1 : Shared) (HH : Hp) (C : Addr) (cl : List (Str × Addr)) (fp : List Addr), wpG (X.blk s1 HH scope (compEnvC scope cl C X.env) fp) tg1 v σ H Q) tYes (fun σ H Q => ∀ (s1 : Shared) (HH : Hp) (C : Addr) (cl : List (Str × Addr)) (fp : List Addr), wpE (X.blk s1 HH scope (compEnvC scope cl C X.env) fp) elt σ H Q) (own.map (·.2)) vs1 σ H1 Q := by
  obtain ⟨wi, hpi, hwi⟩ := hw
  refine ⟨wi, hpi, fun H1 e1 Q q => ?_⟩
  refine hwi H1 e1 _ fun J G2 H2 s2 w D nD => ?_
  have sb : Sta X.K G0 H0 dss ow σ G2 H2 := s.stp (s2.under e1)
  let F : α → List Dt := fun x => (ys x).map (f x)
  refine ⟨fun i m H' => m = xs.length - i ∧ i ≤ xs.length ∧ ∃ G' acc, Stp G2 H2 G' H' ∧ H' D = some (.lst acc) ∧ G' D = none ∧ Reps X.K G' acc ((xs.take i).flatMap F),
    ⟨_, rfl, Nat.zero_le _, G2, [], ⟨Ex.new nD, Ex.refl _, s2.gh.trans (Ex.new nD), fun _ h _ => h⟩, upd_same, s2.gh.back nD, by rw [List.take_zero]; exact True.intro⟩, ?_⟩
  rintro i m H' ⟨rfl, hi, G', acc, s3, hD, nG, r⟩
  by_cases lt : i < xs.length
  · have hx : xs[i]? = some xs[i] := List.getElem?_eq_getElem lt
    have hm : (xs.map enc)[i]? = some (enc xs[i]) := by rw [List.getElem?_map, hx] <;> rfl
    have et : xs.take (i + 1) = xs.take i ++ [xs[i]] := by rw [List.take_succ_eq_append_getElem lt]
    have mem : xs[i] ∈ xs := List.getElem_mem lt
    have len : ((xs.take i).flatMap F).length + (F xs[i]).length ≤ 100000 := by
      have h1 := flat_le F xs (i + 1)
      rw [et, flat_snoc, List.length_append] at h1
      exact Nat.le_trans h1 hl
    refine .inr ⟨w.go i _ G' H' hm s3.g s3.gh, fun H3 => ∃ G3 acc, Stp G2 H2 G3 H3 ∧ H3 D = some (.lst acc) ∧ G3 D = none ∧ Reps X.K G3 acc ((xs.take i ++ [xs[i]]).flatMap F), fun H3 h3 => ⟨xs.length - (i + 1), by omega, rfl, by omega, by rw [et]; exact h3⟩, fun x H4 y => ?_⟩
    obtain ⟨G4, s4, r4⟩ := w.yld i _ G' H' x H4 hm s3.g s3.gh y
    intro s1 HH C cl fp
    refine htg s1 HH C cl fp xs[i] mem (wipe σ (own.map (·.2))) G4 H4 x s4.gh r4 _ ?_
    intro σ2 l2 a2 k2
    refine ⟨?_, ?_⟩
    · have h1 : wipe σ2 (own.map (·.2)) = wipe (wipe σ (own.map (·.2))) (own.map (·.2)) := wipe_set l2 _ fun i hi => a2 i fun z => hi (his i z)
      rw [h1, wipe_wipe]
    · have s5 := s3.trans s4
      have sS : Sta X.K G0 H0 (up xs[i] (wipeD dss (own.map (·.2)))) ow σ2 G4 H4 := by
        have h := sb.stp s5
        exact ⟨h.st, k2 _ (slo_wipe h.env _), h.own, h.nd⟩
      have hD4 : H4 D = some (.lst acc) := s4.h _ _ hD
      have nG4 : G4 D = none := s4.new D nG (by rw [hD]; simp)
      refine tYes_of ?_
      refine iteT ?_
      intro s1 HH C cl fp
      obtain ⟨wi1, hpi1, hwi1⟩ := hw1 s1 HH C cl fp xs[i] mem σ2 G4 H4 sS
      intro pins1 sh1 I1
      refine hpi1.run pins1 sh1 σ2 H4 _ I1 ?_
      refine hwi1 H4 (Ex.refl _) _ fun J1 G5 H5 s6 w1 => ?_
      have s7 := s5.trans s6
      have hD5 : H5 D = some (.lst acc) := s6.h _ _ hD4
      have nG5 : G5 D = none := s6.new D nG4 (by rw [hD4]; simp)
      have r5 : Reps X.K G5 acc ((xs.take i).flatMap F) := (r.ex s4.g).ex s6.g
      refine ⟨fun j k H' => k = (ys xs[i]).length - j ∧ j ≤ (ys xs[i]).length ∧ ∃ G' acc, Stp G2 H2 G' H' ∧ Ex G4 G' ∧ Ex G5 G' ∧ H' D = some (.lst acc) ∧ G' D = none ∧ Reps X.K G' acc ((xs.take i).flatMap F ++ ((ys xs[i]).take j).map (f xs[i])),
        ⟨_, rfl, Nat.zero_le _, G5, acc, s7, s6.g, Ex.refl _, hD5, nG5, by rw [List.take_zero, List.map_nil, List.append_nil]; exact r5⟩, ?_⟩
      rintro j k H6 ⟨rfl, hj, G6, acc6, s8, e46, e56, hD6, nG6, r6⟩
      by_cases lt1 : j < (ys xs[i]).length
      · have hy : (ys xs[i])[j]? = some (ys xs[i])[j] := List.getElem?_eq_getElem lt1
        have hm1 : ((ys xs[i]).map enc1)[j]? = some (enc1 (ys xs[i])[j]) := by rw [List.getElem?_map, hy] <;> rfl
        have et1 : (ys xs[i]).take (j + 1) = (ys xs[i]).take j ++ [(ys xs[i])[j]] := by rw [List.take_succ_eq_append_getElem lt1]
        have mem1 : (ys xs[i])[j] ∈ ys xs[i] := List.getElem_mem lt1
        refine .inr ⟨w1.go j _ G6 H6 hm1 e56 s8.gh, fun H3 => ∃ G3 acc, Stp G2 H2 G3 H3 ∧ Ex G4 G3 ∧ Ex G5 G3 ∧ H3 D = some (.lst acc) ∧ G3 D = none ∧ Reps X.K G3 acc ((xs.take i).flatMap F ++ ((ys xs[i]).take j ++ [(ys xs[i])[j]]).map (f xs[i])), fun H3 h3 => ⟨(ys xs[i]).length - (j + 1), by omega, rfl, by omega, by rw [et1]; exact h3⟩, fun x1 H7 y1 => ?_⟩
        obtain ⟨G7, s9, r7⟩ := w1.yld j _ G6 H6 x1 H7 hm1 e56 s8.gh y1
        intro s1 HH C cl fp
        refine htg1 s1 HH C cl fp xs[i] mem _ mem1 (wipe σ2 vs1) G7 H7 x1 s9.gh r7 _ ?_
        intro σ3 l3 a3 k3
        refine ⟨?_, ?_⟩
        · have h1 : wipe σ3 vs1 = wipe (wipe σ2 vs1) vs1 := wipe_set l3 _ fun i hi => a3 i fun z => hi (his1 i z)
          rw [h1, wipe_wipe]
        · have s10 := s8.trans s9
          have sS7 : Sta X.K G0 H0 (up1 (ys xs[i])[j] (wipeD (up xs[i] (wipeD dss (own.map (·.2)))) vs1)) ow σ3 G7 H7 := by
            have h := sb.stp s10
            refine ⟨h.st, k3 _ (slo_wipe (sS.env.ex (e46.trans s9.g)) _), h.own, h.nd⟩
          refine tYes_of ?_
          refine iteT ?_
          intro s1 HH C cl fp
          have hD7 : H7 D = some (.lst acc6) := s9.h _ _ hD6
          have nG7 : G7 D = none := s9.new D nG6 (by rw [hD6]; simp)
          refine he s1 HH C cl fp xs[i] mem _ mem1 σ3 G7 H7 sS7 H7 (Ex.refl _) _ fun v G8 H8 s11 r8 => ?_
          have hD8 : H8 D = some (.lst acc6) := s11.h _ _ hD7
          have nG8 : G8 D = none := s11.new D nG7 (by rw [hD7]; simp)
          have s12 := s10.trans s11
          have r9 := (r6.ex s9.g).ex s11.g
          refine ⟨acc6, hD8, ?_, G8, acc6 ++ [v], ⟨s12.h.upd nD, s12.g, s12.gh.upd nG8, s12.new⟩, e46.trans (s9.g.trans s11.g), e56.trans (s9.g.trans s11.g), upd_same, nG8, ?_⟩
          · rw [r6.length, List.length_append, List.length_map, List.length_take]
            have h2 : (F xs[i]).length = (ys xs[i]).length := List.length_map _
            have h3 : sizeLine = 16777216 := sizeLine_eq
            omega
          · rw [List.map_append, ← List.append_assoc]
            exact r9.append (Reps.one r8)
      · have ej : j = (ys xs[i]).length := by omega
        subst ej
        refine .inl ⟨?_, G6, acc6, s8, hD6, nG6, ?_⟩
        · have := w1.stop G6 H6 e56 s8.gh
          rw [List.length_map] at this
          exact this
        · rw [List.take_length] at r6
          rw [flat_snoc]
          exact r6
  · have ei : i = xs.length := by omega
    subst ei
    refine .inl ⟨?_, ?_⟩
    · have := w.stop G' H' s3.g s3.gh
      rw [List.length_map] at this
      exact this
    · rw [List.take_length] at r
      exact q D acc G' H' (s2.trans s3) (s2.h.back nD) nG hD r
/-- [elt for tg in iter for tg1 in iter1] -/
theorem ro_lc2 {α β : Type} {elt : Expr} {scope : Scope} {own : List (Str × Nat)} {vs1 : List Nat} {enc : α → Dt} {enc1 : β → Dt} {xs : List α} {ys : α → List β} {up : α → List (Option Dt) → List (Option Dt)} {up1 : β → List (Option Dt) → List (Option Dt)} {is is1 : List Nat} {f : α → β → Dt}
    (s : Sta X.K G0 H0 dss ow σ G H) (hc : X.calm = true) (hN : X.N.Nodup)
    (hw : Wk X tg iter σ G H (xs.map enc)) (ok : BlkOk X.N X.env.scope scope own) (hl : (xs.flatMap fun x => (ys x).map (f x)).length ≤ 100000) (his : ∀ i ∈ is, i ∈ own.map (·.2)) (hv : ∀ i ∈ vs1, i ∈ own.map (·.2)) (his1 : ∀ i ∈ is1, i ∈ vs1)
    (htg : ∀ (s1 : Shared) (HH : Hp) (C : Addr) (cl : List (Str × Addr)) (fp : List Addr), ∀ x ∈ xs, TgOk (X.blk s1 HH scope (compEnvC scope cl C X.env) fp) tg (enc x) (up x) is)
    (htg1 : ∀ (s1 : Shared) (HH : Hp) (C : Addr) (cl : List (Str × Addr)) (fp : List Addr), ∀ x ∈ xs, ∀ y ∈ ys x, TgOk (X.blk s1 HH scope (compEnvC scope cl C X.env) fp) tg1 (enc1 y) (up1 y) is1)
    (hw1 : ∀ (s1 : Shared) (HH : Hp) (C : Addr) (cl : List (Str × Addr)) (fp : List Addr), ∀ x ∈ xs, ∀ σ' G' H', Sta X.K G0 H0 (up x (wipeD dss (own.map (·.2)))) ow σ' G' H' → Wk (X.blk s1 HH scope (compEnvC scope cl C X.env) fp) tg1 iter1 σ' G' H' ((ys x).map enc1))
    (he : ∀ (s1 : Shared) (HH : Hp) (C : Addr) (cl : List (Str × Addr)) (fp : List Addr), ∀ x ∈ xs, ∀ y ∈ ys x, ∀ σ' G' H', Sta X.K G0 H0 (up1 y (wipeD (up x (wipeD dss (own.map (·.2)))) vs1)) ow σ' G' H' → Rn (X.blk s1 HH scope (compEnvC scope cl C X.env) fp) elt σ' G' H' (f x y))
    (hfs : ∀ x, foldedSetIterable iter X.env x = pure x := by intro _; rfl) (hfs1 : ∀ env x, foldedSetIterable iter1 env x = pure x := by intro _ _; rfl) :
    RnO X (.ListComp elt [⟨tg, iter, [], 0⟩, ⟨tg1, iter1, [], 0⟩] scope pos) σ G H (xs.flatMap fun x => (ys x).map (f x)) := fun H1 e1 Q q => by
  obtain ⟨wi, hpi, h⟩ := lc2_t s hc hN hw ok hl his hv his1 htg htg1 hw1 he
  exact wpE_of (pe_lc2 (own := own) (vs1 := vs1) hc hN hpi ok hv (fun s1 HH C cl fp => ⟨fun pins s σ H v u Q I r h => h s1 HH C cl fp pins s u I r⟩) (fun s1 HH C cl fp => pts_nil) (fun s1 HH C cl fp => ⟨fun pins s σ H R I h => h s1 HH C cl fp pins s I⟩) (fun s1 HH C cl fp => ⟨fun pins s σ H v u Q I r h => h s1 HH C cl fp pins s u I r⟩) (fun s1 HH C cl fp => pts_nil) (fun s1 HH C cl fp => ⟨fun pins s σ H Q I h => h s1 HH C cl fp pins s I⟩) hfs hfs1) (h H1 e1 Q q)
/-- .. stored at once -/
theorem rs_lc20 {α β : Type} {elt : Expr} {scope : Scope} {own : List (Str × Nat)} {vs1 : List Nat} {enc : α → Dt} {enc1 : β → Dt} {xs : List α} {ys : α → List β} {up : α → List (Option Dt) → List (Option Dt)} {up1 : β → List (Option Dt) → List (Option Dt)} {is is1 : List Nat} {f : α → β → Dt}
    (s : Sta X.K G0 H0 dss ow σ G H) (hc : X.calm = true) (hN : X.N.Nodup)
    (hw : Wk X tg iter σ G H (xs.map enc)) (ok : BlkOk X.N X.env.scope scope own) (hl : (xs.flatMap fun x => (ys x).map (f x)).length ≤ 100000) (his : ∀ i ∈ is, i ∈ own.map (·.2)) (hv : ∀ i ∈ vs1, i ∈ own.map (·.2)) (his1 : ∀ i ∈ is1, i ∈ vs1)
    (htg : ∀ (s1 : Shared) (HH : Hp) (C : Addr) (cl : List (Str × Addr)) (fp : List Addr), ∀ x ∈ xs, TgOk (X.blk s1 HH scope (compEnvC scope cl C X.env) fp) tg (enc x) (up x) is)
    (htg1 : ∀ (s1 : Shared) (HH : Hp) (C : Addr) (cl : List (Str × Addr)) (fp : List Addr), ∀ x ∈ xs, ∀ y ∈ ys x, TgOk (X.blk s1 HH scope (compEnvC scope cl C X.env) fp) tg1 (enc1 y) (up1 y) is1)
    (hw1 : ∀ (s1 : Shared) (HH : Hp) (C : Addr) (cl : List (Str × Addr)) (fp : List Addr), ∀ x ∈ xs, ∀ σ' G' H', Sta X.K G0 H0 (up x (wipeD dss (own.map (·.2)))) ow σ' G' H' → Wk (X.blk s1 HH scope (compEnvC scope cl C X.env) fp) tg1 iter1 σ' G' H' ((ys x).map enc1))
    (he : ∀ (s1 : Shared) (HH : Hp) (C : Addr) (cl : List (Str × Addr)) (fp : List Addr), ∀ x ∈ xs, ∀ y ∈ ys x, ∀ σ' G' H', Sta X.K G0 H0 (up1 y (wipeD (up x (wipeD dss (own.map (·.2)))) vs1)) ow σ' G' H' → Rn (X.blk s1 HH scope (compEnvC scope cl C X.env) fp) elt σ' G' H' (f x y))
    {y : Str} {py spos : Pos} {i : Nat} (hy : X.N[i]? = some y) (hyl : X.env.scope.names.lookup y = some .local) (hsw : swapsWith (.ListComp elt [⟨tg, iter, [], 0⟩, ⟨tg1, iter1, [], 0⟩] scope pos) (some (.Name y py)) spos.line X.env = pure true)
    (q : ∀ l vs G2 H2, Stp G H G2 H2 → H l = none → G2 l = none → H2 l = some (.lst vs) → Reps X.K G2 vs (xs.flatMap fun x => (ys x).map (f x)) → wpB X rest D (σ.set i (some (.ref l))) H2)
    (hfs : ∀ x, foldedSetIterable iter X.env x = pure x := by intro _; rfl) (hfs1 : ∀ env x, foldedSetIterable iter1 env x = pure x := by intro _ _; rfl) :
    wpB X (.Assign [.Name y py] (.ListComp elt [⟨tg, iter, [], 0⟩, ⟨tg1, iter1, [], 0⟩] scope pos) spos :: rest) D σ H := by
  obtain ⟨wi, hpi, h⟩ := lc2_t s hc hN hw ok hl his hv his1 htg htg1 hw1 he
  exact wb_cons (wpS_of (ps_setLc2 (own := own) (vs1 := vs1) hc hN hy hyl hsw hpi ok hv (fun s1 HH C cl fp => ⟨fun pins s σ H v u Q I r h => h s1 HH C cl fp pins s u I r⟩) (fun s1 HH C cl fp => pts_nil) (fun s1 HH C cl fp => ⟨fun pins s σ H R I h => h s1 HH C cl fp pins s I⟩) (fun s1 HH C cl fp => ⟨fun pins s σ H v u Q I r h => h s1 HH C cl fp pins s u I r⟩) (fun s1 HH C cl fp => pts_nil) (fun s1 HH C cl fp => ⟨fun pins s σ H Q I h => h s1 HH C cl fp pins s I⟩) hfs hfs1) (h H (Ex.refl H) _ fun l vs G2 H2 s2 n1 n2 hl r => q l vs G2 H2 s2 n1 n2 hl r))
end
end Y
set_option Elab.async false
set_option linter.all false
set_option maxRecDepth 100000
set_option maxHeartbeats 4000000
/-! Tx: what the top has written, by names. -/
namespace Y
open PySem PySem.Spec PyProof.Rows L2
structure Txt (K : PySem.W.Frag) (mg : Str → Option Value) : Prop where
  o : obsK K = valK
  h : ∃ h : Heap, K.In h ∧ h.Ns mainGlobals mg
section
variable {K : PySem.W.Frag} {mg : Str → Option Value}
theorem Txt.all (T : Txt K mg) : (factsL K).all id = true ∧ (fnD.all fun d => d.ok K) = true ∧ fnD.map (fun d => He5.fnA K (d.at_ K)) ++ [He5.fnA K f_Found_init, He5.fnA K f_Barred_init] = valK.2 := by
  have h1 : ((factsL K).all id && fnD.all fun d => d.ok K) = true := congrArg (fun z : Bool × List He5.FnW => z.1) T.o
  have h2 := congrArg (fun z : Bool × List He5.FnW => z.2) T.o
  obtain ⟨a, b⟩ := He.ba h1
  exact ⟨a, b, h2⟩
theorem Txt.fact (T : Txt K mg) (i : Nat) {b : Bool} (h : (factsL K)[i]? = some b) : b = true :=
  List.all_eq_true.mp T.all.1 b (List.mem_of_getElem? h)
theorem Txt.def_ (T : Txt K mg) (i : Nat) {d : He5.DefA} (h : fnD[i]? = some d) : ∃ fd, L2.FunD K d.name d.qual d.params d.body d.scope (d.dvs K) (d.kws K) (d.at_ K) fd := by
  obtain ⟨_, h2, h3⟩ := T.all
  refine He5.DefA.funD ?_ (List.all_eq_true.mp h2 d (List.mem_of_getElem? h))
  have hl : i < fnD.length := (List.getElem?_eq_some_iff.mp h).1
  have e : (fnD.map (fun d => He5.fnA K (d.at_ K)) ++ [He5.fnA K f_Found_init, He5.fnA K f_Barred_init])[i]? = (fnD.map He5.DefA.val ++ ([some ("__init__", "Found.__init__", C8.fnArgs s_Found_init, .stmts (C8.fnBody s_Found_init), C8.fnScope s_Found_init, mainGlobals, [(("__class__" : Str), (1151 : Addr))], builtinsNs),
    some ("__init__", "Barred.__init__", C8.fnArgs s_Barred_init, .stmts (C8.fnBody s_Barred_init), C8.fnScope s_Barred_init, mainGlobals, [(("__class__" : Str), (1172 : Addr))], builtinsNs)] : List He5.FnW))[i]? := by rw [h3] <;> rfl
  rw [List.getElem?_append_left (by rw [List.length_map]; exact hl), List.getElem?_append_left (by rw [List.length_map]; exact hl), List.getElem?_map, List.getElem?_map, h] at e
  exact Option.some.inj e
theorem eqO_ok {a b : Option (Option Value)} (h : eqO a b = true) : a = b := of_decide_eq_true h
theorem Txt.glo (T : Txt K mg) {x : Str} {a : Addr} (h : (x, a) ∈ gloL) : mg x = some (.ref a) := by
  obtain ⟨hh, X, G⟩ := T.h
  exact PySem.W.mg_of X G (eqO_ok (List.all_eq_true.mp (T.fact 0 rfl) (x, a) h))
theorem Txt.fre (T : Txt K mg) {x : Str} (h : x ∈ freeL) : mg x = none := by
  obtain ⟨hh, X, G⟩ := T.h
  exact PySem.W.mg_none_of X G (eqO_ok (List.all_eq_true.mp (T.fact 1 rfl) x h))
theorem Txt.int (T : Txt K mg) {x : Str} {i : Int} (h : (x, i) ∈ intL) : ∃ t, mg x = some (.int i t) := by
  obtain ⟨hh, X, G⟩ := T.h
  have c2 := List.all_eq_true.mp (T.fact 2 rfl) (x, i) h
  dsimp only at c2
  cases e : PySem.W.nsIn K mainGlobals x with
  | none =>
    rw [e] at c2
    cases c2
  | some o =>
    rw [e] at c2
    cases o with
    | none => cases c2
    | some v =>
      cases v with
      | int j t =>
        have e2 : j = i := of_decide_eq_true c2
        subst e2
        exact ⟨t, PySem.W.mg_of X G e⟩
      | _ => cases c2
theorem clsB_ok {C : Addr} (h : clsB K C = true) : Cls K C := by
  obtain ⟨h1, h⟩ := He.ba h
  obtain ⟨h2, h⟩ := He.ba h
  obtain ⟨h3, h4⟩ := He.ba h
  exact ⟨h1, h2, h3, eqO_ok h4⟩
theorem Txt.cls (T : Txt K mg) : ClsOk K where
  cls := fun c => clsB_ok (List.all_eq_true.mp (T.fact 3 rfl) (c.ad K) (by cases c <;> simp [Cl.ad, clsL]))
  noat := fun c f hf => by
    refine eqO_ok (List.all_eq_true.mp (T.fact 4 rfl) (c.ad K, f) ?_)
    unfold noatL
    refine List.mem_flatMap.mpr ⟨c, by cases c <;> decide, List.mem_map.mpr ⟨f, hf, rfl⟩⟩
theorem Txt.kit (T : Txt K mg) : KitOk K where
  kit := fun t c => of_decide_eq_true (List.all_eq_true.mp (List.all_eq_true.mp (T.fact 9 rfl) t t.in_all) c c.in_all)
  ha := fun c => eqO_ok (He.ba (List.all_eq_true.mp (T.fact 10 rfl) c c.in_all)).1
  hm := fun c => of_decide_eq_true (He.ba (List.all_eq_true.mp (T.fact 10 rfl) c c.in_all)).2
  hn := of_decide_eq_true (He.ba (T.fact 11 rfl)).1
  ht := of_decide_eq_true (He.ba (T.fact 11 rfl)).2
theorem methB_ok {p : Addr × Str × Addr} (h : methB K p = true) : Meth K p.1 p.2.1 p.2.2 := by
  obtain ⟨h1, h⟩ := He.ba h
  obtain ⟨h2, h3⟩ := He.ba h
  exact ⟨eqO_ok h1, h2, h3⟩
theorem Txt.meth (T : Txt K mg) {C : Addr} {m : Str} {f : Addr} (h : (C, m, f) ∈ methL) : Meth K C m f := methB_ok (List.all_eq_true.mp (T.fact 5 rfl) _ h)
theorem Txt.methI (T : Txt K mg) {C : Addr} {m : Str} {f : Addr} (h : (C, m, f) ∈ methI) : Meth K C m f := methB_ok (List.all_eq_true.mp (T.fact 6 rfl) _ h)
theorem Txt.mkr (T : Txt K mg) {C f : Addr} (h : (C, f) ∈ mkL) : Mk K C f := by
  obtain ⟨h1, h⟩ := He.ba (List.all_eq_true.mp (T.fact 7 rfl) _ h)
  obtain ⟨h2, h⟩ := He.ba h
  obtain ⟨h3, h4⟩ := He.ba h
  exact ⟨h1, eqO_ok h2, h3, h4⟩
theorem toFun {x qual : Str} {st : Stmt} {f : Addr} {fd : FuncData} {dvs : List V} {kws : List (Str × V)} (F : FunD K x qual (C8.fnArgs st) (C8.fnBody st) (C8.fnScope st) dvs kws f fd) : C8.Fun K x qual st f fd := by
  obtain ⟨oc, od, dV, kV, doc, pm, an, cdv, ct, osl, e, lk, hcd, _, _⟩ := F.ex
  exact ⟨oc, od, dV, kV, doc, pm, an, cdv, ct, osl, e, lk, hcd⟩
end
section
variable {P : Program} {w : World} {K : PySem.W.Frag} {mg : Str → Option Value} {base : Heap}
abbrev Bod (P : Program) (w : World) (K : PySem.W.Frag) (mg : Str → Option Value) (base : Heap) (k : Nat) (q : Str) (st : Stmt) (N : List Str) (R : List Dt → Dt → Prop) : Prop :=
  ∀ (f : Addr) (cdv : Value) (A : Around) (outer : List Env) (s : Shared) (G H : Hp) (Q : VK) (E : XK) (σ : L2.St) (ds : List Dt) (d : Dt), Room k (A.deeper (envOfC q (C8.fnScope st) s.heap.objs.size f cdv)) → R ds d → Sta K G H (ini N ds) [] σ G H →
      (∀ v G2 H2, Stp G H G2 H2 → Rep K G2 v d → Q v H2) → wpB (bx P w K mg base N q st f cdv A outer s H E) (C8.fnBody st) (dE Q) σ H
/-- a def of the module without defaults, by its body -/
theorem cal_of {x : Str} {st : Stmt} {a : Addr} {N ps : List Str} {k : Nat} {R : List Dt → Dt → Prop} (T : Txt K mg) (i : Nat) (hd : fnD[i]? = some ⟨fun _ => a, x, x, C8.fnArgs st, C8.fnBody st, C8.fnScope st, [], []⟩) (hg : (x, a) ∈ gloL) (S : C8.scC N ps (C8.fnScope st) = true)
    (hb : ∀ (kV doc pm : Value) (an : Option Addr) (cdv ct : Value) (us : List Value), us.length = ps.length → bindArgs (PySem.W.fnOf x x (C8.fnArgs st) (C8.fnBody st) (C8.fnScope st) .none kV doc pm an cdv ct) ⟨us, []⟩ = pure (ps.zip us))
    (len : ∀ ds d, R ds d → ds.length = ps.length) (body : Bod P w K mg base k x st N R) : C8.Cal P w K mg base (k + 1) x (Pu K R) [] := by
  obtain ⟨fd, F⟩ := T.def_ i hd
  exact cal_pu ⟨toFun F, T.glo hg, F.kp⟩ (FunD.bindsN F hb) .nil (C8.fnScope_by S) len (body a)
end
end Y
set_option Elab.async false
set_option linter.all false
set_option maxRecDepth 100000
set_option maxHeartbeats 4000000
/-! Lay8: short forms. -/
namespace Y
open PySem PySem.Spec PyProof.Rows L2
section
variable {X : Cx} {σ : L2.St} {G0 H0 G H G1 H1 : Hp} {d d1 d2 d3 : Dt} {ds ds1 ds2 : List Dt} {dss : List (Option Dt)} {ow : List (Addr × List Dt)} {a b c e tg iter : Expr} {es : List Expr} {pos p : Pos} {k k1 k2 : Bool} {D : Ends} {st : Stmt} {rest body orelse : List Stmt}
theorem Txt.free {x : Str} (T : Txt X.K X.mg) (hg : Gl X x := by rfl) (hm : x ∈ freeL := by decide +kernel) : Free X x := ⟨hg, T.fre hm⟩
theorem rn_gint {x : Str} {i : Int} (T : Txt X.K X.mg) (s : Ex G H) (h : (x, i) ∈ intL := by decide +kernel) (hg : Gl X x := by rfl) (hd : (x == ("__debug__" : Str)) = false := by decide) : Rn X (.Name x pos) σ G H (.int i) := by
  obtain ⟨t, e⟩ := T.int h
  exact rn_glob s hg e (v := .int i) ⟨t, rfl⟩ (fun _ => rfl) hd
/-- the built-in class, an own class, by its name -/
theorem rn_ty {x : Str} {n : String} (T : Txt X.K X.mg) (s : Ex G H) (hv : bootBuiltins x = some (.type n) := by decide +kernel) (hm : x ∈ freeL := by decide +kernel) (hg : Gl X x := by rfl) (hn : x ≠ "__name__" := by decide) (hd : (x == ("__debug__" : Str)) = false := by decide) : Rn X (.Name x pos) σ G H (.ty n) :=
  rn_bty s ⟨hg, T.fre hm⟩ hv hn hd
theorem rn_gcl {x : Str} {C : Addr} (T : Txt X.K X.mg) (s : Ex G H) (h : (x, C) ∈ gloL := by decide +kernel) (hg : Gl X x := by rfl) (hd : (x == ("__debug__" : Str)) = false := by decide) : Rn X (.Name x pos) σ G H (.adr C) :=
  rn_own s hg (T.glo h) hd
theorem rn_andB (ha : Rn X a σ G H (.bl k1)) (hb : k1 = true → Rn X (.BoolOp .And (b :: es) pos) σ G H (.bl k2)) : Rn X (.BoolOp .And (a :: b :: es) pos) σ G H (.bl (k1 && k2)) := by
  refine rn_and ha (fun h => by rw [h] <;> rfl) fun h => ?_
  rw [h, Bool.true_and]
  exact hb h
theorem rn_orB (ha : Rn X a σ G H (.bl k1)) (hb : k1 = false → Rn X (.BoolOp .Or (b :: es) pos) σ G H (.bl k2)) : Rn X (.BoolOp .Or (a :: b :: es) pos) σ G H (.bl (k1 || k2)) := by
  refine rn_or ha (fun h => by rw [h] <;> rfl) fun h => ?_
  rw [h, Bool.false_or]
  exact hb h
theorem rt_v' (ha : Rn X a σ G H (.bl k)) (he : ∀ whole, isTrue a X.env whole = (do let v ← whole; standAt a.pos; holding [v] (truthy v)) := by intro _; rfl) : RnT X a σ G H k := rt_v ha he
theorem Sta.frz {K : PySem.W.Frag} {j : Nat} {l : Addr} (s : Sta K G0 H0 dss ow σ G H) (hj : ow[j]? = some (l, ds) := by rfl) : Own K H0 G H l ds := s.own (l, ds) (List.mem_of_getElem? hj)
/-- an if that says yes and leaves; an if-else -/
theorem rs_ifT (s : Sta X.K G0 H0 dss ow σ G H) (h : RnT X c σ G H k) (h1 : k = true → ∀ G2 H2, Sta X.K G0 H0 dss ow σ G2 H2 → wpB X body { D with nx := wpB X rest D } σ H2) (h2 : k = false → ∀ G2 H2, Sta X.K G0 H0 dss ow σ G2 H2 → wpB X rest D σ H2) : wpB X (.If c body [] pos :: rest) D σ H :=
  rs_if h (fun z G2 H2 s2 => h1 z G2 H2 (s.stp s2)) fun z G2 H2 s2 => wb_nil (h2 z G2 H2 (s.stp s2))
theorem rn_c0 {x : Str} {j k : Nat} {R : List Dt → Dt → Prop} (c : C8.Cal X.prog X.w X.K X.mg X.base k x (Pu X.K R) []) (hr : Room j X.A) (hk : k ≤ j) (hg : Gl X x) (ha : RnA X (e :: es) σ G H ds) (hR : R ds d)
    (hdb : (x == ("__debug__" : Str)) = false := by decide) (he : starEach (e :: es) X.env = (false, eval e X.env) :: starEach es X.env := by rfl) (hpl : (backTo pos (starEach es X.env)).any (·.1) = false := by rfl) : Rn X (.Call (.Name x p) (e :: es) [] pos) σ G H d :=
  rn_call (dds := []) c hr hk hg ha (fun _ => True.intro) (by rw [List.append_nil]; exact hR) hdb he hpl
theorem rn_m0 {x : Str} {cl : Cl} {fs : List Dt} {j k : Nat} {R : List Dt → List Dt → Prop} (c : C8.Mak X.prog X.w X.K X.mg X.base k x (cl.ad X.K) (Ini X.K cl R) []) (hr : Room j X.A) (hk : k + 1 ≤ j) (hg : Gl X x) (ha : RnA X (e :: es) σ G H ds) (hR : R ds fs)
    (hdb : (x == ("__debug__" : Str)) = false := by decide) (he : starEach (e :: es) X.env = (false, eval e X.env) :: starEach es X.env := by rfl) (hpl : (backTo pos (starEach es X.env)).any (·.1) = false := by rfl) : Rn X (.Call (.Name x p) (e :: es) [] pos) σ G H (.obj cl fs) :=
  rn_make (dds := []) c hr hk hg ha (fun _ => True.intro) (by rw [List.append_nil]; exact hR) hdb he hpl
/-- if not c: .., where c holds -/
theorem rs_need {pos' : Pos} (s : Sta X.K G0 H0 dss ow σ G H) (h : RnT X c σ G H true) (q : ∀ G2 H2, Sta X.K G0 H0 dss ow σ G2 H2 → wpB X rest D σ H2) : wpB X (.If (.UnaryOp .Not c pos') body [] pos :: rest) D σ H :=
  rs_skip s (show RnT X (.UnaryOp .Not c pos') σ G H (!true) from rt_not h) q
/-- is True -/
theorem rc_notTrue {j pos'} (s : Ex G H) (ha : Rn X a σ G H (.bl k)) : RnC X .IsNot a (.Constant (.bool true) j pos') σ G H (.bl (!k)) :=
  rc_of op_isnot_bl (nomark _) ha (rn_bl s) fun v w G2 H2 s rx ry Q q => ⟨k, true, rx, ry, by
    have e : (!decide (k = true)) = !k := by cases k <;> rfl
    rw [e]
    exact q _ _ _ (Stp.refl s.gh) rfl⟩
end
end Y
set_option Elab.async false
set_option linter.all false
set_option maxRecDepth 100000
set_option maxHeartbeats 4000000
/-! Mt: the program's work as plain functions; how their data look. -/
namespace Y
open PySem PySem.Spec PyProof.Rows L2
abbrev OI := Option Int
/-- an int or None -/
def oD : OI → Dt
  | none => .non
  | some i => .int i
def wi (v : Int) (lo hi : OI) : Bool := (match lo with | none => true | some l => decide (l ≤ v)) && (match hi with | none => true | some h => decide (v ≤ h))
def ab (lo hi : OI) : Bool := match lo, hi with
  | some l, some h => decide (l ≤ h)
  | lo, hi => lo.isSome || hi.isSome
def ngO : OI → OI
  | none => none
  | some i => some (-i)
/-- the sums of the prefixes -/
def htsF (a : Int) : List Int → List Int
  | [] => [a]
  | x :: r => a :: htsF (a + x) r
def hts (g : List Int) : List Int := htsF 0 g
def eI (ns : List Int) : Dt := .tup (ns.map .int)
def eL (ns : List Int) : Dt := .lst (ns.map .int)
def eRow (g : List Int) : Dt := .obj .row [eI g, eI (hts g), .int g.length, .int ((hts g).getLastD 0)]
/-- the sums over the stretches of that length -/
def sumsIn (g : List Int) (l : Int) : List Int := (rgI 0 (g.length - l + 1).toNat).map fun b => (hts g).getD (b + l).toNat 0 - (hts g).getD b.toNat 0
theorem htsF_snoc (g : List Int) (x : Int) : ∀ a : Int, htsF a (g ++ [x]) = htsF a g ++ [a + g.sum + x] := by
  induction g with
  | nil => intro a; simp [htsF]
  | cons y r ih =>
    intro a
    rw [List.cons_append, htsF, ih, htsF, List.sum_cons, List.cons_append, Int.add_assoc a y r.sum]
theorem hts_snoc (g : List Int) (x : Int) : hts (g ++ [x]) = hts g ++ [g.sum + x] := by
  unfold hts
  rw [htsF_snoc, Int.zero_add]
theorem htsF_len (g : List Int) : ∀ a : Int, (htsF a g).length = g.length + 1 := by
  induction g with
  | nil => intro a; rfl
  | cons y r ih => intro a; rw [htsF, List.length_cons, ih, List.length_cons]
theorem hts_len (g : List Int) : (hts g).length = g.length + 1 := htsF_len g 0
theorem htsF_get (g : List Int) : ∀ (a : Int) (i : Nat), i ≤ g.length → (htsF a g)[i]? = some (a + (g.take i).sum) := by
  induction g with
  | nil =>
    intro a i h
    have : i = 0 := by simpa using h
    subst this
    simp [htsF]
  | cons y r ih =>
    intro a i h
    cases i with
    | zero => simp [htsF]
    | succ i =>
      rw [htsF, List.getElem?_cons_succ, ih _ _ (by simpa using h), List.take_succ_cons, List.sum_cons, Int.add_assoc]
theorem hts_get (g : List Int) {i : Nat} (h : i ≤ g.length) : (hts g)[i]? = some ((g.take i).sum) := by
  unfold hts
  rw [htsF_get g 0 i h, Int.zero_add]
theorem hts_getD (g : List Int) {i : Nat} (h : i ≤ g.length) : (hts g).getD i 0 = (g.take i).sum := by
  rw [List.getD_eq_getElem?_getD, hts_get g h]
  rfl
theorem lastD_get : ∀ (l : List Int) (n : Nat), l.length = n + 1 → l[n]? = some (l.getLastD 0)
  | [], _, h => by simp at h
  | [x], n, h => by
    have : n = 0 := by simpa using h
    subst this
    rfl
  | x :: y :: r, n, h => by
    cases n with
    | zero => simp at h
    | succ n =>
      rw [List.getElem?_cons_succ, lastD_get (y :: r) n (by simpa using h)]
      rfl
theorem hts_last (g : List Int) : (hts g).getLastD 0 = g.sum := by
  have h := hts_get g (Nat.le_refl _)
  rw [List.take_length, lastD_get _ _ (hts_len g)] at h
  exact Option.some.inj h
/-- an item of ints by a place that is there -/
theorem atI_ints {ns : List Int} {i : Int} (h0 : 0 ≤ i) (h1 : i < ns.length) : atI (ns.map Dt.int) i = some (.int (ns.getD i.toNat 0)) := by
  unfold atI ixN
  rw [List.length_map, if_pos h0, if_pos h1]
  have lt : i.toNat < ns.length := by omega
  simp [List.getElem?_map, List.getD_eq_getElem?_getD, List.getElem?_eq_getElem lt]
theorem atI_last {ds : List Dt} {d : Dt} : atI (ds ++ [d]) (-1) = some d := by
  unfold atI ixN
  rw [if_neg (by omega), List.length_append, List.length_singleton, if_pos (by omega)]
  have e : (-1 + ((ds.length + 1 : Nat) : Int)).toNat = ds.length := by omega
  show (ds ++ [d])[(-1 + ((ds.length + 1 : Nat) : Int)).toNat]? = some d
  rw [e]
  simp
theorem mem_rgI {lo i : Int} {n : Nat} (h : i ∈ rgI lo n) : lo ≤ i ∧ i < lo + n := by
  unfold rgI at h
  obtain ⟨j, hj, rfl⟩ := List.mem_map.mp h
  have := List.mem_range.mp hj
  omega
theorem rgI_len {lo : Int} {n : Nat} : (rgI lo n).length = n := by
  unfold rgI
  rw [List.length_map, List.length_range]
inductive Sg where
  | rule (l : Int) (lo hi : OI) | some (l : Int) (lo hi : OI) | just (l n : Int) | told (b l : Int) (lo hi : OI)
  deriving DecidableEq
def eSg : Sg → Dt
  | .rule l lo hi => .obj .rule [.int l, oD lo, oD hi]
  | .some l lo hi => .obj .some [.int l, oD lo, oD hi]
  | .just l n => .obj .just [.int l, .int n]
  | .told b l lo hi => .obj .told [.int b, .int l, oD lo, oD hi]
/-- a book of sayings -/
abbrev Bk := Int × List Sg
def eBk (k : Bk) : Dt := .obj .sbook [.int k.1, .tup (k.2.map eSg)]
/-- a stretch and its bounds -/
abbrev Stc := Int × Int × OI × OI
def eStc (s : Stc) : Dt := .tup [.int s.1, .int s.2.1, oD s.2.2.1, oD s.2.2.2]
def eSts (s : List Stc) : Dt := .tup (s.map eStc)
abbrev Ch := List (List Stc)
def eCh (c : Ch) : Dt := .tup (c.map eSts)
def begs (days l : Int) : List Int := rgI 0 (days - l + 1).toNat
def manyOwn (days : Int) : Sg → Int
  | .rule _ _ _ => 1
  | .told _ _ _ _ => 1
  | .some l _ _ => (begs days l).length
  | .just l _ => (begs days l).length * (begs days l).length
def allWith (days l : Int) (lo hi : OI) : List Stc := (begs days l).map fun b => (b, l, lo, hi)
def ownCh (days : Int) : Sg → List (List Stc)
  | .rule l lo hi => [allWith days l lo hi]
  | .told b l lo hi => [[(b, l, lo, hi)]]
  | .some l lo hi => (begs days l).map fun b => [(b, l, lo, hi)]
  | .just l n => (begs days l).flatMap fun o => (begs days l).map fun p => [(o, l, none, some n), (p, l, some n, none)]
def lists (k : Bk) : List (List (List Stc)) := k.2.map (ownCh k.1)
def prodI (ns : List Int) : Int := ns.foldl (fun a b => a * b) 1
def manyC (k : Bk) : Int := prodI (k.2.map (manyOwn k.1))
def tog (ls : List (List (List Stc))) : List Ch := if ls.all (fun c => decide (0 < c.length)) then ls.foldl (fun found cs => found.flatMap fun row => cs.map fun c => row ++ [c]) [[]] else []
/-- where from, where to, how much, who says so: place, number, way -/
abbrev Wit := Int × Int × Int
abbrev Stp4 := Int × Int × Int × Wit
def eWit (x : Wit) : Dt := .tup [.int x.1, .int x.2.1, .int x.2.2]
def eStp (x : Stp4) : Dt := .tup [.int x.1, .int x.2.1, .int x.2.2.1, eWit x.2.2.2]
def hiStp (n : Int) (s : Stc) : List Stp4 := match s.2.2.2 with
  | none => []
  | some h => [(s.1, s.1 + s.2.1, h, (s.1, n, 1))]
def loStp (n : Int) (s : Stc) : List Stp4 := match s.2.2.1 with
  | none => []
  | some l => [(s.1 + s.2.1, s.1, -l, (s.1 + s.2.1, n, -1))]
def stpsOf (n : Int) (ss : List Stc) : List Stp4 := ss.flatMap fun s => hiStp n s ++ loStp n s
def stps (c : Ch) : List Stp4 := (c.zipIdx).flatMap fun p => stpsOf p.2 p.1
/-- costs, who came last, the place moved last -/
structure Rx where
  costs : List Int
  came : List (Option Stp4)
  moved : Option Int
def Rx.one (r : Rx) (s : Stp4) : Rx :=
  if r.costs.getD s.1.toNat 0 + s.2.2.1 < r.costs.getD s.2.1.toNat 0 then ⟨r.costs.set s.2.1.toNat (r.costs.getD s.1.toNat 0 + s.2.2.1), r.came.set s.2.1.toNat (some s), some s.2.1⟩ else r
def Rx.round (ss : List Stp4) (r : Rx) : Rx := ss.foldl Rx.one { r with moved := none }
def eCame : Option Stp4 → Dt
  | none => .non
  | some s => eStp s
abbrev Ring := List Wit
def eRing (r : Ring) : Dt := .tup (r.map eWit)
end Y
set_option Elab.async false
set_option linter.all false
set_option maxRecDepth 100000
set_option maxHeartbeats 4000000
/-! D1: the small defs. -/
namespace Y
open PySem PySem.Spec PyProof.Rows L2
theorem rep_oD {K : PySem.W.Frag} {G : Hp} {o : OI} : (oD o).isN = o.isNone := by cases o <;> rfl
section
variable {P : Program} {w : World} {K : PySem.W.Frag} {mg : Str → Option Value} {base : Heap}
def R_is_integer : List Dt → Dt → Prop := fun ds d => ∃ a t, ds = [a] ∧ a.ky = some t ∧ d = .bl (kyB t .int && !kyB t .bool)
theorem c_is_integer (T : Txt K mg) : C8.Cal P w K mg base 1 "is_integer" (Pu K R_is_integer) [] := by
  refine cal_of (st := s_is_integer) (N := n_is_integer) (ps := ["value"]) T 0 rfl (by decide +kernel) (by decide +kernel) (fun _ _ _ _ _ _ us hl => match us, hl with | [_], _ => rfl) (fun ds d h => by obtain ⟨_, _, rfl, _⟩ := h; rfl) ?_
  rintro f cdv A outer s G H Q E σ ds d hr ⟨a, t, rfl, hk, rfl⟩ st q
  exact rs_retS st (rn_andB (rn_isi (cc := .int) T.cls T.kit T.free (rn_var st 0) (by first | rfl | assumption) (rn_ty T st.ex)) fun _ => (rn_one (rn_not (rn_isi (cc := .bool) T.cls T.kit T.free (rn_var st 0) (by first | rfl | assumption) (rn_ty T st.ex))))) q
theorem int_is (v : Int) : R_is_integer [.int v] (.bl true) := ⟨.int v, .int, rfl, rfl, rfl⟩

def R_is_within : List Dt → Dt → Prop := fun ds d => ∃ v lo hi, ds = [.int v, oD lo, oD hi] ∧ d = .bl (wi v lo hi)
theorem c_is_within (T : Txt K mg) : C8.Cal P w K mg base 2 "is_within" (Pu K R_is_within) [] := by
  refine cal_of (st := s_is_within) (N := n_is_within) (ps := ["value", "least", "most"]) T 1 rfl (by decide +kernel) (by decide +kernel) (fun _ _ _ _ _ _ us hl => match us, hl with | [_, _, _], _ => rfl) (fun ds d h => by obtain ⟨_, _, _, rfl, _⟩ := h; rfl) ?_
  rintro f cdv A outer s G H Q E σ ds d hr ⟨v, lo, hi, rfl, rfl⟩ st q
  refine rs_need st (rt_v (rn_c0 (c_is_integer T) hr (by decide) rfl (ra_one (rn_var st 0)) ?_)) fun G2 H2 st => ?_
  · exact int_is v
  cases lo with
  | none =>
    cases hi with
    | none => exact rs_retS st (rn_andB (k1 := true) (rn_or (rc_v (rc_isN st.ex (rn_var st 1))) (fun _ => rfl) fun h => by cases h) fun _ => rn_one (rn_or (rc_v (rc_isN st.ex (rn_var st 2))) (fun _ => rfl) fun h => by cases h)) q
    | some j => exact rs_retS st (rn_andB (k1 := true) (rn_or (rc_v (rc_isN st.ex (rn_var st 1))) (fun _ => rfl) fun h => by cases h) fun _ => rn_one (rn_or (rc_v (rc_isN st.ex (rn_var st 2))) (fun h => by cases h) fun _ => rn_one (rc_v (rc_le (rn_var st 0) (rn_var st 2))))) q
  | some i =>
    cases hi with
    | none => exact rs_retS st (rn_andB (rn_or (rc_v (rc_isN st.ex (rn_var st 1))) (fun h => by cases h) fun _ => rn_one (rc_v (rc_le (rn_var st 1) (rn_var st 0)))) fun _ => rn_one (rn_or (rc_v (rc_isN st.ex (rn_var st 2))) (fun _ => rfl) fun h => by cases h)) q
    | some j => exact rs_retS st (rn_andB (rn_or (rc_v (rc_isN st.ex (rn_var st 1))) (fun h => by cases h) fun _ => rn_one (rc_v (rc_le (rn_var st 1) (rn_var st 0)))) fun _ => rn_one (rn_or (rc_v (rc_isN st.ex (rn_var st 2))) (fun h => by cases h) fun _ => rn_one (rc_v (rc_le (rn_var st 0) (rn_var st 2))))) q

def R_need_number : List Dt → Dt → Prop := fun ds d => ∃ v x lo hi, ds = [.int v, x, oD lo, oD hi] ∧ wi v lo hi = true ∧ d = .non
theorem c_need_number (T : Txt K mg) : C8.Cal P w K mg base 3 "need_number" (Pu K R_need_number) [] := by
  refine cal_of (st := s_need_number) (N := n_need_number) (ps := ["value", "part", "least", "most"]) T 3 rfl (by decide +kernel) (by decide +kernel) (fun _ _ _ _ _ _ us hl => match us, hl with | [_, _, _, _], _ => rfl) (fun ds d h => by obtain ⟨_, _, _, _, rfl, _⟩ := h; rfl) ?_
  rintro f cdv A outer s G H Q E σ ds d hr ⟨v, x, lo, hi, rfl, hw, rfl⟩ st q
  refine rs_need st (rt_v (rn_c0 (c_is_within T) hr (by decide) rfl (ra_cons (rn_var st 0) (ra_cons (rn_var st 2) (ra_one (rn_var st 3)))) ?_)) fun G2 H2 st => ?_
  · exact ⟨v, lo, hi, rfl, by rw [hw]⟩
  exact wb_nil (q .non G2 H2 st.st rfl)

def R_need_row : List Dt → Dt → Prop := fun ds d => ∃ fs x, ds = [.obj .row fs, x] ∧ d = .non
theorem c_need_row (T : Txt K mg) : C8.Cal P w K mg base 1 "need_row" (Pu K R_need_row) [] := by
  refine cal_of (st := s_need_row) (N := n_need_row) (ps := ["value", "part"]) T 4 rfl (by decide +kernel) (by decide +kernel) (fun _ _ _ _ _ _ us hl => match us, hl with | [_, _], _ => rfl) (fun ds d h => by obtain ⟨_, _, rfl, _⟩ := h; rfl) ?_
  rintro f cdv A outer s G H Q E σ ds d hr ⟨fs, x, rfl, rfl⟩ st q
  refine rs_need st (rt_to (rt_v (rn_isi (cc := .cl .row) T.cls T.kit T.free (rn_var st 0) (by first | rfl | assumption) (rn_gcl (C := 525) T st.ex))) rfl) fun G2 H2 st => ?_
  exact wb_nil (q .non G2 H2 st.st rfl)
end
end Y
set_option Elab.async false
set_option linter.all false
set_option maxRecDepth 100000
set_option maxHeartbeats 4000000
/-! Lay9: comprehensions by one name. -/
namespace Y
open PySem PySem.Spec PyProof.Rows L2
section
variable {X : Cx} {σ : L2.St} {G0 H0 G H G1 H1 : Hp} {d d1 d2 d3 : Dt} {ds ds1 ds2 : List Dt} {dss : List (Option Dt)} {ow : List (Addr × List Dt)} {a b c e tg iter : Expr} {es : List Expr} {pos p tp : Pos} {k k1 k2 : Bool} {D : Ends} {st : Stmt} {rest body orelse : List Stmt}
theorem set_wipe {i : Nat} {y : Dt} : (wipeD dss [i]).set i (some y) = dss.set i (some y) := by
  show (dss.set i none).set i (some y) = _
  rw [List.set_set]
theorem ro_flt {α : Type} {elt : Expr} {ifs : List Expr} {scope : Scope} {i : Nat} {x : Str} {enc : α → Dt} {xs : List α} {cd : α → Bool} {f : α → Dt} (s : Sta X.K G0 H0 dss ow σ G H) (hw : Wk X (.Name x tp) iter σ G H (xs.map enc)) (hl : xs.length ≤ 100000)
    (hif : ∀ (s1 : Shared) (HH : Hp) (C : Addr) (cl : List (Str × Addr)) (fp : List Addr), ∀ y ∈ xs, ∀ σ' G' H', Sta (X.blk s1 HH scope (compEnvC scope cl C X.env) fp).K G0 H0 (dss.set i (some (enc y))) ow σ' G' H' → RnTs (X.blk s1 HH scope (compEnvC scope cl C X.env) fp) ifs σ' G' H' (cd y))
    (he : ∀ (s1 : Shared) (HH : Hp) (C : Addr) (cl : List (Str × Addr)) (fp : List Addr), ∀ y ∈ xs, cd y = true → ∀ σ' G' H', Sta (X.blk s1 HH scope (compEnvC scope cl C X.env) fp).K G0 H0 (dss.set i (some (enc y))) ow σ' G' H' → Rn (X.blk s1 HH scope (compEnvC scope cl C X.env) fp) elt σ' G' H' (f y))
    (ok : blkC X.N X.env.scope scope [(x, i)] = true := by kernel_rfl) (hc : X.calm = true := by rfl) (hN : X.N.Nodup := by exact of_decide_eq_true (by kernel_rfl)) (hi : X.N[i]? = some x := by rfl) (hx : ∀ (s1 : Shared) (HH : Hp) (C : Addr) (cl : List (Str × Addr)) (fp : List Addr), (X.blk s1 HH scope (compEnvC scope cl C X.env) fp).env.scope.names.lookup x = some .local := by intro _ _ _ _ _; rfl)
    (hfs : ∀ x, foldedSetIterable iter X.env x = pure x := by intro _; rfl) :
    RnO X (.ListComp elt [⟨.Name x tp, iter, ifs, 0⟩] scope pos) σ G H ((xs.filter cd).map f) :=
  ro_lc (enc := enc) (up := fun y ds => ds.set i (some (enc y))) (is := [i]) (own := [(x, i)]) s hc hN hw (blkOk_by ok) hl (by simp)
    (fun s1 HH C cl fp y hy => tg_name (X := X.blk s1 HH scope (compEnvC scope cl C X.env) fp) hN hi (.inl (hx s1 HH C cl fp)) (.inr (hx s1 HH C cl fp)))
    (fun s1 HH C cl fp y hy σ' G' H' st => hif s1 HH C cl fp y hy σ' G' H' (by
      have e : (wipeD dss [i]).set i (some (enc y)) = dss.set i (some (enc y)) := set_wipe
      rw [← e]
      exact st))
    (fun s1 HH C cl fp y hy hcd σ' G' H' st => he s1 HH C cl fp y hy hcd σ' G' H' (by
      have e : (wipeD dss [i]).set i (some (enc y)) = dss.set i (some (enc y)) := set_wipe
      rw [← e]
      exact st)) hfs
theorem ro_map {α : Type} {elt : Expr} {scope : Scope} {i : Nat} {x : Str} {enc : α → Dt} {xs : List α} {f : α → Dt} (s : Sta X.K G0 H0 dss ow σ G H) (hw : Wk X (.Name x tp) iter σ G H (xs.map enc)) (hl : xs.length ≤ 100000)
    (he : ∀ (s1 : Shared) (HH : Hp) (C : Addr) (cl : List (Str × Addr)) (fp : List Addr), ∀ y ∈ xs, ∀ σ' G' H', Sta (X.blk s1 HH scope (compEnvC scope cl C X.env) fp).K G0 H0 (dss.set i (some (enc y))) ow σ' G' H' → Rn (X.blk s1 HH scope (compEnvC scope cl C X.env) fp) elt σ' G' H' (f y))
    (ok : blkC X.N X.env.scope scope [(x, i)] = true := by kernel_rfl) (hc : X.calm = true := by rfl) (hN : X.N.Nodup := by exact of_decide_eq_true (by kernel_rfl)) (hi : X.N[i]? = some x := by rfl) (hx : ∀ (s1 : Shared) (HH : Hp) (C : Addr) (cl : List (Str × Addr)) (fp : List Addr), (X.blk s1 HH scope (compEnvC scope cl C X.env) fp).env.scope.names.lookup x = some .local := by intro _ _ _ _ _; rfl)
    (hfs : ∀ x, foldedSetIterable iter X.env x = pure x := by intro _; rfl) :
    RnO X (.ListComp elt [⟨.Name x tp, iter, [], 0⟩] scope pos) σ G H (xs.map f) :=
  ro_to (ro_flt (cd := fun _ => true) s hw hl (fun s1 HH C cl fp y hy σ' G' H' st => rts_nil st.ex) (fun s1 HH C cl fp y hy _ σ' G' H' st => he s1 HH C cl fp y hy σ' G' H' st) ok hc hN hi hx hfs) (by
    have e : xs.filter (fun _ => true) = xs := List.filter_eq_self.mpr fun _ _ => rfl
    rw [e])
theorem rn_map {α : Type} {elt : Expr} {scope : Scope} {i : Nat} {x : Str} {enc : α → Dt} {xs : List α} {f : α → Dt} (s : Sta X.K G0 H0 dss ow σ G H) (hw : Wk X (.Name x tp) iter σ G H (xs.map enc)) (hl : xs.length ≤ 100000)
    (he : ∀ (s1 : Shared) (HH : Hp) (C : Addr) (cl : List (Str × Addr)) (fp : List Addr), ∀ y ∈ xs, ∀ σ' G' H', Sta (X.blk s1 HH scope (compEnvC scope cl C X.env) fp).K G0 H0 (dss.set i (some (enc y))) ow σ' G' H' → Rn (X.blk s1 HH scope (compEnvC scope cl C X.env) fp) elt σ' G' H' (f y))
    (ok : blkC X.N X.env.scope scope [(x, i)] = true := by kernel_rfl) (hc : X.calm = true := by rfl) (hN : X.N.Nodup := by exact of_decide_eq_true (by kernel_rfl)) (hi : X.N[i]? = some x := by rfl) (hx : ∀ (s1 : Shared) (HH : Hp) (C : Addr) (cl : List (Str × Addr)) (fp : List Addr), (X.blk s1 HH scope (compEnvC scope cl C X.env) fp).env.scope.names.lookup x = some .local := by intro _ _ _ _ _; rfl)
    (hfs : ∀ x, foldedSetIterable iter X.env x = pure x := by intro _; rfl) :
    Rn X (.ListComp elt [⟨.Name x tp, iter, [], 0⟩] scope pos) σ G H (.lst (xs.map f)) := rn_ro (ro_map s hw hl he ok hc hN hi hx hfs)
theorem Sta.fresh {K : PySem.W.Frag} {i : Nat} {l : Addr} {vs : List V} {G2 H2 : Hp} (s : Sta K G0 H0 dss ow σ G H) (s2 : Stp G H G2 H2) (n1 : H l = none) (n2 : G2 l = none) (hl : H2 l = some (.lst vs)) (r : Reps K G2 vs ds) : Sta K G0 H0 (dss.set i (some (.lst ds))) ow (σ.set i (some (.ref l))) (upd G2 l (.lst vs)) H2 := by
  have s3 : Stp G H (upd G2 l (.lst vs)) H2 := ⟨s2.h, s2.g.trans (Ex.new n2), fun a u h => by
    by_cases z : a = l
    · subst z
      rw [upd_same] at h
      rw [hl]
      exact h
    · rw [upd_ne z] at h
      exact s2.gh a u h, fun a h n => by
    have z : a ≠ l := fun z => n (by rw [z]; exact n1)
    rw [upd_ne z]
    exact s2.new a h n⟩
  have t := s.stp s3
  exact ⟨t.st, t.env.set i (show Rep K _ (.ref l) (.lst ds) from ⟨l, vs, rfl, upd_same, r.ex (Ex.new n2)⟩), t.own, t.nd⟩
theorem Sta.fresho {K : PySem.W.Frag} {i : Nat} {l : Addr} {vs : List V} {G2 H2 : Hp} (s : Sta K G0 H0 dss ow σ G H) (s2 : Stp G H G2 H2) (n1 : H l = none) (n2 : G2 l = none) (hl : H2 l = some (.lst vs)) (r : Reps K G2 vs ds) : Sta K G0 H0 (dss.set i (some (.adr l))) (ow ++ [(l, ds)]) (σ.set i (some (.ref l))) G2 H2 := by
  have t := s.stp s2
  refine ⟨t.st, t.env.set i (show Rep K _ (.ref l) (.adr l) from rfl), fun p hp => ?_, ?_⟩
  · rcases List.mem_append.mp hp with z | z
    · exact t.own p z
    · have e : p = (l, ds) := by simpa using z
      subst e
      exact ⟨vs, hl, r, n2, s.st.h.back n1⟩
  · rw [List.map_append, List.nodup_append]
    refine ⟨s.nd, by simp, fun z hz y hy e => ?_⟩
    obtain ⟨p, hp, e1⟩ := List.mem_map.mp hz
    obtain ⟨_, o1, _⟩ := s.own p hp
    have e2 : y = l := by simpa using hy
    rw [e1, e, e2, n1] at o1
    cases o1
/-- y = [elt for x in iter if ..], stored at once: data | a list of ours -/
theorem rs_letF {α : Type} {elt : Expr} {ifs : List Expr} {scope : Scope} {i j : Nat} {x y : Str} {py spos : Pos} {enc : α → Dt} {xs : List α} {cd : α → Bool} {f : α → Dt} (s : Sta X.K G0 H0 dss ow σ G H) (hw : Wk X (.Name x tp) iter σ G H (xs.map enc)) (hl : xs.length ≤ 100000)
    (hif : ∀ (s1 : Shared) (HH : Hp) (C : Addr) (cl : List (Str × Addr)) (fp : List Addr), ∀ y ∈ xs, ∀ σ' G' H', Sta (X.blk s1 HH scope (compEnvC scope cl C X.env) fp).K G0 H0 (dss.set i (some (enc y))) ow σ' G' H' → RnTs (X.blk s1 HH scope (compEnvC scope cl C X.env) fp) ifs σ' G' H' (cd y))
    (he : ∀ (s1 : Shared) (HH : Hp) (C : Addr) (cl : List (Str × Addr)) (fp : List Addr), ∀ y ∈ xs, cd y = true → ∀ σ' G' H', Sta (X.blk s1 HH scope (compEnvC scope cl C X.env) fp).K G0 H0 (dss.set i (some (enc y))) ow σ' G' H' → Rn (X.blk s1 HH scope (compEnvC scope cl C X.env) fp) elt σ' G' H' (f y))
    (q : (∀ l σ2 G2 H2, Sta X.K G0 H0 (dss.set j (some (.adr l))) (ow ++ [(l, (xs.filter cd).map f)]) σ2 G2 H2 → wpB X rest D σ2 H2) ∨ ∀ σ2 G2 H2, Sta X.K G0 H0 (dss.set j (some (.lst ((xs.filter cd).map f)))) ow σ2 G2 H2 → wpB X rest D σ2 H2)
    (ok : blkC X.N X.env.scope scope [(x, i)] = true := by kernel_rfl) (hc : X.calm = true := by rfl) (hN : X.N.Nodup := by exact of_decide_eq_true (by kernel_rfl)) (hi : X.N[i]? = some x := by rfl) (hj : X.N[j]? = some y := by rfl) (hjl : X.env.scope.names.lookup y = some .local := by rfl)
    (hx : ∀ (s1 : Shared) (HH : Hp) (C : Addr) (cl : List (Str × Addr)) (fp : List Addr), (X.blk s1 HH scope (compEnvC scope cl C X.env) fp).env.scope.names.lookup x = some .local := by intro _ _ _ _ _; rfl)
    (hsw : swapsWith (.ListComp elt [⟨.Name x tp, iter, ifs, 0⟩] scope pos) (some (.Name y py)) spos.line X.env = pure true := by rfl)
    (hfs : ∀ x, foldedSetIterable iter X.env x = pure x := by intro _; rfl) :
    wpB X (.Assign [.Name y py] (.ListComp elt [⟨.Name x tp, iter, ifs, 0⟩] scope pos) spos :: rest) D σ H :=
  rs_lc0 (enc := enc) (up := fun y ds => ds.set i (some (enc y))) (is := [i]) (own := [(x, i)]) s hc hN hw (blkOk_by ok) hl (by simp)
    (fun s1 HH C cl fp y hy => tg_name (X := X.blk s1 HH scope (compEnvC scope cl C X.env) fp) hN hi (.inl (hx s1 HH C cl fp)) (.inr (hx s1 HH C cl fp)))
    (fun s1 HH C cl fp y hy σ' G' H' st => hif s1 HH C cl fp y hy σ' G' H' (by
      have e : (wipeD dss [i]).set i (some (enc y)) = dss.set i (some (enc y)) := set_wipe
      rw [← e]
      exact st))
    (fun s1 HH C cl fp y hy hcd σ' G' H' st => he s1 HH C cl fp y hy hcd σ' G' H' (by
      have e : (wipeD dss [i]).set i (some (enc y)) = dss.set i (some (enc y)) := set_wipe
      rw [← e]
      exact st)) hj hjl hsw
    (fun l vs G2 H2 s2 n1 n2 hl r => by
      rcases q with q | q
      · exact q l _ G2 H2 (s.fresho s2 n1 n2 hl r)
      · exact q _ _ H2 (s.fresh s2 n1 n2 hl r)) hfs
theorem flt_all {α : Type} (xs : List α) : xs.filter (fun _ => true) = xs := List.filter_eq_self.mpr fun _ _ => rfl
theorem rs_letM {α : Type} {elt : Expr} {scope : Scope} {i j : Nat} {x y : Str} {py spos : Pos} {enc : α → Dt} {xs : List α} {f : α → Dt} (s : Sta X.K G0 H0 dss ow σ G H) (hw : Wk X (.Name x tp) iter σ G H (xs.map enc)) (hl : xs.length ≤ 100000)
    (he : ∀ (s1 : Shared) (HH : Hp) (C : Addr) (cl : List (Str × Addr)) (fp : List Addr), ∀ y ∈ xs, ∀ σ' G' H', Sta (X.blk s1 HH scope (compEnvC scope cl C X.env) fp).K G0 H0 (dss.set i (some (enc y))) ow σ' G' H' → Rn (X.blk s1 HH scope (compEnvC scope cl C X.env) fp) elt σ' G' H' (f y))
    (q : (∀ l σ2 G2 H2, Sta X.K G0 H0 (dss.set j (some (.adr l))) (ow ++ [(l, xs.map f)]) σ2 G2 H2 → wpB X rest D σ2 H2) ∨ ∀ σ2 G2 H2, Sta X.K G0 H0 (dss.set j (some (.lst (xs.map f)))) ow σ2 G2 H2 → wpB X rest D σ2 H2)
    (ok : blkC X.N X.env.scope scope [(x, i)] = true := by kernel_rfl) (hc : X.calm = true := by rfl) (hN : X.N.Nodup := by exact of_decide_eq_true (by kernel_rfl)) (hi : X.N[i]? = some x := by rfl) (hj : X.N[j]? = some y := by rfl) (hjl : X.env.scope.names.lookup y = some .local := by rfl)
    (hx : ∀ (s1 : Shared) (HH : Hp) (C : Addr) (cl : List (Str × Addr)) (fp : List Addr), (X.blk s1 HH scope (compEnvC scope cl C X.env) fp).env.scope.names.lookup x = some .local := by intro _ _ _ _ _; rfl)
    (hsw : swapsWith (.ListComp elt [⟨.Name x tp, iter, [], 0⟩] scope pos) (some (.Name y py)) spos.line X.env = pure true := by rfl)
    (hfs : ∀ x, foldedSetIterable iter X.env x = pure x := by intro _; rfl) :
    wpB X (.Assign [.Name y py] (.ListComp elt [⟨.Name x tp, iter, [], 0⟩] scope pos) spos :: rest) D σ H :=
  rs_letF (cd := fun _ => true) s hw hl (fun s1 HH C cl fp y hy σ' G' H' st => rts_nil st.ex) (fun s1 HH C cl fp y hy _ σ' G' H' st => he s1 HH C cl fp y hy σ' G' H' st) (by rw [flt_all]; exact q) ok hc hN hi hj hjl hx hsw hfs
/-- for x in iter: .., the state hangs on the prefix taken -/
theorem rs_forN {α : Type} {i : Nat} {x : Str} {enc : α → Dt} {xs : List α} (dsf : List α → List (Option Dt)) (owf : List α → List (Addr × List Dt)) (s : Sta X.K G0 H0 (dsf []) (owf []) σ G H) (hw : Wk X (.Name x tp) iter σ G H (xs.map enc))
    (hs : ∀ G1 H1, Stp G0 H0 G1 H1 → ∀ pre y post, xs = pre ++ y :: post → ∀ σ2 G2 H2, Sta X.K G1 H0 ((dsf pre).set i (some (enc y))) (owf pre) σ2 G2 H2 →
      wpB X body { D with nx := fun σ3 H3 => ∃ G3, Sta X.K G1 H0 (dsf (pre ++ [y])) (owf (pre ++ [y])) σ3 G3 H3, ct := fun σ3 H3 => ∃ G3, Sta X.K G1 H0 (dsf (pre ++ [y])) (owf (pre ++ [y])) σ3 G3 H3, bk := wpB X rest D } σ2 H2)
    (hd : ∀ σ' G' H', Sta X.K G0 H0 (dsf xs) (owf xs) σ' G' H' → wpB X rest D σ' H') (hp : PassesOwn (model X.prog X.w) X.A X.env X.xe := by exact PassesOwn.never) (hc : X.calm = true := by rfl) (hN : X.N.Nodup := by exact of_decide_eq_true (by kernel_rfl)) (hi : X.N[i]? = some x := by rfl) (hx : Loc X.env.scope x := by first | exact .inl rfl | exact .inr rfl) (hf : X.fn x = true ∨ X.env.scope.names.lookup x = some .local := by first | exact .inl rfl | exact .inr rfl) (hfs : ∀ x, foldedSetIterable iter X.env x = pure x := by intro _; rfl) : wpB X (.For (.Name x tp) iter body [] pos :: rest) D σ H :=
  rs_forS (enc := enc) (up := fun y ds => ds.set i (some (enc y))) (is := [i]) dsf owf s hp hc hw (fun y hy => tg_name hN hi hx hf) hs hd hfs
theorem rs_rq (s : Sta X.K G0 H0 dss ow σ G H) (q : ∀ v G2 H2, Stp G0 H0 G2 H2 → Rep X.K G2 v d → D.rt v H2) (h : Rn X e σ G H d) : wpB X (.Return (some e) pos :: rest) D σ H := rs_retS s h q
theorem rs_do (s : Sta X.K G0 H0 dss ow σ G H) (h : Rn X e σ G H d) (q : ∀ G2 H2, Sta X.K G0 H0 dss ow σ G2 H2 → wpB X rest D σ H2) (hs : swapsWith e none pos.line X.env = pure false := by rfl) : wpB X (.Expr e pos :: rest) D σ H :=
  rs_expr h (fun v G2 H2 s2 _ => q G2 H2 (s.stp s2)) hs
theorem rw_no (ha : RnT X a σ G H false) : RnW X (.BoolOp .And (a :: b :: es) pos) σ G H false := rw_and (k1 := false) (k2 := false) ha fun h => Bool.noConfusion h
theorem rw_yes (ha : RnT X a σ G H true) : RnW X (.BoolOp .Or (a :: b :: es) pos) σ G H true := rw_or (k1 := true) (k2 := true) ha fun h => Bool.noConfusion h
theorem rw_go (ha : RnT X a σ G H true) (hb : RnW X (.BoolOp .And (b :: es) pos) σ G H k) : RnW X (.BoolOp .And (a :: b :: es) pos) σ G H k := rw_and (k1 := true) ha fun _ => hb
theorem rw_go' (ha : RnT X a σ G H false) (hb : RnW X (.BoolOp .Or (b :: es) pos) σ G H k) : RnW X (.BoolOp .Or (a :: b :: es) pos) σ G H k := rw_or (k1 := false) ha fun _ => hb
theorem rn_no (ha : Rn X a σ G H (.bl false)) : Rn X (.BoolOp .And (a :: b :: es) pos) σ G H (.bl false) := rn_and ha (fun _ => rfl) fun h => Bool.noConfusion h
theorem rn_yes (ha : Rn X a σ G H (.bl true)) : Rn X (.BoolOp .Or (a :: b :: es) pos) σ G H (.bl true) := rn_or ha (fun _ => rfl) fun h => Bool.noConfusion h
theorem rn_go (ha : Rn X a σ G H (.bl true)) (hb : Rn X (.BoolOp .And (b :: es) pos) σ G H d) : Rn X (.BoolOp .And (a :: b :: es) pos) σ G H d := rn_and ha (fun h => Bool.noConfusion h) fun _ => hb
theorem rn_go' (ha : Rn X a σ G H (.bl false)) (hb : Rn X (.BoolOp .Or (b :: es) pos) σ G H d) : Rn X (.BoolOp .Or (a :: b :: es) pos) σ G H d := rn_or ha (fun h => Bool.noConfusion h) fun _ => hb
/-- x = e -/
theorem rs_let {i : Nat} {x : Str} {pos' : Pos} (s : Sta X.K G0 H0 dss ow σ G H) (h : Rn X e σ G H d) (q : ∀ σ2 G2 H2, Sta X.K G0 H0 (dss.set i (some d)) ow σ2 G2 H2 → wpB X rest D σ2 H2) (hN : X.N.Nodup := by exact of_decide_eq_true (by kernel_rfl)) (hi : X.N[i]? = some x := by rfl) (hx : Loc X.env.scope x := by first | exact .inl rfl | exact .inr rfl) (hf : X.fn x = true ∨ X.env.scope.names.lookup x = some .local := by first | exact .inl rfl | exact .inr rfl)
    (hs : swapsWith e (some (.Name x pos')) pos.line X.env = pure false := by rfl) : wpB X (.Assign [.Name x pos'] e pos :: rest) D σ H := rs_set s h hN hi hx q hs hf
theorem rs_letO {i : Nat} {x : Str} {pos' : Pos} (s : Sta X.K G0 H0 dss ow σ G H) (h : RnO X e σ G H ds) (q : ∀ l σ2 G2 H2, Sta X.K G0 H0 (dss.set i (some (.adr l))) (ow ++ [(l, ds)]) σ2 G2 H2 → wpB X rest D σ2 H2) (hN : X.N.Nodup := by exact of_decide_eq_true (by kernel_rfl)) (hi : X.N[i]? = some x := by rfl) (hx : Loc X.env.scope x := by first | exact .inl rfl | exact .inr rfl) (hf : X.fn x = true ∨ X.env.scope.names.lookup x = some .local := by first | exact .inl rfl | exact .inr rfl)
    (hs : swapsWith e (some (.Name x pos')) pos.line X.env = pure false := by rfl) : wpB X (.Assign [.Name x pos'] e pos :: rest) D σ H := rs_setO s h hN hi hx q hs hf
end
end Y
set_option Elab.async false
set_option linter.all false
set_option maxRecDepth 100000
set_option maxHeartbeats 4000000
/-! D2: more small defs. -/
namespace Y
open PySem PySem.Spec PyProof.Rows L2
section
variable {P : Program} {w : World} {K : PySem.W.Frag} {mg : Str → Option Value} {base : Heap}
def R_are_integers : List Dt → Dt → Prop := fun ds d => ∃ o ns, ds = [o] ∧ (o = eL ns ∨ o = eI ns) ∧ ns.length ≤ 1000 ∧ d = .bl true
theorem c_are_integers (T : Txt K mg) : C8.Cal P w K mg base 2 "are_integers" (Pu K R_are_integers) [] := by
  refine cal_of (st := s_are_integers) (N := n_are_integers) (ps := ["value"]) T 2 rfl (by decide +kernel) (by decide +kernel) (fun _ _ _ _ _ _ us hl => match us, hl with | [_], _ => rfl) (fun ds d h => by obtain ⟨_, _, rfl, _⟩ := h; rfl) ?_
  rintro f cdv A outer s G H Q E σ ds d hr ⟨o, ns, rfl, hk, hl, rfl⟩ st q
  have e : ∀ l : List Int, (l.map fun _ => Dt.bl true) = (l.map fun _ => true).map Dt.bl := fun l => by rw [List.map_map] <;> rfl
  rcases hk with rfl | rfl
  · refine rs_retS st (rn_to (rn_andB (rn_isiT (cs := [.list, .tuple]) T.cls T.kit T.free (rn_var st 0) (by first | rfl | assumption) (ra_cons (rn_ty T st.ex) (ra_one (rn_ty T st.ex))) (by decide)) fun _ => rn_one (rn_all (bs := ns.map fun _ => true) T.free rfl (rn_to (rn_map (xs := ns) (enc := .int) (i := 1) (f := fun _ => .bl true) st (wk_list (rn_var st 0)) (by omega) fun s1 HH C cl fp y hy σ' G' H' st => ?_) (by rw [e])))) ?_) q
    · refine (rn_c0 (c_is_integer T) hr (by decide) rfl (ra_one (rn_var st 1)) ?_)
      exact int_is y
    · simp [kyB]
  · refine rs_retS st (rn_to (rn_andB (rn_isiT (cs := [.list, .tuple]) T.cls T.kit T.free (rn_var st 0) (by first | rfl | assumption) (ra_cons (rn_ty T st.ex) (ra_one (rn_ty T st.ex))) (by decide)) fun _ => rn_one (rn_all (bs := ns.map fun _ => true) T.free rfl (rn_to (rn_map (xs := ns) (enc := .int) (i := 1) (f := fun _ => .bl true) st (wk_tup (rn_var st 0)) (by omega) fun s1 HH C cl fp y hy σ' G' H' st => ?_) (by rw [e])))) ?_) q
    · refine (rn_c0 (c_is_integer T) hr (by decide) rfl (ra_one (rn_var st 1)) ?_)
      exact int_is y
    · simp [kyB]

def R_heights_of : List Dt → Dt → Prop := fun ds d => ∃ g, ds = [eL g] ∧ g.length ≤ 1000 ∧ d = eI (hts g)
theorem c_heights_of (T : Txt K mg) : C8.Cal P w K mg base 1 "heights_of" (Pu K R_heights_of) [] := by
  refine cal_of (st := s_heights_of) (N := n_heights_of) (ps := ["gains"]) T 5 rfl (by decide +kernel) (by decide +kernel) (fun _ _ _ _ _ _ us hl => match us, hl with | [_], _ => rfl) (fun ds d h => by obtain ⟨_, rfl, _⟩ := h; rfl) ?_
  rintro f cdv A outer s G H Q E σ ds d hr ⟨g, rfl, hg, rfl⟩ st q
  refine rs_letO (i := 1) st (ro_lst (ra_one (rn_int st.ex)) (by decide)) fun l σ2 G2 H2 st => ?_
  refine rs_forN (i := 2) (enc := .int) (xs := g) (fun pre => [some (eL g), some (.adr l), pre.getLast?.map .int]) (fun pre => [(l, (hts pre).map .int)]) st (wk_list (rn_var st 0)) (fun G1 H1 s1 pre y post ex σ2 G2 H2 st => ?_) fun σ' G' H' st => ?_
  · refine rs_app (j := 0) st (rn_var st 1) rfl (ra_one (rn_add (rn_ixO (st.frz (j := 0)) (rn_var st 1) (rn_neg (rn_int st.ex)) (d := .int pre.sum) ?_) (rn_var st 2))) ?_ fun G3 H3 st => wb_nil ⟨G3, ?_⟩
    · have h := hts_last pre
      have hl := hts_len pre
      have e : (hts pre) = (hts pre).dropLast ++ [pre.sum] := by
        have ne : hts pre ≠ [] := fun z => by rw [z] at hl; simp at hl
        rw [← h, List.getLastD_eq_getLast?, List.getLast?_eq_some_getLast ne]
        exact (List.dropLast_concat_getLast ne).symm
      rw [e, List.map_append]
      exact atI_last
    · rw [List.length_map, hts_len]
      have := congrArg List.length ex
      simp at this
      omega
    · rw [hts_snoc, List.map_append, List.getLast?_concat]
      exact st
  · exact rs_retS st (rn_tupO T.free (st.frz (j := 0)) (rn_var st 1)) q

def R_need_bound : List Dt → Dt → Prop := fun ds d => ∃ o x, ds = [oD o, x] ∧ d = .non
theorem c_need_bound (T : Txt K mg) : C8.Cal P w K mg base 2 "need_bound" (Pu K R_need_bound) [] := by
  refine cal_of (st := s_need_bound) (N := n_need_bound) (ps := ["value", "part"]) T 6 rfl (by decide +kernel) (by decide +kernel) (fun _ _ _ _ _ _ us hl => match us, hl with | [_, _], _ => rfl) (fun ds d h => by obtain ⟨_, _, rfl, _⟩ := h; rfl) ?_
  rintro f cdv A outer s G H Q E σ ds d hr ⟨o, x, rfl, rfl⟩ st q
  cases o with
  | none => exact rs_skip st (rt_w (rw_no (rt_to (rc_t (rc_notN st.ex (rn_var st 0))) rfl))) fun G2 H2 st => wb_nil (q .non G2 H2 st.st rfl)
  | some i =>
    refine rs_skip st (rt_w (rw_go (rt_to (rc_t (rc_notN st.ex (rn_var st 0))) rfl) (rw_and1 (show RnT _ _ _ _ _ (!true) from rt_not (rt_v (k := true) ?_))))) fun G2 H2 st => wb_nil (q .non G2 H2 st.st rfl)
    refine (rn_c0 (c_is_integer T) hr (by decide) rfl (ra_one (rn_var st 0)) ?_)
    exact int_is i
end
end Y
set_option Elab.async false
set_option linter.all false
set_option maxRecDepth 100000
set_option maxHeartbeats 4000000
/-! D3: bounds, sayings. -/
namespace Y
open PySem PySem.Spec PyProof.Rows L2
section
variable {P : Program} {w : World} {K : PySem.W.Frag} {mg : Str → Option Value} {base : Heap}
def R_are_bounds : List Dt → Dt → Prop := fun ds d => ∃ lo hi, ds = [oD lo, oD hi] ∧ d = .bl (ab lo hi)
theorem c_are_bounds (T : Txt K mg) : C8.Cal P w K mg base 1 "are_bounds" (Pu K R_are_bounds) [] := by
  refine cal_of (st := s_are_bounds) (N := n_are_bounds) (ps := ["low", "high"]) T 7 rfl (by decide +kernel) (by decide +kernel) (fun _ _ _ _ _ _ us hl => match us, hl with | [_, _], _ => rfl) (fun ds d h => by obtain ⟨_, _, rfl, _⟩ := h; rfl) ?_
  rintro f cdv A outer s G H Q E σ ds d hr ⟨lo, hi, rfl, rfl⟩ st q
  cases lo with
  | none =>
    refine rs_ifT st (k := true) (rt_w (rw_yes (rt_to (rc_t (rc_isN st.ex (rn_var st 0))) rfl))) (fun _ G2 H2 st => ?_) fun z => Bool.noConfusion z
    cases hi with
    | none => exact rs_rq st q (rn_to (rn_orB (rc_v (rc_notN st.ex (rn_var st 0))) fun _ => (rn_one (rc_v (rc_notN st.ex (rn_var st 1))))) rfl)
    | some j => exact rs_rq st q (rn_to (rn_orB (rc_v (rc_notN st.ex (rn_var st 0))) fun _ => (rn_one (rc_v (rc_notN st.ex (rn_var st 1))))) rfl)
  | some i =>
    cases hi with
    | none =>
      refine rs_ifT st (k := true) (rt_w (rw_go' (rt_to (rc_t (rc_isN st.ex (rn_var st 0))) rfl) (rw_or1 (rt_to (rc_t (rc_isN st.ex (rn_var st 1))) rfl)))) (fun _ G2 H2 st => ?_) fun z => Bool.noConfusion z
      exact rs_rq st q (rn_to (rn_orB (rc_v (rc_notN st.ex (rn_var st 0))) fun _ => (rn_one (rc_v (rc_notN st.ex (rn_var st 1))))) rfl)
    | some j =>
      refine rs_skip st (rt_w (rw_go' (rt_to (rc_t (rc_isN st.ex (rn_var st 0))) rfl) (rw_or1 (rt_to (rc_t (rc_isN st.ex (rn_var st 1))) rfl)))) fun G2 H2 st => ?_
      exact rs_rq st q (rc_v (rc_le (rn_var st 0) (rn_var st 1)))

def R_contrary : List Dt → Dt → Prop := fun ds d => ∃ o, ds = [oD o] ∧ d = oD (ngO o)
theorem c_contrary (T : Txt K mg) : C8.Cal P w K mg base 1 "contrary" (Pu K R_contrary) [] := by
  refine cal_of (st := s_contrary) (N := n_contrary) (ps := ["bound"]) T 8 rfl (by decide +kernel) (by decide +kernel) (fun _ _ _ _ _ _ us hl => match us, hl with | [_], _ => rfl) (fun ds d h => by obtain ⟨_, rfl, _⟩ := h; rfl) ?_
  rintro f cdv A outer s G H Q E σ ds d hr ⟨o, rfl, rfl⟩ st q
  cases o with
  | none => exact rs_rq st q (rn_if (k := true) (rt_to (rc_t (rc_isN st.ex (rn_var st 0))) rfl) (fun _ => (rn_non st.ex)) fun z => Bool.noConfusion z)
  | some i => exact rs_rq st q (rn_if (k := false) (rt_to (rc_t (rc_isN st.ex (rn_var st 0))) rfl) (fun z => Bool.noConfusion z) fun _ => (rn_neg (rn_var st 0)))

def R_need_bounds : List Dt → Dt → Prop := fun ds d => ∃ lo hi, ds = [oD lo, oD hi] ∧ ab lo hi = true ∧ d = .non
theorem c_need_bounds (T : Txt K mg) : C8.Cal P w K mg base 3 "need_bounds" (Pu K R_need_bounds) [] := by
  refine cal_of (st := s_need_bounds) (N := n_need_bounds) (ps := ["low", "high"]) T 9 rfl (by decide +kernel) (by decide +kernel) (fun _ _ _ _ _ _ us hl => match us, hl with | [_, _], _ => rfl) (fun ds d h => by obtain ⟨_, _, rfl, _⟩ := h; rfl) ?_
  rintro f cdv A outer s G H Q E σ ds d hr ⟨lo, hi, rfl, hab, rfl⟩ st q
  refine rs_do (d := .non) st (rn_c0 (c_need_bound T) hr (by decide) rfl (ra_cons (rn_var st 0) (ra_one (rn_str st.ex))) ?_) fun G2 H2 st => ?_
  · exact ⟨lo, _, rfl, rfl⟩
  refine rs_do (d := .non) st (rn_c0 (c_need_bound T) hr (by decide) rfl (ra_cons (rn_var st 1) (ra_one (rn_str st.ex))) ?_) fun G2 H2 st => ?_
  · exact ⟨hi, _, rfl, rfl⟩
  refine rs_need st (rt_v (rn_c0 (c_are_bounds T) hr (by decide) rfl (ra_cons (rn_var st 0) (ra_one (rn_var st 1))) ?_)) fun G2 H2 st => ?_
  · exact ⟨lo, hi, rfl, by rw [hab]⟩
  exact wb_nil (q .non G2 H2 st.st rfl)

def R_is_saying : List Dt → Dt → Prop := fun ds d => ∃ s : Sg, ds = [eSg s] ∧ d = .bl true
theorem c_is_saying (T : Txt K mg) : C8.Cal P w K mg base 1 "is_saying" (Pu K R_is_saying) [] := by
  refine cal_of (st := s_is_saying) (N := n_is_saying) (ps := ["value"]) T 10 rfl (by decide +kernel) (by decide +kernel) (fun _ _ _ _ _ _ us hl => match us, hl with | [_], _ => rfl) (fun ds d h => by obtain ⟨_, rfl, _⟩ := h; rfl) ?_
  rintro f cdv A outer s G H Q E σ ds d hr ⟨sg, rfl, rfl⟩ st q
  cases sg <;> exact rs_rq st q (rn_to (rn_isiT (cs := [.cl .rule, .cl .some, .cl .just, .cl .told]) T.cls T.kit T.free (rn_var st 0) (by first | rfl | assumption) (ra_cons (rn_gcl (C := 648) T st.ex) (ra_cons (rn_gcl (C := 732) T st.ex) (ra_cons (rn_gcl (C := 791) T st.ex) (ra_one (rn_gcl (C := 851) T st.ex))))) (by decide)) rfl)

def R_are_sayings : List Dt → Dt → Prop := fun ds d => ∃ ss : List Sg, ds = [.lst (ss.map eSg)] ∧ ss.length ≤ 1000 ∧ d = .bl true
theorem c_are_sayings (T : Txt K mg) : C8.Cal P w K mg base 2 "are_sayings" (Pu K R_are_sayings) [] := by
  refine cal_of (st := s_are_sayings) (N := n_are_sayings) (ps := ["value"]) T 14 rfl (by decide +kernel) (by decide +kernel) (fun _ _ _ _ _ _ us hl => match us, hl with | [_], _ => rfl) (fun ds d h => by obtain ⟨_, rfl, _⟩ := h; rfl) ?_
  rintro f cdv A outer s G H Q E σ ds d hr ⟨ss, rfl, hl, rfl⟩ st q
  have e : ∀ l : List Sg, (l.map fun _ => Dt.bl true) = (l.map fun _ => true).map Dt.bl := fun l => by rw [List.map_map] <;> rfl
  refine rs_rq st q (rn_to (rn_andB (rn_isiT (cs := [.list, .tuple]) T.cls T.kit T.free (rn_var st 0) (by first | rfl | assumption) (ra_cons (rn_ty T st.ex) (ra_one (rn_ty T st.ex))) (by decide)) fun _ => rn_one (rn_all (bs := ss.map fun _ => true) T.free rfl (rn_to (rn_map (xs := ss) (enc := eSg) (i := 1) (f := fun _ => .bl true) st (wk_list (rn_var st 0)) (by omega) fun s1 HH C cl fp y hy σ' G' H' st => ?_) (by rw [e])))) ?_)
  · refine (rn_c0 (c_is_saying T) hr (by decide) rfl (ra_one (rn_var st 1)) ?_)
    exact ⟨y, rfl, rfl⟩
  · simp [kyB]

def fitS (D : Int) : Sg → Bool
  | .told b l _ _ => decide (b + l ≤ D)
  | _ => true
def R_need_fit : List Dt → Dt → Prop := fun ds d => ∃ D s, ds = [.int D, eSg s] ∧ fitS D s = true ∧ d = .non
theorem c_need_fit (T : Txt K mg) : C8.Cal P w K mg base 1 "need_fit" (Pu K R_need_fit) [] := by
  refine cal_of (st := s_need_fit) (N := n_need_fit) (ps := ["days", "saying"]) T 12 rfl (by decide +kernel) (by decide +kernel) (fun _ _ _ _ _ _ us hl => match us, hl with | [_, _], _ => rfl) (fun ds d h => by obtain ⟨_, _, rfl, _⟩ := h; rfl) ?_
  rintro f cdv A outer s G H Q E σ ds d hr ⟨D, sg, rfl, hf, rfl⟩ st q
  cases sg with
  | told b l lo hi =>
    refine rs_skip st (rt_w (rw_go (rt_to (rt_v (rn_isi (cc := .cl .told) T.cls T.kit T.free (rn_var st 1) (by first | rfl | assumption) (rn_gcl (C := 851) T st.ex))) rfl) (rw_and1 (rt_to (rc_t (rc_gt (rn_add (rn_fld T.cls (rn_var st 1) (i := 0) rfl rfl) (rn_fld T.cls (rn_var st 1) (i := 1) rfl rfl)) (rn_var st 0))) ?_)))) fun G2 H2 st => wb_nil (q .non G2 H2 st.st rfl)
    have h : b + l ≤ D := of_decide_eq_true hf
    exact decide_eq_false (by omega)
  | _ => exact rs_skip st (rt_w (rw_no (rt_to (rt_v (rn_isi (cc := .cl .told) T.cls T.kit T.free (rn_var st 1) (by first | rfl | assumption) (rn_gcl (C := 851) T st.ex))) rfl))) fun G2 H2 st => wb_nil (q .non G2 H2 st.st rfl)

def R_begins_of : List Dt → Dt → Prop := fun ds d => ∃ D l : Int, ds = [.int D, .int l] ∧ (0 ≤ D ∧ D ≤ 1000 ∧ 0 ≤ l ∧ l ≤ 1000) ∧ d = .lst ((begs D l).map .int)
theorem c_begins_of (T : Txt K mg) : C8.Cal P w K mg base 1 "begins_of" (Pu K R_begins_of) [] := by
  refine cal_of (st := s_begins_of) (N := n_begins_of) (ps := ["days", "length"]) T 16 rfl (by decide +kernel) (by decide +kernel) (fun _ _ _ _ _ _ us hl => match us, hl with | [_, _], _ => rfl) (fun ds d h => by obtain ⟨_, _, rfl, _⟩ := h; rfl) ?_
  rintro f cdv A outer s G H Q E σ ds d hr ⟨D, l, rfl, hb, rfl⟩ st q
  refine rs_rq st q (rn_listrg1 rfl T.free T.free (rn_add (rn_sub (rn_var st 0) (rn_var st 1)) (rn_int st.ex)) ?_)
  omega

theorem eStc_map {l : Int} {lo hi : OI} {bs : List Int} : (bs.map fun b => Dt.tup [.int b, .int l, oD lo, oD hi]) = (bs.map fun b => ((b, l, lo, hi) : Stc)).map eStc := by
  rw [List.map_map]
  rfl
def R_all_with : List Dt → Dt → Prop := fun ds d => ∃ (D l : Int) (lo hi : OI), ds = [.int D, .int l, oD lo, oD hi] ∧ (0 ≤ D ∧ D ≤ 1000 ∧ 0 ≤ l ∧ l ≤ 1000) ∧ d = eSts (allWith D l lo hi)
theorem c_all_with (T : Txt K mg) : C8.Cal P w K mg base 2 "all_with" (Pu K R_all_with) [] := by
  refine cal_of (st := s_all_with) (N := n_all_with) (ps := ["days", "length", "low", "high"]) T 17 rfl (by decide +kernel) (by decide +kernel) (fun _ _ _ _ _ _ us hl => match us, hl with | [_, _, _, _], _ => rfl) (fun ds d h => by obtain ⟨_, _, _, _, rfl, _⟩ := h; rfl) ?_
  rintro f cdv A outer s G H Q E σ ds d hr ⟨D, l, lo, hi, rfl, hb, rfl⟩ st q
  refine rs_rq st q (rn_tupL T.free (rn_to (rn_map (xs := begs D l) (enc := .int) (i := 4) (f := fun b => .tup [.int b, .int l, oD lo, oD hi]) st (wk_list (rn_c0 (c_begins_of T) hr (by decide) rfl (ra_cons (rn_var st 0) (ra_one (rn_var st 1))) ?_)) ?_ fun s1 HH C cl fp y hy σ' G' H' st => (rn_tup (ra_cons (rn_var st 4) (ra_cons (rn_var st 1) (ra_cons (rn_var st 2) (ra_one (rn_var st 3))))) (Nat.le_of_ble_eq_true rfl))) (by rw [eStc_map]; rfl)))
  · exact ⟨D, l, rfl, hb, rfl⟩
  · unfold begs
    rw [rgI_len]
    omega

def R_many_own : List Dt → Dt → Prop := fun ds d => ∃ (D : Int) (s : Sg), ds = [.int D, eSg s] ∧ (0 ≤ D ∧ D ≤ 1000) ∧ (∀ l n, s = .just l n → 0 ≤ l ∧ l ≤ 1000) ∧ (∀ l lo hi, s = .some l lo hi → 0 ≤ l ∧ l ≤ 1000) ∧ d = .int (manyOwn D s)
theorem c_many_own (T : Txt K mg) : C8.Cal P w K mg base 2 "many_own" (Pu K R_many_own) [] := by
  refine cal_of (st := s_many_own) (N := n_many_own) (ps := ["days", "saying"]) T 18 rfl (by decide +kernel) (by decide +kernel) (fun _ _ _ _ _ _ us hl => match us, hl with | [_, _], _ => rfl) (fun ds d h => by obtain ⟨_, _, rfl, _⟩ := h; rfl) ?_
  rintro f cdv A outer s G H Q E σ ds d hr ⟨D, sg, rfl, hb, hj, hs, rfl⟩ st q
  cases sg with
  | rule l lo hi => exact rs_ifT st (k := true) (rt_to (rt_v (rn_isiT (cs := [.cl .rule, .cl .told]) T.cls T.kit T.free (rn_var st 1) (by first | rfl | assumption) (ra_cons (rn_gcl (C := 648) T st.ex) (ra_one (rn_gcl (C := 851) T st.ex))) (by decide))) rfl) (fun _ G2 H2 st => rs_rq st q (rn_int st.ex)) fun z => Bool.noConfusion z
  | told b l lo hi => exact rs_ifT st (k := true) (rt_to (rt_v (rn_isiT (cs := [.cl .rule, .cl .told]) T.cls T.kit T.free (rn_var st 1) (by first | rfl | assumption) (ra_cons (rn_gcl (C := 648) T st.ex) (ra_one (rn_gcl (C := 851) T st.ex))) (by decide))) rfl) (fun _ G2 H2 st => rs_rq st q (rn_int st.ex)) fun z => Bool.noConfusion z
  | some l lo hi =>
    have h := hs l lo hi rfl
    refine rs_skip st (rt_to (rt_v (rn_isiT (cs := [.cl .rule, .cl .told]) T.cls T.kit T.free (rn_var st 1) (by first | rfl | assumption) (ra_cons (rn_gcl (C := 648) T st.ex) (ra_one (rn_gcl (C := 851) T st.ex))) (by decide))) rfl) fun G2 H2 st => ?_
    refine rs_let (i := 2) (d := .int ((begs D l).map Dt.int).length) st (rn_lenL T.free (rn_c0 (c_begins_of T) hr (by decide) rfl (ra_cons (rn_var st 0) (ra_one (rn_fld T.cls (rn_var st 1) (i := 0) rfl rfl))) ?_)) fun σ2 G2 H2 st => ?_
    · exact ⟨D, l, rfl, ⟨hb.1, hb.2, h.1, h.2⟩, rfl⟩
    refine rs_rq st q (rn_if (k := true) (rt_to (rt_v (rn_isi (cc := .cl .some) T.cls T.kit T.free (rn_var st 1) (by first | rfl | assumption) (rn_gcl (C := 732) T st.ex))) rfl) (fun _ => rn_to (rn_var st 2) ?_) fun z => Bool.noConfusion z)
    show Dt.int (((begs D l).map Dt.int).length : Nat) = _
    rw [List.length_map] <;> rfl
  | just l n =>
    have h := hj l n rfl
    refine rs_skip st (rt_to (rt_v (rn_isiT (cs := [.cl .rule, .cl .told]) T.cls T.kit T.free (rn_var st 1) (by first | rfl | assumption) (ra_cons (rn_gcl (C := 648) T st.ex) (ra_one (rn_gcl (C := 851) T st.ex))) (by decide))) rfl) fun G2 H2 st => ?_
    refine rs_let (i := 2) (d := .int ((begs D l).map Dt.int).length) st (rn_lenL T.free (rn_c0 (c_begins_of T) hr (by decide) rfl (ra_cons (rn_var st 0) (ra_one (rn_fld T.cls (rn_var st 1) (i := 0) rfl rfl))) ?_)) fun σ2 G2 H2 st => ?_
    · exact ⟨D, l, rfl, ⟨hb.1, hb.2, h.1, h.2⟩, rfl⟩
    refine rs_rq st q (rn_if (k := false) (rt_to (rt_v (rn_isi (cc := .cl .some) T.cls T.kit T.free (rn_var st 1) (by first | rfl | assumption) (rn_gcl (C := 732) T st.ex))) rfl) (fun z => Bool.noConfusion z) fun _ => rn_to (rn_mul (rn_var st 2) (rn_var st 2) ?_) ?_)
    · have e : ((begs D l).map Dt.int).length ≤ 1001 := by
        rw [List.length_map]
        unfold begs
        rw [rgI_len]
        omega
      exact .inl ⟨by omega, by omega⟩
    show Dt.int ((((begs D l).map Dt.int).length : Nat) * (((begs D l).map Dt.int).length : Nat)) = _
    rw [List.length_map] <;> rfl
end
end Y
set_option Elab.async false
set_option linter.all false
set_option maxRecDepth 100000
set_option maxHeartbeats 4000000
/-! Lay10: methods, __init__. -/
namespace Y
open PySem PySem.Spec PyProof.Rows L2
section
variable {P : Program} {w : World} {K : PySem.W.Frag} {mg : Str → Option Value} {base : Heap}
/-- a method, by its body -/
theorem met_of {m qual : Str} {st : Stmt} {a C : Addr} {N ps : List Str} {k : Nat} {R : List Dt → Dt → Prop} (T : Txt K mg) (i : Nat) (hd : fnD[i]? = some ⟨fun _ => a, m, qual, C8.fnArgs st, C8.fnBody st, C8.fnScope st, [], []⟩) (hm : (C, m, a) ∈ methL) (hc : C ∈ clsL) (S : C8.scC N ps (C8.fnScope st) = true)
    (hb : ∀ (kV doc pm : Value) (an : Option Addr) (cdv ct : Value) (us : List Value), us.length = ps.length → bindArgs (PySem.W.fnOf m qual (C8.fnArgs st) (C8.fnBody st) (C8.fnScope st) .none kV doc pm an cdv ct) ⟨us, []⟩ = pure (ps.zip us))
    (len : ∀ ds d, R ds d → ds.length = ps.length) (body : Bod P w K mg base k qual st N R) : C8.Met P w K mg base (k + 1) C m (Pu K R) [] := by
  obtain ⟨fd, F⟩ := T.def_ i hd
  exact ⟨a, fd, ps, [], clsB_ok (List.all_eq_true.mp (T.fact 3 rfl) C hc), T.meth hm, fn_pu (toFun F) (C8.fnScope_by S) len (body a), FunD.bindsN F hb, .nil⟩
/-- the object under construction at x: the fields so far -/
structure InS (K : PySem.W.Frag) (H0 G H : Hp) (x dx : Addr) (cl : Cl) (fs : List Dt) : Prop where
  ex : ∃ ws, H x = some (.ins (cl.ad K) dx ((cl.fl.take fs.length).zip ws)) ∧ Reps K G ws fs ∧ G x = none ∧ H0 x = none ∧ fs.length ≤ cl.fl.length
theorem InS.stp {H0 G H G2 H2 : Hp} {x dx : Addr} {cl : Cl} {fs : List Dt} (o : InS K H0 G H x dx cl fs) (s : Stp G H G2 H2) : InS K H0 G2 H2 x dx cl fs := by
  obtain ⟨ws, h1, h2, h3, h4, h5⟩ := o.ex
  exact ⟨ws, s.h _ _ h1, h2.ex s.g, s.new x h3 (by rw [h1]; simp), h4, h5⟩
theorem putF_end : ∀ {fs : List (Str × V)} {f : Str} {v : V}, (∀ p ∈ fs, p.1 ≠ f) → putF f v fs = fs ++ [(f, v)]
  | [], _, _, _ => rfl
  | (g, u) :: r, f, v, h => by
    have ne : g ≠ f := h (g, u) List.mem_cons_self
    unfold putF
    first
      | rw [if_neg (fun z => ne z), putF_end fun p hp => h p (List.mem_cons_of_mem _ hp)] <;> rfl
      | rw [if_neg (by simpa using ne), putF_end fun p hp => h p (List.mem_cons_of_mem _ hp)] <;> rfl
      | rw [if_neg (by simpa using fun z => ne z.symm), putF_end fun p hp => h p (List.mem_cons_of_mem _ hp)] <;> rfl
end
section
variable {X : Cx} {σ : L2.St} {G0 H0 G H G1 H1 : Hp} {d d1 d2 d3 : Dt} {ds ds1 ds2 fs : List Dt} {dss : List (Option Dt)} {ow : List (Addr × List Dt)} {a b c e o : Expr} {es : List Expr} {pos p tp : Pos} {k k1 k2 : Bool} {D : Ends} {st : Stmt} {rest body orelse : List Stmt} {x dx : Addr} {cl : Cl}
/-- self.f = e -/
theorem rs_fld {f : Str} {p' : Pos} (T : ClsOk X.K) (s : Sta X.K G0 H0 dss ow σ G H) (i : InS X.K H0 G H x dx cl fs) (ho : Rn X o σ G H (.adr x)) (h : Rn X e σ G H d) (hf : cl.fl[fs.length]? = some f) (q : ∀ G2 H2, Sta X.K G0 H0 dss ow σ G2 H2 → InS X.K H0 G2 H2 x dx cl (fs ++ [d]) → wpB X rest D σ H2)
    (hs : swapsWith e (some (.Attribute o f p')) pos.line X.env = pure false := by rfl) : wpB X (.Assign [.Attribute o f p'] e pos :: rest) D σ H :=
  wb_cons (wpS_of (ps_fld pe_wp pe_wp hs) (h H (Ex.refl H) _ fun y G2 H2 s2 r2 => ho H2 s2.h _ fun v G3 H3 s3 r3 => by
    obtain ⟨jn, u⟩ := s2.join s3
    have s4 := s2.trans jn
    have sS := s.stp s4
    obtain ⟨ws, i1, i2, i3, i4, i5⟩ := (i.stp s4).ex
    have e1 : v = .ref x := r3
    have hw := i2.length
    have lt : fs.length < cl.fl.length := (List.getElem?_eq_some_iff.mp hf).1
    have ltk : (cl.fl.take fs.length).length = fs.length := by rw [List.length_take]; omega
    have hne : ∀ p ∈ (cl.fl.take fs.length).zip ws, p.1 ≠ f := fun p hp z => by
      have hm : p.1 ∈ cl.fl.take fs.length := (List.of_mem_zip hp).1
      rw [z] at hm
      obtain ⟨j, hj, ej⟩ := List.mem_iff_getElem.mp hm
      rw [List.length_take] at hj
      rw [List.getElem_take] at ej
      have e2 := (List.getElem?_eq_some_iff.mp hf).2
      have := (List.getElem_inj cl.nd).mp (ej.trans e2.symm)
      omega
    refine ⟨x, cl.ad X.K, dx, _, e1, i1, T.cls cl, T.noat cl f (List.mem_of_getElem? hf), ?_, ?_⟩
    · rw [List.length_zip, ltk]
      have : cl.fl.length ≤ 4 := by cases cl <;> decide
      omega
    · rw [putF_end hne]
      have et : cl.fl.take (fs.length + 1) = cl.fl.take fs.length ++ [f] := by
        rw [List.take_succ, hf]
        rfl
      have ez : (cl.fl.take fs.length).zip ws ++ [(f, y)] = (cl.fl.take (fs ++ [d]).length).zip (ws ++ [y]) := by
        rw [List.length_append, List.length_singleton, et, List.zip_append (by rw [ltk, hw])]
        rfl
      rw [ez]
      refine q _ _ ⟨⟨sS.st.h.upd i4, sS.st.g, sS.st.gh.upd i3, sS.st.new⟩, sS.env, fun p hp => ?_, sS.nd⟩ ⟨⟨ws ++ [y], upd_same, i2.append (Reps.one (r2.ex (uni_l _ _))), i3, i4, by rw [List.length_append, List.length_singleton]; omega⟩⟩
      obtain ⟨us, a1, a2, a3, a4⟩ := sS.own p hp
      refine ⟨us, ?_, a2, a3, a4⟩
      have ne2 : p.1 ≠ x := fun z => by
        rw [z, i1] at a1
        cases a1
      rw [upd_ne ne2]
      exact a1))
/-- self.f, read while it is made -/
theorem rn_fldI {f : Str} {j : Nat} (T : ClsOk X.K) (i : InS X.K H0 G H x dx cl fs) (h : Rn X a σ G H (.adr x)) (hd : fs[j]? = some d) (hf : cl.fl[j]? = some f) (hb : attributeBase a f X.env (eval a X.env) = eval a X.env := by rfl) : Rn X (.Attribute a f pos) σ G H d := fun H1 e Q q =>
  wpE_of (pe_fld pe_wp hb) (h H1 e _ fun v G2 H2 s r => by
    have e1 : v = .ref x := r
    obtain ⟨ws, i1, i2, i3, i4, i5⟩ := i.ex
    obtain ⟨w, e2, rw'⟩ := i2.get hd
    have lt : j < fs.length := (List.getElem?_eq_some_iff.mp hd).1
    have hft : (cl.fl.take fs.length)[j]? = some f := by rw [List.getElem?_take_of_lt lt]; exact hf
    have nd : (cl.fl.take fs.length).Nodup := cl.nd.sublist (List.take_sublist _ _)
    exact ⟨x, _, dx, _, w, e1, s.h _ _ (e _ _ i1), T.cls cl, T.noat cl f (List.mem_of_getElem? hf), zlook nd hft e2, q w G2 H2 s (rw'.ex s.g)⟩)
end
section
variable {P : Program} {w : World} {K : PySem.W.Frag} {mg : Str → Option Value} {base : Heap}
abbrev BodI (P : Program) (w : World) (K : PySem.W.Frag) (mg : Str → Option Value) (base : Heap) (k : Nat) (q : Str) (st : Stmt) (N : List Str) (cl : Cl) (R : List Dt → List Dt → Prop) : Prop :=
  ∀ (f : Addr) (cdv : Value) (A : Around) (outer : List Env) (s : Shared) (G H : Hp) (x dx : Addr) (Q : VK) (E : XK) (σ : L2.St) (ds fs : List Dt), Room k (A.deeper (envOfC q (C8.fnScope st) s.heap.objs.size f cdv)) → R ds fs → Sta K G (hide x H) (ini N (.adr x :: ds)) [] σ G H → InS K (hide x H) G H x dx cl [] →
      (∀ G2 H2, Stp G (hide x H) G2 H2 → InS K (hide x H) G2 H2 x dx cl fs → Q .non H2) → wpB (bx P w K mg base N q st f cdv A outer s H E) (C8.fnBody st) (dE Q) σ H
theorem mak_of {x qual : Str} {cl : Cl} {st : Stmt} {a : Addr} {N ps : List Str} {k : Nat} {R : List Dt → List Dt → Prop} {dvs : List V} {dds : List Dt} (T : Txt K mg) (i : Nat) {dfl : List He.Dv} (hd : fnD[i]? = some ⟨fun _ => a, "__init__", qual, C8.fnArgs st, C8.fnBody st, C8.fnScope st, dfl, []⟩)
    (hg : (x, cl.ad K) ∈ gloL) (hm : (cl.ad K, a) ∈ mkL) (S : C8.scC N ps (C8.fnScope st) = true) (hb : ∀ fd, FunD K "__init__" qual (C8.fnArgs st) (C8.fnBody st) (C8.fnScope st) (dfl.map (He.Dv.v K)) [] a fd → ∃ dS, Vals dvs dS ∧ Binds K fd ps dS)
    (len : ∀ ds fs, R ds fs → ds.length + 1 = ps.length) (lenf : ∀ ds fs, R ds fs → fs.length = cl.fl.length) (body : BodI P w K mg base k qual st N cl R) : C8.Mak P w K mg base (k + 1) x (cl.ad K) (Ini K cl R) dvs := by
  obtain ⟨fd, F⟩ := T.def_ i hd
  obtain ⟨dS, v, b⟩ := hb fd F
  refine ⟨a, fd, ps, dS, T.mkr hm, ?_, T.glo hg, b, v⟩
  refine C8.fn0 (toFun F) (C8.fnScope_by S) (fun vs H Q E h => ?_) fun cdv A outer s H vs Q E hr h => ?_
  · obtain ⟨G, y, dx, vs', ds, fs, rfl, _, _, _, _, _, r, hR, _⟩ := h
    rw [List.length_cons, r.length]
    exact len ds fs hR
  · obtain ⟨G, y, dx, vs', ds, fs, rfl, e, n1, n2, hx, hdx, r, hR, q⟩ := h
    have e0 : Ex G (hide y H) := ex_hide e n1
    refine ⟨_, pb_wp, body a cdv A outer s G H y dx Q E _ ds fs hr hR ⟨⟨hide_ex y H, Ex.refl _, e, fun _ h _ => h⟩, slo_start (ds := .adr y :: ds) ⟨rfl, r⟩, (fun _ h => by cases h), List.nodup_nil⟩ ⟨⟨[], by simpa using hx, True.intro, n1, hide_same, Nat.zero_le _⟩⟩ fun G2 H2 s2 i2 => ?_⟩
    obtain ⟨ws, i1, i3, i4, _, _⟩ := i2.ex
    have lf := lenf ds fs hR
    have et : cl.fl.take fs.length = cl.fl := by rw [lf, List.take_length]
    rw [et] at i1
    refine q G2 H2 ws ⟨fun z u hz => ?_, s2.g, ex_hide s2.gh i4, s2.new⟩ i1 (by rw [i3.length, lf]) i3
    have nz : z ≠ y := fun t => by rw [t, hide_same] at hz; cases hz
    rw [hide_ne nz]
    exact s2.h z u hz
end
end Y
set_option Elab.async false
set_option linter.all false
set_option maxRecDepth 100000
set_option maxHeartbeats 4000000
/-! Lay11: two fors by names. -/
namespace Y
open PySem PySem.Spec PyProof.Rows L2
section
variable {X : Cx} {σ : L2.St} {G0 H0 G H G1 H1 : Hp} {d d1 d2 d3 : Dt} {ds ds1 ds2 fs : List Dt} {dss : List (Option Dt)} {ow : List (Addr × List Dt)} {a b c e o iter iter1 : Expr} {es : List Expr} {pos p tp tp1 : Pos} {k k1 k2 : Bool} {D : Ends} {st : Stmt} {rest body orelse : List Stmt}
theorem ro_map2 {α β : Type} {elt : Expr} {scope : Scope} {i j : Nat} {x y : Str} {enc : α → Dt} {enc1 : β → Dt} {xs : List α} {ys : α → List β} {f : α → β → Dt}
    (s : Sta X.K G0 H0 dss ow σ G H) (hw : Wk X (.Name x tp) iter σ G H (xs.map enc)) (hl : (xs.flatMap fun x => (ys x).map (f x)).length ≤ 100000)
    (hw1 : ∀ (s1 : Shared) (HH : Hp) (C : Addr) (cl : List (Str × Addr)) (fp : List Addr), ∀ u ∈ xs, ∀ σ' G' H', Sta (X.blk s1 HH scope (compEnvC scope cl C X.env) fp).K G0 H0 ((dss.set j none).set i (some (enc u))) ow σ' G' H' → Wk (X.blk s1 HH scope (compEnvC scope cl C X.env) fp) (.Name y tp1) iter1 σ' G' H' ((ys u).map enc1))
    (he : ∀ (s1 : Shared) (HH : Hp) (C : Addr) (cl : List (Str × Addr)) (fp : List Addr), ∀ u ∈ xs, ∀ v ∈ ys u, ∀ σ' G' H', Sta (X.blk s1 HH scope (compEnvC scope cl C X.env) fp).K G0 H0 (((dss.set j none).set i (some (enc u))).set j (some (enc1 v))) ow σ' G' H' → Rn (X.blk s1 HH scope (compEnvC scope cl C X.env) fp) elt σ' G' H' (f u v))
    (ok : blkC X.N X.env.scope scope [(x, i), (y, j)] = true := by kernel_rfl) (hc : X.calm = true := by rfl) (hN : X.N.Nodup := by exact of_decide_eq_true (by kernel_rfl)) (hi : X.N[i]? = some x := by rfl) (hj : X.N[j]? = some y := by rfl)
    (hx : ∀ (s1 : Shared) (HH : Hp) (C : Addr) (cl : List (Str × Addr)) (fp : List Addr), (X.blk s1 HH scope (compEnvC scope cl C X.env) fp).env.scope.names.lookup x = some .local := by intro _ _ _ _ _; rfl)
    (hy : ∀ (s1 : Shared) (HH : Hp) (C : Addr) (cl : List (Str × Addr)) (fp : List Addr), (X.blk s1 HH scope (compEnvC scope cl C X.env) fp).env.scope.names.lookup y = some .local := by intro _ _ _ _ _; rfl)
    (hfs : ∀ x, foldedSetIterable iter X.env x = pure x := by intro _; rfl) (hfs1 : ∀ env x, foldedSetIterable iter1 env x = pure x := by intro _ _; rfl) :
    RnO X (.ListComp elt [⟨.Name x tp, iter, [], 0⟩, ⟨.Name y tp1, iter1, [], 0⟩] scope pos) σ G H (xs.flatMap fun x => (ys x).map (f x)) := by
  have e1 : ∀ u : α, (wipeD dss [i, j]).set i (some (enc u)) = (dss.set j none).set i (some (enc u)) := fun u => by
    show ((dss.set j none).set i none).set i (some (enc u)) = _
    rw [List.set_set]
  refine ro_lc2 (enc := enc) (enc1 := enc1) (up := fun y ds => ds.set i (some (enc y))) (up1 := fun y ds => ds.set j (some (enc1 y))) (is := [i]) (is1 := [j]) (vs1 := [j]) (own := [(x, i), (y, j)]) s hc hN hw (blkOk_by ok) hl (by simp) (by simp) (by simp)
    (fun s1 HH C cl fp y hy => tg_name (X := X.blk s1 HH scope (compEnvC scope cl C X.env) fp) hN hi (.inl (hx s1 HH C cl fp)) (.inr (hx s1 HH C cl fp)))
    (fun s1 HH C cl fp u hu v hv => tg_name (X := X.blk s1 HH scope (compEnvC scope cl C X.env) fp) hN hj (.inl (hy s1 HH C cl fp)) (.inr (hy s1 HH C cl fp)))
    (fun s1 HH C cl fp u hu σ' G' H' st => hw1 s1 HH C cl fp u hu σ' G' H' (by
      rw [← e1]
      exact st))
    (fun s1 HH C cl fp u hu v hv σ' G' H' st => he s1 HH C cl fp u hu v hv σ' G' H' (by
      have e2 : (wipeD ((wipeD dss [i, j]).set i (some (enc u))) [j]).set j (some (enc1 v)) = ((dss.set j none).set i (some (enc u))).set j (some (enc1 v)) := by
        show (((wipeD dss [i, j]).set i (some (enc u))).set j none).set j (some (enc1 v)) = _
        rw [List.set_set, e1]
      rw [← e2]
      exact st)) hfs hfs1
theorem rs_letM2 {α β : Type} {elt : Expr} {scope : Scope} {i j : Nat} {x y z : Str} {m : Nat} {pz spos : Pos} {enc : α → Dt} {enc1 : β → Dt} {xs : List α} {ys : α → List β} {f : α → β → Dt}
    (s : Sta X.K G0 H0 dss ow σ G H) (hw : Wk X (.Name x tp) iter σ G H (xs.map enc)) (hl : (xs.flatMap fun x => (ys x).map (f x)).length ≤ 100000)
    (hw1 : ∀ (s1 : Shared) (HH : Hp) (C : Addr) (cl : List (Str × Addr)) (fp : List Addr), ∀ u ∈ xs, ∀ σ' G' H', Sta (X.blk s1 HH scope (compEnvC scope cl C X.env) fp).K G0 H0 ((dss.set j none).set i (some (enc u))) ow σ' G' H' → Wk (X.blk s1 HH scope (compEnvC scope cl C X.env) fp) (.Name y tp1) iter1 σ' G' H' ((ys u).map enc1))
    (he : ∀ (s1 : Shared) (HH : Hp) (C : Addr) (cl : List (Str × Addr)) (fp : List Addr), ∀ u ∈ xs, ∀ v ∈ ys u, ∀ σ' G' H', Sta (X.blk s1 HH scope (compEnvC scope cl C X.env) fp).K G0 H0 (((dss.set j none).set i (some (enc u))).set j (some (enc1 v))) ow σ' G' H' → Rn (X.blk s1 HH scope (compEnvC scope cl C X.env) fp) elt σ' G' H' (f u v))
    (q : ∀ σ2 G2 H2, Sta X.K G0 H0 (dss.set m (some (.lst (xs.flatMap fun x => (ys x).map (f x))))) ow σ2 G2 H2 → wpB X rest D σ2 H2)
    (ok : blkC X.N X.env.scope scope [(x, i), (y, j)] = true := by kernel_rfl) (hc : X.calm = true := by rfl) (hN : X.N.Nodup := by exact of_decide_eq_true (by kernel_rfl)) (hi : X.N[i]? = some x := by rfl) (hj : X.N[j]? = some y := by rfl) (hm : X.N[m]? = some z := by rfl) (hml : X.env.scope.names.lookup z = some .local := by rfl)
    (hx : ∀ (s1 : Shared) (HH : Hp) (C : Addr) (cl : List (Str × Addr)) (fp : List Addr), (X.blk s1 HH scope (compEnvC scope cl C X.env) fp).env.scope.names.lookup x = some .local := by intro _ _ _ _ _; rfl)
    (hy : ∀ (s1 : Shared) (HH : Hp) (C : Addr) (cl : List (Str × Addr)) (fp : List Addr), (X.blk s1 HH scope (compEnvC scope cl C X.env) fp).env.scope.names.lookup y = some .local := by intro _ _ _ _ _; rfl)
    (hsw : swapsWith (.ListComp elt [⟨.Name x tp, iter, [], 0⟩, ⟨.Name y tp1, iter1, [], 0⟩] scope pos) (some (.Name z pz)) spos.line X.env = pure true := by rfl)
    (hfs : ∀ x, foldedSetIterable iter X.env x = pure x := by intro _; rfl) (hfs1 : ∀ env x, foldedSetIterable iter1 env x = pure x := by intro _ _; rfl) :
    wpB X (.Assign [.Name z pz] (.ListComp elt [⟨.Name x tp, iter, [], 0⟩, ⟨.Name y tp1, iter1, [], 0⟩] scope pos) spos :: rest) D σ H := by
  have e1 : ∀ u : α, (wipeD dss [i, j]).set i (some (enc u)) = (dss.set j none).set i (some (enc u)) := fun u => by
    show ((dss.set j none).set i none).set i (some (enc u)) = _
    rw [List.set_set]
  refine rs_lc20 (enc := enc) (enc1 := enc1) (up := fun y ds => ds.set i (some (enc y))) (up1 := fun y ds => ds.set j (some (enc1 y))) (is := [i]) (is1 := [j]) (vs1 := [j]) (own := [(x, i), (y, j)]) s hc hN hw (blkOk_by ok) hl (by simp) (by simp) (by simp)
    (fun s1 HH C cl fp y hy => tg_name (X := X.blk s1 HH scope (compEnvC scope cl C X.env) fp) hN hi (.inl (hx s1 HH C cl fp)) (.inr (hx s1 HH C cl fp)))
    (fun s1 HH C cl fp u hu v hv => tg_name (X := X.blk s1 HH scope (compEnvC scope cl C X.env) fp) hN hj (.inl (hy s1 HH C cl fp)) (.inr (hy s1 HH C cl fp)))
    (fun s1 HH C cl fp u hu σ' G' H' st => hw1 s1 HH C cl fp u hu σ' G' H' (by
      rw [← e1]
      exact st))
    (fun s1 HH C cl fp u hu v hv σ' G' H' st => he s1 HH C cl fp u hu v hv σ' G' H' (by
      have e2 : (wipeD ((wipeD dss [i, j]).set i (some (enc u))) [j]).set j (some (enc1 v)) = ((dss.set j none).set i (some (enc u))).set j (some (enc1 v)) := by
        show (((wipeD dss [i, j]).set i (some (enc u))).set j none).set j (some (enc1 v)) = _
        rw [List.set_set, e1]
      rw [← e2]
      exact st)) hm hml hsw (fun l vs G2 H2 s2 n1 n2 hl r => q _ _ H2 (s.fresh s2 n1 n2 hl r)) hfs hfs1
end
end Y
set_option Elab.async false
set_option linter.all false
set_option maxRecDepth 100000
set_option maxHeartbeats 4000000
/-! D4: choices. -/
namespace Y
open PySem PySem.Spec PyProof.Rows L2
section
variable {P : Program} {w : World} {K : PySem.W.Frag} {mg : Str → Option Value} {base : Heap}
def R_multiplied : List Dt → Dt → Prop := fun ds d => ∃ ns : List Int, ds = [.lst (ns.map .int)] ∧ (∀ n ∈ ns, -1000000 ≤ n ∧ n ≤ 1000000) ∧ d = .int (prodI ns)
theorem prodI_snoc (ns : List Int) (n : Int) : prodI (ns ++ [n]) = prodI ns * n := by
  unfold prodI
  rw [List.foldl_append]
  rfl
theorem c_multiplied (T : Txt K mg) : C8.Cal P w K mg base 1 "multiplied" (Pu K R_multiplied) [] := by
  refine cal_of (st := s_multiplied) (N := n_multiplied) (ps := ["numbers"]) T 20 rfl (by decide +kernel) (by decide +kernel) (fun _ _ _ _ _ _ us hl => match us, hl with | [_], _ => rfl) (fun ds d h => by obtain ⟨_, rfl, _⟩ := h; rfl) ?_
  rintro f cdv A outer s G H Q E σ ds d hr ⟨ns, rfl, hn, rfl⟩ st q
  refine rs_let (i := 1) (d := .int 1) st (rn_int st.ex) fun σ2 G2 H2 st => ?_
  refine rs_forN (i := 2) (enc := .int) (xs := ns) (fun pre => [some (.lst (ns.map .int)), some (.int (prodI pre)), pre.getLast?.map .int]) (fun pre => []) st (wk_list (rn_var st 0)) (fun G1 H1 s1 pre y post ex σ2 G2 H2 st => ?_) fun σ' G' H' st => ?_
  · refine rs_let (i := 1) st (rn_mul (rn_var st 1) (rn_var st 2) ?_) fun σ2 G2 H2 st => ?_
    · have h := hn y (by rw [ex]; simp)
      exact .inr ⟨by omega, by omega⟩
    · refine wb_nil ⟨G2, ?_⟩
      rw [prodI_snoc, List.getLast?_concat]
      exact st
  · exact rs_rq st q (rn_var st 1)

def R_sums_in : List Dt → Dt → Prop := fun ds d => ∃ (g : List Int) (l : Int), ds = [eRow g, .int l] ∧ (0 ≤ l ∧ l ≤ 1000) ∧ g.length ≤ 1000 ∧ d = .lst ((sumsIn g l).map .int)
theorem c_sums_in (T : Txt K mg) : C8.Cal P w K mg base 1 "sums_in" (Pu K R_sums_in) [] := by
  refine cal_of (st := s_sums_in) (N := n_sums_in) (ps := ["row", "length"]) T 11 rfl (by decide +kernel) (by decide +kernel) (fun _ _ _ _ _ _ us hl => match us, hl with | [_, _], _ => rfl) (fun ds d h => by obtain ⟨_, _, rfl, _⟩ := h; rfl) ?_
  rintro f cdv A outer s G H Q E σ ds d hr ⟨g, l, rfl, hl, hg, rfl⟩ st q
  refine rs_let (i := 2) (d := eI (hts g)) st (rn_fld T.cls (rn_var st 0) (i := 1) rfl rfl) fun σ2 G2 H2 st => ?_
  have e : (sumsIn g l).map Dt.int = (rgI 0 (g.length - l + 1).toNat).map fun b => Dt.int ((hts g).getD (b + l).toNat 0 - (hts g).getD b.toNat 0) := by
    unfold sumsIn
    rw [List.map_map]
    rfl
  refine rs_rq st q (rn_to (rn_map (xs := rgI 0 (g.length - l + 1).toNat) (enc := .int) (i := 3) (f := fun b => .int ((hts g).getD (b + l).toNat 0 - (hts g).getD b.toNat 0)) st (by rw [← rgD_eq]; exact wk_rg1 T.free (rn_add (rn_sub (rn_fld T.cls (rn_var st 0) (i := 2) rfl rfl) (rn_var st 1)) (rn_int st.ex)) (by omega)) ?_ fun s1 HH C cl fp y hy σ' G' H' st => ?_) (by rw [e]))
  · rw [rgI_len]
    omega
  · have hm := mem_rgI hy
    have hln := hts_len g
    refine (rn_sub (rn_ixT (rn_var st 2) (rn_add (rn_var st 3) (rn_var st 1)) ?_) (rn_ixT (rn_var st 2) (rn_var st 3) ?_))
    · refine atI_ints ?_ ?_ <;> omega
    · refine atI_ints ?_ ?_ <;> omega

def Sg.len : Sg → Int
  | .rule l _ _ => l | .some l _ _ => l | .just l _ => l | .told _ l _ _ => l
def eOwn (cs : List (List Stc)) : Dt := .tup (cs.map eSts)
def R_own_choices : List Dt → Dt → Prop := fun ds d => ∃ (D : Int) (s : Sg), ds = [.int D, eSg s] ∧ (0 ≤ D ∧ D ≤ 48) ∧ (0 ≤ s.len ∧ s.len ≤ 1000) ∧ d = eOwn (ownCh D s)
theorem begs_len {D l : Int} (hD : 0 ≤ D ∧ D ≤ 48) (hl : 0 ≤ l ∧ l ≤ 1000) : (begs D l).length ≤ 49 := by
  unfold begs
  rw [rgI_len]
  omega
theorem flat_const {α β γ : Type} (xs : List α) (ys : List β) (f : α → β → γ) : (xs.flatMap fun x => ys.map (f x)).length = xs.length * ys.length := by
  induction xs with
  | nil => simp
  | cons x r ih =>
    rw [List.flatMap_cons, List.length_append, List.length_map, ih, List.length_cons, Nat.succ_mul, Nat.add_comm]
theorem c_own_choices (T : Txt K mg) : C8.Cal P w K mg base 3 "own_choices" (Pu K R_own_choices) [] := by
  refine cal_of (st := s_own_choices) (N := n_own_choices) (ps := ["days", "saying"]) T 21 rfl (by decide +kernel) (by decide +kernel) (fun _ _ _ _ _ _ us hl => match us, hl with | [_, _], _ => rfl) (fun ds d h => by obtain ⟨_, _, rfl, _⟩ := h; rfl) ?_
  rintro f cdv A outer s G H Q E σ ds d hr ⟨D, sg, rfl, hD, hl, rfl⟩ st q
  cases sg with
  | rule l lo hi =>
    have hl : 0 ≤ l ∧ l ≤ 1000 := hl
    refine rs_let (i := 2) (d := .int l) st (rn_fld T.cls (rn_var st 1) (i := 0) rfl rfl) fun σ2 G2 H2 st => ?_
    refine rs_ifT st (k := true) (rt_to (rt_v (rn_isi (cc := .cl .rule) T.cls T.kit T.free (rn_var st 1) (by first | rfl | assumption) (rn_gcl (C := 648) T st.ex))) rfl) (fun _ G2 H2 st => rs_rq st q ?_) fun z => Bool.noConfusion z
    refine (rn_tup (ds := [eSts (allWith D l lo hi)]) (ra_one (rn_c0 (c_all_with T) hr (by decide) rfl (ra_cons (rn_var st 0) (ra_cons (rn_var st 2) (ra_cons (rn_fld T.cls (rn_var st 1) (i := 1) rfl rfl) (ra_one (rn_fld T.cls (rn_var st 1) (i := 2) rfl rfl))))) ?_)) (Nat.le_of_ble_eq_true rfl))
    exact ⟨D, l, lo, hi, rfl, ⟨by omega, by omega, hl.1, hl.2⟩, rfl⟩
  | told b l lo hi =>
    refine rs_let (i := 2) (d := .int l) st (rn_fld T.cls (rn_var st 1) (i := 1) rfl rfl) fun σ2 G2 H2 st => ?_
    refine rs_skip st (rt_to (rt_v (rn_isi (cc := .cl .rule) T.cls T.kit T.free (rn_var st 1) (by first | rfl | assumption) (rn_gcl (C := 648) T st.ex))) rfl) fun G2 H2 st => ?_
    refine rs_ifT st (k := true) (rt_to (rt_v (rn_isi (cc := .cl .told) T.cls T.kit T.free (rn_var st 1) (by first | rfl | assumption) (rn_gcl (C := 851) T st.ex))) rfl) (fun _ G2 H2 st => rs_rq st q ?_) fun z => Bool.noConfusion z
    exact (rn_tup (ra_one (rn_tup (ra_one (rn_tup (ra_cons (rn_fld T.cls (rn_var st 1) (i := 0) rfl rfl) (ra_cons (rn_var st 2) (ra_cons (rn_fld T.cls (rn_var st 1) (i := 2) rfl rfl) (ra_one (rn_fld T.cls (rn_var st 1) (i := 3) rfl rfl))))) (Nat.le_of_ble_eq_true rfl))) (Nat.le_of_ble_eq_true rfl))) (Nat.le_of_ble_eq_true rfl))
  | some l lo hi =>
    have hl : 0 ≤ l ∧ l ≤ 1000 := hl
    have hbl := begs_len hD hl
    refine rs_let (i := 2) (d := .int l) st (rn_fld T.cls (rn_var st 1) (i := 0) rfl rfl) fun σ2 G2 H2 st => ?_
    refine rs_skip st (rt_to (rt_v (rn_isi (cc := .cl .rule) T.cls T.kit T.free (rn_var st 1) (by first | rfl | assumption) (rn_gcl (C := 648) T st.ex))) rfl) fun G2 H2 st => ?_
    refine rs_skip st (rt_to (rt_v (rn_isi (cc := .cl .told) T.cls T.kit T.free (rn_var st 1) (by first | rfl | assumption) (rn_gcl (C := 851) T st.ex))) rfl) fun G2 H2 st => ?_
    refine rs_let (i := 3) (d := .lst ((begs D l).map .int)) st (rn_c0 (c_begins_of T) hr (by decide) rfl (ra_cons (rn_var st 0) (ra_one (rn_var st 2))) ?_) fun σ2 G2 H2 st => ?_
    · exact ⟨D, l, rfl, ⟨by omega, by omega, hl.1, hl.2⟩, rfl⟩
    refine rs_ifT st (k := true) (rt_to (rt_v (rn_isi (cc := .cl .some) T.cls T.kit T.free (rn_var st 1) (by first | rfl | assumption) (rn_gcl (C := 732) T st.ex))) rfl) (fun _ G2 H2 st => rs_rq st q ?_) fun z => Bool.noConfusion z
    have e : (ownCh D (.some l lo hi)).map eSts = (begs D l).map fun b => Dt.tup [.tup [.int b, .int l, oD lo, oD hi]] := by
      show ((begs D l).map fun b => [((b, l, lo, hi) : Stc)]).map eSts = _
      rw [List.map_map]
      rfl
    unfold eOwn
    rw [e]
    refine rn_tupL T.free (rn_map (xs := begs D l) (enc := .int) (i := 4) (f := fun b => .tup [.tup [.int b, .int l, oD lo, oD hi]]) st (wk_list (rn_var st 3)) (by omega) fun s1 HH C cl fp y hy σ' G' H' st => (rn_tup (ra_one (rn_tup (ra_cons (rn_var st 4) (ra_cons (rn_var st 2) (ra_cons (rn_fld T.cls (rn_var st 1) (i := 1) rfl rfl) (ra_one (rn_fld T.cls (rn_var st 1) (i := 2) rfl rfl))))) (Nat.le_of_ble_eq_true rfl))) (Nat.le_of_ble_eq_true rfl)))
  | just l n =>
    have hl : 0 ≤ l ∧ l ≤ 1000 := hl
    have hbl := begs_len hD hl
    refine rs_let (i := 2) (d := .int l) st (rn_fld T.cls (rn_var st 1) (i := 0) rfl rfl) fun σ2 G2 H2 st => ?_
    refine rs_skip st (rt_to (rt_v (rn_isi (cc := .cl .rule) T.cls T.kit T.free (rn_var st 1) (by first | rfl | assumption) (rn_gcl (C := 648) T st.ex))) rfl) fun G2 H2 st => ?_
    refine rs_skip st (rt_to (rt_v (rn_isi (cc := .cl .told) T.cls T.kit T.free (rn_var st 1) (by first | rfl | assumption) (rn_gcl (C := 851) T st.ex))) rfl) fun G2 H2 st => ?_
    refine rs_let (i := 3) (d := .lst ((begs D l).map .int)) st (rn_c0 (c_begins_of T) hr (by decide) rfl (ra_cons (rn_var st 0) (ra_one (rn_var st 2))) ?_) fun σ2 G2 H2 st => ?_
    · exact ⟨D, l, rfl, ⟨by omega, by omega, hl.1, hl.2⟩, rfl⟩
    refine rs_skip st (rt_to (rt_v (rn_isi (cc := .cl .some) T.cls T.kit T.free (rn_var st 1) (by first | rfl | assumption) (rn_gcl (C := 732) T st.ex))) rfl) fun G2 H2 st => ?_
    refine rs_let (i := 5) (d := .int n) st (rn_fld T.cls (rn_var st 1) (i := 1) rfl rfl) fun σ2 G2 H2 st => ?_
    refine rs_rq st q ?_
    have e : (ownCh D (.just l n)).map eSts = (begs D l).flatMap fun o => (begs D l).map fun p => Dt.tup [.tup [.int o, .int l, .non, .int n], .tup [.int p, .int l, .int n, .non]] := by
      show ((begs D l).flatMap fun o => (begs D l).map fun p => [((o, l, none, some n) : Stc), (p, l, some n, none)]).map eSts = _
      rw [List.map_flatMap]
      congr 1
      funext o
      rw [List.map_map]
      rfl
    unfold eOwn
    rw [e]
    refine rn_tupL T.free (rn_ro (ro_map2 (xs := begs D l) (ys := fun _ => begs D l) (enc := .int) (enc1 := .int) (i := 6) (j := 7) (f := fun o p => .tup [.tup [.int o, .int l, .non, .int n], .tup [.int p, .int l, .int n, .non]]) st (wk_list (rn_var st 3)) ?_ (fun s1 HH C cl fp u hu σ' G' H' st => wk_list (rn_var st 3)) fun s1 HH C cl fp u hu v hv σ' G' H' st => (rn_tup (ra_cons (rn_tup (ra_cons (rn_var st 6) (ra_cons (rn_var st 2) (ra_cons (rn_non st.ex) (ra_one (rn_var st 5))))) (Nat.le_of_ble_eq_true rfl)) (ra_one (rn_tup (ra_cons (rn_var st 7) (ra_cons (rn_var st 2) (ra_cons (rn_var st 5) (ra_one (rn_non st.ex))))) (Nat.le_of_ble_eq_true rfl)))) (Nat.le_of_ble_eq_true rfl))))
    rw [flat_const]
    calc _ ≤ 49 * 49 := Nat.mul_le_mul hbl hbl
      _ ≤ 100000 := by decide
end
end Y
set_option Elab.async false
set_option linter.all false
set_option maxRecDepth 100000
set_option maxHeartbeats 4000000
/-! D5: the lists of choices, all together. -/
namespace Y
open PySem PySem.Spec PyProof.Rows L2
section
variable {P : Program} {w : World} {K : PySem.W.Frag} {mg : Str → Option Value} {base : Heap}
def eLs (ls : List (List (List Stc))) : Dt := .lst (ls.map eOwn)
def BkW (k : Bk) : Prop := (0 ≤ k.1 ∧ k.1 ≤ 48) ∧ k.2.length ≤ 1000 ∧ ∀ s ∈ k.2, 0 ≤ s.len ∧ s.len ≤ 1000
def R_lists_of : List Dt → Dt → Prop := fun ds d => ∃ k : Bk, ds = [eBk k] ∧ BkW k ∧ d = eLs (lists k)
theorem c_lists_of (T : Txt K mg) : C8.Cal P w K mg base 4 "lists_of" (Pu K R_lists_of) [] := by
  refine cal_of (st := s_lists_of) (N := n_lists_of) (ps := ["book"]) T 22 rfl (by decide +kernel) (by decide +kernel) (fun _ _ _ _ _ _ us hl => match us, hl with | [_], _ => rfl) (fun ds d h => by obtain ⟨_, rfl, _⟩ := h; rfl) ?_
  rintro f cdv A outer s G H Q E σ ds d hr ⟨k, rfl, hk, rfl⟩ st q
  have e : (lists k).map eOwn = k.2.map fun s => eOwn (ownCh k.1 s) := by
    unfold lists
    rw [List.map_map]
    rfl
  refine rs_rq st q (rn_to (rn_map (xs := k.2) (enc := eSg) (i := 1) (f := fun s => eOwn (ownCh k.1 s)) st (wk_tup (rn_fld T.cls (rn_var st 0) (i := 1) rfl rfl)) (by have := hk.2.1; omega) fun s1 HH C cl fp y hy σ' G' H' st => ?_) (by show _ = Dt.lst _; rw [e]))
  refine (rn_c0 (c_own_choices T) hr (by decide) rfl (ra_cons (rn_fld T.cls (rn_var st 0) (i := 0) rfl rfl) (ra_one (rn_var st 1))) ?_)
  exact ⟨k.1, y, rfl, hk.1, hk.2.2 y hy, rfl⟩

def togS (found : List Ch) (cs : List (List Stc)) : List Ch := found.flatMap fun row => cs.map fun c => row ++ [c]
def togF (ls : List (List (List Stc))) : List Ch := ls.foldl togS [[]]
theorem togF_snoc (ls : List (List (List Stc))) (cs : List (List Stc)) : togF (ls ++ [cs]) = togS (togF ls) cs := by
  unfold togF
  rw [List.foldl_append]
  rfl
def eChs (cs : List Ch) : Dt := .lst (cs.map eCh)
def R_together : List Dt → Dt → Prop := fun ds d => ∃ ls : List (List (List Stc)), ds = [eLs ls] ∧ ls.length ≤ 1000 ∧ (ls.all (fun c => decide (0 < c.length)) = true → ∀ pre post, ls = pre ++ post → (togF pre).length ≤ 100000 ∧ ∀ c ∈ togF pre, c.length ≤ 1000) ∧ d = eChs (tog ls)
theorem c_together (T : Txt K mg) : C8.Cal P w K mg base 1 "together" (Pu K R_together) [] := by
  refine cal_of (st := s_together) (N := n_together) (ps := ["lists"]) T 23 rfl (by decide +kernel) (by decide +kernel) (fun _ _ _ _ _ _ us hl => match us, hl with | [_], _ => rfl) (fun ds d h => by obtain ⟨_, rfl, _⟩ := h; rfl) ?_
  rintro f cdv A outer s G H Q E σ ds d hr ⟨ls, rfl, hl, hb, rfl⟩ st q
  have e : (ls.map fun c : List (List Stc) => Dt.bl (decide (0 < c.length))) = (ls.map fun c : List (List Stc) => decide (0 < c.length)).map Dt.bl := by
    rw [List.map_map]
    rfl
  have ea : (ls.map fun c : List (List Stc) => decide (0 < c.length)).all id = ls.all fun c => decide (0 < c.length) := by rw [List.all_map] <;> rfl
  have enil : tog ls = (if ls.all (fun c => decide (0 < c.length)) then togF ls else []) := rfl
  refine rs_ifT st (rt_not (rt_v (rn_all (bs := ls.map fun c => decide (0 < c.length)) T.free rfl (rn_to (rn_map (xs := ls) (enc := eOwn) (i := 1) (f := fun c => .bl (decide (0 < c.length))) st (wk_list (rn_var st 0)) (by omega) fun s1 HH C cl fp y hy σ' G' H' st => rn_to (rc_v (rc_gt (rn_lenT T.free (rn_var st 1)) (rn_int st.ex))) ?_) (by rw [e]))))) (fun hk G2 H2 st => ?_) fun hk G2 H2 st => ?_
  · rw [List.length_map]
    congr 1
    exact decide_eq_decide.mpr (by omega)
  · rw [ea, Bool.not_eq_true'] at hk
    rw [hk] at enil
    refine rs_rq st q (rn_to (rn_lst (ra_nil st.ex) (Nat.le_of_ble_eq_true rfl)) ?_)
    rw [enil]
    rfl
  · rw [ea, Bool.not_eq_false'] at hk
    rw [hk, if_pos rfl] at enil
    refine rs_let (i := 2) (d := eChs (togF [])) st (rn_lst (ra_one (rn_tup (ra_nil st.ex) (Nat.le_of_ble_eq_true rfl))) (Nat.le_of_ble_eq_true rfl)) fun σ2 G2 H2 st => ?_
    refine rs_forN (i := 1) (enc := eOwn) (xs := ls) (fun pre => [some (eLs ls), pre.getLast?.map eOwn, some (eChs (togF pre)), none, none]) (fun pre => []) st (wk_list (rn_var st 0)) (fun G1 H1 s1 pre y post ex σ2 G2 H2 st => ?_) fun σ' G' H' st => ?_
    · have es : (togF (pre ++ [y])).map eCh = (togF pre).flatMap fun row => y.map fun c => eCh (row ++ [c]) := by
        rw [togF_snoc]
        unfold togS
        rw [List.map_flatMap]
        congr 1
        funext row
        rw [List.map_map]
        rfl
      obtain ⟨_, hrow⟩ := hb hk pre (y :: post) ex
      obtain ⟨hlen, _⟩ := hb hk (pre ++ [y]) post (by rw [ex]; simp)
      refine rs_letM2 (m := 2) (xs := togF pre) (ys := fun _ => y) (enc := eCh) (enc1 := eSts) (i := 3) (j := 4) (f := fun row c => eCh (row ++ [c])) st ?_ ?_ ?_ ?_ ?_
      · exact wk_list (rn_var st 2)
      · rw [← es, List.length_map]
        exact hlen
      · intro s1 HH C cl fp u hu σ' G' H' st
        exact wk_tup (rn_var st 1)
      · intro s1 HH C cl fp u hu v hv σ' G' H' st
        refine rn_to (rn_tup (ra_star (rn_var st 3) (ra_one (rn_var st 4))) ?_) ?_
        · have := hrow u hu
          rw [List.length_append, List.length_map]
          simp
          omega
        show Dt.tup (u.map eSts ++ [eSts v]) = Dt.tup ((u ++ [v]).map eSts)
        rw [List.map_append]
        rfl
      · intro σ2 G2 H2 st
        refine wb_nil ⟨G2, ?_⟩
        rw [← es] at st
        rw [List.getLast?_concat]
        exact st
    · refine rs_rq st q (rn_to (rn_var st 2) ?_)
      rw [enil]
end
end Y
set_option Elab.async false
set_option linter.all false
set_option maxRecDepth 100000
set_option maxHeartbeats 4000000
/-! Lay12: statements while an object is made. -/
namespace Y
open PySem PySem.Spec PyProof.Rows L2
section
variable {X : Cx} {σ : L2.St} {G0 H0 G H G1 H1 : Hp} {d d1 d2 d3 : Dt} {ds ds1 ds2 fs : List Dt} {dss : List (Option Dt)} {ow : List (Addr × List Dt)} {a b c e o iter : Expr} {es : List Expr} {pos p tp : Pos} {k k1 k2 : Bool} {D : Ends} {st : Stmt} {rest body orelse : List Stmt} {x dx : Addr} {cl : Cl}
theorem ri_skip (s : Sta X.K G0 H0 dss ow σ G H) (i : InS X.K H0 G H x dx cl fs) (h : RnT X c σ G H false) (q : ∀ G2 H2, Sta X.K G0 H0 dss ow σ G2 H2 → InS X.K H0 G2 H2 x dx cl fs → wpB X rest D σ H2) : wpB X (.If c body [] pos :: rest) D σ H :=
  rs_if h (fun z => by cases z) fun _ G2 H2 s2 => wb_nil (q G2 H2 (s.stp s2) (i.stp s2))
theorem ri_need {pos' : Pos} (s : Sta X.K G0 H0 dss ow σ G H) (i : InS X.K H0 G H x dx cl fs) (h : RnT X c σ G H true) (q : ∀ G2 H2, Sta X.K G0 H0 dss ow σ G2 H2 → InS X.K H0 G2 H2 x dx cl fs → wpB X rest D σ H2) : wpB X (.If (.UnaryOp .Not c pos') body [] pos :: rest) D σ H :=
  ri_skip s i (show RnT X (.UnaryOp .Not c pos') σ G H (!true) from rt_not h) q
theorem ri_do (s : Sta X.K G0 H0 dss ow σ G H) (i : InS X.K H0 G H x dx cl fs) (h : Rn X e σ G H d) (q : ∀ G2 H2, Sta X.K G0 H0 dss ow σ G2 H2 → InS X.K H0 G2 H2 x dx cl fs → wpB X rest D σ H2) (hs : swapsWith e none pos.line X.env = pure false := by rfl) : wpB X (.Expr e pos :: rest) D σ H :=
  rs_expr h (fun v G2 H2 s2 _ => q G2 H2 (s.stp s2) (i.stp s2)) hs
/-- for y in iter: .., a body that changes nothing -/
theorem ri_for {α : Type} {j : Nat} {y : Str} {enc : α → Dt} {xs : List α} (dsf : List α → List (Option Dt)) (s : Sta X.K G0 H0 (dsf []) ow σ G H) (i : InS X.K H0 G H x dx cl fs) (hw : Wk X (.Name y tp) iter σ G H (xs.map enc))
    (hs : ∀ pre u post, xs = pre ++ u :: post → ∀ σ2 G2 H2, Sta X.K G0 H0 ((dsf pre).set j (some (enc u))) ow σ2 G2 H2 → InS X.K H0 G2 H2 x dx cl fs → ∀ D2 : Ends, (∀ σ3 G3 H3, Stp G2 H2 G3 H3 → Sta X.K G0 H0 (dsf (pre ++ [u])) ow σ3 G3 H3 → InS X.K H0 G3 H3 x dx cl fs → D2.nx σ3 H3) → wpB X body D2 σ2 H2)
    (hd : ∀ σ' G' H', Sta X.K G0 H0 (dsf xs) ow σ' G' H' → InS X.K H0 G' H' x dx cl fs → wpB X rest D σ' H') (hp : PassesOwn (model X.prog X.w) X.A X.env X.xe := by exact PassesOwn.never) (hc : X.calm = true := by rfl) (hN : X.N.Nodup := by exact of_decide_eq_true (by kernel_rfl)) (hi : X.N[j]? = some y := by rfl)
    (hx : Loc X.env.scope y := by first | exact .inl rfl | exact .inr rfl) (hf : X.fn y = true ∨ X.env.scope.names.lookup y = some .local := by first | exact .inl rfl | exact .inr rfl) (hfs : ∀ x, foldedSetIterable iter X.env x = pure x := by intro _; rfl) : wpB X (.For (.Name y tp) iter body [] pos :: rest) D σ H := by
  refine rs_for (enc := enc) (up := fun u ds => ds.set j (some (enc u))) (is := [j]) (fun pre σ' G' H' => Sta X.K G0 H0 (dsf pre) ow σ' G' H' ∧ InS X.K H0 G' H' x dx cl fs) s.ex hp hc hw (fun u hu => tg_name hN hi hx hf) (fun G1 H1 s1 => ⟨s.stp s1, i.stp s1⟩) ?_ ?_ hfs
  · rintro G1 H1 s1 pre u post ex σ' G' H' σ2 G2 H2 ⟨hW, hI⟩ e1 s2 k2
    have t := hW.stp s2
    exact hs pre u post ex σ2 G2 H2 ⟨t.st, k2 _ hW.env, t.own, t.nd⟩ (hI.stp s2) _ fun σ3 G3 H3 s3 h3 i3 => ⟨G3, ⟨h3, i3⟩, (e1.trans s2.g).trans s3.g, h3.ex⟩
  · rintro G1 H1 s1 σ' G' H' ⟨hW, hI⟩ e1 e2
    exact hd σ' G' H' hW hI
/-- for y in iter: .., with a pure invariant of the prefix taken -/
theorem rs_forP {α : Type} {j : Nat} {y : Str} {enc : α → Dt} {xs : List α} (inv : List α → Prop) (dsf : List α → List (Option Dt)) (owf : List α → List (Addr × List Dt)) (s : Sta X.K G0 H0 (dsf []) (owf []) σ G H) (i0 : inv []) (hw : Wk X (.Name y tp) iter σ G H (xs.map enc))
    (hs : ∀ G1 H1, Stp G0 H0 G1 H1 → ∀ pre u post, xs = pre ++ u :: post → inv pre → ∀ σ2 G2 H2, Sta X.K G1 H0 ((dsf pre).set j (some (enc u))) (owf pre) σ2 G2 H2 →
      wpB X body { D with nx := fun σ3 H3 => inv (pre ++ [u]) ∧ ∃ G3, Sta X.K G1 H0 (dsf (pre ++ [u])) (owf (pre ++ [u])) σ3 G3 H3, ct := fun σ3 H3 => inv (pre ++ [u]) ∧ ∃ G3, Sta X.K G1 H0 (dsf (pre ++ [u])) (owf (pre ++ [u])) σ3 G3 H3, bk := wpB X rest D } σ2 H2)
    (hd : inv xs → ∀ σ' G' H', Sta X.K G0 H0 (dsf xs) (owf xs) σ' G' H' → wpB X rest D σ' H') (hp : PassesOwn (model X.prog X.w) X.A X.env X.xe := by exact PassesOwn.never) (hc : X.calm = true := by rfl) (hN : X.N.Nodup := by exact of_decide_eq_true (by kernel_rfl)) (hi : X.N[j]? = some y := by rfl)
    (hx : Loc X.env.scope y := by first | exact .inl rfl | exact .inr rfl) (hf : X.fn y = true ∨ X.env.scope.names.lookup y = some .local := by first | exact .inl rfl | exact .inr rfl) (hfs : ∀ x, foldedSetIterable iter X.env x = pure x := by intro _; rfl) : wpB X (.For (.Name y tp) iter body [] pos :: rest) D σ H := by
  refine rs_for (enc := enc) (up := fun u ds => ds.set j (some (enc u))) (is := [j]) (fun pre σ' G' H' => inv pre ∧ ∃ G1 H1, Stp G0 H0 G1 H1 ∧ Stp G H G1 H1 ∧ Sta X.K G1 H0 (dsf pre) (owf pre) σ' G' H') s.ex hp hc hw (fun u hu => tg_name hN hi hx hf) (fun G1 H1 s1 => ⟨i0, G1, H1, s.st.trans s1, s1, (s.stp s1).inn⟩) ?_ ?_ hfs
  · rintro G1 H1 s1 pre u post ex σ' G' H' σ2 G2 H2 ⟨hI, Ga, Ha, sa, _, hW⟩ e1 s2 k2
    have hS : Sta X.K G1 H0 (dsf pre) (owf pre) σ' G' H' := ⟨⟨hW.st.h, e1, hW.st.gh, fun a h n => hW.st.new a (sa.new a ((s.st.trans s1).g.back h) n) n⟩, hW.env, hW.own, hW.nd⟩
    have hS2 := hS.stp s2
    refine wpB_mono (hs G1 H1 (s.st.trans s1) pre u post ex hI σ2 G2 H2 ⟨hS2.st, k2 _ hS.env, hS2.own, hS2.nd⟩) ?_ (fun _ _ q => q) (fun _ _ q => q) ?_
    · rintro σ3 H3 ⟨hI2, G3, h3⟩
      exact ⟨G3, ⟨hI2, G1, H1, s.st.trans s1, s1, h3⟩, h3.st.g, h3.st.gh⟩
    · rintro σ3 H3 ⟨hI2, G3, h3⟩
      exact ⟨G3, ⟨hI2, G1, H1, s.st.trans s1, s1, h3⟩, h3.st.g, h3.st.gh⟩
  · rintro G1 H1 s1 σ' G' H' ⟨hI, Ga, Ha, sa, _, hW⟩ e1 e2
    exact hd hI σ' G' H' (hW.out sa)
theorem rn_me {pl : Sem Bool} {cl : Cl} {m : Str} {j k : Nat} {R : List Dt → Dt → Prop} {apos : Pos} (c : C8.Met X.prog X.w X.K X.mg X.base k (cl.ad X.K) m (Pu X.K R) []) (hr : Room j X.A) (hk : k ≤ j) (ho : Rn X o σ G H (.obj cl fs)) (hm : m ∉ cl.fl) (ha : RnA X (e :: es) σ G H ds) (hR : R (.obj cl fs :: ds) d)
    (hst : starEach (e :: es) X.env = (false, eval e X.env) :: starEach es X.env := by rfl) (hpl : (backTo pos (starEach es X.env)).any (·.1) = false := by rfl)
    (ht : eval (.Call (.Attribute o m apos) (e :: es) [] pos) X.env = (do
      let ov ← eval o X.env
      standAt apos.atName
      let (f, first) ← holding [ov] (getMethod ov m pl)
      callWith pos f first (backTo pos (starEach (e :: es) X.env)) (backToKw pos (keywordEach [] X.env))) := by rfl) : Rn X (.Call (.Attribute o m apos) (e :: es) [] pos) σ G H d :=
  rn_meth (pl := pl) (dds := []) c hr hk ho hm ha (fun _ => True.intro) (by rw [List.append_nil]; exact hR) hst hpl ht
theorem rn_me0 {pl : Sem Bool} {cl : Cl} {m : Str} {j k : Nat} {R : List Dt → Dt → Prop} {apos : Pos} (c : C8.Met X.prog X.w X.K X.mg X.base k (cl.ad X.K) m (Pu X.K R) []) (hr : Room j X.A) (hk : k ≤ j) (ho : Rn X o σ G H (.obj cl fs)) (hm : m ∉ cl.fl) (hR : R [.obj cl fs] d)
    (ht : eval (.Call (.Attribute o m apos) [] [] pos) X.env = (do
      let ov ← eval o X.env
      standAt apos.atName
      let (f, first) ← holding [ov] (getMethod ov m pl)
      callWith pos f first (backTo pos (starEach [] X.env)) (backToKw pos (keywordEach [] X.env))) := by rfl) : Rn X (.Call (.Attribute o m apos) [] [] pos) σ G H d :=
  rn_meth0 (pl := pl) (dds := []) c hr hk ho hm (fun _ => True.intro) hR ht
/-! items of ints -/
theorem rn_ixTI {ns : List Int} {i : Int} (h : Rn X a σ G H (.tup (ns.map .int))) (hi : Rn X b σ G H (.int i)) (h1 : 0 ≤ i) (h2 : i < ns.length) (hs : PlainIx b := by intro _ _; rfl) : Rn X (.Subscript a b pos) σ G H (.int (ns.getD i.toNat 0)) := rn_ixT h hi (atI_ints h1 h2) hs
theorem rn_ixLI {ns : List Int} {i : Int} (h : Rn X a σ G H (.lst (ns.map .int))) (hi : Rn X b σ G H (.int i)) (h1 : 0 ≤ i) (h2 : i < ns.length) (hs : PlainIx b := by intro _ _; rfl) : Rn X (.Subscript a b pos) σ G H (.int (ns.getD i.toNat 0)) := rn_ixL h hi (atI_ints h1 h2) hs
theorem rn_ixOI {ns : List Int} {i : Int} {l : Addr} {H0 : Hp} (o : Own X.K H0 G H l (ns.map .int)) (h : Rn X a σ G H (.adr l)) (hi : Rn X b σ G H (.int i)) (h1 : 0 ≤ i) (h2 : i < ns.length) (hs : PlainIx b := by intro _ _; rfl) : Rn X (.Subscript a b pos) σ G H (.int (ns.getD i.toNat 0)) := rn_ixO o h hi (atI_ints h1 h2) hs
end
end Y
set_option Elab.async false
set_option linter.all false
set_option maxRecDepth 100000
set_option maxHeartbeats 4000000
/-! D6: the classes' __init__. -/
namespace Y
open PySem PySem.Spec PyProof.Rows L2
section
variable {P : Program} {w : World} {K : PySem.W.Frag} {mg : Str → Option Value} {base : Heap}
theorem hts_split (g : List Int) : hts g = (hts g).dropLast ++ [g.sum] := by
  have h := hts_last g
  have hl := hts_len g
  have ne : hts g ≠ [] := fun z => by rw [z] at hl; simp at hl
  rw [← h, List.getLastD_eq_getLast?, List.getLast?_eq_some_getLast ne]
  exact (List.dropLast_concat_getLast ne).symm
def R_Row_init : List Dt → List Dt → Prop := fun ds fs => ∃ g : List Int, ds = [eL g] ∧ (1 ≤ g.length ∧ g.length ≤ 48) ∧ fs = [eI g, eI (hts g), .int g.length, .int ((hts g).getLastD 0)]
theorem m_row (T : Txt K mg) : C8.Mak P w K mg base 3 "Row" (Cl.ad K .row) (Ini K .row R_Row_init) [] := by
  refine mak_of (cl := .row) (dds := []) (st := s_Row_init) (N := n_Row_init) (ps := ["self", "gains"]) (dfl := []) T 60 rfl (show (("Row" : Str), (525 : Addr)) ∈ gloL by decide +kernel) (show ((525 : Addr), f_Row_init) ∈ mkL by decide +kernel) (by decide +kernel) (fun fd F => ⟨[], .nil, FunD.bindsN F fun _ _ _ _ _ _ us hl => match us, hl with | [_, _], _ => rfl⟩) (fun ds d h => by obtain ⟨_, rfl, _⟩ := h; rfl) (fun ds d h => by obtain ⟨_, rfl, hg, rfl⟩ := h; rfl) ?_
  rintro f cdv A outer s G H x dx Q E σ ds fs hr ⟨g, rfl, hg, rfl⟩ st io q
  have el : ((g.map Dt.int).length : Int) = g.length := by rw [List.length_map]
  refine ri_skip st io (rt_w (rw_go' (rt_not (k := true) (rt_v (rn_c0 (c_are_integers T) hr (by decide) rfl (ra_one (rn_var st 1)) ?_))) (rw_or1 (rt_to (rc_t (rc_eqI (rn_lenL T.free (rn_var st 1)) (rn_int st.ex))) ?_)))) fun G2 H2 st io => ?_
  · exact ⟨_, g, rfl, .inl rfl, by omega, rfl⟩
  · rw [el]
    exact decide_eq_false (by omega)
  refine ri_skip st io (rt_to (rc_t (rc_gt (rn_lenL T.free (rn_var st 1)) (rn_gint (i := 48) T st.ex))) ?_) fun G2 H2 st io => ?_
  · rw [el]
    exact decide_eq_false (by omega)
  refine rs_fld T.cls st io (rn_var st 0) (d := eI g) (rn_tupL T.free (rn_var st 1)) rfl fun G2 H2 st io => ?_
  refine rs_fld T.cls st io (rn_var st 0) (d := eI (hts g)) (rn_c0 (c_heights_of T) hr (by decide) rfl (ra_one (rn_var st 1)) ?_) rfl fun G2 H2 st io => ?_
  · exact ⟨g, rfl, by omega, rfl⟩
  refine rs_fld T.cls st io (rn_var st 0) (rn_lenL T.free (rn_var st 1)) rfl fun G2 H2 st io => ?_
  refine rs_fld T.cls st io (rn_var st 0) (d := .int ((hts g).getLastD 0)) (rn_ixT (rn_fldI T.cls io (rn_var st 0) (j := 1) rfl rfl) (rn_neg (rn_int st.ex)) ?_) rfl fun G2 H2 st io => ?_
  · rw [hts_last, hts_split, List.map_append]
    exact atI_last
  rw [el] at io
  exact wb_nil (q _ _ st.st io)

def R_Rule_init : List Dt → List Dt → Prop := fun ds fs => ∃ (l : Int) (lo hi : OI), ds = [.int l, oD lo, oD hi] ∧ (1 ≤ l ∧ l ≤ 48) ∧ ab lo hi = true ∧ fs = [.int l, oD lo, oD hi]
theorem m_rule (T : Txt K mg) : C8.Mak P w K mg base 4 "Rule" (Cl.ad K .rule) (Ini K .rule R_Rule_init) [] := by
  refine mak_of (cl := .rule) (dds := []) (st := s_Rule_init) (N := n_Rule_init) (ps := ["self", "length", "low", "high"]) (dfl := [.non, .non]) T 63 rfl (show (("Rule" : Str), (648 : Addr)) ∈ gloL by decide +kernel) (show ((648 : Addr), f_Rule_init) ∈ mkL by decide +kernel) (by decide +kernel) (fun fd F => FunD.binds1 F 4 2 (by simp) rfl fun _ _ _ _ _ _ _ us its hu hi => match us, its, hu, hi with | [_, _, _, _], [_, _], _, _ => ⟨_, rfl, rfl⟩) (fun ds d h => by obtain ⟨_, _, _, rfl, _⟩ := h; rfl) (fun ds d h => by obtain ⟨_, _, _, rfl, hl, hab, rfl⟩ := h; rfl) ?_
  rintro f cdv A outer s G H x dx Q E σ ds fs hr ⟨l, lo, hi, rfl, hl, hab, rfl⟩ st io q
  refine ri_do (d := .non) st io (rn_c0 (c_need_number T) hr (by decide) rfl (ra_cons (rn_var st 1) (ra_cons (rn_str st.ex) (ra_cons (rn_int st.ex) (ra_one (rn_gint (i := 48) T st.ex))))) ?_) fun G2 H2 st io => ?_
  · exact ⟨l, _, some 1, some 48, rfl, by simp [wi]; omega, rfl⟩
  refine ri_do (d := .non) st io (rn_c0 (c_need_bound T) hr (by decide) rfl (ra_cons (rn_var st 2) (ra_one (rn_str st.ex))) ?_) fun G2 H2 st io => ?_
  · exact ⟨lo, _, rfl, rfl⟩
  refine ri_do (d := .non) st io (rn_c0 (c_need_bound T) hr (by decide) rfl (ra_cons (rn_var st 3) (ra_one (rn_str st.ex))) ?_) fun G2 H2 st io => ?_
  · exact ⟨hi, _, rfl, rfl⟩
  refine ri_need st io (rt_v (rn_c0 (c_are_bounds T) hr (by decide) rfl (ra_cons (rn_var st 2) (ra_one (rn_var st 3))) ?_)) fun G2 H2 st io => ?_
  · exact ⟨lo, hi, rfl, by rw [hab]⟩
  refine rs_fld T.cls st io (rn_var st 0) (rn_var st 1) rfl fun G2 H2 st io => ?_
  refine rs_fld T.cls st io (rn_var st 0) (rn_var st 2) rfl fun G2 H2 st io => ?_
  refine rs_fld T.cls st io (rn_var st 0) (rn_var st 3) rfl fun G2 H2 st io => ?_
  exact wb_nil (q _ _ st.st io)

def R_Some_init : List Dt → List Dt → Prop := R_Rule_init
theorem m_some (T : Txt K mg) : C8.Mak P w K mg base 4 "Some" (Cl.ad K .some) (Ini K .some R_Some_init) [] := by
  refine mak_of (cl := .some) (dds := []) (st := s_Some_init) (N := n_Some_init) (ps := ["self", "length", "low", "high"]) (dfl := [.non, .non]) T 67 rfl (show (("Some" : Str), (732 : Addr)) ∈ gloL by decide +kernel) (show ((732 : Addr), f_Some_init) ∈ mkL by decide +kernel) (by decide +kernel) (fun fd F => FunD.binds1 F 4 2 (by simp) rfl fun _ _ _ _ _ _ _ us its hu hi => match us, its, hu, hi with | [_, _, _, _], [_, _], _, _ => ⟨_, rfl, rfl⟩) (fun ds d h => by obtain ⟨_, _, _, rfl, _⟩ := h; rfl) (fun ds d h => by obtain ⟨_, _, _, rfl, hl, hab, rfl⟩ := h; rfl) ?_
  rintro f cdv A outer s G H x dx Q E σ ds fs hr ⟨l, lo, hi, rfl, hl, hab, rfl⟩ st io q
  refine ri_do (d := .non) st io (rn_c0 (c_need_number T) hr (by decide) rfl (ra_cons (rn_var st 1) (ra_cons (rn_str st.ex) (ra_cons (rn_int st.ex) (ra_one (rn_gint (i := 48) T st.ex))))) ?_) fun G2 H2 st io => ?_
  · exact ⟨l, _, some 1, some 48, rfl, by simp [wi]; omega, rfl⟩
  refine ri_do (d := .non) st io (rn_c0 (c_need_bounds T) hr (by decide) rfl (ra_cons (rn_var st 2) (ra_one (rn_var st 3))) ?_) fun G2 H2 st io => ?_
  · exact ⟨lo, hi, rfl, hab, rfl⟩
  refine rs_fld T.cls st io (rn_var st 0) (rn_var st 1) rfl fun G2 H2 st io => ?_
  refine rs_fld T.cls st io (rn_var st 0) (rn_var st 2) rfl fun G2 H2 st io => ?_
  refine rs_fld T.cls st io (rn_var st 0) (rn_var st 3) rfl fun G2 H2 st io => ?_
  exact wb_nil (q _ _ st.st io)

def R_Just_init : List Dt → List Dt → Prop := fun ds fs => ∃ (l n : Int), ds = [.int l, .int n] ∧ (1 ≤ l ∧ l ≤ 48) ∧ fs = [.int l, .int n]
theorem m_just (T : Txt K mg) : C8.Mak P w K mg base 4 "Just" (Cl.ad K .just) (Ini K .just R_Just_init) [] := by
  refine mak_of (cl := .just) (dds := []) (st := s_Just_init) (N := n_Just_init) (ps := ["self", "length", "number"]) (dfl := []) T 70 rfl (show (("Just" : Str), (791 : Addr)) ∈ gloL by decide +kernel) (show ((791 : Addr), f_Just_init) ∈ mkL by decide +kernel) (by decide +kernel) (fun fd F => ⟨[], .nil, FunD.bindsN F fun _ _ _ _ _ _ us hl => match us, hl with | [_, _, _], _ => rfl⟩) (fun ds d h => by obtain ⟨_, _, rfl, _⟩ := h; rfl) (fun ds d h => by obtain ⟨_, _, rfl, hl, rfl⟩ := h; rfl) ?_
  rintro f cdv A outer s G H x dx Q E σ ds fs hr ⟨l, n, rfl, hl, rfl⟩ st io q
  refine ri_do (d := .non) st io (rn_c0 (c_need_number T) hr (by decide) rfl (ra_cons (rn_var st 1) (ra_cons (rn_str st.ex) (ra_cons (rn_int st.ex) (ra_one (rn_gint (i := 48) T st.ex))))) ?_) fun G2 H2 st io => ?_
  · exact ⟨l, _, some 1, some 48, rfl, by simp [wi]; omega, rfl⟩
  refine ri_need st io (rt_v (rn_c0 (c_is_integer T) hr (by decide) rfl (ra_one (rn_var st 2)) ?_)) fun G2 H2 st io => ?_
  · exact int_is n
  refine rs_fld T.cls st io (rn_var st 0) (rn_var st 1) rfl fun G2 H2 st io => ?_
  refine rs_fld T.cls st io (rn_var st 0) (rn_var st 2) rfl fun G2 H2 st io => ?_
  exact wb_nil (q _ _ st.st io)

def R_Told_init : List Dt → List Dt → Prop := fun ds fs => ∃ (b l : Int) (lo hi : OI), ds = [.int b, .int l, oD lo, oD hi] ∧ (0 ≤ b ∧ b ≤ 47 ∧ 1 ≤ l ∧ l ≤ 48) ∧ ab lo hi = true ∧ fs = [.int b, .int l, oD lo, oD hi]
theorem m_told (T : Txt K mg) : C8.Mak P w K mg base 4 "Told" (Cl.ad K .told) (Ini K .told R_Told_init) [] := by
  refine mak_of (cl := .told) (dds := []) (st := s_Told_init) (N := n_Told_init) (ps := ["self", "begin", "length", "low", "high"]) (dfl := [.non, .non]) T 73 rfl (show (("Told" : Str), (851 : Addr)) ∈ gloL by decide +kernel) (show ((851 : Addr), f_Told_init) ∈ mkL by decide +kernel) (by decide +kernel) (fun fd F => FunD.binds1 F 5 2 (by simp) rfl fun _ _ _ _ _ _ _ us its hu hi => match us, its, hu, hi with | [_, _, _, _, _], [_, _], _, _ => ⟨_, rfl, rfl⟩) (fun ds d h => by obtain ⟨_, _, _, _, rfl, _⟩ := h; rfl) (fun ds d h => by obtain ⟨_, _, _, _, rfl, hl, hab, rfl⟩ := h; rfl) ?_
  rintro f cdv A outer s G H x dx Q E σ ds fs hr ⟨b, l, lo, hi, rfl, hl, hab, rfl⟩ st io q
  refine ri_do (d := .non) st io (rn_c0 (c_need_number T) hr (by decide) rfl (ra_cons (rn_var st 1) (ra_cons (rn_str st.ex) (ra_cons (rn_int st.ex) (ra_one (rn_gint (i := 47) T st.ex))))) ?_) fun G2 H2 st io => ?_
  · exact ⟨b, _, some 0, some 47, rfl, by simp [wi]; omega, rfl⟩
  refine ri_do (d := .non) st io (rn_c0 (c_need_number T) hr (by decide) rfl (ra_cons (rn_var st 2) (ra_cons (rn_str st.ex) (ra_cons (rn_int st.ex) (ra_one (rn_gint (i := 48) T st.ex))))) ?_) fun G2 H2 st io => ?_
  · exact ⟨l, _, some 1, some 48, rfl, by simp [wi]; omega, rfl⟩
  refine ri_do (d := .non) st io (rn_c0 (c_need_bounds T) hr (by decide) rfl (ra_cons (rn_var st 3) (ra_one (rn_var st 4))) ?_) fun G2 H2 st io => ?_
  · exact ⟨lo, hi, rfl, hab, rfl⟩
  refine rs_fld T.cls st io (rn_var st 0) (rn_var st 1) rfl fun G2 H2 st io => ?_
  refine rs_fld T.cls st io (rn_var st 0) (rn_var st 2) rfl fun G2 H2 st io => ?_
  refine rs_fld T.cls st io (rn_var st 0) (rn_var st 3) rfl fun G2 H2 st io => ?_
  refine rs_fld T.cls st io (rn_var st 0) (rn_var st 4) rfl fun G2 H2 st io => ?_
  exact wb_nil (q _ _ st.st io)

def R_SayingBook_init : List Dt → List Dt → Prop := fun ds fs => ∃ (D : Int) (ss : List Sg), ds = [.int D, .lst (ss.map eSg)] ∧ (1 ≤ D ∧ D ≤ 12) ∧ ss.length ≤ 8 ∧ (∀ s ∈ ss, fitS D s = true) ∧ fs = [.int D, .tup (ss.map eSg)]
theorem m_sbook (T : Txt K mg) : C8.Mak P w K mg base 4 "SayingBook" (Cl.ad K .sbook) (Ini K .sbook R_SayingBook_init) [] := by
  refine mak_of (cl := .sbook) (dds := []) (st := s_SayingBook_init) (N := n_SayingBook_init) (ps := ["self", "days", "sayings"]) (dfl := []) T 76 rfl (show (("SayingBook" : Str), (1005 : Addr)) ∈ gloL by decide +kernel) (show ((1005 : Addr), f_SayingBook_init) ∈ mkL by decide +kernel) (by decide +kernel) (fun fd F => ⟨[], .nil, FunD.bindsN F fun _ _ _ _ _ _ us hl => match us, hl with | [_, _, _], _ => rfl⟩) (fun ds d h => by obtain ⟨_, _, rfl, _⟩ := h; rfl) (fun ds d h => by obtain ⟨_, _, rfl, hD, hl, hf, rfl⟩ := h; rfl) ?_
  rintro f cdv A outer s G H x dx Q E σ ds fs hr ⟨D, ss, rfl, hD, hl, hf, rfl⟩ st io q
  have el : ((ss.map eSg).length : Int) = ss.length := by rw [List.length_map]
  refine ri_do (d := .non) st io (rn_c0 (c_need_number T) hr (by decide) rfl (ra_cons (rn_var st 1) (ra_cons (rn_str st.ex) (ra_cons (rn_int st.ex) (ra_one (rn_gint (i := 12) T st.ex))))) ?_) fun G2 H2 st io => ?_
  · exact ⟨D, _, some 1, some 12, rfl, by simp [wi]; omega, rfl⟩
  refine ri_need st io (rt_v (rn_c0 (c_are_sayings T) hr (by decide) rfl (ra_one (rn_var st 2)) ?_)) fun G2 H2 st io => ?_
  · exact ⟨ss, rfl, by omega, rfl⟩
  refine ri_for (j := 3) (enc := eSg) (xs := ss) (fun pre => [some (.adr x), some (.int D), some (.lst (ss.map eSg)), pre.getLast?.map eSg]) st io (wk_list (rn_var st 2)) (fun pre u post ex σ2 G2 H2 st io D2 k => ?_) fun σ' G' H' st io => ?_
  · refine rs_expr (d := .non) (rn_c0 (c_need_fit T) hr (by decide) rfl (ra_cons (rn_var st 1) (ra_one (rn_var st 3))) ?_) fun v G3 H3 s3 _ => wb_nil (k σ2 G3 H3 s3 ?_ (io.stp s3))
    · exact ⟨D, u, rfl, hf u (by rw [ex]; simp), rfl⟩
    · rw [List.getLast?_concat]
      exact st.stp s3
  refine ri_skip st io (rt_to (rc_t (rc_gt (rn_lenL T.free (rn_var st 2)) (rn_gint (i := 8) T st.ex))) ?_) fun G2 H2 st io => ?_
  · rw [el]
    exact decide_eq_false (by omega)
  refine rs_fld T.cls st io (rn_var st 0) (rn_var st 1) rfl fun G2 H2 st io => ?_
  refine rs_fld T.cls st io (rn_var st 0) (rn_tupL T.free (rn_var st 2)) rfl fun G2 H2 st io => ?_
  exact wb_nil (q _ _ st.st io)
end
end Y
set_option Elab.async false
set_option linter.all false
set_option maxRecDepth 100000
set_option maxHeartbeats 4000000
/-! D6b: the last bound left out. -/
namespace Y
open PySem PySem.Spec PyProof.Rows L2
section
variable {P : Program} {w : World} {K : PySem.W.Frag} {mg : Str → Option Value} {base : Heap}
theorem m_some2 (T : Txt K mg) : C8.Mak P w K mg base 4 "Some" (Cl.ad K .some) (Ini K .some R_Some_init) [.non] := by
  refine mak_of (cl := .some) (dds := []) (st := s_Some_init) (N := n_Some_init) (ps := ["self", "length", "low", "high"]) (dfl := [.non, .non]) T 67 rfl (show (("Some" : Str), (732 : Addr)) ∈ gloL by decide +kernel) (show ((732 : Addr), f_Some_init) ∈ mkL by decide +kernel) (by decide +kernel) (fun fd F => FunD.binds1 F 3 1 (by simp) rfl fun _ _ _ _ _ _ _ us its hu hi => match us, its, hu, hi with | [_, _, _], [_, _], _, _ => ⟨_, rfl, rfl⟩) (fun ds d h => by obtain ⟨_, _, _, rfl, _⟩ := h; rfl) (fun ds d h => by obtain ⟨_, _, _, rfl, hl, hab, rfl⟩ := h; rfl) ?_
  rintro f cdv A outer s G H x dx Q E σ ds fs hr ⟨l, lo, hi, rfl, hl, hab, rfl⟩ st io q
  refine ri_do (d := .non) st io (rn_c0 (c_need_number T) hr (by decide) rfl (ra_cons (rn_var st 1) (ra_cons (rn_str st.ex) (ra_cons (rn_int st.ex) (ra_one (rn_gint (i := 48) T st.ex))))) ?_) fun G2 H2 st io => ?_
  · exact ⟨l, _, some 1, some 48, rfl, by simp [wi]; omega, rfl⟩
  refine ri_do (d := .non) st io (rn_c0 (c_need_bounds T) hr (by decide) rfl (ra_cons (rn_var st 2) (ra_one (rn_var st 3))) ?_) fun G2 H2 st io => ?_
  · exact ⟨lo, hi, rfl, hab, rfl⟩
  refine rs_fld T.cls st io (rn_var st 0) (rn_var st 1) rfl fun G2 H2 st io => ?_
  refine rs_fld T.cls st io (rn_var st 0) (rn_var st 2) rfl fun G2 H2 st io => ?_
  refine rs_fld T.cls st io (rn_var st 0) (rn_var st 3) rfl fun G2 H2 st io => ?_
  exact wb_nil (q _ _ st.st io)

theorem m_told3 (T : Txt K mg) : C8.Mak P w K mg base 4 "Told" (Cl.ad K .told) (Ini K .told R_Told_init) [.non] := by
  refine mak_of (cl := .told) (dds := []) (st := s_Told_init) (N := n_Told_init) (ps := ["self", "begin", "length", "low", "high"]) (dfl := [.non, .non]) T 73 rfl (show (("Told" : Str), (851 : Addr)) ∈ gloL by decide +kernel) (show ((851 : Addr), f_Told_init) ∈ mkL by decide +kernel) (by decide +kernel) (fun fd F => FunD.binds1 F 4 1 (by simp) rfl fun _ _ _ _ _ _ _ us its hu hi => match us, its, hu, hi with | [_, _, _, _], [_, _], _, _ => ⟨_, rfl, rfl⟩) (fun ds d h => by obtain ⟨_, _, _, _, rfl, _⟩ := h; rfl) (fun ds d h => by obtain ⟨_, _, _, _, rfl, hl, hab, rfl⟩ := h; rfl) ?_
  rintro f cdv A outer s G H x dx Q E σ ds fs hr ⟨b, l, lo, hi, rfl, hl, hab, rfl⟩ st io q
  refine ri_do (d := .non) st io (rn_c0 (c_need_number T) hr (by decide) rfl (ra_cons (rn_var st 1) (ra_cons (rn_str st.ex) (ra_cons (rn_int st.ex) (ra_one (rn_gint (i := 47) T st.ex))))) ?_) fun G2 H2 st io => ?_
  · exact ⟨b, _, some 0, some 47, rfl, by simp [wi]; omega, rfl⟩
  refine ri_do (d := .non) st io (rn_c0 (c_need_number T) hr (by decide) rfl (ra_cons (rn_var st 2) (ra_cons (rn_str st.ex) (ra_cons (rn_int st.ex) (ra_one (rn_gint (i := 48) T st.ex))))) ?_) fun G2 H2 st io => ?_
  · exact ⟨l, _, some 1, some 48, rfl, by simp [wi]; omega, rfl⟩
  refine ri_do (d := .non) st io (rn_c0 (c_need_bounds T) hr (by decide) rfl (ra_cons (rn_var st 3) (ra_one (rn_var st 4))) ?_) fun G2 H2 st io => ?_
  · exact ⟨lo, hi, rfl, hab, rfl⟩
  refine rs_fld T.cls st io (rn_var st 0) (rn_var st 1) rfl fun G2 H2 st io => ?_
  refine rs_fld T.cls st io (rn_var st 0) (rn_var st 2) rfl fun G2 H2 st io => ?_
  refine rs_fld T.cls st io (rn_var st 0) (rn_var st 3) rfl fun G2 H2 st io => ?_
  refine rs_fld T.cls st io (rn_var st 0) (rn_var st 4) rfl fun G2 H2 st io => ?_
  exact wb_nil (q _ _ st.st io)
end
end Y
set_option Elab.async false
set_option linter.all false
set_option maxRecDepth 100000
set_option maxHeartbeats 4000000
/-! D7: the methods of rules and sayings. -/
namespace Y
open PySem PySem.Spec PyProof.Rows L2
section
variable {P : Program} {w : World} {K : PySem.W.Frag} {mg : Str → Option Value} {base : Heap}
/-- the sum over the stretch (b, l) -/
def sumAt (g : List Int) (b l : Int) : Int := (hts g).getD (b + l).toNat 0 - (hts g).getD b.toNat 0
def firstBad (l : Int) (lo hi : OI) (g : List Int) : OI := (rgI 0 (g.length - l + 1).toNat).find? fun b => !wi (sumAt g b l) lo hi
def R_Rule_first_broken : List Dt → Dt → Prop := fun ds d => ∃ (l : Int) (lo hi : OI) (g : List Int), ds = [eSg (.rule l lo hi), eRow g] ∧ (0 ≤ l ∧ l ≤ 1000) ∧ g.length ≤ 1000 ∧ d = oD (firstBad l lo hi g)
theorem t_Rule_first_broken (T : Txt K mg) : C8.Met P w K mg base 4 (Cl.ad K .rule) "first_broken" (Pu K R_Rule_first_broken) [] := by
  refine met_of (st := s_Rule_first_broken) (N := n_Rule_first_broken) (ps := ["self", "row"]) T 65 rfl (show ((648 : Addr), ("first_broken" : Str), f_Rule_first_broken) ∈ methL by decide +kernel) (show (648 : Addr) ∈ clsL by decide) (by decide +kernel) (fun _ _ _ _ _ _ us hl => match us, hl with | [_, _], _ => rfl) (fun ds d h => by obtain ⟨_, _, _, _, rfl, _⟩ := h; rfl) ?_
  rintro f cdv A outer s G H Q E σ ds d hr ⟨l, lo, hi, g, rfl, hl, hg, rfl⟩ st q
  have hln := hts_len g
  refine rs_do (d := .non) st (rn_c0 (c_need_row T) hr (by decide) rfl (ra_cons (rn_var st 1) (ra_one (rn_str st.ex))) ?_) fun G2 H2 st => ?_
  · exact ⟨_, _, rfl, rfl⟩
  refine rs_forP (j := 2) (enc := .int) (xs := rgI 0 (g.length - l + 1).toNat) (fun pre => ∀ b ∈ pre, wi (sumAt g b l) lo hi = true) (fun pre => [some (eSg (.rule l lo hi)), some (eRow g), pre.getLast?.map .int]) (fun _ => []) st (fun _ h => by cases h) (by rw [← rgD_eq]; exact wk_rg1 T.free (rn_add (rn_sub (rn_fld T.cls (rn_var st 1) (i := 2) rfl rfl) (rn_fld T.cls (rn_var st 0) (i := 0) rfl rfl)) (rn_int st.ex)) (by omega)) (fun G1 H1 s1 pre y post ex hI σ2 G2 H2 st => ?_) fun hI σ' G' H' st => ?_
  · have hm : y ∈ rgI 0 (g.length - l + 1).toNat := by rw [ex]; simp
    have hm := mem_rgI hm
    refine rs_ifT st (k := !wi (sumAt g y l) lo hi) (rt_not (rt_v (rn_c0 (c_is_within T) hr (by decide) rfl (ra_cons (rn_sub (rn_ixTI (rn_fld T.cls (rn_var st 1) (i := 1) rfl rfl) (rn_add (rn_var st 2) (rn_fld T.cls (rn_var st 0) (i := 0) rfl rfl)) ?_ ?_) (rn_ixTI (rn_fld T.cls (rn_var st 1) (i := 1) rfl rfl) (rn_var st 2) ?_ ?_)) (ra_cons (rn_fld T.cls (rn_var st 0) (i := 1) rfl rfl) (ra_one (rn_fld T.cls (rn_var st 0) (i := 2) rfl rfl)))) ?_))) (fun hk G2 H2 st => ?_) fun hk G2 H2 st => ?_
    · omega
    · omega
    · omega
    · omega
    · exact ⟨sumAt g y l, lo, hi, rfl, rfl⟩
    · have e : firstBad l lo hi g = some y := by
        unfold firstBad
        rw [ex, List.find?_append, List.find?_eq_none.mpr (fun b hb => by rw [hI b hb]; simp), Option.none_or, List.find?_cons, hk]
      rw [e] at q
      exact rs_rq (st.out s1) q (rn_var st 2)
    · refine wb_nil ⟨fun b hb => ?_, G2, ?_⟩
      · rcases List.mem_append.mp hb with z | z
        · exact hI b z
        · rw [List.mem_singleton.mp z]
          simpa using hk
      · rw [List.getLast?_concat]
        exact st
  · have e : firstBad l lo hi g = none := List.find?_eq_none.mpr fun b hb => by rw [hI b hb]; simp
    rw [e] at q
    exact rs_rq st q (rn_non st.ex)

def R_Rule_keeps : List Dt → Dt → Prop := fun ds d => ∃ (l : Int) (lo hi : OI) (g : List Int), ds = [eSg (.rule l lo hi), eRow g] ∧ (0 ≤ l ∧ l ≤ 1000) ∧ g.length ≤ 1000 ∧ d = .bl (firstBad l lo hi g).isNone
theorem t_Rule_keeps (T : Txt K mg) : C8.Met P w K mg base 5 (Cl.ad K .rule) "keeps" (Pu K R_Rule_keeps) [] := by
  refine met_of (st := s_Rule_keeps) (N := n_Rule_keeps) (ps := ["self", "row"]) T 64 rfl (show ((648 : Addr), ("keeps" : Str), f_Rule_keeps) ∈ methL by decide +kernel) (show (648 : Addr) ∈ clsL by decide) (by decide +kernel) (fun _ _ _ _ _ _ us hl => match us, hl with | [_, _], _ => rfl) (fun ds d h => by obtain ⟨_, _, _, _, rfl, _⟩ := h; rfl) ?_
  rintro f cdv A outer s G H Q E σ ds d hr ⟨l, lo, hi, g, rfl, hl, hg, rfl⟩ st q
  refine rs_rq st q (rn_to (rc_v (rc_isN st.ex (d := oD (firstBad l lo hi g)) (rn_me (cl := .rule) (t_Rule_first_broken T) hr (by decide) (rn_var st 0) (by decide) (ra_one (rn_var st 1)) ?_))) ?_)
  · exact ⟨l, lo, hi, g, rfl, hl, hg, rfl⟩
  rw [rep_oD (K := K) (G := G)]

def R_Rule_turned : List Dt → Dt → Prop := fun ds d => ∃ (l : Int) (lo hi : OI), ds = [eSg (.rule l lo hi)] ∧ (1 ≤ l ∧ l ≤ 48) ∧ ab (ngO hi) (ngO lo) = true ∧ d = eSg (.rule l (ngO hi) (ngO lo))
theorem t_Rule_turned (T : Txt K mg) : C8.Met P w K mg base 6 (Cl.ad K .rule) "turned" (Pu K R_Rule_turned) [] := by
  refine met_of (st := s_Rule_turned) (N := n_Rule_turned) (ps := ["self"]) T 66 rfl (show ((648 : Addr), ("turned" : Str), f_Rule_turned) ∈ methL by decide +kernel) (show (648 : Addr) ∈ clsL by decide) (by decide +kernel) (fun _ _ _ _ _ _ us hl => match us, hl with | [_], _ => rfl) (fun ds d h => by obtain ⟨_, _, _, rfl, _⟩ := h; rfl) ?_
  rintro f cdv A outer s G H Q E σ ds d hr ⟨l, lo, hi, rfl, hl, hab, rfl⟩ st q
  refine rs_rq st q (rn_m0 (cl := .rule) (ds := [.int l, oD (ngO hi), oD (ngO lo)]) (m_rule T) hr (by decide) rfl (ra_cons (rn_fld T.cls (rn_var st 0) (i := 0) rfl rfl) (ra_cons (rn_c0 (c_contrary T) hr (by decide) rfl (ra_one (rn_fld T.cls (rn_var st 0) (i := 2) rfl rfl)) ?_) (ra_one (rn_c0 (c_contrary T) hr (by decide) rfl (ra_one (rn_fld T.cls (rn_var st 0) (i := 1) rfl rfl)) ?_)))) ?_)
  · exact ⟨hi, rfl, rfl⟩
  · exact ⟨lo, rfl, rfl⟩
  · exact ⟨l, ngO hi, ngO lo, rfl, hl, hab, rfl⟩

def R_Some_turned : List Dt → Dt → Prop := fun ds d => ∃ (l : Int) (lo hi : OI), ds = [eSg (.some l lo hi)] ∧ (1 ≤ l ∧ l ≤ 48) ∧ ab (ngO hi) (ngO lo) = true ∧ d = eSg (.some l (ngO hi) (ngO lo))
theorem t_Some_turned (T : Txt K mg) : C8.Met P w K mg base 6 (Cl.ad K .some) "turned" (Pu K R_Some_turned) [] := by
  refine met_of (st := s_Some_turned) (N := n_Some_turned) (ps := ["self"]) T 69 rfl (show ((732 : Addr), ("turned" : Str), f_Some_turned) ∈ methL by decide +kernel) (show (732 : Addr) ∈ clsL by decide) (by decide +kernel) (fun _ _ _ _ _ _ us hl => match us, hl with | [_], _ => rfl) (fun ds d h => by obtain ⟨_, _, _, rfl, _⟩ := h; rfl) ?_
  rintro f cdv A outer s G H Q E σ ds d hr ⟨l, lo, hi, rfl, hl, hab, rfl⟩ st q
  refine rs_rq st q (rn_m0 (cl := .some) (ds := [.int l, oD (ngO hi), oD (ngO lo)]) (m_some T) hr (by decide) rfl (ra_cons (rn_fld T.cls (rn_var st 0) (i := 0) rfl rfl) (ra_cons (rn_c0 (c_contrary T) hr (by decide) rfl (ra_one (rn_fld T.cls (rn_var st 0) (i := 2) rfl rfl)) ?_) (ra_one (rn_c0 (c_contrary T) hr (by decide) rfl (ra_one (rn_fld T.cls (rn_var st 0) (i := 1) rfl rfl)) ?_)))) ?_)
  · exact ⟨hi, rfl, rfl⟩
  · exact ⟨lo, rfl, rfl⟩
  · exact ⟨l, ngO hi, ngO lo, rfl, hl, hab, rfl⟩

def R_Told_turned : List Dt → Dt → Prop := fun ds d => ∃ (b l : Int) (lo hi : OI), ds = [eSg (.told b l lo hi)] ∧ (0 ≤ b ∧ b ≤ 47 ∧ 1 ≤ l ∧ l ≤ 48) ∧ ab (ngO hi) (ngO lo) = true ∧ d = eSg (.told b l (ngO hi) (ngO lo))
theorem t_Told_turned (T : Txt K mg) : C8.Met P w K mg base 6 (Cl.ad K .told) "turned" (Pu K R_Told_turned) [] := by
  refine met_of (st := s_Told_turned) (N := n_Told_turned) (ps := ["self"]) T 75 rfl (show ((851 : Addr), ("turned" : Str), f_Told_turned) ∈ methL by decide +kernel) (show (851 : Addr) ∈ clsL by decide) (by decide +kernel) (fun _ _ _ _ _ _ us hl => match us, hl with | [_], _ => rfl) (fun ds d h => by obtain ⟨_, _, _, _, rfl, _⟩ := h; rfl) ?_
  rintro f cdv A outer s G H Q E σ ds d hr ⟨b, l, lo, hi, rfl, hl, hab, rfl⟩ st q
  refine rs_rq st q (rn_m0 (cl := .told) (ds := [.int b, .int l, oD (ngO hi), oD (ngO lo)]) (m_told T) hr (by decide) rfl (ra_cons (rn_fld T.cls (rn_var st 0) (i := 0) rfl rfl) (ra_cons (rn_fld T.cls (rn_var st 0) (i := 1) rfl rfl) (ra_cons (rn_c0 (c_contrary T) hr (by decide) rfl (ra_one (rn_fld T.cls (rn_var st 0) (i := 3) rfl rfl)) ?_) (ra_one (rn_c0 (c_contrary T) hr (by decide) rfl (ra_one (rn_fld T.cls (rn_var st 0) (i := 2) rfl rfl)) ?_))))) ?_)
  · exact ⟨hi, rfl, rfl⟩
  · exact ⟨lo, rfl, rfl⟩
  · exact ⟨b, l, ngO hi, ngO lo, rfl, hl, hab, rfl⟩

def R_Just_turned : List Dt → Dt → Prop := fun ds d => ∃ (l n : Int), ds = [eSg (.just l n)] ∧ (1 ≤ l ∧ l ≤ 48) ∧ d = eSg (.just l (-n))
theorem t_Just_turned (T : Txt K mg) : C8.Met P w K mg base 6 (Cl.ad K .just) "turned" (Pu K R_Just_turned) [] := by
  refine met_of (st := s_Just_turned) (N := n_Just_turned) (ps := ["self"]) T 72 rfl (show ((791 : Addr), ("turned" : Str), f_Just_turned) ∈ methL by decide +kernel) (show (791 : Addr) ∈ clsL by decide) (by decide +kernel) (fun _ _ _ _ _ _ us hl => match us, hl with | [_], _ => rfl) (fun ds d h => by obtain ⟨_, _, rfl, _⟩ := h; rfl) ?_
  rintro f cdv A outer s G H Q E σ ds d hr ⟨l, n, rfl, hl, rfl⟩ st q
  refine rs_rq st q (rn_m0 (cl := .just) (ds := [.int l, .int (-n)]) (m_just T) hr (by decide) rfl (ra_cons (rn_fld T.cls (rn_var st 0) (i := 0) rfl rfl) (ra_one (rn_neg (rn_fld T.cls (rn_var st 0) (i := 1) rfl rfl)))) ?_)
  exact ⟨l, -n, rfl, hl, rfl⟩

def R_Some_keeps : List Dt → Dt → Prop := fun ds d => ∃ (l : Int) (lo hi : OI) (g : List Int), ds = [eSg (.some l lo hi), eRow g] ∧ (0 ≤ l ∧ l ≤ 1000) ∧ g.length ≤ 1000 ∧ d = .bl ((sumsIn g l).any fun t => wi t lo hi)
theorem t_Some_keeps (T : Txt K mg) : C8.Met P w K mg base 5 (Cl.ad K .some) "keeps" (Pu K R_Some_keeps) [] := by
  refine met_of (st := s_Some_keeps) (N := n_Some_keeps) (ps := ["self", "row"]) T 68 rfl (show ((732 : Addr), ("keeps" : Str), f_Some_keeps) ∈ methL by decide +kernel) (show (732 : Addr) ∈ clsL by decide) (by decide +kernel) (fun _ _ _ _ _ _ us hl => match us, hl with | [_, _], _ => rfl) (fun ds d h => by obtain ⟨_, _, _, _, rfl, _⟩ := h; rfl) ?_
  rintro f cdv A outer s G H Q E σ ds d hr ⟨l, lo, hi, g, rfl, hl, hg, rfl⟩ st q
  refine rs_do (d := .non) st (rn_c0 (c_need_row T) hr (by decide) rfl (ra_cons (rn_var st 1) (ra_one (rn_str st.ex))) ?_) fun G2 H2 st => ?_
  · exact ⟨_, _, rfl, rfl⟩
  have e : ∀ ns : List Int, (ns.map fun t => Dt.bl (wi t lo hi)) = (ns.map fun t => wi t lo hi).map Dt.bl := fun ns => by rw [List.map_map] <;> rfl
  have len : (sumsIn g l).length ≤ 100000 := by
    unfold sumsIn
    rw [List.length_map, rgI_len]
    omega
  refine rs_rq st q (rn_to (rn_any (bs := (sumsIn g l).map fun t => wi t lo hi) T.free rfl (rn_to (rn_map (xs := sumsIn g l) (enc := .int) (i := 2) (f := fun t => .bl (wi t lo hi)) st (wk_list (ds := (sumsIn g l).map .int) (rn_c0 (c_sums_in T) hr (by decide) rfl (ra_cons (rn_var st 1) (ra_one (rn_fld T.cls (rn_var st 0) (i := 0) rfl rfl))) ?_)) len fun s1 HH C cl fp y hy σ' G' H' st => ?_) (by rw [e]))) ?_)
  · exact ⟨g, l, rfl, hl, hg, rfl⟩
  · refine (rn_c0 (c_is_within T) hr (by decide) rfl (ra_cons (rn_var st 2) (ra_cons (rn_fld T.cls (rn_var st 0) (i := 1) rfl rfl) (ra_one (rn_fld T.cls (rn_var st 0) (i := 2) rfl rfl)))) ?_)
    exact ⟨y, lo, hi, rfl, rfl⟩
  · rw [List.any_map]
    rfl

def R_Told_keeps : List Dt → Dt → Prop := fun ds d => ∃ (b l : Int) (lo hi : OI) (g : List Int), ds = [eSg (.told b l lo hi), eRow g] ∧ (0 ≤ b ∧ 0 ≤ l ∧ b + l ≤ g.length) ∧ d = .bl (wi (sumAt g b l) lo hi)
theorem t_Told_keeps (T : Txt K mg) : C8.Met P w K mg base 5 (Cl.ad K .told) "keeps" (Pu K R_Told_keeps) [] := by
  refine met_of (st := s_Told_keeps) (N := n_Told_keeps) (ps := ["self", "row"]) T 74 rfl (show ((851 : Addr), ("keeps" : Str), f_Told_keeps) ∈ methL by decide +kernel) (show (851 : Addr) ∈ clsL by decide) (by decide +kernel) (fun _ _ _ _ _ _ us hl => match us, hl with | [_, _], _ => rfl) (fun ds d h => by obtain ⟨_, _, _, _, _, rfl, _⟩ := h; rfl) ?_
  rintro f cdv A outer s G H Q E σ ds d hr ⟨b, l, lo, hi, g, rfl, hb, rfl⟩ st q
  have hln := hts_len g
  refine rs_do (d := .non) st (rn_c0 (c_need_row T) hr (by decide) rfl (ra_cons (rn_var st 1) (ra_one (rn_str st.ex))) ?_) fun G2 H2 st => ?_
  · exact ⟨_, _, rfl, rfl⟩
  refine rs_do (d := .non) st (rn_c0 (c_need_fit T) hr (by decide) rfl (ra_cons (rn_fld T.cls (rn_var st 1) (i := 2) rfl rfl) (ra_one (rn_var st 0))) ?_) fun G2 H2 st => ?_
  · exact ⟨g.length, .told b l lo hi, rfl, decide_eq_true hb.2.2, rfl⟩
  refine rs_rq st q (rn_c0 (c_is_within T) hr (by decide) rfl (ra_cons (rn_sub (rn_ixTI (rn_fld T.cls (rn_var st 1) (i := 1) rfl rfl) (rn_add (rn_fld T.cls (rn_var st 0) (i := 0) rfl rfl) (rn_fld T.cls (rn_var st 0) (i := 1) rfl rfl)) ?_ ?_) (rn_ixTI (rn_fld T.cls (rn_var st 1) (i := 1) rfl rfl) (rn_fld T.cls (rn_var st 0) (i := 0) rfl rfl) ?_ ?_)) (ra_cons (rn_fld T.cls (rn_var st 0) (i := 2) rfl rfl) (ra_one (rn_fld T.cls (rn_var st 0) (i := 3) rfl rfl)))) ?_)
  · omega
  · omega
  · omega
  · omega
  · exact ⟨sumAt g b l, lo, hi, rfl, rfl⟩

def R_Just_keeps : List Dt → Dt → Prop := fun ds d => ∃ (l n : Int) (g : List Int), ds = [eSg (.just l n), eRow g] ∧ (0 ≤ l ∧ l ≤ 1000) ∧ g.length ≤ 1000 ∧ d = .bl (decide (0 < (sumsIn g l).length) && (decide (lmin (sumsIn g l) ≤ n) && decide (n ≤ lmax (sumsIn g l))))
theorem t_Just_keeps (T : Txt K mg) : C8.Met P w K mg base 5 (Cl.ad K .just) "keeps" (Pu K R_Just_keeps) [] := by
  refine met_of (st := s_Just_keeps) (N := n_Just_keeps) (ps := ["self", "row"]) T 71 rfl (show ((791 : Addr), ("keeps" : Str), f_Just_keeps) ∈ methL by decide +kernel) (show (791 : Addr) ∈ clsL by decide) (by decide +kernel) (fun _ _ _ _ _ _ us hl => match us, hl with | [_, _], _ => rfl) (fun ds d h => by obtain ⟨_, _, _, rfl, _⟩ := h; rfl) ?_
  rintro f cdv A outer s G H Q E σ ds d hr ⟨l, n, g, rfl, hl, hg, rfl⟩ st q
  refine rs_do (d := .non) st (rn_c0 (c_need_row T) hr (by decide) rfl (ra_cons (rn_var st 1) (ra_one (rn_str st.ex))) ?_) fun G2 H2 st => ?_
  · exact ⟨_, _, rfl, rfl⟩
  refine rs_let (i := 2) (d := .lst ((sumsIn g l).map .int)) st (rn_c0 (c_sums_in T) hr (by decide) rfl (ra_cons (rn_var st 1) (ra_one (rn_fld T.cls (rn_var st 0) (i := 0) rfl rfl))) ?_) fun σ2 G2 H2 st => ?_
  · exact ⟨g, l, rfl, hl, hg, rfl⟩
  have el : decide ((0 : Int) < (((sumsIn g l).map Dt.int).length : Nat)) = decide (0 < (sumsIn g l).length) := by
    rw [List.length_map]
    exact decide_eq_decide.mpr (by omega)
  have hne : ∀ h : decide ((0 : Int) < (((sumsIn g l).map Dt.int).length : Nat)) = true, sumsIn g l ≠ [] := fun h z => by
    rw [z] at h
    simp at h
  rw [← el] at q
  exact rs_rq st q (rn_andB (rc_v (rc_gt (rn_lenL T.free (rn_var st 2)) (rn_int st.ex))) fun h => rn_one (rn_chain op_le op_le (rn_min T.free rfl (hne h) (rn_var st 2)) (rn_fld T.cls (rn_var st 0) (i := 1) rfl rfl) (rn_max T.free rfl (hne h) (rn_var st 2))))
end
end Y
set_option Elab.async false
set_option linter.all false
set_option maxRecDepth 100000
set_option maxHeartbeats 4000000
/-! D8: books turned, backwards. -/
namespace Y
open PySem PySem.Spec PyProof.Rows L2
def SgOk : Sg → Prop
  | .rule l lo hi => (1 ≤ l ∧ l ≤ 48) ∧ ab lo hi = true
  | .some l lo hi => (1 ≤ l ∧ l ≤ 48) ∧ ab lo hi = true
  | .just l _ => 1 ≤ l ∧ l ≤ 48
  | .told b l lo hi => (0 ≤ b ∧ b ≤ 47 ∧ 1 ≤ l ∧ l ≤ 48) ∧ ab lo hi = true
def turnS : Sg → Sg
  | .rule l lo hi => .rule l (ngO hi) (ngO lo)
  | .some l lo hi => .some l (ngO hi) (ngO lo)
  | .just l n => .just l (-n)
  | .told b l lo hi => .told b l (ngO hi) (ngO lo)
def backS (D : Int) : Sg → Sg
  | .told b l lo hi => .told (D - b - l) l lo hi
  | s => s
theorem ab_ng (lo hi : OI) : ab (ngO hi) (ngO lo) = ab lo hi := by
  cases lo with
  | none => cases hi <;> rfl
  | some i =>
    cases hi with
    | none => rfl
    | some j => exact decide_eq_decide.mpr (by omega)
theorem fit_turn (D : Int) (s : Sg) : fitS D (turnS s) = fitS D s := by cases s <;> rfl
structure BkOk (k : Bk) : Prop where
  d : 1 ≤ k.1 ∧ k.1 ≤ 12
  n : k.2.length ≤ 8
  ok : ∀ s ∈ k.2, SgOk s
  fit : ∀ s ∈ k.2, fitS k.1 s = true
section
variable {P : Program} {w : World} {K : PySem.W.Frag} {mg : Str → Option Value} {base : Heap}
def R_SayingBook_turned : List Dt → Dt → Prop := fun ds d => ∃ k : Bk, ds = [eBk k] ∧ BkOk k ∧ d = eBk (k.1, k.2.map turnS)
theorem t_SayingBook_turned (T : Txt K mg) : C8.Met P w K mg base 7 (Cl.ad K .sbook) "turned" (Pu K R_SayingBook_turned) [] := by
  refine met_of (st := s_SayingBook_turned) (N := n_SayingBook_turned) (ps := ["self"]) T 79 rfl (show ((1005 : Addr), ("turned" : Str), f_SayingBook_turned) ∈ methL by decide +kernel) (show (1005 : Addr) ∈ clsL by decide) (by decide +kernel) (fun _ _ _ _ _ _ us hl => match us, hl with | [_], _ => rfl) (fun ds d h => by obtain ⟨_, rfl, _⟩ := h; rfl) ?_
  rintro f cdv A outer s G H Q E σ ds d hr ⟨k, rfl, hk, rfl⟩ st q
  have e : (k.2.map turnS).map eSg = k.2.map fun s => eSg (turnS s) := by rw [List.map_map] <;> rfl
  refine rs_rq st q (rn_m0 (cl := .sbook) (ds := [.int k.1, .lst ((k.2.map turnS).map eSg)]) (m_sbook T) hr (by decide) rfl (ra_cons (rn_fld T.cls (rn_var st 0) (i := 0) rfl rfl) (ra_one (rn_to (rn_map (xs := k.2) (enc := eSg) (i := 1) (f := fun s => eSg (turnS s)) st (wk_tup (rn_fld T.cls (rn_var st 0) (i := 1) rfl rfl)) (by have := hk.n; omega) fun s1 HH C cl fp y hy σ' G' H' st => ?_) (by rw [e])))) ?_)
  · have ho := hk.ok y hy
    cases y with
    | rule l lo hi =>
      refine (rn_me0 (cl := .rule) (t_Rule_turned T) hr (by decide) (rn_var st 1) (by decide) ?_)
      exact ⟨l, lo, hi, rfl, ho.1, by rw [ab_ng]; exact ho.2, rfl⟩
    | some l lo hi =>
      refine (rn_me0 (cl := .some) (t_Some_turned T) hr (by decide) (rn_var st 1) (by decide) ?_)
      exact ⟨l, lo, hi, rfl, ho.1, by rw [ab_ng]; exact ho.2, rfl⟩
    | just l n =>
      refine (rn_me0 (cl := .just) (t_Just_turned T) hr (by decide) (rn_var st 1) (by decide) ?_)
      exact ⟨l, n, rfl, ho, rfl⟩
    | told b l lo hi =>
      refine (rn_me0 (cl := .told) (t_Told_turned T) hr (by decide) (rn_var st 1) (by decide) ?_)
      exact ⟨b, l, lo, hi, rfl, ho.1, by rw [ab_ng]; exact ho.2, rfl⟩
  · exact ⟨k.1, k.2.map turnS, rfl, hk.d, by rw [List.length_map]; exact hk.n, fun s hs => by
      obtain ⟨t, ht, rfl⟩ := List.mem_map.mp hs
      rw [fit_turn]
      exact hk.fit t ht, rfl⟩

def R_saying_backwards : List Dt → Dt → Prop := fun ds d => ∃ (D : Int) (s : Sg), ds = [eSg s, .int D] ∧ (D ≤ 48) ∧ SgOk s ∧ fitS D s = true ∧ d = eSg (backS D s)
theorem c_saying_backwards (T : Txt K mg) : C8.Cal P w K mg base 6 "saying_backwards" (Pu K R_saying_backwards) [] := by
  refine cal_of (st := s_saying_backwards) (N := n_saying_backwards) (ps := ["saying", "days"]) T 15 rfl (by decide +kernel) (by decide +kernel) (fun _ _ _ _ _ _ us hl => match us, hl with | [_, _], _ => rfl) (fun ds d h => by obtain ⟨_, _, rfl, _⟩ := h; rfl) ?_
  rintro f cdv A outer s G H Q E σ ds d hr ⟨D, s, rfl, hD, ho, hf, rfl⟩ st q
  cases s with
  | told b l lo hi =>
    have hf : b + l ≤ D := of_decide_eq_true hf
    obtain ⟨⟨h1, h2, h3, h4⟩, hab⟩ := ho
    refine rs_skip st (rt_not (k := true) (rt_to (rt_v (rn_isi (cc := .cl .told) T.cls T.kit T.free (rn_var st 0) (by first | rfl | assumption) (rn_gcl (C := 851) T st.ex))) rfl)) fun G2 H2 st => ?_
    refine rs_rq st q (rn_m0 (m_told T) hr (by decide) rfl (ra_cons (rn_sub (rn_sub (rn_var st 1) (rn_fld T.cls (rn_var st 0) (i := 0) rfl rfl)) (rn_fld T.cls (rn_var st 0) (i := 1) rfl rfl)) (ra_cons (rn_fld T.cls (rn_var st 0) (i := 1) rfl rfl) (ra_cons (rn_fld T.cls (rn_var st 0) (i := 2) rfl rfl) (ra_one (rn_fld T.cls (rn_var st 0) (i := 3) rfl rfl))))) ?_)
    exact ⟨D - b - l, l, lo, hi, rfl, ⟨by omega, by omega, h3, h4⟩, hab, rfl⟩
  | rule l lo hi => exact rs_ifT st (k := true) (rt_not (k := false) (rt_to (rt_v (rn_isi (cc := .cl .told) T.cls T.kit T.free (rn_var st 0) (by first | rfl | assumption) (rn_gcl (C := 851) T st.ex))) rfl)) (fun _ G2 H2 st => rs_rq st q (rn_var st 0)) fun z => Bool.noConfusion z
  | some l lo hi => exact rs_ifT st (k := true) (rt_not (k := false) (rt_to (rt_v (rn_isi (cc := .cl .told) T.cls T.kit T.free (rn_var st 0) (by first | rfl | assumption) (rn_gcl (C := 851) T st.ex))) rfl)) (fun _ G2 H2 st => rs_rq st q (rn_var st 0)) fun z => Bool.noConfusion z
  | just l n => exact rs_ifT st (k := true) (rt_not (k := false) (rt_to (rt_v (rn_isi (cc := .cl .told) T.cls T.kit T.free (rn_var st 0) (by first | rfl | assumption) (rn_gcl (C := 851) T st.ex))) rfl)) (fun _ G2 H2 st => rs_rq st q (rn_var st 0)) fun z => Bool.noConfusion z

def R_SayingBook_backwards : List Dt → Dt → Prop := fun ds d => ∃ k : Bk, ds = [eBk k] ∧ BkOk k ∧ d = eBk (k.1, k.2.map (backS k.1))
theorem t_SayingBook_backwards (T : Txt K mg) : C8.Met P w K mg base 7 (Cl.ad K .sbook) "backwards" (Pu K R_SayingBook_backwards) [] := by
  refine met_of (st := s_SayingBook_backwards) (N := n_SayingBook_backwards) (ps := ["self"]) T 80 rfl (show ((1005 : Addr), ("backwards" : Str), f_SayingBook_backwards) ∈ methL by decide +kernel) (show (1005 : Addr) ∈ clsL by decide) (by decide +kernel) (fun _ _ _ _ _ _ us hl => match us, hl with | [_], _ => rfl) (fun ds d h => by obtain ⟨_, rfl, _⟩ := h; rfl) ?_
  rintro f cdv A outer s G H Q E σ ds d hr ⟨k, rfl, hk, rfl⟩ st q
  have e : (k.2.map (backS k.1)).map eSg = k.2.map fun s => eSg (backS k.1 s) := by rw [List.map_map] <;> rfl
  refine rs_rq st q (rn_m0 (cl := .sbook) (ds := [.int k.1, .lst ((k.2.map (backS k.1)).map eSg)]) (m_sbook T) hr (by decide) rfl (ra_cons (rn_fld T.cls (rn_var st 0) (i := 0) rfl rfl) (ra_one (rn_to (rn_map (xs := k.2) (enc := eSg) (i := 1) (f := fun s => eSg (backS k.1 s)) st (wk_tup (rn_fld T.cls (rn_var st 0) (i := 1) rfl rfl)) (by have := hk.n; omega) fun s1 HH C cl fp y hy σ' G' H' st => ?_) (by rw [e])))) ?_)
  · refine (rn_c0 (c_saying_backwards T) hr (by decide) rfl (ra_cons (rn_var st 1) (ra_one (rn_fld T.cls (rn_var st 0) (i := 0) rfl rfl))) ?_)
    exact ⟨k.1, y, rfl, by have := hk.d; omega, hk.ok y hy, hk.fit y hy, rfl⟩
  · exact ⟨k.1, k.2.map (backS k.1), rfl, hk.d, by rw [List.length_map]; exact hk.n, fun s hs => by
      obtain ⟨t, ht, rfl⟩ := List.mem_map.mp hs
      have ho := hk.ok t ht
      have hf := hk.fit t ht
      cases t with
      | told b l lo hi =>
        obtain ⟨⟨h1, h2, h3, h4⟩, hab⟩ := ho
        exact decide_eq_true (by omega)
      | _ => rfl, rfl⟩
end
end Y
set_option Elab.async false
set_option linter.all false
set_option maxRecDepth 100000
set_option maxHeartbeats 4000000
/-! D9: the law's own small defs. -/
namespace Y
open PySem PySem.Spec PyProof.Rows L2
/-- a saying as the law writes it -/
def eT : Sg → Dt
  | .rule l lo hi => .tup [.str "any", .int l, oD lo, oD hi]
  | .some l lo hi => .tup [.str "some", .int l, oD lo, oD hi]
  | .just l n => .tup [.str "just", .int l, .int n]
  | .told b l lo hi => .tup [.str "told", .int b, .int l, oD lo, oD hi]
section
variable {P : Program} {w : World} {K : PySem.W.Frag} {mg : Str → Option Value} {base : Heap}
def R_Lwithin : List Dt → Dt → Prop := fun ds d => ∃ v lo hi, ds = [.int v, oD lo, oD hi] ∧ d = .bl (wi v lo hi)
theorem c_Lwithin (T : Txt K mg) : C8.Cal P w K mg base 1 "_law_within" (Pu K R_Lwithin) [] := by
  refine cal_of (st := s_Lwithin) (N := n_Lwithin) (ps := ["_law_total", "_law_low", "_law_high"]) T 41 rfl (by decide +kernel) (by decide +kernel) (fun _ _ _ _ _ _ us hl => match us, hl with | [_, _, _], _ => rfl) (fun ds d h => by obtain ⟨_, _, _, rfl, _⟩ := h; rfl) ?_
  rintro f cdv A outer s G H Q E σ ds d hr ⟨v, lo, hi, rfl, rfl⟩ st q
  cases lo with
  | none =>
    cases hi with
    | none => exact rs_retS st (rn_andB (k1 := true) (rn_yes (rn_to (rc_v (rc_isN st.ex (rn_var st 1))) rfl)) fun _ => rn_one (rn_yes (rn_to (rc_v (rc_isN st.ex (rn_var st 2))) rfl))) q
    | some j => exact rs_retS st (rn_andB (k1 := true) (rn_yes (rn_to (rc_v (rc_isN st.ex (rn_var st 1))) rfl)) fun _ => rn_one (rn_go' (rn_to (rc_v (rc_isN st.ex (rn_var st 2))) rfl) (rn_one (rc_v (rc_le (rn_var st 0) (rn_var st 2)))))) q
  | some i =>
    cases hi with
    | none => exact rs_retS st (rn_andB (rn_go' (rn_to (rc_v (rc_isN st.ex (rn_var st 1))) rfl) (rn_one (rc_v (rc_le (rn_var st 1) (rn_var st 0))))) fun _ => rn_one (rn_yes (rn_to (rc_v (rc_isN st.ex (rn_var st 2))) rfl))) q
    | some j => exact rs_retS st (rn_andB (rn_go' (rn_to (rc_v (rc_isN st.ex (rn_var st 1))) rfl) (rn_one (rc_v (rc_le (rn_var st 1) (rn_var st 0))))) fun _ => rn_one (rn_go' (rn_to (rc_v (rc_isN st.ex (rn_var st 2))) rfl) (rn_one (rc_v (rc_le (rn_var st 0) (rn_var st 2)))))) q

def R_Ltimes : List Dt → Dt → Prop := fun ds d => ∃ ns : List Int, ds = [.lst (ns.map .int)] ∧ (∀ n ∈ ns, -1000000 ≤ n ∧ n ≤ 1000000) ∧ d = .int (prodI ns)
theorem c_Ltimes (T : Txt K mg) : C8.Cal P w K mg base 1 "_law_times" (Pu K R_Ltimes) [] := by
  refine cal_of (st := s_Ltimes) (N := n_Ltimes) (ps := ["_law_numbers"]) T 48 rfl (by decide +kernel) (by decide +kernel) (fun _ _ _ _ _ _ us hl => match us, hl with | [_], _ => rfl) (fun ds d h => by obtain ⟨_, rfl, _⟩ := h; rfl) ?_
  rintro f cdv A outer s G H Q E σ ds d hr ⟨ns, rfl, hn, rfl⟩ st q
  refine rs_let (i := 1) (d := .int 1) st (rn_int st.ex) fun σ2 G2 H2 st => ?_
  refine rs_forN (i := 2) (enc := .int) (xs := ns) (fun pre => [some (.lst (ns.map .int)), some (.int (prodI pre)), pre.getLast?.map .int]) (fun pre => []) st (wk_list (rn_var st 0)) (fun G1 H1 s1 pre y post ex σ2 G2 H2 st => ?_) fun σ' G' H' st => ?_
  · refine rs_let (i := 1) st (rn_mul (rn_var st 1) (rn_var st 2) ?_) fun σ2 G2 H2 st => ?_
    · have h := hn y (by rw [ex]; simp)
      exact .inr ⟨by omega, by omega⟩
    · refine wb_nil ⟨G2, ?_⟩
      rw [prodI_snoc, List.getLast?_concat]
      exact st
  · exact rs_rq st q (rn_var st 1)

def R_Lmade : List Dt → Dt → Prop := fun ds d => ∃ s : Sg, ds = [eT s] ∧ SgOk s ∧ d = eSg s
theorem c_Lmade (T : Txt K mg) : C8.Cal P w K mg base 6 "_law_made" (Pu K R_Lmade) [] := by
  refine cal_of (st := s_Lmade) (N := n_Lmade) (ps := ["_law_saying_here"]) T 43 rfl (by decide +kernel) (by decide +kernel) (fun _ _ _ _ _ _ us hl => match us, hl with | [_], _ => rfl) (fun ds d h => by obtain ⟨_, rfl, _⟩ := h; rfl) ?_
  rintro f cdv A outer s G H Q E σ ds d hr ⟨s, rfl, ho, rfl⟩ st q
  cases s with
  | told b l lo hi =>
    refine rs_ifT st (k := true) (rt_to (rc_t (rc_eqT (i := "told") (j := "told") (rn_ixT (d := _) (rn_var st 0) (rn_int st.ex) rfl) (rn_str st.ex))) (by decide +kernel)) (fun _ G2 H2 st => rs_rq st q (rn_m0 (cl := .told) (ds := [.int b, .int l, oD lo, oD hi]) (m_told T) hr (by decide) rfl (ra_cons (rn_ixT (d := _) (rn_var st 0) (rn_int st.ex) rfl) (ra_cons (rn_ixT (d := _) (rn_var st 0) (rn_int st.ex) rfl) (ra_cons (rn_ixT (d := _) (rn_var st 0) (rn_int st.ex) rfl) (ra_one (rn_ixT (d := _) (rn_var st 0) (rn_int st.ex) rfl))))) ?_)) fun z => Bool.noConfusion z
    exact ⟨b, l, lo, hi, rfl, ho.1, ho.2, rfl⟩
  | just l n =>
    refine rs_skip st (rt_to (rc_t (rc_eqT (i := "just") (j := "told") (rn_ixT (d := _) (rn_var st 0) (rn_int st.ex) rfl) (rn_str st.ex))) (by decide +kernel)) fun G2 H2 st => ?_
    refine rs_ifT st (k := true) (rt_to (rc_t (rc_eqT (i := "just") (j := "just") (rn_ixT (d := _) (rn_var st 0) (rn_int st.ex) rfl) (rn_str st.ex))) (by decide +kernel)) (fun _ G2 H2 st => rs_rq st q (rn_m0 (cl := .just) (ds := [.int l, .int n]) (m_just T) hr (by decide) rfl (ra_cons (rn_ixT (d := _) (rn_var st 0) (rn_int st.ex) rfl) (ra_one (rn_ixT (d := _) (rn_var st 0) (rn_int st.ex) rfl))) ?_)) fun z => Bool.noConfusion z
    exact ⟨l, n, rfl, ho, rfl⟩
  | rule l lo hi =>
    refine rs_skip st (rt_to (rc_t (rc_eqT (i := "any") (j := "told") (rn_ixT (d := _) (rn_var st 0) (rn_int st.ex) rfl) (rn_str st.ex))) (by decide +kernel)) fun G2 H2 st => ?_
    refine rs_skip st (rt_to (rc_t (rc_eqT (i := "any") (j := "just") (rn_ixT (d := _) (rn_var st 0) (rn_int st.ex) rfl) (rn_str st.ex))) (by decide +kernel)) fun G2 H2 st => ?_
    refine rs_rq st q (rn_if (k := true) (rt_to (rc_t (rc_eqT (i := "any") (j := "any") (rn_ixT (d := _) (rn_var st 0) (rn_int st.ex) rfl) (rn_str st.ex))) (by decide +kernel)) (fun _ => (rn_m0 (cl := .rule) (ds := [.int l, oD lo, oD hi]) (m_rule T) hr (by decide) rfl (ra_cons (rn_ixT (d := _) (rn_var st 0) (rn_int st.ex) rfl) (ra_cons (rn_ixT (d := _) (rn_var st 0) (rn_int st.ex) rfl) (ra_one (rn_ixT (d := _) (rn_var st 0) (rn_int st.ex) rfl)))) ?_)) fun z => Bool.noConfusion z)
    exact ⟨l, lo, hi, rfl, ho.1, ho.2, rfl⟩
  | some l lo hi =>
    refine rs_skip st (rt_to (rc_t (rc_eqT (i := "some") (j := "told") (rn_ixT (d := _) (rn_var st 0) (rn_int st.ex) rfl) (rn_str st.ex))) (by decide +kernel)) fun G2 H2 st => ?_
    refine rs_skip st (rt_to (rc_t (rc_eqT (i := "some") (j := "just") (rn_ixT (d := _) (rn_var st 0) (rn_int st.ex) rfl) (rn_str st.ex))) (by decide +kernel)) fun G2 H2 st => ?_
    refine rs_rq st q (rn_if (k := false) (rt_to (rc_t (rc_eqT (i := "some") (j := "any") (rn_ixT (d := _) (rn_var st 0) (rn_int st.ex) rfl) (rn_str st.ex))) (by decide +kernel)) (fun z => Bool.noConfusion z) fun _ => (rn_m0 (cl := .some) (ds := [.int l, oD lo, oD hi]) (m_some T) hr (by decide) rfl (ra_cons (rn_ixT (d := _) (rn_var st 0) (rn_int st.ex) rfl) (ra_cons (rn_ixT (d := _) (rn_var st 0) (rn_int st.ex) rfl) (ra_one (rn_ixT (d := _) (rn_var st 0) (rn_int st.ex) rfl)))) ?_))
    exact ⟨l, lo, hi, rfl, ho.1, ho.2, rfl⟩

def R_Lbook : List Dt → Dt → Prop := fun ds d => ∃ k : Bk, ds = [.int k.1, .lst (k.2.map eT)] ∧ BkOk k ∧ d = eBk k
theorem c_Lbook (T : Txt K mg) : C8.Cal P w K mg base 7 "_law_book" (Pu K R_Lbook) [] := by
  refine cal_of (st := s_Lbook) (N := n_Lbook) (ps := ["_law_days", "_law_sayings"]) T 44 rfl (by decide +kernel) (by decide +kernel) (fun _ _ _ _ _ _ us hl => match us, hl with | [_, _], _ => rfl) (fun ds d h => by obtain ⟨_, rfl, _⟩ := h; rfl) ?_
  rintro f cdv A outer s G H Q E σ ds d hr ⟨k, rfl, hk, rfl⟩ st q
  have e : k.2.map eSg = k.2.map fun s => eSg s := rfl
  refine rs_rq st q (rn_m0 (cl := .sbook) (ds := [.int k.1, .lst (k.2.map eSg)]) (m_sbook T) hr (by decide) rfl (ra_cons (rn_var st 0) (ra_one (rn_to (rn_map (xs := k.2) (enc := eT) (i := 2) (f := fun s => eSg s) st (wk_list (rn_var st 1)) (by have := hk.n; omega) fun s1 HH C cl fp y hy σ' G' H' st => ?_) (by rw [e])))) ?_)
  · refine (rn_c0 (c_Lmade T) hr (by decide) rfl (ra_one (rn_var st 2)) ?_)
    exact ⟨y, rfl, hk.ok y hy, rfl⟩
  · exact ⟨k.1, k.2, rfl, hk.d, hk.n, hk.fit, rfl⟩
end
end Y
set_option Elab.async false
set_option linter.all false
set_option maxRecDepth 100000
set_option maxHeartbeats 4000000
/-! D10: the law's sums, rows. -/
namespace Y
open PySem PySem.Spec PyProof.Rows L2
theorem sIx_in {n d : Nat} {i : Int} (h0 : 0 ≤ i) (h1 : i ≤ n) : HT.sIx n d (some i) = i.toNat := by
  show (if i < 0 then (i + (n : Int)).toNat else min i.toNat n) = _
  rw [if_neg (by omega)]
  omega
theorem sum_cut (g : List Int) {b l : Nat} (h : b + l ≤ g.length) : ((g.drop b).take l).sum = (g.take (b + l)).sum - (g.take b).sum := by
  have e : g.take (b + l) = g.take b ++ (g.drop b).take l := by rw [List.take_add]
  rw [e, List.sum_append]
  omega
section
variable {P : Program} {w : World} {K : PySem.W.Frag} {mg : Str → Option Value} {base : Heap}
def R_Lsums : List Dt → Dt → Prop := fun ds d => ∃ (g : List Int) (l : Int), ds = [eL g, .int l] ∧ (0 ≤ l ∧ l ≤ 1000) ∧ g.length ≤ 1000 ∧ d = .lst ((sumsIn g l).map .int)
theorem c_Lsums (T : Txt K mg) : C8.Cal P w K mg base 1 "_law_sums" (Pu K R_Lsums) [] := by
  refine cal_of (st := s_Lsums) (N := n_Lsums) (ps := ["_law_gains", "_law_length"]) T 40 rfl (by decide +kernel) (by decide +kernel) (fun _ _ _ _ _ _ us hl => match us, hl with | [_, _], _ => rfl) (fun ds d h => by obtain ⟨_, _, rfl, _⟩ := h; rfl) ?_
  rintro f cdv A outer s G H Q E σ ds d hr ⟨g, l, rfl, hl, hg, rfl⟩ st q
  have el : ((g.map Dt.int).length : Int) = g.length := by rw [List.length_map]
  have e : (sumsIn g l).map Dt.int = (rgI 0 (g.length - l + 1).toNat).map fun b => Dt.int ((hts g).getD (b + l).toNat 0 - (hts g).getD b.toNat 0) := by
    unfold sumsIn
    rw [List.map_map]
    rfl
  refine rs_rq st q (rn_to (rn_map (xs := rgI 0 (g.length - l + 1).toNat) (enc := .int) (i := 2) (f := fun b => .int ((hts g).getD (b + l).toNat 0 - (hts g).getD b.toNat 0)) st (by rw [← rgD_eq, ← el]; exact wk_rg1 T.free (rn_add (rn_sub (rn_lenL T.free (rn_var st 0)) (rn_var st 1)) (rn_int st.ex)) (by rw [el]; omega)) ?_ fun s1 HH C cl fp y hy σ' G' H' st => ?_) (by rw [e]))
  · rw [rgI_len]
    omega
  · have hm := mem_rgI hy
    have h1 : 0 ≤ y := hm.1
    have h2 : y + l ≤ g.length := by omega
    have es : ((g.drop y.toNat).take l.toNat).sum = (hts g).getD (y + l).toNat 0 - (hts g).getD y.toNat 0 := by
      have e3 : (y + l).toNat = y.toNat + l.toNat := by omega
      rw [e3, hts_getD g (by omega), hts_getD g (by omega), sum_cut g (by omega)]
    refine rn_to (rn_sum (ns := (g.drop y.toNat).take l.toNat) T.free rfl (rn_to (rn_slL (rn_var st 0) (po_some pe_wp) (po_some pe_wp) (po_i (rn_var st 2)) (po_i (rn_add (rn_var st 2) (rn_var st 1)))) ?_)) (by rw [es])
    rw [List.length_map, sIx_in h1 (by omega), sIx_in (by omega) h2, List.map_take, List.map_drop]
    congr 2
    omega

/-- all rows of that many days within the bound -/
def rowsS (most : Int) (found : List (List Int)) : List (List Int) := found.flatMap fun row => (rgI (-most) (2 * most + 1).toNat).map fun x => row ++ [x]
def rowsF (most : Int) : Nat → List (List Int)
  | 0 => [[]]
  | n + 1 => rowsS most (rowsF most n)
end
end Y
set_option Elab.async false
set_option linter.all false
set_option maxRecDepth 100000
set_option maxHeartbeats 4000000
/-! Lay13: flat membership. -/
namespace Y
open PySem PySem.Spec PyProof.Rows L2
def svs : List Dt → Option (List V)
  | [] => some []
  | d :: ds => match d.sv, svs ds with
    | some v, some vs => some (v :: vs)
    | _, _ => none
theorem reps_svs {K : PySem.W.Frag} {G : Hp} : ∀ {vs : List V} {ds : List Dt} {ws : List V}, svs ds = some ws → Reps K G vs ds → vs = ws
  | [], [], _, h, _ => by
    cases h
    rfl
  | v :: vs, d :: ds, ws, h, ⟨r, rs⟩ => by
    unfold svs at h
    cases h1 : d.sv with
    | none =>
      rw [h1] at h
      cases h
    | some a =>
      rw [h1] at h
      cases h2 : svs ds with
      | none =>
        rw [h2] at h
        cases h
      | some as =>
        rw [h2] at h
        have e : a :: as = ws := Option.some.inj h
        rw [← e, rep_sv h1 r, reps_svs h2 rs]
  | [], _ :: _, _, _, h => h.elim
  | _ :: _, [], _, _, h => h.elim
section
variable {X : Cx} {σ : L2.St} {G0 H0 G H G1 H1 : Hp} {d d1 d2 d3 : Dt} {ds ds1 ds2 fs : List Dt} {a b c e o iter : Expr} {pos p tp : Pos} {x : V} {ws : List V} {dss : List (Option Dt)} {ow : List (Addr × List Dt)} {D : Ends} {rest body : List Stmt}
theorem rc_inT (ha : Rn X a σ G H d1) (hb : Rn X b σ G H (.tup ds)) (h1 : d1.sv = some x) (h2 : svs ds = some ws) (hf : flatV x = true) (hfs : ws.all flatV = true) (hm : behindInMarks .In b = false := by rfl) : RnC X .In a b σ G H (.bl (inV x ws)) :=
  rc_of op_in_seq hm ha hb fun v w G2 H2 s rx ry Q k => by
    obtain ⟨l, xs, rfl, hx, rs⟩ := ry
    have e1 := rep_sv h1 rx
    have e2 := reps_svs h2 rs
    subst e1 e2
    exact ⟨l, xs, rfl, .inr (sqT_ex s.gh hx), hf, hfs, k _ _ _ (Stp.refl s.gh) rfl⟩
theorem rc_inL (ha : Rn X a σ G H d1) (hb : Rn X b σ G H (.lst ds)) (h1 : d1.sv = some x) (h2 : svs ds = some ws) (hf : flatV x = true) (hfs : ws.all flatV = true) (hm : behindInMarks .In b = false := by rfl) : RnC X .In a b σ G H (.bl (inV x ws)) :=
  rc_of op_in_seq hm ha hb fun v w G2 H2 s rx ry Q k => by
    obtain ⟨l, xs, rfl, hx, rs⟩ := ry
    have e1 := rep_sv h1 rx
    have e2 := reps_svs h2 rs
    subst e1 e2
    exact ⟨l, xs, rfl, .inl (sqL_ex s.gh hx), hf, hfs, k _ _ _ (Stp.refl s.gh) rfl⟩
theorem rc_niL (ha : Rn X a σ G H d1) (hb : Rn X b σ G H (.lst ds)) (h1 : d1.sv = some x) (h2 : svs ds = some ws) (hf : flatV x = true) (hfs : ws.all flatV = true) (hm : behindInMarks .NotIn b = false := by rfl) : RnC X .NotIn a b σ G H (.bl (!inV x ws)) :=
  rc_of op_notIn_seq hm ha hb fun v w G2 H2 s rx ry Q k => by
    obtain ⟨l, xs, rfl, hx, rs⟩ := ry
    have e1 := rep_sv h1 rx
    have e2 := reps_svs h2 rs
    subst e1 e2
    exact ⟨l, xs, rfl, .inl (sqL_ex s.gh hx), hf, hfs, k _ _ _ (Stp.refl s.gh) rfl⟩
/-- for y in iter: .., with a pure invariant of the prefix taken -/
theorem rs_forQ {α : Type} {tg : Expr} {is : List Nat} {up : α → List (Option Dt) → List (Option Dt)} {enc : α → Dt} {xs : List α} (inv : List α → Prop) (dsf : List α → List (Option Dt)) (owf : List α → List (Addr × List Dt)) (s : Sta X.K G0 H0 (dsf []) (owf []) σ G H) (i0 : inv []) (hw : Wk X tg iter σ G H (xs.map enc)) (htg : ∀ u ∈ xs, TgOk X tg (enc u) (up u) is)
    (hs : ∀ G1 H1, Stp G0 H0 G1 H1 → ∀ pre u post, xs = pre ++ u :: post → inv pre → ∀ σ2 G2 H2, Sta X.K G1 H0 (up u (dsf pre)) (owf pre) σ2 G2 H2 →
      wpB X body { D with nx := fun σ3 H3 => inv (pre ++ [u]) ∧ ∃ G3, Sta X.K G1 H0 (dsf (pre ++ [u])) (owf (pre ++ [u])) σ3 G3 H3, ct := fun σ3 H3 => inv (pre ++ [u]) ∧ ∃ G3, Sta X.K G1 H0 (dsf (pre ++ [u])) (owf (pre ++ [u])) σ3 G3 H3, bk := wpB X rest D } σ2 H2)
    (hd : inv xs → ∀ σ' G' H', Sta X.K G0 H0 (dsf xs) (owf xs) σ' G' H' → wpB X rest D σ' H') (hp : PassesOwn (model X.prog X.w) X.A X.env X.xe := by exact PassesOwn.never) (hc : X.calm = true := by rfl) (hfs : ∀ x, foldedSetIterable iter X.env x = pure x := by intro _; rfl) : wpB X (.For tg iter body [] pos :: rest) D σ H := by
  refine rs_for (enc := enc) (up := up) (is := is) (fun pre σ' G' H' => inv pre ∧ ∃ G1 H1, Stp G0 H0 G1 H1 ∧ Stp G H G1 H1 ∧ Sta X.K G1 H0 (dsf pre) (owf pre) σ' G' H') s.ex hp hc hw htg (fun G1 H1 s1 => ⟨i0, G1, H1, s.st.trans s1, s1, (s.stp s1).inn⟩) ?_ ?_ hfs
  · rintro G1 H1 s1 pre u post ex σ' G' H' σ2 G2 H2 ⟨hI, Ga, Ha, sa, _, hW⟩ e1 s2 k2
    have hS : Sta X.K G1 H0 (dsf pre) (owf pre) σ' G' H' := ⟨⟨hW.st.h, e1, hW.st.gh, fun a h n => hW.st.new a (sa.new a ((s.st.trans s1).g.back h) n) n⟩, hW.env, hW.own, hW.nd⟩
    have hS2 := hS.stp s2
    refine wpB_mono (hs G1 H1 (s.st.trans s1) pre u post ex hI σ2 G2 H2 ⟨hS2.st, k2 _ hS.env, hS2.own, hS2.nd⟩) ?_ (fun _ _ q => q) (fun _ _ q => q) ?_
    · rintro σ3 H3 ⟨hI2, G3, h3⟩
      exact ⟨G3, ⟨hI2, G1, H1, s.st.trans s1, s1, h3⟩, h3.st.g, h3.st.gh⟩
    · rintro σ3 H3 ⟨hI2, G3, h3⟩
      exact ⟨G3, ⟨hI2, G1, H1, s.st.trans s1, s1, h3⟩, h3.st.g, h3.st.gh⟩
  · rintro G1 H1 s1 σ' G' H' ⟨hI, Ga, Ha, sa, _, hW⟩ e1 e2
    exact hd hI σ' G' H' (hW.out sa)
/-- a, b, c, d as a target -/
theorem tg4 {i1 i2 i3 i4 : Nat} {x1 x2 x3 x4 : Str} {p1 p2 p3 p4 pt : Pos} {kk : Nat} {d4 : Dt} (hc : X.calm = true := by rfl) (hN : X.N.Nodup := by exact of_decide_eq_true (by kernel_rfl)) (h1 : X.N[i1]? = some x1 := by rfl) (h2 : X.N[i2]? = some x2 := by rfl) (h3 : X.N[i3]? = some x3 := by rfl) (h4 : X.N[i4]? = some x4 := by rfl)
    (l1 : X.env.scope.names.lookup x1 = some .local := by rfl) (l2 : X.env.scope.names.lookup x2 = some .local := by rfl) (l3 : X.env.scope.names.lookup x3 = some .local := by rfl) (l4 : X.env.scope.names.lookup x4 = some .local := by rfl) :
    TgOk X (.Tuple [.Name x1 p1, .Name x2 p2, .Name x3 p3, .Name x4 p4] kk pt) (.tup [d1, d2, d3, d4]) (fun ds => (((ds.set i1 (some d1)).set i2 (some d2)).set i3 (some d3)).set i4 (some d4)) [i1, i2, i3, i4] :=
  tg_tup hc (tgs_cons (tg_name hN h1 (.inl l1) (.inr l1)) (tgs_cons (tg_name hN h2 (.inl l2) (.inr l2)) (tgs_cons (tg_name hN h3 (.inl l3) (.inr l3)) (tgs_cons (tg_name hN h4 (.inl l4) (.inr l4)) tgs_nil))))
theorem tg3 {i1 i2 i3 : Nat} {x1 x2 x3 : Str} {p1 p2 p3 pt : Pos} {kk : Nat} (hc : X.calm = true := by rfl) (hN : X.N.Nodup := by exact of_decide_eq_true (by kernel_rfl)) (h1 : X.N[i1]? = some x1 := by rfl) (h2 : X.N[i2]? = some x2 := by rfl) (h3 : X.N[i3]? = some x3 := by rfl)
    (l1 : X.env.scope.names.lookup x1 = some .local := by rfl) (l2 : X.env.scope.names.lookup x2 = some .local := by rfl) (l3 : X.env.scope.names.lookup x3 = some .local := by rfl) :
    TgOk X (.Tuple [.Name x1 p1, .Name x2 p2, .Name x3 p3] kk pt) (.tup [d1, d2, d3]) (fun ds => ((ds.set i1 (some d1)).set i2 (some d2)).set i3 (some d3)) [i1, i2, i3] :=
  tg_tup hc (tgs_cons (tg_name hN h1 (.inl l1) (.inr l1)) (tgs_cons (tg_name hN h2 (.inl l2) (.inr l2)) (tgs_cons (tg_name hN h3 (.inl l3) (.inr l3)) tgs_nil)))
theorem tg2 {i1 i2 : Nat} {x1 x2 : Str} {p1 p2 pt : Pos} {kk : Nat} (hc : X.calm = true := by rfl) (hN : X.N.Nodup := by exact of_decide_eq_true (by kernel_rfl)) (h1 : X.N[i1]? = some x1 := by rfl) (h2 : X.N[i2]? = some x2 := by rfl)
    (l1 : X.env.scope.names.lookup x1 = some .local := by rfl) (l2 : X.env.scope.names.lookup x2 = some .local := by rfl) :
    TgOk X (.Tuple [.Name x1 p1, .Name x2 p2] kk pt) (.tup [d1, d2]) (fun ds => (ds.set i1 (some d1)).set i2 (some d2)) [i1, i2] :=
  tg_tup hc (tgs_cons (tg_name hN h1 (.inl l1) (.inr l1)) (tgs_cons (tg_name hN h2 (.inl l2) (.inr l2)) tgs_nil))
end
end Y
set_option Elab.async false
set_option linter.all false
set_option maxRecDepth 100000
set_option maxHeartbeats 4000000
/-! D11: the law's counts. -/
namespace Y
open PySem PySem.Spec PyProof.Rows L2
section
variable {P : Program} {w : World} {K : PySem.W.Frag} {mg : Str → Option Value} {base : Heap}
theorem begs_max {D l : Int} : ((begs D l).length : Int) = (if D - l + 1 > 0 then D - l + 1 else 0) := by
  unfold begs
  rw [rgI_len]
  split <;> omega
def R_Lmany : List Dt → Dt → Prop := fun ds d => ∃ (D : Int) (s : Sg), ds = [.int D, eT s] ∧ (0 ≤ D ∧ D ≤ 48) ∧ (0 ≤ s.len ∧ s.len ≤ 1000) ∧ d = .int (manyOwn D s)
theorem c_Lmany (T : Txt K mg) : C8.Cal P w K mg base 1 "_law_many" (Pu K R_Lmany) [] := by
  refine cal_of (st := s_Lmany) (N := n_Lmany) (ps := ["_law_days", "_law_saying_here"]) T 47 rfl (by decide +kernel) (by decide +kernel) (fun _ _ _ _ _ _ us hl => match us, hl with | [_, _], _ => rfl) (fun ds d h => by obtain ⟨_, _, rfl, _⟩ := h; rfl) ?_
  rintro f cdv A outer s G H Q E σ ds d hr ⟨D, sg, rfl, hD, hl, rfl⟩ st q
  cases sg with
  | told b l lo hi => exact rs_ifT st (k := true) (rt_to (rc_t (rc_inT (x := .str "told") (ws := [.str "any", .str "told"]) (rn_ixT (d := _) (rn_var st 1) (rn_int st.ex) rfl) (rn_tup (ra_cons (rn_str st.ex) (ra_one (rn_str st.ex))) (Nat.le_of_ble_eq_true rfl)) rfl rfl rfl rfl)) (by decide +kernel)) (fun _ G2 H2 st => rs_rq st q (rn_int st.ex)) fun z => Bool.noConfusion z
  | rule l lo hi => exact rs_ifT st (k := true) (rt_to (rc_t (rc_inT (x := .str "any") (ws := [.str "any", .str "told"]) (rn_ixT (d := _) (rn_var st 1) (rn_int st.ex) rfl) (rn_tup (ra_cons (rn_str st.ex) (ra_one (rn_str st.ex))) (Nat.le_of_ble_eq_true rfl)) rfl rfl rfl rfl)) (by decide +kernel)) (fun _ G2 H2 st => rs_rq st q (rn_int st.ex)) fun z => Bool.noConfusion z
  | some l lo hi =>
    refine rs_skip st (rt_to (rc_t (rc_inT (x := .str "some") (ws := [.str "any", .str "told"]) (rn_ixT (d := _) (rn_var st 1) (rn_int st.ex) rfl) (rn_tup (ra_cons (rn_str st.ex) (ra_one (rn_str st.ex))) (Nat.le_of_ble_eq_true rfl)) rfl rfl rfl rfl)) (by decide +kernel)) fun G2 H2 st => ?_
    refine rs_let (i := 2) (d := .int (begs D l).length) st (rn_to (rn_max2 T.free rfl (rn_int st.ex) (rn_add (rn_sub (rn_var st 0) (rn_ixT (d := _) (rn_var st 1) (rn_int st.ex) rfl)) (rn_int st.ex)) st.ex) ?_) fun σ2 G2 H2 st => ?_
    · rw [begs_max]
    exact rs_rq st q (rn_if (k := true) (rt_to (rc_t (rc_eqT (i := "some") (j := "some") (rn_ixT (d := _) (rn_var st 1) (rn_int st.ex) rfl) (rn_str st.ex))) (by decide +kernel)) (fun _ => (rn_var st 2)) fun z => Bool.noConfusion z)
  | just l n =>
    have hb : (begs D l).length ≤ 49 := begs_len hD hl
    refine rs_skip st (rt_to (rc_t (rc_inT (x := .str "just") (ws := [.str "any", .str "told"]) (rn_ixT (d := _) (rn_var st 1) (rn_int st.ex) rfl) (rn_tup (ra_cons (rn_str st.ex) (ra_one (rn_str st.ex))) (Nat.le_of_ble_eq_true rfl)) rfl rfl rfl rfl)) (by decide +kernel)) fun G2 H2 st => ?_
    refine rs_let (i := 2) (d := .int (begs D l).length) st (rn_to (rn_max2 T.free rfl (rn_int st.ex) (rn_add (rn_sub (rn_var st 0) (rn_ixT (d := _) (rn_var st 1) (rn_int st.ex) rfl)) (rn_int st.ex)) st.ex) ?_) fun σ2 G2 H2 st => ?_
    · rw [begs_max]
    refine rs_rq st q (rn_if (k := false) (rt_to (rc_t (rc_eqT (i := "just") (j := "some") (rn_ixT (d := _) (rn_var st 1) (rn_int st.ex) rfl) (rn_str st.ex))) (by decide +kernel)) (fun z => Bool.noConfusion z) fun _ => (rn_mul (rn_var st 2) (rn_var st 2) ?_))
    exact .inl ⟨by omega, by omega⟩
end
end Y
set_option Elab.async false
set_option linter.all false
set_option maxRecDepth 100000
set_option maxHeartbeats 4000000
/-! D12: who is led where. -/
namespace Y
open PySem PySem.Spec PyProof.Rows L2
/-- where the step leads by this stretch, at what cost -/
def ledS (place way : Int) (s : Stc) : Option (Int × Int) :=
  if way = 1 ∧ s.1 = place ∧ s.2.2.2.isSome then some (s.1 + s.2.1, s.2.2.2.getD 0)
  else if way = -1 ∧ s.1 + s.2.1 = place ∧ s.2.2.1.isSome then some (s.1, -(s.2.2.1.getD 0)) else none
def ledL (place way : Int) (ss : List Stc) : Option (Int × Int) := ss.findSome? (ledS place way)
def led (c : Ch) (x : Wit) : Option (Int × Int) := if 0 ≤ x.2.1 ∧ x.2.1 < c.length then ledL x.1 x.2.2 (c.getD x.2.1.toNat []) else none
def eLed : Option (Int × Int) → Dt
  | none => .non
  | some p => .tup [.int p.1, .int p.2]
theorem atI_map {α : Type} {f : α → Dt} {xs : List α} {z : α} {i : Int} (h0 : 0 ≤ i) (h1 : i < xs.length) : atI (xs.map f) i = some (f (xs.getD i.toNat z)) := by
  unfold atI ixN
  rw [List.length_map, if_pos h0, if_pos h1]
  have lt : i.toNat < xs.length := by omega
  simp [List.getElem?_map, List.getD_eq_getElem?_getD, List.getElem?_eq_getElem lt]
theorem find_at {α β : Type} {f : α → Option β} {xs pre post : List α} {u : α} {b : β} (ex : xs = pre ++ u :: post) (h : ∀ s ∈ pre, f s = none) (hu : f u = some b) : xs.findSome? f = some b := by
  rw [ex, List.findSome?_append, List.findSome?_eq_none_iff.mpr h, Option.none_or, List.findSome?_cons, hu]
section
variable {P : Program} {w : World} {K : PySem.W.Frag} {mg : Str → Option Value} {base : Heap}
def R_led_by : List Dt → Dt → Prop := fun ds d => ∃ (c : Ch) (x : Wit), ds = [eCh c, eWit x] ∧ d = eLed (led c x)
theorem c_led_by (T : Txt K mg) : C8.Cal P w K mg base 1 "led_by" (Pu K R_led_by) [] := by
  refine cal_of (st := s_led_by) (N := n_led_by) (ps := ["choice", "step"]) T 32 rfl (by decide +kernel) (by decide +kernel) (fun _ _ _ _ _ _ us hl => match us, hl with | [_, _], _ => rfl) (fun ds d h => by obtain ⟨_, _, rfl, _⟩ := h; rfl) ?_
  rintro f cdv A outer s G H Q E σ ds d hr ⟨c, x, rfl, rfl⟩ st q
  obtain ⟨pl, nu, wa⟩ := x
  have el : ((c.map eSts).length : Int) = c.length := by rw [List.length_map]
  refine rs_tg st (rn_var st 1) (tg3 (i1 := 2) (i2 := 3) (i3 := 4)) fun σ2 G2 H2 st => ?_
  by_cases hn : 0 ≤ nu ∧ nu < c.length
  · refine rs_skip st (rt_not (k := true) (rt_to (rt_chain op_le op_lt (rn_int st.ex) (rn_var st 3) (rn_lenT T.free (rn_var st 0))) ?_)) fun G2 H2 st => ?_
    · rw [el]
      simp [hn.1, hn.2]
    have e : led c (pl, nu, wa) = ledL pl wa (c.getD nu.toNat []) := if_pos hn
    rw [e] at q
    refine rs_forQ (enc := eStc) (xs := c.getD nu.toNat []) (up := fun u ds => (((ds.set 5 (some (.int u.1))).set 6 (some (.int u.2.1))).set 7 (some (oD u.2.2.1))).set 8 (some (oD u.2.2.2))) (is := [5, 6, 7, 8]) (fun pre => ∀ s ∈ pre, ledS pl wa s = none)
      (fun pre => [some (eCh c), some (eWit (pl, nu, wa)), some (.int pl), some (.int nu), some (.int wa), pre.getLast?.map fun s => .int s.1, pre.getLast?.map fun s => .int s.2.1, pre.getLast?.map fun s => oD s.2.2.1, pre.getLast?.map fun s => oD s.2.2.2]) (fun _ => []) st (fun _ h => by cases h) ?_ ?_ ?_ ?_
    · exact wk_tup (rn_ixT (rn_var st 0) (rn_var st 3) (atI_map (f := eSts) hn.1 hn.2))
    · intro u hu
      exact tg4 (i1 := 5) (i2 := 6) (i3 := 7) (i4 := 8)
    · rintro G1 H1 s1 pre ⟨b, l, lo, hi⟩ post ex hI σ2 G2 H2 st
      refine rs_ifT st (rt_w (rw_and (rc_t (rc_eqI (rn_var st 4) (rn_int st.ex))) fun _ => (rw_and (rc_t (rc_eqI (rn_var st 5) (rn_var st 2))) fun _ => (rw_and1 (rc_t (rc_notN st.ex (rn_var st 8))))))) (fun hk G2 H2 st => ?_) fun hk G2 H2 st => ?_
      · simp only [Bool.and_eq_true, decide_eq_true_eq, Bool.not_eq_true'] at hk
        obtain ⟨k1, k2, k3⟩ := hk
        cases hi with
        | none => cases k3
        | some j =>
          have hl : ledL pl wa (c.getD nu.toNat []) = some (b + l, j) := find_at ex hI (if_pos ⟨k1, k2, rfl⟩)
          rw [hl] at q
          exact rs_rq (st.out s1) q (rn_tup (ra_cons (rn_add (rn_var st 5) (rn_var st 6)) (ra_one (rn_var st 8))) (Nat.le_of_ble_eq_true rfl))
      · have n1 : ¬ (wa = 1 ∧ b = pl ∧ hi.isSome = true) := by
          rintro ⟨k1, k2, k3⟩
          cases hi with
          | none => cases k3
          | some j =>
            rw [decide_eq_true k1, decide_eq_true k2] at hk
            cases hk
        refine rs_ifT st (rt_w (rw_and (rc_t (rc_eqI (rn_var st 4) (rn_neg (rn_int st.ex)))) fun _ => (rw_and (rc_t (rc_eqI (rn_add (rn_var st 5) (rn_var st 6)) (rn_var st 2))) fun _ => (rw_and1 (rc_t (rc_notN st.ex (rn_var st 7))))))) (fun hk G2 H2 st => ?_) fun hk G2 H2 st => ?_
        · simp only [Bool.and_eq_true, decide_eq_true_eq, Bool.not_eq_true'] at hk
          obtain ⟨k1, k2, k3⟩ := hk
          cases lo with
          | none => cases k3
          | some j =>
            have hl : ledL pl wa (c.getD nu.toNat []) = some (b, -j) := find_at ex hI (by
              unfold ledS
              rw [if_neg n1, if_pos ⟨k1, k2, rfl⟩]
              rfl)
            rw [hl] at q
            exact rs_rq (st.out s1) q (rn_tup (ra_cons (rn_var st 5) (ra_one (rn_neg (rn_var st 7)))) (Nat.le_of_ble_eq_true rfl))
        · have n2 : ¬ (wa = -1 ∧ b + l = pl ∧ lo.isSome = true) := by
            rintro ⟨k1, k2, k3⟩
            cases lo with
            | none => cases k3
            | some j =>
              rw [decide_eq_true k1, decide_eq_true k2] at hk
              cases hk
          refine wb_nil ⟨fun s hs => ?_, G2, ?_⟩
          · rcases List.mem_append.mp hs with z | z
            · exact hI s z
            · rw [List.mem_singleton.mp z]
              unfold ledS
              rw [if_neg n1, if_neg n2]
          · simp only [List.getLast?_concat, Option.map_some]
            exact st
    · intro hI σ' G' H' st
      have hl : ledL pl wa (c.getD nu.toNat []) = none := List.findSome?_eq_none_iff.mpr hI
      rw [hl] at q
      exact rs_rq st q (rn_non st.ex)
  · have e : led c (pl, nu, wa) = none := if_neg hn
    rw [e] at q
    refine rs_ifT st (k := true) (rt_not (k := false) (rt_to (rt_chain op_le op_lt (rn_int st.ex) (rn_var st 3) (rn_lenT T.free (rn_var st 0))) ?_)) (fun _ G2 H2 st => rs_rq st q (rn_non st.ex)) fun z => Bool.noConfusion z
    rw [el]
    by_cases h0 : 0 ≤ nu
    · have h1 : ¬ nu < c.length := fun z => hn ⟨h0, z⟩
      simp [h1]
    · simp [h0]
end
end Y
set_option Elab.async false
set_option linter.all false
set_option maxRecDepth 100000
set_option maxHeartbeats 4000000
/-! D13: rings. -/
namespace Y
open PySem PySem.Spec PyProof.Rows L2
/-- along the ring from a place with a total: none where it is not led -/
def walkR (c : Ch) : Int × Int → List Wit → Option (Int × Int)
  | p, [] => some p
  | p, x :: r => if x.1 = p.1 then (match led c x with | none => none | some y => walkR c (y.1, p.2 + y.2) r) else none
def isRing (c : Ch) (r : Ring) : Bool := match r with
  | [] => false
  | x :: t => match walkR c (x.1, 0) (x :: t) with
    | none => false
    | some p => decide (p.1 = x.1) && decide (p.2 < 0)
theorem walkR_snoc (c : Ch) : ∀ (pre : List Wit) (p : Int × Int) (x : Wit), walkR c p (pre ++ [x]) = (walkR c p pre).bind fun q => if x.1 = q.1 then (led c x).map fun y => (y.1, q.2 + y.2) else none
  | [], p, x => by
    show (if x.1 = p.1 then (match led c x with | none => none | some y => walkR c (y.1, p.2 + y.2) []) else none) = _
    show _ = (if x.1 = p.1 then (led c x).map fun y => (y.1, p.2 + y.2) else none)
    cases led c x <;> rfl
  | z :: pre, p, x => by
    show (if z.1 = p.1 then (match led c z with | none => none | some y => walkR c (y.1, p.2 + y.2) (pre ++ [x])) else none) = _
    rw [show walkR c p (z :: pre) = (if z.1 = p.1 then (match led c z with | none => none | some y => walkR c (y.1, p.2 + y.2) pre) else none) from rfl]
    split
    · cases led c z with
      | none => rfl
      | some y => exact walkR_snoc c pre _ x
    · rfl
theorem walkR_stop (c : Ch) : ∀ (pre post : List Wit) (p : Int × Int), walkR c p pre = none → walkR c p (pre ++ post) = none
  | [], _, _, h => by cases h
  | z :: pre, post, p, h => by
    rw [show walkR c p (z :: pre) = (if z.1 = p.1 then (match led c z with | none => none | some y => walkR c (y.1, p.2 + y.2) pre) else none) from rfl] at h
    show (if z.1 = p.1 then (match led c z with | none => none | some y => walkR c (y.1, p.2 + y.2) (pre ++ post)) else none) = none
    split at h
    · rename_i e
      rw [if_pos e]
      cases q : led c z with
      | none => rfl
      | some y =>
        rw [q] at h
        exact walkR_stop c pre post _ h
    · rename_i e
      rw [if_neg e]
theorem atI_zero {d : Dt} {ds : List Dt} : atI (d :: ds) 0 = some d := by
  unfold atI ixN
  rw [if_pos (Int.le_refl 0), if_pos (by rw [List.length_cons]; omega)]
  rfl
theorem pl_ring (r : Ring) : (eRing r).pl 60 = true := by
  show (r.map eWit).all (Dt.pl 59) = true
  rw [List.all_map, List.all_eq_true]
  intro x _
  rfl
theorem Sta.drop {K : PySem.W.Frag} {G0 H0 G H : Hp} {dss : List (Option Dt)} {ow : List (Addr × List Dt)} {σ : L2.St} (s : Sta K G0 H0 dss ow σ G H) (i : Nat) : Sta K G0 H0 (dss.set i none) ow σ G H :=
  ⟨s.st, s.env.weak (by rw [List.length_set]) (fun j d h => by
    rw [List.getElem?_set] at h
    split at h
    · split at h <;> cases h
    · exact h), s.own, s.nd⟩
section
variable {P : Program} {w : World} {K : PySem.W.Frag} {mg : Str → Option Value} {base : Heap}
def R_is_ring : List Dt → Dt → Prop := fun ds d => ∃ (c : Ch) (r : Ring), ds = [eCh c, eRing r] ∧ r.length ≤ 1000 ∧ d = .bl (isRing c r)
theorem c_is_ring (T : Txt K mg) : C8.Cal P w K mg base 3 "is_ring" (Pu K R_is_ring) [] := by
  refine cal_of (st := s_is_ring) (N := n_is_ring) (ps := ["choice", "value"]) T 33 rfl (by decide +kernel) (by decide +kernel) (fun _ _ _ _ _ _ us hl => match us, hl with | [_, _], _ => rfl) (fun ds d h => by obtain ⟨_, _, rfl, _⟩ := h; rfl) ?_
  rintro f cdv A outer s G H Q E σ ds d hr ⟨c, r, rfl, hl, rfl⟩ st q
  cases r with
  | nil =>
    refine rs_ifT st (k := true) (rt_w (rw_go' (rt_not (k := true) (rt_to (rt_v (rn_isi (cc := .tuple) T.cls T.kit T.free (rn_var st 1) (by first | rfl | assumption) (rn_ty T st.ex))) rfl)) (rw_or1 (rt_to (rc_t (rc_eqNilT hr st.ex (rn_var st 1) (pl_ring []))) rfl)))) (fun _ G2 H2 st => rs_rq st q (rn_bl st.ex)) fun z => Bool.noConfusion z
  | cons x t =>
    refine rs_skip st (rt_w (rw_go' (rt_not (k := true) (rt_to (rt_v (rn_isi (cc := .tuple) T.cls T.kit T.free (rn_var st 1) (by first | rfl | assumption) (rn_ty T st.ex))) rfl)) (rw_or1 (rt_to (rc_t (rc_eqNilT hr st.ex (rn_var st 1) (pl_ring (x :: t)))) rfl)))) fun G2 H2 st => ?_
    have e : ((x :: t).map fun _ => Dt.bl true) = ((x :: t).map fun _ => true).map Dt.bl := by rw [List.map_map] <;> rfl
    refine rs_need st (rt_to (rt_v (rn_all (bs := (x :: t).map fun _ => true) T.free rfl (rn_to (rn_map (xs := x :: t) (enc := eWit) (i := 2) (f := fun _ => .bl true) st (wk_tup (rn_var st 1)) (by omega) fun s1 HH C cl fp y hy σ' G' H' st => rn_to (rn_andB (k1 := true) (rn_c0 (c_are_integers T) hr (by decide) rfl (ra_one (rn_var st 2)) ?_) fun _ => rn_one (rc_v (rc_eqI (rn_lenT T.free (rn_var st 2)) (rn_int st.ex)))) ?_) (by rw [e])))) ?_) fun G2 H2 st => ?_
    · exact ⟨_, [y.1, y.2.1, y.2.2], rfl, .inr rfl, by simp, rfl⟩
    · rfl
    · simp
    refine rs_par (i := 3) (j := 4) (d1 := .int x.1) (d2 := .int 0) st (rn_ixT (rn_ixT (rn_var st 1) (rn_int st.ex) (d := eWit x) atI_zero) (rn_int st.ex) rfl) (rn_int st.ex) rfl (of_decide_eq_true (by kernel_rfl)) rfl rfl (by decide) rfl rfl fun σ2 G2 H2 st => ?_
    let W := fun pre => (walkR c (x.1, 0) pre).getD (0, 0)
    refine rs_forP (j := 2) (enc := eWit) (xs := x :: t) (fun pre => (walkR c (x.1, 0) pre).isSome = true) (fun pre => [some (eCh c), some (eRing (x :: t)), pre.getLast?.map eWit, some (.int (W pre).1), some (.int (W pre).2), none]) (fun _ => []) st rfl ?_ ?_ ?_
    · exact wk_tup (rn_var st 1)
    · rintro G1 H1 s1 pre y post ex hI σ2 G2 H2 st
      obtain ⟨p, hp⟩ := Option.isSome_iff_exists.mp hI
      have ew : W pre = p := by
        show (walkR c (x.1, 0) pre).getD (0, 0) = p
        rw [hp]
        rfl
      rw [ew] at st
      have hs := walkR_snoc c pre (x.1, 0) y
      rw [hp] at hs
      have hs : walkR c (x.1, 0) (pre ++ [y]) = if y.1 = p.1 then (led c y).map fun z => (z.1, p.2 + z.2) else none := hs
      have stop : walkR c (x.1, 0) (pre ++ [y]) = none → isRing c (x :: t) = false := fun h => by
        have h2 := walkR_stop c (pre ++ [y]) post (x.1, 0) h
        rw [List.append_assoc, List.singleton_append, ← ex] at h2
        show (match walkR c (x.1, 0) (x :: t) with | none => false | some p => decide (p.1 = x.1) && decide (p.2 < 0)) = false
        rw [h2]
      by_cases hy : y.1 = p.1
      · rw [if_pos hy] at hs
        refine rs_let (i := 5) (d := eLed (led c y)) st (rn_if (k := true) (rt_to (rc_t (rc_eqI (rn_ixT (rn_var st 2) (rn_int st.ex) (d := .int y.1) atI_zero) (rn_var st 3))) (decide_eq_true hy)) (fun _ => (rn_c0 (c_led_by T) hr (by decide) rfl (ra_cons (rn_var st 0) (ra_one (rn_var st 2))) ?_)) fun z => Bool.noConfusion z) fun σ2 G2 H2 st => ?_
        · exact ⟨c, y, rfl, rfl⟩
        cases hz : led c y with
        | none =>
          rw [hz] at st hs
          rw [stop hs] at q
          exact rs_ifT st (k := true) (rt_to (rc_t (rc_isN st.ex (rn_var st 5))) rfl) (fun _ G2 H2 st => rs_rq (st.out s1) q (rn_bl st.ex)) fun z => Bool.noConfusion z
        | some z =>
          rw [hz] at st hs
          refine rs_skip st (rt_to (rc_t (rc_isN st.ex (rn_var st 5))) rfl) fun G2 H2 st => ?_
          refine rs_par (i := 3) (j := 4) (d1 := .int z.1) (d2 := .int (p.2 + z.2)) st (rn_ixT (d := _) (rn_var st 5) (rn_int st.ex) rfl) (rn_add (rn_var st 4) (rn_ixT (d := _) (rn_var st 5) (rn_int st.ex) rfl)) rfl (of_decide_eq_true (by kernel_rfl)) rfl rfl (by decide) rfl rfl fun σ2 G2 H2 st => wb_nil ⟨by rw [hs] <;> rfl, G2, ?_⟩
          have ew2 : W (pre ++ [y]) = (z.1, p.2 + z.2) := by
            show (walkR c (x.1, 0) (pre ++ [y])).getD (0, 0) = _
            rw [hs]
            rfl
          rw [ew2, List.getLast?_concat]
          exact st.drop 5
      · rw [if_neg hy] at hs
        rw [stop hs] at q
        refine rs_let (i := 5) (d := .non) st (rn_if (k := false) (rt_to (rc_t (rc_eqI (rn_ixT (rn_var st 2) (rn_int st.ex) (d := .int y.1) atI_zero) (rn_var st 3))) (decide_eq_false hy)) (fun z => Bool.noConfusion z) fun _ => (rn_non st.ex)) fun σ2 G2 H2 st => ?_
        exact rs_ifT st (k := true) (rt_to (rc_t (rc_isN st.ex (rn_var st 5))) rfl) (fun _ G2 H2 st => rs_rq (st.out s1) q (rn_bl st.ex)) fun z => Bool.noConfusion z
    · intro hI σ' G' H' st
      obtain ⟨p, hp⟩ := Option.isSome_iff_exists.mp hI
      have ew : W (x :: t) = p := by
        show (walkR c (x.1, 0) (x :: t)).getD (0, 0) = p
        rw [hp]
        rfl
      have er : isRing c (x :: t) = (decide (p.1 = x.1) && decide (p.2 < 0)) := by
        show (match walkR c (x.1, 0) (x :: t) with | none => false | some p => decide (p.1 = x.1) && decide (p.2 < 0)) = _
        rw [hp]
      rw [er, ← ew] at q
      exact rs_rq st q (rn_andB (rc_v (rc_eqI (rn_var st 3) (rn_ixT (rn_ixT (rn_var st 1) (rn_int st.ex) (d := eWit x) atI_zero) (rn_int st.ex) rfl))) fun _ => rn_one (rc_v (rc_lt (rn_var st 4) (rn_int st.ex))))
end
end Y
set_option Elab.async false
set_option linter.all false
set_option maxRecDepth 100000
set_option maxHeartbeats 4000000
/-! Lay14: not in range(n). -/
namespace Y
open PySem PySem.Spec PyProof.Rows L2
section
variable {X : Cx} {σ : L2.St} {G0 H0 G H G1 H1 : Hp} {d d1 d2 d3 : Dt} {a b c e o iter : Expr} {pos p p1 tp : Pos}
theorem op_notIn_rng : OpR X (compareOp .NotIn) (fun x y H Q => ∃ i a lo hi, x = V.int i ∧ y = V.ref a ∧ H a = some (.rng lo hi) ∧ Q (.bl (!decide (lo ≤ i ∧ i < hi))) H) := by
  intro pins s σ H x y v u Q I rx ry h
  obtain ⟨i, a, lo, hi, rfl, rfl, ha, q⟩ := h
  obtain ⟨k, rfl⟩ := rx
  obtain rfl : u = Value.ref a := ry
  obtain ⟨t1, t2, t3, ho⟩ := I.hok a _ ha
  show wpAny _ _ (do return Value.bool (!(← contains (Value.ref a) (Value.int i k)))) _ _ s
  refine wpAny_bind (wpAny_contains_slot (T := "range") ⟨_, ho, rfl⟩ F.slot_range_contains (call_meets F.slot_range_contains ⟨_, ho, rfl⟩ F.entry_range_contains (F.args_range_contains_2 _ _) (q_contains a lo hi i t1 t2 t3 k)
    ⟨ho, wpAny_truthy_bool (wpAny_pure ⟨.bl _, H, I, rfl, ?_⟩)⟩))
  rw [place1]
  exact q
theorem cr_range1 : CallR X (.type "range") (fun vs H Q => ∃ i, vs = [V.int i] ∧ ∀ p, H p = none → Q (.ref p) (upd H p (.rng 0 i))) := by
  intro pins s σ H vs us Q I r h
  obtain ⟨i, rfl, q⟩ := h
  cases r with
  | cons ri rr =>
    cases rr
    obtain ⟨t, rfl⟩ := ri
    refine call_range_1 ⟨.ref s.heap.objs.size, upd H s.heap.objs.size (.rng 0 i), I.laid (t' := s.toks + 2) (fun b o e => Heap.get?_push_of_some _ e) (Nat.le_refl _) ?_, rfl, q _ (I.hok.fresh (Nat.le_refl _))⟩
    exact ⟨_, t, _, Heap.get?_push_size _ rfl⟩
/-- a not in range(b) -/
theorem rc_niR {i n : Int} (f : Free X "range") (ha : Rn X a σ G H (.int i)) (hb : Rn X b σ G H (.int n)) (na : starEach [b] X.env = (false, eval b X.env) :: starEach [] X.env := by rfl) (hpl : (backTo pos (starEach [] X.env)).any (·.1) = false := by rfl) (hm : behindInMarks .NotIn (.Call (.Name "range" p) [b] [] pos) = false := by rfl) :
    RnC X .NotIn a (.Call (.Name "range" p) [b] [] pos) σ G H (.bl (!decide (0 ≤ i ∧ i < n))) :=
  ⟨hm, _, op_notIn_rng, fun H1 e Q k => ha H1 e _ fun x G2 H2 s2 rx => wpE_of (pe_callTy cr_range1 f.g f.m (by decide +kernel) (pa_cons pe_wp pa_nil na) (hn := by decide) (hdb := by decide) (he := na) (hpl := hpl)) (hb H2 (e.trans s2.h) _ fun y G3 H3 s3 ry => ⟨n, by rw [show y = V.int n from ry], fun q nq => by
    obtain ⟨jn, u⟩ := s2.join s3
    exact ⟨i, q, 0, n, rx, rfl, upd_same, k _ _ _ ((s2.trans jn).trans ⟨Ex.new nq, Ex.refl _, jn.gh.trans (Ex.new nq), fun _ h _ => h⟩) rfl⟩⟩)⟩
end
end Y
set_option Elab.async false
set_option linter.all false
set_option maxRecDepth 100000
set_option maxHeartbeats 4000000
/-! D14: the law's who is led where. -/
namespace Y
open PySem PySem.Spec PyProof.Rows L2
def eStsL (s : List Stc) : Dt := .lst (s.map eStc)
def eChL (c : Ch) : Dt := .lst (c.map eStsL)
section
variable {P : Program} {w : World} {K : PySem.W.Frag} {mg : Str → Option Value} {base : Heap}
def R_Lled : List Dt → Dt → Prop := fun ds d => ∃ (c : Ch) (x : Wit), ds = [eChL c, eWit x] ∧ d = eLed (led c x)
theorem c_Lled (T : Txt K mg) : C8.Cal P w K mg base 1 "_law_led" (Pu K R_Lled) [] := by
  refine cal_of (st := s_Lled) (N := n_Lled) (ps := ["_law_choice", "_law_step"]) T 51 rfl (by decide +kernel) (by decide +kernel) (fun _ _ _ _ _ _ us hl => match us, hl with | [_, _], _ => rfl) (fun ds d h => by obtain ⟨_, _, rfl, _⟩ := h; rfl) ?_
  rintro f cdv A outer s G H Q E σ ds d hr ⟨c, x, rfl, rfl⟩ st q
  obtain ⟨pl, nu, wa⟩ := x
  have el : ((c.map eStsL).length : Int) = c.length := by rw [List.length_map]
  refine rs_tg st (rn_var st 1) (tg3 (i1 := 2) (i2 := 3) (i3 := 4)) fun σ2 G2 H2 st => ?_
  by_cases hn : 0 ≤ nu ∧ nu < c.length
  · refine rs_skip st (rt_to (rc_t (rc_niR T.free (rn_var st 3) (rn_lenL T.free (rn_var st 0)))) ?_) fun G2 H2 st => ?_
    · rw [el]
      simp [hn.1, hn.2]
    have e : led c (pl, nu, wa) = ledL pl wa (c.getD nu.toNat []) := if_pos hn
    rw [e] at q
    refine rs_forQ (enc := eStc) (xs := c.getD nu.toNat []) (up := fun u ds => (((ds.set 5 (some (.int u.1))).set 6 (some (.int u.2.1))).set 7 (some (oD u.2.2.1))).set 8 (some (oD u.2.2.2))) (is := [5, 6, 7, 8]) (fun pre => ∀ s ∈ pre, ledS pl wa s = none)
      (fun pre => [some (eChL c), some (eWit (pl, nu, wa)), some (.int pl), some (.int nu), some (.int wa), pre.getLast?.map fun s => .int s.1, pre.getLast?.map fun s => .int s.2.1, pre.getLast?.map fun s => oD s.2.2.1, pre.getLast?.map fun s => oD s.2.2.2]) (fun _ => []) st (fun _ h => by cases h) ?_ ?_ ?_ ?_
    · exact wk_list (rn_ixL (rn_var st 0) (rn_var st 3) (atI_map (f := eStsL) hn.1 hn.2))
    · intro u hu
      exact tg4 (i1 := 5) (i2 := 6) (i3 := 7) (i4 := 8)
    · rintro G1 H1 s1 pre ⟨b, l, lo, hi⟩ post ex hI σ2 G2 H2 st
      refine rs_ifT st (rt_w (rw_and (rc_t (rc_eqI (rn_var st 4) (rn_int st.ex))) fun _ => (rw_and (rc_t (rc_eqI (rn_var st 5) (rn_var st 2))) fun _ => (rw_and1 (rc_t (rc_notN st.ex (rn_var st 8))))))) (fun hk G2 H2 st => ?_) fun hk G2 H2 st => ?_
      · simp only [Bool.and_eq_true, decide_eq_true_eq, Bool.not_eq_true'] at hk
        obtain ⟨k1, k2, k3⟩ := hk
        cases hi with
        | none => cases k3
        | some j =>
          have hl : ledL pl wa (c.getD nu.toNat []) = some (b + l, j) := find_at ex hI (if_pos ⟨k1, k2, rfl⟩)
          rw [hl] at q
          exact rs_rq (st.out s1) q (rn_tup (ra_cons (rn_add (rn_var st 5) (rn_var st 6)) (ra_one (rn_var st 8))) (Nat.le_of_ble_eq_true rfl))
      · have n1 : ¬ (wa = 1 ∧ b = pl ∧ hi.isSome = true) := by
          rintro ⟨k1, k2, k3⟩
          cases hi with
          | none => cases k3
          | some j =>
            rw [decide_eq_true k1, decide_eq_true k2] at hk
            cases hk
        refine rs_ifT st (rt_w (rw_and (rc_t (rc_eqI (rn_var st 4) (rn_neg (rn_int st.ex)))) fun _ => (rw_and (rc_t (rc_eqI (rn_add (rn_var st 5) (rn_var st 6)) (rn_var st 2))) fun _ => (rw_and1 (rc_t (rc_notN st.ex (rn_var st 7))))))) (fun hk G2 H2 st => ?_) fun hk G2 H2 st => ?_
        · simp only [Bool.and_eq_true, decide_eq_true_eq, Bool.not_eq_true'] at hk
          obtain ⟨k1, k2, k3⟩ := hk
          cases lo with
          | none => cases k3
          | some j =>
            have hl : ledL pl wa (c.getD nu.toNat []) = some (b, -j) := find_at ex hI (by
              unfold ledS
              rw [if_neg n1, if_pos ⟨k1, k2, rfl⟩]
              rfl)
            rw [hl] at q
            exact rs_rq (st.out s1) q (rn_tup (ra_cons (rn_var st 5) (ra_one (rn_neg (rn_var st 7)))) (Nat.le_of_ble_eq_true rfl))
        · have n2 : ¬ (wa = -1 ∧ b + l = pl ∧ lo.isSome = true) := by
            rintro ⟨k1, k2, k3⟩
            cases lo with
            | none => cases k3
            | some j =>
              rw [decide_eq_true k1, decide_eq_true k2] at hk
              cases hk
          refine wb_nil ⟨fun s hs => ?_, G2, ?_⟩
          · rcases List.mem_append.mp hs with z | z
            · exact hI s z
            · rw [List.mem_singleton.mp z]
              unfold ledS
              rw [if_neg n1, if_neg n2]
          · simp only [List.getLast?_concat, Option.map_some]
            exact st
    · intro hI σ' G' H' st
      have hl : ledL pl wa (c.getD nu.toNat []) = none := List.findSome?_eq_none_iff.mpr hI
      rw [hl] at q
      exact rs_rq st q (rn_non st.ex)
  · have e : led c (pl, nu, wa) = none := if_neg hn
    rw [e] at q
    refine rs_ifT st (k := true) (rt_to (rc_t (rc_niR T.free (rn_var st 3) (rn_lenL T.free (rn_var st 0)))) ?_) (fun _ G2 H2 st => rs_rq st q (rn_non st.ex)) fun z => Bool.noConfusion z
    rw [el]
    by_cases h0 : 0 ≤ nu
    · have h1 : ¬ nu < c.length := fun z => hn ⟨h0, z⟩
      simp [h1]
    · simp [h0]
end
end Y
set_option Elab.async false
set_option linter.all false
set_option maxRecDepth 100000
set_option maxHeartbeats 4000000
/-! D15: the law's rings. -/
namespace Y
open PySem PySem.Spec PyProof.Rows L2
section
variable {P : Program} {w : World} {K : PySem.W.Frag} {mg : Str → Option Value} {base : Heap}
def R_Lis_ring : List Dt → Dt → Prop := fun ds d => ∃ (c : Ch) (r : Ring), ds = [eChL c, eRing r] ∧ r.length ≤ 1000 ∧ d = .bl (isRing c r)
theorem c_Lis_ring (T : Txt K mg) : C8.Cal P w K mg base 3 "_law_is_ring" (Pu K R_Lis_ring) [] := by
  refine cal_of (st := s_Lis_ring) (N := n_Lis_ring) (ps := ["_law_choice", "_law_steps"]) T 52 rfl (by decide +kernel) (by decide +kernel) (fun _ _ _ _ _ _ us hl => match us, hl with | [_, _], _ => rfl) (fun ds d h => by obtain ⟨_, _, rfl, _⟩ := h; rfl) ?_
  rintro f cdv A outer s G H Q E σ ds d hr ⟨c, r, rfl, hl, rfl⟩ st q
  cases r with
  | nil =>
    refine rs_ifT st (k := true) (rt_w (rw_go' (rt_not (k := true) (rt_to (rt_v (rn_isi (cc := .tuple) T.cls T.kit T.free (rn_var st 1) (by first | rfl | assumption) (rn_ty T st.ex))) rfl)) (rw_or1 (rt_to (rc_t (rc_eqNilT hr st.ex (rn_var st 1) (pl_ring []))) rfl)))) (fun _ G2 H2 st => rs_rq st q (rn_bl st.ex)) fun z => Bool.noConfusion z
  | cons x t =>
    refine rs_skip st (rt_w (rw_go' (rt_not (k := true) (rt_to (rt_v (rn_isi (cc := .tuple) T.cls T.kit T.free (rn_var st 1) (by first | rfl | assumption) (rn_ty T st.ex))) rfl)) (rw_or1 (rt_to (rc_t (rc_eqNilT hr st.ex (rn_var st 1) (pl_ring (x :: t)))) rfl)))) fun G2 H2 st => ?_
    refine rs_forN (i := 2) (enc := eWit) (xs := x :: t) (fun pre => [some (eChL c), some (eRing (x :: t)), pre.getLast?.map eWit, none, none, none, none]) (fun _ => []) st (wk_tup (rn_var st 1)) (fun G1 H1 s1 pre y post ex σ2 G2 H2 st => ?_) fun σ' G' H' st => ?_
    · have hfl : (([y.1, y.2.1, y.2.2] : List Int).filter fun _ => false).map (fun _ => Dt.int 1) = [] := rfl
      refine rs_skip st (rt_w (rw_go' (rt_not (k := true) (rt_to (rt_v (rn_isi (cc := .tuple) T.cls T.kit T.free (rn_var st 2) (by first | rfl | assumption) (rn_ty T st.ex))) rfl)) (rw_go' (rt_to (rc_t (rc_neI (rn_lenT T.free (rn_var st 2)) (rn_int st.ex))) rfl) (rw_or1 (rt_to (rc_t (rc_neNil hr st.ex (rn_ro (ro_to (ro_flt (i := 3) (xs := ([y.1, y.2.1, y.2.2] : List Int)) (enc := .int) (cd := fun _ => false) (f := fun _ => .int 1) st (wk_tup (rn_var st 2)) (by simp) ?_ ?_) hfl)) rfl)) rfl))))) fun G2 H2 st => wb_nil ⟨G2, ?_⟩
      · intro s1 HH C cl fp z hz σ' G' H' st
        exact rts_one (rt_w (rw_go' (rt_not (k := true) (rt_to (rt_v (rn_isi (cc := .int) T.cls T.kit T.free (rn_var st 3) (by first | rfl | assumption) (rn_ty T st.ex))) rfl)) (rw_or1 (rt_to (rt_v (rn_isi (cc := .bool) T.cls T.kit T.free (rn_var st 3) (by first | rfl | assumption) (rn_ty T st.ex))) rfl))))
      · intro s1 HH C cl fp z hz h
        cases h
      · rw [List.getLast?_concat]
        exact st
    have st := (st.drop 2)
    refine rs_par (i := 4) (j := 5) (d1 := .int x.1) (d2 := .int 0) st (rn_ixT (rn_ixT (rn_var st 1) (rn_int st.ex) (d := eWit x) atI_zero) (rn_int st.ex) rfl) (rn_int st.ex) rfl (of_decide_eq_true (by kernel_rfl)) rfl rfl (by decide) rfl rfl fun σ2 G2 H2 st => ?_
    let W := fun pre => (walkR c (x.1, 0) pre).getD (0, 0)
    refine rs_forP (j := 2) (enc := eWit) (xs := x :: t) (fun pre => (walkR c (x.1, 0) pre).isSome = true) (fun pre => [some (eChL c), some (eRing (x :: t)), pre.getLast?.map eWit, none, some (.int (W pre).1), some (.int (W pre).2), none]) (fun _ => []) st rfl ?_ ?_ ?_
    · exact wk_tup (rn_var st 1)
    · rintro G1 H1 s1 pre y post ex hI σ2 G2 H2 st
      obtain ⟨p, hp⟩ := Option.isSome_iff_exists.mp hI
      have ew : W pre = p := by
        show (walkR c (x.1, 0) pre).getD (0, 0) = p
        rw [hp]
        rfl
      rw [ew] at st
      have hs := walkR_snoc c pre (x.1, 0) y
      rw [hp] at hs
      have hs : walkR c (x.1, 0) (pre ++ [y]) = if y.1 = p.1 then (led c y).map fun z => (z.1, p.2 + z.2) else none := hs
      have stop : walkR c (x.1, 0) (pre ++ [y]) = none → isRing c (x :: t) = false := fun h => by
        have h2 := walkR_stop c (pre ++ [y]) post (x.1, 0) h
        rw [List.append_assoc, List.singleton_append, ← ex] at h2
        show (match walkR c (x.1, 0) (x :: t) with | none => false | some p => decide (p.1 = x.1) && decide (p.2 < 0)) = false
        rw [h2]
      by_cases hy : y.1 = p.1
      · rw [if_pos hy] at hs
        refine rs_let (i := 6) (d := eLed (led c y)) st (rn_if (k := true) (rt_to (rc_t (rc_eqI (rn_ixT (rn_var st 2) (rn_int st.ex) (d := .int y.1) atI_zero) (rn_var st 4))) (decide_eq_true hy)) (fun _ => (rn_c0 (c_Lled T) hr (by decide) rfl (ra_cons (rn_var st 0) (ra_one (rn_var st 2))) ?_)) fun z => Bool.noConfusion z) fun σ2 G2 H2 st => ?_
        · exact ⟨c, y, rfl, rfl⟩
        cases hz : led c y with
        | none =>
          rw [hz] at st hs
          rw [stop hs] at q
          exact rs_ifT st (k := true) (rt_to (rc_t (rc_isN st.ex (rn_var st 6))) rfl) (fun _ G2 H2 st => rs_rq (st.out s1) q (rn_bl st.ex)) fun z => Bool.noConfusion z
        | some z =>
          rw [hz] at st hs
          refine rs_skip st (rt_to (rc_t (rc_isN st.ex (rn_var st 6))) rfl) fun G2 H2 st => ?_
          refine rs_par (i := 4) (j := 5) (d1 := .int z.1) (d2 := .int (p.2 + z.2)) st (rn_ixT (d := _) (rn_var st 6) (rn_int st.ex) rfl) (rn_add (rn_var st 5) (rn_ixT (d := _) (rn_var st 6) (rn_int st.ex) rfl)) rfl (of_decide_eq_true (by kernel_rfl)) rfl rfl (by decide) rfl rfl fun σ2 G2 H2 st => wb_nil ⟨by rw [hs] <;> rfl, G2, ?_⟩
          have ew2 : W (pre ++ [y]) = (z.1, p.2 + z.2) := by
            show (walkR c (x.1, 0) (pre ++ [y])).getD (0, 0) = _
            rw [hs]
            rfl
          rw [ew2, List.getLast?_concat]
          exact st.drop 6
      · rw [if_neg hy] at hs
        rw [stop hs] at q
        refine rs_let (i := 6) (d := .non) st (rn_if (k := false) (rt_to (rc_t (rc_eqI (rn_ixT (rn_var st 2) (rn_int st.ex) (d := .int y.1) atI_zero) (rn_var st 4))) (decide_eq_false hy)) (fun z => Bool.noConfusion z) fun _ => (rn_non st.ex)) fun σ2 G2 H2 st => ?_
        exact rs_ifT st (k := true) (rt_to (rc_t (rc_isN st.ex (rn_var st 6))) rfl) (fun _ G2 H2 st => rs_rq (st.out s1) q (rn_bl st.ex)) fun z => Bool.noConfusion z
    · intro hI σ' G' H' st
      obtain ⟨p, hp⟩ := Option.isSome_iff_exists.mp hI
      have ew : W (x :: t) = p := by
        show (walkR c (x.1, 0) (x :: t)).getD (0, 0) = p
        rw [hp]
        rfl
      have er : isRing c (x :: t) = (decide (p.1 = x.1) && decide (p.2 < 0)) := by
        show (match walkR c (x.1, 0) (x :: t) with | none => false | some p => decide (p.1 = x.1) && decide (p.2 < 0)) = _
        rw [hp]
      rw [er, ← ew] at q
      exact rs_rq st q (rn_andB (rc_v (rc_eqI (rn_var st 4) (rn_ixT (rn_ixT (rn_var st 1) (rn_int st.ex) (d := eWit x) atI_zero) (rn_int st.ex) rfl))) fun _ => rn_one (rc_v (rc_lt (rn_var st 5) (rn_int st.ex))))
end
end Y
set_option Elab.async false
set_option linter.all false
set_option maxRecDepth 100000
set_option maxHeartbeats 4000000
/-! D16: the law's choices, rows. -/
namespace Y
open PySem PySem.Spec PyProof.Rows L2
def eOwnL (cs : List (List Stc)) : Dt := .lst (cs.map eStsL)
theorem rgI_filter (D l : Int) (hD : 0 ≤ D ∧ D ≤ 48) (hl : 1 ≤ l) : (rgI 0 D.toNat).filter (fun b => decide (b + l ≤ D)) = begs D l := by
  unfold begs rgI
  have e : ∀ n : Nat, ∀ m : Nat, m ≤ n → (∀ j : Nat, j < n → ((j : Int) + l ≤ D ↔ j < m)) → ((List.range n).map fun (i : Nat) => (0 : Int) + (i : Int)).filter (fun b => decide (b + l ≤ D)) = (List.range m).map fun (i : Nat) => (0 : Int) + (i : Int) := by
    intro n
    induction n with
    | zero =>
      intro m hm _
      have : m = 0 := by omega
      subst this
      rfl
    | succ n ih =>
      intro m hm h
      rw [List.range_succ, List.map_append, List.filter_append]
      by_cases c : m = n + 1
      · subst c
        have h1 := ih n (Nat.le_refl _) fun j hj => by
          have := h j (by omega)
          omega
        rw [h1]
        have h2 : decide ((0 : Int) + (n : Int) + l ≤ D) = true := decide_eq_true (by have := (h n (by omega)).mpr (by omega); omega)
        simp only [List.map_cons, List.map_nil, List.filter_cons, h2, if_true, List.filter_nil]
        rw [List.range_succ, List.map_append]
        rfl
      · have h1 := ih m (by omega) fun j hj => h j (by omega)
        rw [h1]
        have h2 : decide ((0 : Int) + (n : Int) + l ≤ D) = false := decide_eq_false fun z => by
          have := (h n (by omega)).mp (by omega)
          omega
        simp only [List.map_cons, List.map_nil, List.filter_cons, h2, Bool.false_eq_true, if_false, List.filter_nil, List.append_nil]
  refine e _ _ (by omega) fun j hj => by omega
section
variable {P : Program} {w : World} {K : PySem.W.Frag} {mg : Str → Option Value} {base : Heap}
def R_Lchoices : List Dt → Dt → Prop := fun ds d => ∃ (D : Int) (s : Sg), ds = [.int D, eT s] ∧ (0 ≤ D ∧ D ≤ 48) ∧ (1 ≤ s.len ∧ s.len ≤ 1000) ∧ d = eOwnL (ownCh D s)
theorem c_Lchoices (T : Txt K mg) : C8.Cal P w K mg base 1 "_law_choices" (Pu K R_Lchoices) [] := by
  refine cal_of (st := s_Lchoices) (N := n_Lchoices) (ps := ["_law_days", "_law_saying_here"]) T 49 rfl (by decide +kernel) (by decide +kernel) (fun _ _ _ _ _ _ us hl => match us, hl with | [_, _], _ => rfl) (fun ds d h => by obtain ⟨_, _, rfl, _⟩ := h; rfl) ?_
  rintro f cdv A outer s G H Q E σ ds d hr ⟨D, sg, rfl, hD, hl, rfl⟩ st q
  cases sg with
  | told b l lo hi =>
    refine rs_ifT st (k := true) (rt_to (rc_t (rc_eqT (i := "told") (j := "told") (rn_ixT (d := _) (rn_var st 1) (rn_int st.ex) rfl) (rn_str st.ex))) (by decide +kernel)) (fun _ G2 H2 st => rs_rq st q ?_) fun z => Bool.noConfusion z
    refine rn_lst (ds := [eStsL [(b, l, lo, hi)]]) (ra_one (rn_lst (ds := [eStc (b, l, lo, hi)]) (ra_one (rn_to (rn_slT (l := some 1) (u := none) (rn_var st 1) (po_some pe_wp) po_none (po_i (rn_int st.ex)) (po_n st.ex) ?_) rfl)) (Nat.le_of_ble_eq_true rfl))) (Nat.le_of_ble_eq_true rfl)
    exact fun h => absurd (show (1 : Nat) = 0 from h.1) (by decide)
  | rule l lo hi =>
    have hl : 1 ≤ l ∧ l ≤ 1000 := hl
    have hbl := begs_len hD ⟨by omega, hl.2⟩
    refine rs_skip st (rt_to (rc_t (rc_eqT (i := "any") (j := "told") (rn_ixT (d := _) (rn_var st 1) (rn_int st.ex) rfl) (rn_str st.ex))) (by decide +kernel)) fun G2 H2 st => ?_
    refine rs_let (i := 2) (d := .int l) st (rn_ixT (d := _) (rn_var st 1) (rn_int st.ex) rfl) fun σ2 G2 H2 st => ?_
    refine rs_letF (i := 4) (j := 3) (xs := rgI 0 D.toNat) (enc := .int) (cd := fun b => decide (b + l ≤ D)) (f := .int) st ?_ ?_ ?_ ?_ (.inr fun σ2 G2 H2 st => ?_)
    · rw [← rgD_eq]
      exact wk_rg1 T.free (rn_var st 0) (by omega)
    · rw [rgI_len]
      omega
    · intro s1 HH C cl fp y hy σ' G' H' st
      exact rts_one (rc_t (rc_le (rn_add (rn_var st 4) (rn_var st 2)) (rn_var st 0)))
    · intro s1 HH C cl fp y hy _ σ' G' H' st
      exact (rn_var st 4)
    rw [rgI_filter D l hD hl.1] at st
    refine rs_ifT st (k := true) (rt_to (rc_t (rc_eqT (i := "any") (j := "any") (rn_ixT (d := _) (rn_var st 1) (rn_int st.ex) rfl) (rn_str st.ex))) (by decide +kernel)) (fun _ G2 H2 st => rs_rq st q ?_) fun z => Bool.noConfusion z
    have e : (allWith D l lo hi).map eStc = (begs D l).map fun b => Dt.tup [.int b, .int l, oD lo, oD hi] := eStc_map.symm
    refine rn_lst (ds := [eStsL (allWith D l lo hi)]) (ra_one (rn_to (rn_map (xs := begs D l) (enc := .int) (i := 4) (f := fun b => Dt.tup [.int b, .int l, oD lo, oD hi]) st (wk_list (rn_var st 3)) (by omega) fun s1 HH C cl fp y hy σ' G' H' st => (rn_tup (ra_cons (rn_var st 4) (ra_cons (rn_var st 2) (ra_cons (rn_ixT (d := _) (rn_var st 1) (rn_int st.ex) rfl) (ra_one (rn_ixT (d := _) (rn_var st 1) (rn_int st.ex) rfl))))) (Nat.le_of_ble_eq_true rfl))) ?_)) (Nat.le_of_ble_eq_true rfl)
    show Dt.lst _ = Dt.lst ((allWith D l lo hi).map eStc)
    rw [e]
  | some l lo hi =>
    have hl : 1 ≤ l ∧ l ≤ 1000 := hl
    have hbl := begs_len hD ⟨by omega, hl.2⟩
    refine rs_skip st (rt_to (rc_t (rc_eqT (i := "some") (j := "told") (rn_ixT (d := _) (rn_var st 1) (rn_int st.ex) rfl) (rn_str st.ex))) (by decide +kernel)) fun G2 H2 st => ?_
    refine rs_let (i := 2) (d := .int l) st (rn_ixT (d := _) (rn_var st 1) (rn_int st.ex) rfl) fun σ2 G2 H2 st => ?_
    refine rs_letF (i := 4) (j := 3) (xs := rgI 0 D.toNat) (enc := .int) (cd := fun b => decide (b + l ≤ D)) (f := .int) st ?_ ?_ ?_ ?_ (.inr fun σ2 G2 H2 st => ?_)
    · rw [← rgD_eq]
      exact wk_rg1 T.free (rn_var st 0) (by omega)
    · rw [rgI_len]
      omega
    · intro s1 HH C cl fp y hy σ' G' H' st
      exact rts_one (rc_t (rc_le (rn_add (rn_var st 4) (rn_var st 2)) (rn_var st 0)))
    · intro s1 HH C cl fp y hy _ σ' G' H' st
      exact (rn_var st 4)
    rw [rgI_filter D l hD hl.1] at st
    refine rs_skip st (rt_to (rc_t (rc_eqT (i := "some") (j := "any") (rn_ixT (d := _) (rn_var st 1) (rn_int st.ex) rfl) (rn_str st.ex))) (by decide +kernel)) fun G2 H2 st => ?_
    refine rs_ifT st (k := true) (rt_to (rc_t (rc_eqT (i := "some") (j := "some") (rn_ixT (d := _) (rn_var st 1) (rn_int st.ex) rfl) (rn_str st.ex))) (by decide +kernel)) (fun _ G2 H2 st => rs_rq st q ?_) fun z => Bool.noConfusion z
    have e : (ownCh D (.some l lo hi)).map eStsL = (begs D l).map fun b => Dt.lst [.tup [.int b, .int l, oD lo, oD hi]] := by
      show ((begs D l).map fun b => [((b, l, lo, hi) : Stc)]).map eStsL = _
      rw [List.map_map]
      rfl
    refine rn_to (rn_map (xs := begs D l) (enc := .int) (i := 4) (f := fun b => Dt.lst [.tup [.int b, .int l, oD lo, oD hi]]) st (wk_list (rn_var st 3)) (by omega) fun s1 HH C cl fp y hy σ' G' H' st => (rn_lst (ra_one (rn_tup (ra_cons (rn_var st 4) (ra_cons (rn_var st 2) (ra_cons (rn_ixT (d := _) (rn_var st 1) (rn_int st.ex) rfl) (ra_one (rn_ixT (d := _) (rn_var st 1) (rn_int st.ex) rfl))))) (Nat.le_of_ble_eq_true rfl))) (Nat.le_of_ble_eq_true rfl))) ?_
    show Dt.lst _ = Dt.lst ((ownCh D (.some l lo hi)).map eStsL)
    rw [e]
  | just l n =>
    have hl : 1 ≤ l ∧ l ≤ 1000 := hl
    have hbl := begs_len hD ⟨by omega, hl.2⟩
    refine rs_skip st (rt_to (rc_t (rc_eqT (i := "just") (j := "told") (rn_ixT (d := _) (rn_var st 1) (rn_int st.ex) rfl) (rn_str st.ex))) (by decide +kernel)) fun G2 H2 st => ?_
    refine rs_let (i := 2) (d := .int l) st (rn_ixT (d := _) (rn_var st 1) (rn_int st.ex) rfl) fun σ2 G2 H2 st => ?_
    refine rs_letF (i := 4) (j := 3) (xs := rgI 0 D.toNat) (enc := .int) (cd := fun b => decide (b + l ≤ D)) (f := .int) st ?_ ?_ ?_ ?_ (.inr fun σ2 G2 H2 st => ?_)
    · rw [← rgD_eq]
      exact wk_rg1 T.free (rn_var st 0) (by omega)
    · rw [rgI_len]
      omega
    · intro s1 HH C cl fp y hy σ' G' H' st
      exact rts_one (rc_t (rc_le (rn_add (rn_var st 4) (rn_var st 2)) (rn_var st 0)))
    · intro s1 HH C cl fp y hy _ σ' G' H' st
      exact (rn_var st 4)
    rw [rgI_filter D l hD hl.1] at st
    refine rs_skip st (rt_to (rc_t (rc_eqT (i := "just") (j := "any") (rn_ixT (d := _) (rn_var st 1) (rn_int st.ex) rfl) (rn_str st.ex))) (by decide +kernel)) fun G2 H2 st => ?_
    refine rs_skip st (rt_to (rc_t (rc_eqT (i := "just") (j := "some") (rn_ixT (d := _) (rn_var st 1) (rn_int st.ex) rfl) (rn_str st.ex))) (by decide +kernel)) fun G2 H2 st => ?_
    let it := fun (pre : List Int) => pre.flatMap fun o => (begs D l).map fun p => eStsL [(o, l, none, some n), (p, l, some n, none)]
    have eit : ∀ pre y, it (pre ++ [y]) = it pre ++ (begs D l).map fun p => eStsL [(y, l, none, some n), (p, l, some n, none)] := fun pre y => flat_snoc _ pre y
    have lit : ∀ pre, (it pre).length = pre.length * (begs D l).length := fun pre => flat_const pre (begs D l) _
    refine rs_letO (i := 5) st (ro_lst (ra_nil st.ex) (Nat.le_of_ble_eq_true rfl)) fun l0 σ2 G2 H2 st => ?_
    refine rs_forN (i := 6) (enc := .int) (xs := begs D l) (fun pre => [some (.int D), some (eT (.just l n)), some (.int l), some (.lst ((begs D l).map .int)), none, some (.adr l0), pre.getLast?.map .int, none]) (fun pre => [(l0, it pre)]) st (wk_list (rn_var st 3)) (fun G1 H1 s1 pre y post ex σ2 G2 H2 st => ?_) fun σ' G' H' st => ?_
    · have hpl : pre.length ≤ 49 := by
        have := congrArg List.length ex
        rw [List.length_append, List.length_cons] at this
        omega
      refine rs_ext (j := 0) st (rn_var st 5) rfl (ro_map (xs := begs D l) (enc := .int) (i := 7) (f := fun p => eStsL [(y, l, none, some n), (p, l, some n, none)]) st (wk_list (rn_var st 3)) (by omega) fun s1 HH C cl fp z hz σ' G' H' st => (rn_lst (ra_cons (rn_tup (ra_cons (rn_var st 6) (ra_cons (rn_var st 2) (ra_cons (rn_non st.ex) (ra_one (rn_ixT (d := _) (rn_var st 1) (rn_int st.ex) rfl))))) (Nat.le_of_ble_eq_true rfl)) (ra_one (rn_tup (ra_cons (rn_var st 7) (ra_cons (rn_var st 2) (ra_cons (rn_ixT (d := _) (rn_var st 1) (rn_int st.ex) rfl) (ra_one (rn_non st.ex))))) (Nat.le_of_ble_eq_true rfl)))) (Nat.le_of_ble_eq_true rfl))) ?_ fun G2 H2 st => wb_nil ⟨G2, ?_⟩
      · rw [lit, List.length_map]
        have := Nat.mul_le_mul hpl hbl
        omega
      · rw [eit, List.getLast?_concat]
        exact st
    obtain ⟨G3, _, st⟩ := st.freeze (i := 5) (j := 0) rfl rfl
    refine rs_rq st q (rn_to (rn_var st 5) ?_)
    show Dt.lst _ = Dt.lst ((ownCh D (.just l n)).map eStsL)
    congr 1
    show (begs D l).flatMap _ = ((begs D l).flatMap fun o => (begs D l).map fun p => ([(o, l, none, some n), (p, l, some n, none)] : List Stc)).map eStsL
    rw [List.map_flatMap]
    congr 1
    funext o
    rw [List.map_map]
    rfl
end
end Y
set_option Elab.async false
set_option linter.all false
set_option maxRecDepth 100000
set_option maxHeartbeats 4000000
/-! Mth: the mathematics: a row or a ring. -/
namespace Y
open PySem PySem.Spec PyProof.Rows L2
/-! ### places -/
def fr (s : Stp4) : Nat := s.1.toNat
def to_ (s : Stp4) : Nat := s.2.1.toNat
def cs (s : Stp4) : Int := s.2.2.1
def gc (r : Rx) (v : Nat) : Int := r.costs.getD v 0
def viol (r : Rx) (s : Stp4) : Prop := gc r (fr s) + cs s < gc r (to_ s)
def prv (came : List (Option Stp4)) (v : Nat) : Nat := match came.getD v none with
  | none => 0
  | some s => fr s
def mrk (came : List (Option Stp4)) (v : Nat) : Wit := match came.getD v none with
  | none => (0, 0, 0)
  | some s => s.2.2.2
def itr (came : List (Option Stp4)) : Nat → Nat → Nat
  | 0, v => v
  | n + 1, v => itr came n (prv came v)
theorem itr_succ (came : List (Option Stp4)) : ∀ n v, itr came (n + 1) v = prv came (itr came n v)
  | 0, _ => rfl
  | n + 1, v => itr_succ came n (prv came v)
theorem itr_add (came : List (Option Stp4)) : ∀ n m v, itr came (n + m) v = itr came n (itr came m v)
  | n, 0, _ => rfl
  | n, m + 1, v => itr_add came n m (prv came v)
/-- where each step stands -/
structure StepsOk (n : Nat) (ss : List Stp4) : Prop where
  fr_lt : ∀ s ∈ ss, fr s < n
  to_lt : ∀ s ∈ ss, to_ s < n
  ne : ∀ s ∈ ss, fr s ≠ to_ s
  p0 : ∀ s ∈ ss, 0 ≤ s.1 ∧ 0 ≤ s.2.1
def Rx0 (n : Nat) : Rx := ⟨List.replicate n 0, List.replicate n none, some 0⟩
def runR (ss : List Stp4) : Nat → Rx → Rx × Bool
  | 0, r => (r, false)
  | n + 1, r => if (r.round ss).moved.isNone then (r.round ss, true) else runR ss n (r.round ss)
/-- what holds all along -/
structure IvR (n : Nat) (ss : List Stp4) (r : Rx) (t lu : Nat → Nat) (N : Nat) : Prop where
  lc : r.costs.length = n
  lm : r.came.length = n
  tb : ∀ v, t v ≤ N
  cam : ∀ v s, r.came.getD v none = some s → s ∈ ss ∧ to_ s = v ∧ gc r (fr s) + cs s ≤ gc r v ∧ (t v ≤ t (fr s) → gc r (fr s) + cs s < gc r v)
  lu1 : ∀ v, 1 ≤ lu v → ∃ s, r.came.getD v none = some s ∧ lu v ≤ lu (fr s) + 1
theorem getD_set_self {α : Type} {l : List α} {v : Nat} {x d : α} (h : v < l.length) : (l.set v x).getD v d = x := by
  simp [List.getD_eq_getElem?_getD, List.getElem?_set, h]
theorem getD_set_ne {α : Type} {l : List α} {v w : Nat} {x d : α} (h : v ≠ w) : (l.set v x).getD w d = l.getD w d := by
  simp [List.getD_eq_getElem?_getD, List.getElem?_set, h]
def put (f : Nat → Nat) (v x : Nat) : Nat → Nat := fun w => if w = v then x else f w
theorem put_same {f : Nat → Nat} {v x : Nat} : put f v x v = x := if_pos rfl
theorem put_ne {f : Nat → Nat} {v x w : Nat} (h : w ≠ v) : put f v x w = f w := if_neg h
/-- a round's turn -/
structure IvT (n : Nat) (ss pre : List Stp4) (r : Rx) (t lu : Nat → Nat) (N m : Nat) : Prop where
  base : IvR n ss r t lu N
  le : ∀ v, lu v ≤ m
  vi : ∀ s ∈ ss, viol r s → m ≤ lu (fr s) + 1
  vp : ∀ s ∈ pre, viol r s → m ≤ lu (fr s)
  mv : ∀ p, r.moved = some p → 0 ≤ p ∧ p.toNat < n ∧ lu p.toNat = m
  still : r.moved = none → ∀ s ∈ pre, ¬ viol r s
theorem one_no {r : Rx} {s : Stp4} (h : ¬ viol r s) : r.one s = r := if_neg h
theorem one_yes {r : Rx} {s : Stp4} (h : viol r s) : r.one s = ⟨r.costs.set (to_ s) (gc r (fr s) + cs s), r.came.set (to_ s) (some s), some s.2.1⟩ := if_pos h
theorem ivt_step {n : Nat} {ss pre : List Stp4} {r : Rx} {t lu : Nat → Nat} {N m : Nat} {s : Stp4} (ok : StepsOk n ss) (hs : s ∈ ss) (hm : 1 ≤ m) (I : IvT n ss pre r t lu N m) : ∃ t' lu' N', IvT n ss (pre ++ [s]) (r.one s) t' lu' N' m := by
  by_cases hv : viol r s
  · have hf := ok.fr_lt s hs
    have ht := ok.to_lt s hs
    have hne := ok.ne s hs
    have hlc := I.base.lc
    have hlm := I.base.lm
    rw [one_yes hv]
    have g1 : gc ⟨r.costs.set (to_ s) (gc r (fr s) + cs s), r.came.set (to_ s) (some s), some s.2.1⟩ (to_ s) = gc r (fr s) + cs s := getD_set_self (by omega)
    have g2 : ∀ w, w ≠ to_ s → gc ⟨r.costs.set (to_ s) (gc r (fr s) + cs s), r.came.set (to_ s) (some s), some s.2.1⟩ w = gc r w := fun w h => getD_set_ne fun z => h z.symm
    have g3 : ∀ w, gc ⟨r.costs.set (to_ s) (gc r (fr s) + cs s), r.came.set (to_ s) (some s), some s.2.1⟩ w ≤ gc r w := fun w => by
      by_cases z : w = to_ s
      · rw [z, g1]
        exact Int.le_of_lt hv
      · rw [g2 w z]
        exact Int.le_refl _
    have c1 : (r.came.set (to_ s) (some s)).getD (to_ s) none = some s := getD_set_self (by omega)
    have c2 : ∀ w, w ≠ to_ s → (r.came.set (to_ s) (some s)).getD w none = r.came.getD w none := fun w h => getD_set_ne fun z => h z.symm
    have lun := I.vi s hs hv
    have lle := I.le
    refine ⟨put t (to_ s) (N + 1), put lu (to_ s) m, N + 1, ⟨⟨by simpa using hlc, by simpa using hlm, fun v => ?_, fun v s' h => ?_, fun v h => ?_⟩, fun v => ?_, fun s' hs' h => ?_, fun s' hs' h => ?_, fun p hp => ?_, fun h => by cases h⟩⟩
    · by_cases z : v = to_ s
      · rw [z, put_same]
        exact Nat.le_refl _
      · rw [put_ne z]
        exact Nat.le_succ_of_le (I.base.tb v)
    · by_cases z : v = to_ s
      · subst z
        have e : s = s' := Option.some.inj (c1.symm.trans h)
        subst e
        refine ⟨hs, rfl, ?_, fun q => ?_⟩
        · rw [g1, g2 _ hne]
          exact Int.le_refl _
        · rw [put_same, put_ne hne] at q
          have := I.base.tb (fr s)
          omega
      · have h : (r.came.set (to_ s) (some s)).getD v none = some s' := h
        rw [c2 v z] at h
        obtain ⟨h1, h2, h3, h4⟩ := I.base.cam v s' h
        refine ⟨h1, h2, ?_, fun q => ?_⟩
        · rw [g2 v z]
          have := g3 (fr s')
          omega
        · rw [g2 v z]
          by_cases y : fr s' = to_ s
          · have e : gc r (to_ s) = gc r (fr s') := by rw [y]
            have hv : gc r (fr s) + cs s < gc r (to_ s) := hv
            rw [y, g1]
            rw [e] at hv
            omega
          · rw [put_ne z, put_ne y] at q
            rw [g2 _ y]
            exact h4 q
    · by_cases z : v = to_ s
      · subst z
        refine ⟨s, c1, ?_⟩
        rw [put_same, put_ne hne]
        exact lun
      · rw [put_ne z] at h ⊢
        obtain ⟨s', h1, h2⟩ := I.base.lu1 v h
        refine ⟨s', ?_, ?_⟩
        · show (r.came.set (to_ s) (some s)).getD v none = some s'
          rw [c2 v z]
          exact h1
        · by_cases y : fr s' = to_ s
          · rw [y, put_same]
            have := lle v
            omega
          · rw [put_ne y]
            exact h2
    · by_cases z : v = to_ s
      · rw [z, put_same]
        exact Nat.le_refl _
      · rw [put_ne z]
        exact lle v
    · by_cases y : fr s' = to_ s
      · rw [y, put_same]
        omega
      · rw [put_ne y]
        refine I.vi s' hs' ?_
        have h : gc _ (fr s') + cs s' < gc _ (to_ s') := h
        rw [g2 _ y] at h
        exact Int.lt_of_lt_of_le h (g3 _)
    · by_cases y : fr s' = to_ s
      · rw [y, put_same]
        exact Nat.le_refl _
      · rw [put_ne y]
        have h : gc _ (fr s') + cs s' < gc _ (to_ s') := h
        rw [g2 _ y] at h
        rcases List.mem_append.mp hs' with q | q
        · exact I.vp s' q (Int.lt_of_lt_of_le h (g3 _))
        · have e : s' = s := List.mem_singleton.mp q
          subst e
          rw [g1] at h
          omega
    · have e : s.2.1 = p := Option.some.inj hp
      subst e
      exact ⟨(ok.p0 s hs).2, ht, put_same⟩
  · rw [one_no hv]
    refine ⟨t, lu, N, ⟨I.base, I.le, I.vi, fun s' hs' h => ?_, I.mv, fun h s' hs' => ?_⟩⟩
    · rcases List.mem_append.mp hs' with q | q
      · exact I.vp s' q h
      · rw [List.mem_singleton.mp q] at h
        exact absurd h hv
    · rcases List.mem_append.mp hs' with q | q
      · exact I.still h s' q
      · rw [List.mem_singleton.mp q]
        exact hv
theorem ivt_fold {n : Nat} {ss : List Stp4} {m : Nat} (ok : StepsOk n ss) (hm : 1 ≤ m) : ∀ (post pre : List Stp4) (r : Rx) (t lu : Nat → Nat) (N : Nat), ss = pre ++ post → IvT n ss pre r t lu N m → ∃ t' lu' N', IvT n ss ss (post.foldl Rx.one r) t' lu' N' m
  | [], pre, r, t, lu, N, e, I => by
    rw [List.append_nil] at e
    subst e
    exact ⟨t, lu, N, I⟩
  | s :: post, pre, r, t, lu, N, e, I => by
    obtain ⟨t', lu', N', I'⟩ := ivt_step (s := s) ok (by rw [e]; simp) hm I
    exact ivt_fold ok hm post (pre ++ [s]) (r.one s) t' lu' N' (by rw [e]; simp) I'
/-- between rounds: m rounds are done -/
structure IvM (n : Nat) (ss : List Stp4) (r : Rx) (t lu : Nat → Nat) (N m : Nat) : Prop where
  base : IvR n ss r t lu N
  le : ∀ v, lu v ≤ m
  vi : ∀ s ∈ ss, viol r s → m ≤ lu (fr s)
theorem ivm_round {n : Nat} {ss : List Stp4} {r : Rx} {t lu : Nat → Nat} {N m : Nat} (ok : StepsOk n ss) (I : IvM n ss r t lu N m) : ∃ t' lu' N', IvM n ss (r.round ss) t' lu' N' (m + 1) ∧ ((r.round ss).moved = none → ∀ s ∈ ss, ¬ viol (r.round ss) s) ∧ (∀ p, (r.round ss).moved = some p → 0 ≤ p ∧ p.toNat < n ∧ lu' p.toNat = m + 1) := by
  have I0 : IvT n ss [] { r with moved := none } t lu N (m + 1) :=
    ⟨⟨I.base.lc, I.base.lm, I.base.tb, I.base.cam, I.base.lu1⟩, fun v => Nat.le_succ_of_le (I.le v), fun s hs h => Nat.succ_le_succ (I.vi s hs h), (fun s hs => by cases hs), (fun p hp => by cases hp), fun _ s hs => by cases hs⟩
  obtain ⟨t', lu', N', I'⟩ := ivt_fold ok (Nat.succ_le_succ (Nat.zero_le m)) ss [] _ t lu N rfl I0
  exact ⟨t', lu', N', ⟨I'.base, I'.le, I'.vp⟩, I'.still, I'.mv⟩
theorem ivm_run {n : Nat} {ss : List Stp4} (ok : StepsOk n ss) : ∀ (k : Nat) (r : Rx) (t lu : Nat → Nat) (N m : Nat), IvM n ss r t lu N m → (∀ p, r.moved = some p → 0 < m → 0 ≤ p ∧ p.toNat < n ∧ lu p.toNat = m) → (0 < m → r.moved ≠ none) →
    ((runR ss k r).2 = true ∧ ∃ t' lu' N' m', IvM n ss (runR ss k r).1 t' lu' N' m' ∧ ∀ s ∈ ss, ¬ viol (runR ss k r).1 s) ∨
    ((runR ss k r).2 = false ∧ ∃ t' lu' N', IvM n ss (runR ss k r).1 t' lu' N' (m + k) ∧ (0 < m + k → ∃ p, (runR ss k r).1.moved = some p ∧ 0 ≤ p ∧ p.toNat < n ∧ lu' p.toNat = m + k))
  | 0, r, t, lu, N, m, I, hp, hq => .inr ⟨rfl, t, lu, N, I, fun h => by
    cases e : r.moved with
    | none => exact absurd e (hq h)
    | some p => exact ⟨p, e, hp p e h⟩⟩
  | k + 1, r, t, lu, N, m, I, hp, hq => by
    obtain ⟨t', lu', N', I', h1, h2⟩ := ivm_round ok I
    unfold runR
    cases e : (r.round ss).moved with
    | none =>
      exact .inl ⟨rfl, t', lu', N', m + 1, I', h1 e⟩
    | some p =>
      have h := ivm_run ok k (r.round ss) t' lu' N' (m + 1) I' (fun p hp _ => h2 p hp) (fun _ => by rw [e]; exact fun z => by cases z)
      have ea : m + 1 + k = m + (k + 1) := by omega
      rw [ea] at h
      exact h
theorem ivm_start {n : Nat} {ss : List Stp4} : IvM n ss (Rx0 n) (fun _ => 0) (fun _ => 0) 0 0 := by
  refine ⟨⟨by simp [Rx0], by simp [Rx0], fun _ => Nat.le_refl _, fun v s h => ?_, fun v h => ?_⟩, fun _ => Nat.le_refl _, fun s _ _ => Nat.zero_le _⟩
  · have e : (List.replicate n (none : Option Stp4)).getD v none = none := by
      rw [List.getD_eq_getElem?_getD, List.getElem?_replicate]
      split <;> rfl
    have h : (List.replicate n (none : Option Stp4)).getD v none = some s := h
    rw [e] at h
    cases h
  · have h : 1 ≤ 0 := h
    omega
theorem php : ∀ (n : Nat) (f : Nat → Nat), (∀ i, i ≤ n → f i < n) → ∃ a b, a < b ∧ b ≤ n ∧ f a = f b
  | 0, f, h => absurd (h 0 (Nat.le_refl _)) (Nat.not_lt_zero _)
  | n + 1, f, h => by
    by_cases c : ∃ a, a ≤ n ∧ f a = f (n + 1)
    · obtain ⟨a, h1, h2⟩ := c
      exact ⟨a, n + 1, by omega, Nat.le_refl _, h2⟩
    · have ne : ∀ i, i ≤ n → f i ≠ f (n + 1) := fun i hi e => c ⟨i, hi, e⟩
      have hl := h (n + 1) (Nat.le_refl _)
      obtain ⟨a, b, h1, h2, h3⟩ := php n (fun i => if f i > f (n + 1) then f i - 1 else f i) fun i hi => by
        have h4 := h i (by omega)
        have h5 := ne i hi
        show (if f i > f (n + 1) then f i - 1 else f i) < n
        split <;> omega
      refine ⟨a, b, h1, by omega, ?_⟩
      have h4 := ne a (by omega)
      have h5 := ne b h2
      have h3 : (if f a > f (n + 1) then f a - 1 else f a) = (if f b > f (n + 1) then f b - 1 else f b) := h3
      split at h3 <;> split at h3 <;> omega
/-- the walk back from p never stops, and a place comes again -/
structure Cyc (n : Nat) (ss : List Stp4) (r : Rx) (p : Nat) : Prop where
  all : ∀ i, ∃ s, r.came.getD (itr r.came i p) none = some s ∧ s ∈ ss
  lt : ∀ i, itr r.came i p < n
  back : ∃ k, 1 ≤ k ∧ k ≤ n ∧ itr r.came k (itr r.came n p) = itr r.came n p
theorem cyc_of {n : Nat} {ss : List Stp4} {r : Rx} {t lu : Nat → Nat} {N m : Nat} {p : Nat} (ok : StepsOk n ss) (I : IvM n ss r t lu N m) (hp : p < n) (hl : lu p = m) (hm : n < m) : Cyc n ss r p := by
  have st : ∀ i, i ≤ n → m - i ≤ lu (itr r.came i p) ∧ itr r.came i p < n := by
    intro i
    induction i with
    | zero => intro _; exact ⟨by show m - 0 ≤ lu p; omega, hp⟩
    | succ i ih =>
      intro hi
      obtain ⟨h1, h2⟩ := ih (by omega)
      obtain ⟨s, h3, h4⟩ := I.base.lu1 (itr r.came i p) (by omega)
      have h5 := (I.base.cam _ _ h3).1
      have e : itr r.came (i + 1) p = fr s := by
        rw [itr_succ]
        unfold prv
        rw [h3]
      rw [e]
      exact ⟨by omega, ok.fr_lt s h5⟩
  obtain ⟨a, b, hab, hb, e⟩ := php n (fun i => itr r.came i p) fun i hi => (st i hi).2
  have e : itr r.came a p = itr r.came b p := e
  -- periodic from a on, with b - a
  have per : ∀ j, itr r.came (b + j) p = itr r.came (a + j) p := fun j => by
    rw [Nat.add_comm b j, Nat.add_comm a j, itr_add, itr_add, e]
  have red : ∀ i, ∃ j, j ≤ n ∧ itr r.came i p = itr r.came j p := by
    intro i
    induction i using Nat.strongRecOn with
    | ind i ih =>
      by_cases c : i ≤ n
      · exact ⟨i, c, rfl⟩
      · obtain ⟨j, h1, h2⟩ := ih (a + (i - b)) (by omega)
        refine ⟨j, h1, ?_⟩
        rw [← h2, ← per]
        congr 1
        omega
  refine ⟨fun i => ?_, fun i => ?_, b - a, by omega, by omega, ?_⟩
  · obtain ⟨j, h1, h2⟩ := red i
    rw [h2]
    obtain ⟨s, h3, _⟩ := I.base.lu1 (itr r.came j p) (by have := (st j h1).1; omega)
    exact ⟨s, h3, (I.base.cam _ _ h3).1⟩
  · obtain ⟨j, h1, h2⟩ := red i
    rw [h2]
    exact (st j h1).2
  · rw [← itr_add]
    have h := per (n - a)
    have e1 : b + (n - a) = (b - a) + n := by omega
    have e2 : a + (n - a) = n := by omega
    rw [e1, e2] at h
    exact h
/-! ### the ring -/
def ringF (came : List (Option Stp4)) (p : Nat) : Ring :=
  match (List.range came.length).find? (fun k => decide (itr came (k + 1) (itr came came.length p) = itr came came.length p)) with
  | none => []
  | some k => ((List.range (k + 1)).map fun i => mrk came (itr came i (itr came came.length p))).reverse
def sumC (came : List (Option Stp4)) (q : Nat) : Nat → Int
  | 0 => 0
  | k + 1 => sumC came q k + (match came.getD (itr came k q) none with | none => 0 | some s => cs s)
/-- each step of the ss is one of c's -/
def LedOk (c : Ch) (ss : List Stp4) : Prop := ∀ s ∈ ss, s.2.2.2.1 = s.1 ∧ led c s.2.2.2 = some (s.2.1, s.2.2.1)
theorem walk_rev {c : Ch} {ss : List Stp4} {came : List (Option Stp4)} {q : Nat} (lo : LedOk c ss) (p0 : ∀ s ∈ ss, 0 ≤ s.1 ∧ 0 ≤ s.2.1) (all : ∀ i, ∃ s, came.getD (itr came i q) none = some s ∧ s ∈ ss ∧ to_ s = itr came i q) : ∀ (k : Nat) (T : Int),
    walkR c ((itr came k q : Nat), T) ((List.range k).map fun i => mrk came (itr came i q)).reverse = some (((q : Nat) : Int), T + sumC came q k)
  | 0, T => by
    show some (((itr came 0 q : Nat) : Int), T) = some (((q : Nat) : Int), T + 0)
    rw [Int.add_zero]
    rfl
  | k + 1, T => by
    obtain ⟨s, h1, h2, h3⟩ := all k
    obtain ⟨l1, l2⟩ := lo s h2
    obtain ⟨z1, z2⟩ := p0 s h2
    rw [List.range_succ, List.map_append, List.reverse_append]
    have em : mrk came (itr came k q) = s.2.2.2 := by
      unfold mrk
      rw [h1]
    have en : itr came (k + 1) q = fr s := by
      rw [itr_succ]
      unfold prv
      rw [h1]
    have e1 : s.2.2.2.1 = ((itr came (k + 1) q : Nat) : Int) := by
      rw [l1, en]
      unfold fr
      omega
    show walkR c (((itr came (k + 1) q : Nat) : Int), T) (mrk came (itr came k q) :: _) = _
    rw [em]
    show (if s.2.2.2.1 = ((itr came (k + 1) q : Nat) : Int) then (match led c s.2.2.2 with | none => none | some y => walkR c (y.1, T + y.2) _) else none) = _
    rw [if_pos e1, l2]
    have e2 : s.2.1 = ((itr came k q : Nat) : Int) := by
      rw [← h3]
      unfold to_
      omega
    show walkR c (s.2.1, T + s.2.2.1) ((List.range k).map fun i => mrk came (itr came i q)).reverse = _
    rw [e2, walk_rev lo p0 all k]
    have e3 : sumC came q (k + 1) = sumC came q k + s.2.2.1 := by
      show sumC came q k + (match came.getD (itr came k q) none with | none => 0 | some s => cs s) = _
      rw [h1]
      rfl
    rw [e3]
    congr 2
    omega
theorem sum_neg {n : Nat} {ss : List Stp4} {r : Rx} {t lu : Nat → Nat} {N : Nat} {q : Nat} (I : IvR n ss r t lu N) (all : ∀ i, ∃ s, r.came.getD (itr r.came i q) none = some s) : ∀ k, 1 ≤ k → gc r (itr r.came k q) + sumC r.came q k ≤ gc r q ∧ (t (itr r.came k q) < t q ∨ gc r (itr r.came k q) + sumC r.came q k < gc r q)
  | 0, h => by omega
  | 1, _ => by
    obtain ⟨s, h1⟩ := all 0
    obtain ⟨_, h2, h3, h4⟩ := I.cam _ _ h1
    have en : itr r.came 1 q = fr s := by
      show prv r.came q = fr s
      unfold prv
      have h1 : r.came.getD q none = some s := h1
      rw [h1]
    have es : sumC r.came q 1 = cs s := by
      show 0 + (match r.came.getD (itr r.came 0 q) none with | none => 0 | some s => cs s) = _
      rw [h1]
      show 0 + cs s = cs s
      omega
    have h3 : gc r (fr s) + cs s ≤ gc r q := h3
    have h4 : t q ≤ t (fr s) → gc r (fr s) + cs s < gc r q := h4
    rw [en, es]
    refine ⟨h3, ?_⟩
    by_cases c : t q ≤ t (fr s)
    · exact .inr (h4 c)
    · exact .inl (by omega)
  | k + 2, _ => by
    obtain ⟨a1, a2⟩ := sum_neg I all (k + 1) (by omega)
    obtain ⟨s, h1⟩ := all (k + 1)
    obtain ⟨_, h2, h3, h4⟩ := I.cam _ _ h1
    have en : itr r.came (k + 2) q = fr s := by
      rw [itr_succ]
      unfold prv
      rw [h1]
    have es : sumC r.came q (k + 2) = sumC r.came q (k + 1) + cs s := by
      show sumC r.came q (k + 1) + (match r.came.getD (itr r.came (k + 1) q) none with | none => 0 | some s => cs s) = _
      rw [h1]
    rw [en, es]
    refine ⟨by omega, ?_⟩
    by_cases c : t (itr r.came (k + 1) q) ≤ t (fr s)
    · have := h4 c
      exact .inr (by omega)
    · rcases a2 with a2 | a2
      · exact .inl (by omega)
      · exact .inr (by omega)
theorem ring_ok {n : Nat} {c : Ch} {ss : List Stp4} {r : Rx} {t lu : Nat → Nat} {N : Nat} {p : Nat} (ok : StepsOk n ss) (lo : LedOk c ss) (I : IvR n ss r t lu N) (C : Cyc n ss r p) : isRing c (ringF r.came p) = true := by
  have hl := I.lm
  obtain ⟨k0, b1, b2, b3⟩ := C.back
  unfold ringF
  rw [hl]
  have tot : ∀ i, itr r.came i (itr r.came n p) = itr r.came (i + n) p := fun i => (itr_add _ _ _ _).symm
  have all : ∀ i, ∃ s, r.came.getD (itr r.came i (itr r.came n p)) none = some s ∧ s ∈ ss ∧ to_ s = itr r.came i (itr r.came n p) := fun i => by
    rw [tot i]
    obtain ⟨s, h1, h2⟩ := C.all (i + n)
    exact ⟨s, h1, h2, (I.cam _ _ h1).2.1⟩
  cases e : (List.range n).find? (fun k => decide (itr r.came (k + 1) (itr r.came n p) = itr r.came n p)) with
  | none =>
    have := List.find?_eq_none.mp e (k0 - 1) (List.mem_range.mpr (by omega))
    have ek : k0 - 1 + 1 = k0 := by omega
    rw [ek, b3] at this
    exact absurd (decide_eq_true rfl) this
  | some k =>
    have hk := List.find?_some e
    have hk : itr r.came (k + 1) (itr r.came n p) = itr r.came n p := of_decide_eq_true hk
    have w := walk_rev lo ok.p0 all (k + 1) 0
    obtain ⟨s1, s2⟩ := sum_neg I (fun i => by obtain ⟨s, h, _⟩ := all i; exact ⟨s, h⟩) (k + 1) (by omega)
    rw [hk] at w s1 s2
    have neg : sumC r.came (itr r.came n p) (k + 1) < 0 := by
      rcases s2 with s2 | s2 <;> omega
    have hm : ∃ x tl, ((List.range (k + 1)).map fun i => mrk r.came (itr r.came i (itr r.came n p))).reverse = x :: tl ∧ x.1 = ((itr r.came n p : Nat) : Int) := by
      rw [List.range_succ, List.map_append, List.reverse_append]
      refine ⟨_, _, rfl, ?_⟩
      obtain ⟨s, h1, h2, h3⟩ := all k
      have em : mrk r.came (itr r.came k (itr r.came n p)) = s.2.2.2 := by
        unfold mrk
        rw [h1]
      have en : itr r.came (k + 1) (itr r.came n p) = fr s := by
        rw [itr_succ]
        unfold prv
        rw [h1]
      show (mrk r.came (itr r.came k (itr r.came n p))).1 = _
      rw [em, (lo s h2).1, ← hk, en]
      have := (ok.p0 s h2).1
      unfold fr
      omega
    obtain ⟨x, tl, ex, hx⟩ := hm
    dsimp only
    rw [ex] at w ⊢
    show (match walkR c (x.1, 0) (x :: tl) with | none => false | some p => decide (p.1 = x.1) && decide (p.2 < 0)) = true
    rw [hx, w]
    show (decide (((itr r.came n p : Nat) : Int) = ((itr r.came n p : Nat) : Int)) && decide (0 + sumC r.came (itr r.came n p) (k + 1) < 0)) = true
    rw [decide_eq_true rfl, decide_eq_true (by omega)]
    rfl
/-! ### no row with a ring -/
def hgt (g : List Int) (p : Int) : Int := (hts g).getD p.toNat 0
def kpSt (g : List Int) (s : Stc) : Bool := wi (sumAt g s.1 s.2.1) s.2.2.1 s.2.2.2
theorem wi_lo {v l : Int} {hi : OI} (h : wi v (some l) hi = true) : l ≤ v := by
  unfold wi at h
  rw [Bool.and_eq_true] at h
  exact of_decide_eq_true h.1
theorem wi_hi {v l : Int} {lo : OI} (h : wi v lo (some l) = true) : v ≤ l := by
  unfold wi at h
  rw [Bool.and_eq_true] at h
  exact of_decide_eq_true h.2
theorem led_le {c : Ch} {g : List Int} (k : ∀ ss ∈ c, ∀ s ∈ ss, kpSt g s = true) {x : Wit} {y : Int × Int} (h : led c x = some y) : hgt g y.1 - hgt g x.1 ≤ y.2 := by
  unfold led at h
  split at h
  · rename_i hn
    unfold ledL at h
    obtain ⟨s, hs, h2⟩ := List.exists_of_findSome?_eq_some h
    have hm : c.getD x.2.1.toNat [] ∈ c := by
      have lt : x.2.1.toNat < c.length := by omega
      rw [List.getD_eq_getElem?_getD, List.getElem?_eq_getElem lt]
      exact List.getElem_mem lt
    have hk := k _ hm s hs
    obtain ⟨b, l, lo, hi⟩ := s
    unfold ledS at h2
    split at h2
    · rename_i h3
      obtain ⟨_, h4, h5⟩ := h3
      have e := Option.some.inj h2
      subst e
      have h4 : b = x.1 := h4
      cases hi with
      | none => cases h5
      | some j =>
        have h6 : sumAt g b l ≤ j := wi_hi hk
        show hgt g (b + l) - hgt g x.1 ≤ j
        rw [← h4]
        exact h6
    · split at h2
      · rename_i h3
        obtain ⟨_, h4, h5⟩ := h3
        have e := Option.some.inj h2
        subst e
        have h4 : b + l = x.1 := h4
        cases lo with
        | none => cases h5
        | some j =>
          have h6 : j ≤ hgt g (b + l) - hgt g b := wi_lo hk
          have h7 : hgt g x.1 = hgt g (b + l) := by rw [h4]
          show hgt g b - hgt g x.1 ≤ -j
          omega
      · cases h2
  · cases h
theorem walk_le {c : Ch} {g : List Int} (k : ∀ ss ∈ c, ∀ s ∈ ss, kpSt g s = true) : ∀ (r : List Wit) (p q : Int × Int), walkR c p r = some q → hgt g q.1 - hgt g p.1 ≤ q.2 - p.2
  | [], p, q, h => by
    have e : p = q := Option.some.inj h
    subst e
    omega
  | x :: r, p, q, h => by
    rw [show walkR c p (x :: r) = (if x.1 = p.1 then (match led c x with | none => none | some y => walkR c (y.1, p.2 + y.2) r) else none) from rfl] at h
    split at h
    · rename_i e
      cases z : led c x with
      | none =>
        rw [z] at h
        cases h
      | some y =>
        rw [z] at h
        have h1 := walk_le k r _ q h
        have h2 := led_le k z
        rw [e] at h2
        simp only at h1
        omega
    · cases h
theorem ring_no {c : Ch} {r : Ring} {g : List Int} (h : isRing c r = true) (k : ∀ ss ∈ c, ∀ s ∈ ss, kpSt g s = true) : False := by
  unfold isRing at h
  cases r with
  | nil => cases h
  | cons x t =>
    dsimp only at h
    cases w : walkR c (x.1, 0) (x :: t) with
    | none =>
      rw [w] at h
      cases h
    | some p =>
      rw [w] at h
      rw [Bool.and_eq_true] at h
      have h1 := of_decide_eq_true h.1
      have h2 := of_decide_eq_true h.2
      have h3 := walk_le k _ _ _ w
      simp only at h3
      rw [h1] at h3
      omega
/-! ### the row -/
def gnsOf (h : List Int) : List Int := (h.zip h.tail).map fun p => p.2 - p.1
theorem hts_gns : ∀ (h : List Int) (a : Int), htsF a (gnsOf (a :: h)) = a :: h
  | [], a => rfl
  | b :: r, a => by
    have e : gnsOf (a :: b :: r) = (b - a) :: gnsOf (b :: r) := rfl
    rw [e, htsF]
    have e2 : a + (b - a) = b := by omega
    rw [e2, hts_gns r b]
theorem gns_len : ∀ (h : List Int) (a : Int), (gnsOf (a :: h)).length = h.length
  | [], _ => rfl
  | b :: r, a => by
    have e : gnsOf (a :: b :: r) = (b - a) :: gnsOf (b :: r) := rfl
    rw [e, List.length_cons, gns_len r b, List.length_cons]
/-- a row by the costs -/
def rowOf (cst : List Int) : List Int := gnsOf (cst.map fun x => x - cst.getD 0 0)
theorem row_hts {cst : List Int} {n : Nat} (h : cst.length = n + 1) : hts (rowOf cst) = (cst.map fun x => x - cst.getD 0 0) ∧ (rowOf cst).length = n := by
  cases cst with
  | nil => cases h
  | cons a r =>
    have e : ((a :: r).map fun x => x - (a :: r).getD 0 0) = 0 :: r.map fun x => x - a := by
      show (a - a) :: r.map (fun x => x - a) = _
      rw [Int.sub_self]
    unfold rowOf
    rw [e]
    refine ⟨hts_gns _ 0, ?_⟩
    rw [gns_len, List.length_map]
    simpa using h
theorem row_sum {cst : List Int} {n : Nat} (h : cst.length = n + 1) {b l : Int} (hb : 0 ≤ b ∧ 0 ≤ l ∧ b + l ≤ n) : sumAt (rowOf cst) b l = cst.getD (b + l).toNat 0 - cst.getD b.toNat 0 := by
  unfold sumAt
  rw [(row_hts h).1]
  have get : ∀ i : Nat, i < cst.length → (cst.map fun x => x - cst.getD 0 0).getD i 0 = cst.getD i 0 - cst.getD 0 0 := fun i hi => by
    rw [List.getD_eq_getElem?_getD, List.getElem?_map, List.getElem?_eq_getElem hi, List.getD_eq_getElem?_getD (l := cst) (i := i), List.getElem?_eq_getElem hi]
    rfl
  rw [get _ (by omega), get _ (by omega)]
  omega
/-! ### choices -/
structure StsOk (D : Int) (ss : List Stc) : Prop where
  rng : ∀ s ∈ ss, 0 ≤ s.1 ∧ 1 ≤ s.2.1 ∧ s.1 + s.2.1 ≤ D
  hi1 : ∀ s ∈ ss, ∀ s' ∈ ss, s.1 = s'.1 → s.2.2.2.isSome = true → s'.2.2.2.isSome = true → s.2.1 = s'.2.1 ∧ s.2.2.2 = s'.2.2.2
  lo1 : ∀ s ∈ ss, ∀ s' ∈ ss, s.1 + s.2.1 = s'.1 + s'.2.1 → s.2.2.1.isSome = true → s'.2.2.1.isSome = true → s.1 = s'.1 ∧ s.2.2.1 = s'.2.2.1
theorem mem_stps {c : Ch} {x : Stp4} (h : x ∈ stps c) : ∃ (i : Nat) (ss : List Stc) (s : Stc), c[i]? = some ss ∧ s ∈ ss ∧ (x ∈ hiStp i s ∨ x ∈ loStp i s) := by
  unfold stps at h
  obtain ⟨p, hp, h1⟩ := List.mem_flatMap.mp h
  have h2 := List.mem_zipIdx_iff_getElem?.mp hp
  unfold stpsOf at h1
  obtain ⟨s, hs, h3⟩ := List.mem_flatMap.mp h1
  exact ⟨p.2, p.1, s, h2, hs, List.mem_append.mp h3⟩
theorem stps_of {c : Ch} {i : Nat} {ss : List Stc} {s : Stc} {x : Stp4} (h : c[i]? = some ss) (hs : s ∈ ss) (hx : x ∈ hiStp i s ∨ x ∈ loStp i s) : x ∈ stps c := by
  unfold stps
  exact List.mem_flatMap.mpr ⟨(ss, i), List.mem_zipIdx_iff_getElem?.mpr h, List.mem_flatMap.mpr ⟨s, hs, List.mem_append.mpr hx⟩⟩
theorem mem_hi {n : Int} {s : Stc} {x : Stp4} (h : x ∈ hiStp n s) : ∃ j, s.2.2.2 = some j ∧ x = (s.1, s.1 + s.2.1, j, (s.1, n, 1)) := by
  unfold hiStp at h
  split at h
  · cases h
  · rename_i j e
    exact ⟨j, e, List.mem_singleton.mp h⟩
theorem mem_lo {n : Int} {s : Stc} {x : Stp4} (h : x ∈ loStp n s) : ∃ j, s.2.2.1 = some j ∧ x = (s.1 + s.2.1, s.1, -j, (s.1 + s.2.1, n, -1)) := by
  unfold loStp at h
  split at h
  · cases h
  · rename_i j e
    exact ⟨j, e, List.mem_singleton.mp h⟩
theorem steps_ok {D : Nat} {c : Ch} (h : ∀ ss ∈ c, StsOk D ss) : StepsOk (D + 1) (stps c) := by
  have key : ∀ x ∈ stps c, ∃ s : Stc, (0 ≤ s.1 ∧ 1 ≤ s.2.1 ∧ s.1 + s.2.1 ≤ D) ∧ ((x.1 = s.1 ∧ x.2.1 = s.1 + s.2.1) ∨ (x.1 = s.1 + s.2.1 ∧ x.2.1 = s.1)) := fun x hx => by
    obtain ⟨i, ss, s, h1, h2, h3⟩ := mem_stps hx
    have h4 := (h ss (List.mem_of_getElem? h1)).rng s h2
    rcases h3 with h3 | h3
    · obtain ⟨j, _, e⟩ := mem_hi h3
      exact ⟨s, h4, .inl (by rw [e]; exact ⟨rfl, rfl⟩)⟩
    · obtain ⟨j, _, e⟩ := mem_lo h3
      exact ⟨s, h4, .inr (by rw [e]; exact ⟨rfl, rfl⟩)⟩
  refine ⟨fun x hx => ?_, fun x hx => ?_, fun x hx => ?_, fun x hx => ?_⟩ <;> obtain ⟨s, ⟨a1, a2, a3⟩, h⟩ := key x hx <;> first | (show x.1.toNat < D + 1; omega) | (show x.2.1.toNat < D + 1; omega) | (show x.1.toNat ≠ x.2.1.toNat; omega) | omega
theorem led_ok {D : Int} {c : Ch} (h : ∀ ss ∈ c, StsOk D ss) : LedOk c (stps c) := fun x hx => by
  obtain ⟨i, ss, s, h1, h2, h3⟩ := mem_stps hx
  have ok := h ss (List.mem_of_getElem? h1)
  have lt : i < c.length := (List.getElem?_eq_some_iff.mp h1).1
  have eg : c.getD ((i : Int)).toNat [] = ss := by
    rw [Int.toNat_natCast, List.getD_eq_getElem?_getD, h1]
    rfl
  have first : ∀ {f : Stc → Option (Int × Int)} {y : Int × Int}, f s = some y → (∀ s' ∈ ss, ∀ z, f s' = some z → z = y) → ss.findSome? f = some y := fun {f y} hy un => by
    cases e : ss.findSome? f with
    | none => 
      have := List.findSome?_eq_none_iff.mp e s h2
      rw [hy] at this
      cases this
    | some z =>
      obtain ⟨s', hs', hz⟩ := List.exists_of_findSome?_eq_some e
      rw [un s' hs' z hz]
  rcases h3 with h3 | h3
  · obtain ⟨j, e, rfl⟩ := mem_hi h3
    refine ⟨rfl, ?_⟩
    unfold led
    rw [if_pos (by show 0 ≤ (i : Int) ∧ (i : Int) < c.length; omega)]
    show ledL s.1 1 (c.getD ((i : Int)).toNat []) = some (s.1 + s.2.1, j)
    rw [eg]
    refine first (f := ledS s.1 1) ?_ fun s' hs' z hz => ?_
    · unfold ledS
      rw [if_pos ⟨rfl, rfl, by rw [e]; rfl⟩, e]
      rfl
    · unfold ledS at hz
      split at hz
      · rename_i h5
        obtain ⟨_, h6, h7⟩ := h5
        obtain ⟨q1, q2⟩ := ok.hi1 s' hs' s h2 h6 h7 (by rw [e]; rfl)
        rw [← Option.some.inj hz, h6, q1, q2, e]
        rfl
      · rw [if_neg (by rintro ⟨z1, _⟩; cases z1)] at hz
        cases hz
  · obtain ⟨j, e, rfl⟩ := mem_lo h3
    refine ⟨rfl, ?_⟩
    unfold led
    rw [if_pos (by show 0 ≤ (i : Int) ∧ (i : Int) < c.length; omega)]
    show ledL (s.1 + s.2.1) (-1) (c.getD ((i : Int)).toNat []) = some (s.1, -j)
    rw [eg]
    refine first (f := ledS (s.1 + s.2.1) (-1)) ?_ fun s' hs' z hz => ?_
    · unfold ledS
      rw [if_neg (by rintro ⟨z1, _⟩; cases z1), if_pos ⟨rfl, rfl, by rw [e]; rfl⟩, e]
      rfl
    · unfold ledS at hz
      rw [if_neg (by rintro ⟨z1, _⟩; cases z1)] at hz
      split at hz
      · rename_i h5
        obtain ⟨_, h6, h7⟩ := h5
        obtain ⟨q1, q2⟩ := ok.lo1 s' hs' s h2 h6 h7 (by rw [e]; rfl)
        rw [← Option.some.inj hz, q1, q2, e]
        rfl
      · cases hz
/-- a row or a ring -/
def rowOrRing (D : Nat) (c : Ch) : List Int ⊕ Ring :=
  if (runR (stps c) (D + 2) (Rx0 (D + 1))).2 = true then .inl (rowOf (runR (stps c) (D + 2) (Rx0 (D + 1))).1.costs) else .inr (ringF (runR (stps c) (D + 2) (Rx0 (D + 1))).1.came ((runR (stps c) (D + 2) (Rx0 (D + 1))).1.moved.getD 0).toNat)
theorem ror_inl {D : Nat} {c : Ch} (h : ∀ ss ∈ c, StsOk D ss) {g : List Int} (e : rowOrRing D c = .inl g) : g.length = D ∧ ∀ ss ∈ c, ∀ s ∈ ss, kpSt g s = true := by
  have ok := steps_ok h
  unfold rowOrRing at e
  rcases ivm_run ok (D + 2) (Rx0 (D + 1)) _ _ 0 0 ivm_start (fun _ _ h => by omega) (fun h => by omega) with ⟨h1, t, lu, N, m, I, still⟩ | ⟨h1, _⟩
  · rw [if_pos h1] at e
    have e1 : rowOf (runR (stps c) (D + 2) (Rx0 (D + 1))).1.costs = g := Sum.inl.inj e
    subst e1
    have hl := I.base.lc
    refine ⟨(row_hts hl).2, fun ss hss s hs => ?_⟩
    obtain ⟨i, hi⟩ := List.mem_iff_getElem?.mp hss
    obtain ⟨r1, r2, r3⟩ := (h ss hss).rng s hs
    unfold kpSt
    rw [row_sum hl ⟨r1, by omega, r3⟩]
    obtain ⟨b, l, lo, hi2⟩ := s
    have r1 : 0 ≤ b := r1
    have r2 : 1 ≤ l := r2
    have r3 : b + l ≤ D := r3
    unfold wi
    rw [Bool.and_eq_true]
    constructor
    · cases lo with
      | none => rfl
      | some j =>
        refine decide_eq_true ?_
        have h5 := still (b + l, b, -j, (b + l, i, -1)) (stps_of hi hs (.inr (by simp [loStp])))
        have h5 : ¬ ((runR (stps c) (D + 2) (Rx0 (D + 1))).1.costs.getD (b + l).toNat 0 + -j < (runR (stps c) (D + 2) (Rx0 (D + 1))).1.costs.getD b.toNat 0) := h5
        show j ≤ (runR (stps c) (D + 2) (Rx0 (D + 1))).1.costs.getD (b + l).toNat 0 - (runR (stps c) (D + 2) (Rx0 (D + 1))).1.costs.getD b.toNat 0
        omega
    · cases hi2 with
      | none => rfl
      | some j =>
        refine decide_eq_true ?_
        have h5 := still (b, b + l, j, (b, i, 1)) (stps_of hi hs (.inl (by simp [hiStp])))
        have h5 : ¬ ((runR (stps c) (D + 2) (Rx0 (D + 1))).1.costs.getD b.toNat 0 + j < (runR (stps c) (D + 2) (Rx0 (D + 1))).1.costs.getD (b + l).toNat 0) := h5
        show (runR (stps c) (D + 2) (Rx0 (D + 1))).1.costs.getD (b + l).toNat 0 - (runR (stps c) (D + 2) (Rx0 (D + 1))).1.costs.getD b.toNat 0 ≤ j
        omega
  · rw [if_neg (by rw [h1]; simp)] at e
    cases e
theorem ror_run {D : Nat} {c : Ch} (h : ∀ ss ∈ c, StsOk D ss) (e : (runR (stps c) (D + 2) (Rx0 (D + 1))).2 = false) : ∃ p, (runR (stps c) (D + 2) (Rx0 (D + 1))).1.moved = some p ∧ 0 ≤ p ∧ p.toNat < D + 1 ∧ Cyc (D + 1) (stps c) (runR (stps c) (D + 2) (Rx0 (D + 1))).1 p.toNat ∧ ∃ t lu N, IvR (D + 1) (stps c) (runR (stps c) (D + 2) (Rx0 (D + 1))).1 t lu N := by
  have ok := steps_ok h
  rcases ivm_run ok (D + 2) (Rx0 (D + 1)) _ _ 0 0 ivm_start (fun _ _ h => by omega) (fun h => by omega) with ⟨h1, _⟩ | ⟨_, t, lu, N, I, h2⟩
  · rw [e] at h1
    cases h1
  · obtain ⟨p, h3, h4, h5, h6⟩ := h2 (by omega)
    exact ⟨p, h3, h4, h5, cyc_of ok I h5 h6 (by omega), t, lu, N, I.base⟩
theorem ror_inr {D : Nat} {c : Ch} (h : ∀ ss ∈ c, StsOk D ss) {r : Ring} (e : rowOrRing D c = .inr r) : isRing c r = true := by
  unfold rowOrRing at e
  by_cases z : (runR (stps c) (D + 2) (Rx0 (D + 1))).2 = true
  · rw [if_pos z] at e
    cases e
  · rw [if_neg z] at e
    have z : (runR (stps c) (D + 2) (Rx0 (D + 1))).2 = false := by simpa using z
    obtain ⟨p, h1, h2, h3, C, t, lu, N, I⟩ := ror_run h z
    rw [h1] at e
    rw [← Sum.inr.inj e]
    exact ring_ok (steps_ok h) (led_ok h) I C
/-- the first row, or the rings -/
def look (D : Nat) : List Ch → List Ring → Option (List Int) × List Ring
  | [], rs => (none, rs)
  | c :: cs, rs => match rowOrRing D c with
    | .inl g => (some g, rs)
    | .inr r => look D cs (rs ++ [r])
theorem look_some {D : Nat} : ∀ {cs : List Ch} {rs : List Ring} {g : List Int}, (look D cs rs).1 = some g → ∃ c ∈ cs, rowOrRing D c = .inl g
  | [], _, _, h => by cases h
  | c :: cs, rs, g, h => by
    unfold look at h
    cases e : rowOrRing D c with
    | inl g' =>
      rw [e] at h
      have : g' = g := Option.some.inj h
      subst this
      exact ⟨c, List.mem_cons_self, e⟩
    | inr r =>
      rw [e] at h
      obtain ⟨c', h1, h2⟩ := look_some h
      exact ⟨c', List.mem_cons_of_mem _ h1, h2⟩
theorem look_none {D : Nat} : ∀ {cs : List Ch} {rs : List Ring}, (look D cs rs).1 = none → ∃ qs, (look D cs rs).2 = rs ++ qs ∧ qs.length = cs.length ∧ ∀ (i : Nat) (c : Ch) (q : Ring), cs[i]? = some c → qs[i]? = some q → rowOrRing D c = .inr q
  | [], rs, _ => ⟨[], (List.append_nil _).symm, rfl, fun i c q h _ => by simp at h⟩
  | c :: cs, rs, h => by
    unfold look at h ⊢
    cases e : rowOrRing D c with
    | inl g' =>
      rw [e] at h
      cases h
    | inr r =>
      rw [e] at h
      obtain ⟨qs, h1, h2, h3⟩ := look_none h
      refine ⟨r :: qs, ?_, by rw [List.length_cons, List.length_cons, h2], fun i c' q hc hq => ?_⟩
      · show (look D cs (rs ++ [r])).2 = _
        rw [h1, List.append_assoc]
        rfl
      · cases i with
        | zero =>
          have e1 : c = c' := Option.some.inj hc
          have e2 : r = q := Option.some.inj hq
          rw [← e1, ← e2]
          exact e
        | succ i => exact h3 i c' q hc hq
/-! ### what is kept -/
def kpL (g : List Int) : Sg → Bool
  | .rule l lo hi => (sumsIn g l).all fun v => wi v lo hi
  | .some l lo hi => (sumsIn g l).any fun v => wi v lo hi
  | .just l n => decide (0 < (sumsIn g l).length) && (decide (lmin (sumsIn g l) ≤ n) && decide (n ≤ lmax (sumsIn g l)))
  | .told b l lo hi => wi (sumAt g b l) lo hi
def KpAll (k : Bk) (g : List Int) : Prop := ∀ s ∈ k.2, kpL g s = true
def kpB (ss : List Sg) (g : List Int) : Bool := ss.all (kpL g)
theorem kpB_iff {k : Bk} {g : List Int} : kpB k.2 g = true ↔ KpAll k g := List.all_eq_true
theorem just_iff {xs : List Int} {n : Int} : (decide (0 < xs.length) && (decide (lmin xs ≤ n) && decide (n ≤ lmax xs))) = true ↔ (∃ a ∈ xs, a ≤ n) ∧ ∃ b ∈ xs, n ≤ b := by
  rw [Bool.and_eq_true, Bool.and_eq_true, decide_eq_true_eq, decide_eq_true_eq, decide_eq_true_eq]
  constructor
  · rintro ⟨h1, h2, h3⟩
    have ne : xs ≠ [] := fun z => by rw [z] at h1; simp at h1
    exact ⟨⟨_, (lmin_spec ne).1, h2⟩, ⟨_, (lmax_spec ne).1, h3⟩⟩
  · rintro ⟨⟨a, ha, h1⟩, ⟨b, hb, h2⟩⟩
    have ne : xs ≠ [] := fun z => by rw [z] at ha; cases ha
    have h3 := (lmin_spec ne).2 a ha
    have h4 := (lmax_spec ne).2 b hb
    exact ⟨List.length_pos_of_mem ha, by omega, by omega⟩
theorem sumsIn_begs {g : List Int} {D l : Int} (h : (g.length : Int) = D) : sumsIn g l = (begs D l).map fun b => sumAt g b l := by
  unfold sumsIn begs
  rw [h]
  rfl
theorem mem_begs {D l b : Int} : b ∈ begs D l ↔ 0 ≤ b ∧ b + l ≤ D := by
  unfold begs
  constructor
  · intro h
    have := mem_rgI h
    omega
  · intro h
    unfold rgI
    refine List.mem_map.mpr ⟨b.toNat, List.mem_range.mpr (by omega), by omega⟩
theorem own_keep {g : List Int} {D : Int} (h : (g.length : Int) = D) (s : Sg) : kpL g s = true ↔ ∃ ch ∈ ownCh D s, ∀ t ∈ ch, kpSt g t = true := by
  cases s with
  | rule l lo hi =>
    show ((sumsIn g l).all fun v => wi v lo hi) = true ↔ _
    rw [sumsIn_begs h, List.all_map, List.all_eq_true]
    constructor
    · intro q
      refine ⟨_, List.mem_singleton_self _, fun t ht => ?_⟩
      obtain ⟨b, hb, rfl⟩ := List.mem_map.mp ht
      exact q b hb
    · rintro ⟨ch, hc, q⟩ b hb
      have e : ch = allWith D l lo hi := List.mem_singleton.mp hc
      subst e
      exact q (b, l, lo, hi) (List.mem_map.mpr ⟨b, hb, rfl⟩)
  | told b l lo hi =>
    constructor
    · intro q
      refine ⟨_, List.mem_singleton_self _, fun t ht => ?_⟩
      rw [List.mem_singleton.mp ht]
      exact q
    · rintro ⟨ch, hc, q⟩
      have e : ch = [(b, l, lo, hi)] := List.mem_singleton.mp hc
      subst e
      exact q _ (List.mem_singleton_self _)
  | some l lo hi =>
    show ((sumsIn g l).any fun v => wi v lo hi) = true ↔ _
    rw [sumsIn_begs h, List.any_map, List.any_eq_true]
    constructor
    · rintro ⟨b, hb, q⟩
      refine ⟨[(b, l, lo, hi)], List.mem_map.mpr ⟨b, hb, rfl⟩, fun t ht => ?_⟩
      rw [List.mem_singleton.mp ht]
      exact q
    · rintro ⟨ch, hc, q⟩
      obtain ⟨b, hb, rfl⟩ := List.mem_map.mp hc
      exact ⟨b, hb, q _ (List.mem_singleton_self _)⟩
  | just l n =>
    show (decide (0 < (sumsIn g l).length) && (decide (lmin (sumsIn g l) ≤ n) && decide (n ≤ lmax (sumsIn g l)))) = true ↔ _
    rw [just_iff, sumsIn_begs h]
    have wh : ∀ v : Int, wi v none (some n) = true ↔ v ≤ n := fun v => by simp [wi]
    have wl : ∀ v : Int, wi v (some n) none = true ↔ n ≤ v := fun v => by simp [wi]
    constructor
    · rintro ⟨⟨a, ha, h1⟩, ⟨b, hb, h2⟩⟩
      obtain ⟨o, ho, rfl⟩ := List.mem_map.mp ha
      obtain ⟨p, hp, rfl⟩ := List.mem_map.mp hb
      refine ⟨[(o, l, none, some n), (p, l, some n, none)], List.mem_flatMap.mpr ⟨o, ho, List.mem_map.mpr ⟨p, hp, rfl⟩⟩, fun t ht => ?_⟩
      rcases List.mem_cons.mp ht with e | ht
      · rw [e]
        exact (wh _).mpr h1
      · rw [List.mem_singleton.mp ht]
        exact (wl _).mpr h2
    · rintro ⟨ch, hc, q⟩
      obtain ⟨o, ho, hc⟩ := List.mem_flatMap.mp hc
      obtain ⟨p, hp, rfl⟩ := List.mem_map.mp hc
      exact ⟨⟨_, List.mem_map.mpr ⟨o, ho, rfl⟩, (wh _).mp (q _ List.mem_cons_self)⟩, ⟨_, List.mem_map.mpr ⟨p, hp, rfl⟩, (wl _).mp (q _ (List.mem_cons_of_mem _ List.mem_cons_self))⟩⟩
theorem own_ok {D : Int} {s : Sg} (ho : SgOk s) (hf : fitS D s = true) : ∀ ch ∈ ownCh D s, StsOk D ch := by
  have one : ∀ {t : Stc}, 0 ≤ t.1 ∧ 1 ≤ t.2.1 ∧ t.1 + t.2.1 ≤ D → StsOk D [t] := fun {t} h =>
    ⟨fun s hs => by rw [List.mem_singleton.mp hs]; exact h, fun s hs s' hs' _ _ _ => by rw [List.mem_singleton.mp hs, List.mem_singleton.mp hs']; exact ⟨rfl, rfl⟩, fun s hs s' hs' _ _ _ => by rw [List.mem_singleton.mp hs, List.mem_singleton.mp hs']; exact ⟨rfl, rfl⟩⟩
  intro ch hc
  cases s with
  | rule l lo hi =>
    have e : ch = allWith D l lo hi := List.mem_singleton.mp hc
    subst e
    have hl : 1 ≤ l := ho.1.1
    refine ⟨fun s hs => ?_, fun s hs s' hs' h _ _ => ?_, fun s hs s' hs' h _ _ => ?_⟩
    · obtain ⟨b, hb, rfl⟩ := List.mem_map.mp hs
      have := mem_begs.mp hb
      exact ⟨this.1, hl, this.2⟩
    · obtain ⟨b, hb, rfl⟩ := List.mem_map.mp hs
      obtain ⟨b', hb', rfl⟩ := List.mem_map.mp hs'
      exact ⟨rfl, rfl⟩
    · obtain ⟨b, hb, rfl⟩ := List.mem_map.mp hs
      obtain ⟨b', hb', rfl⟩ := List.mem_map.mp hs'
      refine ⟨?_, rfl⟩
      have h : b + l = b' + l := h
      show b = b'
      omega
  | told b l lo hi =>
    have e : ch = [(b, l, lo, hi)] := List.mem_singleton.mp hc
    subst e
    have hf : b + l ≤ D := of_decide_eq_true hf
    exact one ⟨ho.1.1, ho.1.2.2.1, hf⟩
  | some l lo hi =>
    obtain ⟨b, hb, rfl⟩ := List.mem_map.mp hc
    have := mem_begs.mp hb
    exact one ⟨this.1, ho.1.1, this.2⟩
  | just l n =>
    obtain ⟨o, hob, hc⟩ := List.mem_flatMap.mp hc
    obtain ⟨p, hpb, rfl⟩ := List.mem_map.mp hc
    have h1 := mem_begs.mp hob
    have h2 := mem_begs.mp hpb
    have hl : 1 ≤ l := ho.1
    have two : ∀ s ∈ ([(o, l, none, some n), (p, l, some n, none)] : List Stc), s = (o, l, none, some n) ∨ s = (p, l, some n, none) := fun s hs => by simpa using hs
    refine ⟨fun s hs => ?_, fun s hs s' hs' h q q' => ?_, fun s hs s' hs' h q q' => ?_⟩
    · rcases two s hs with rfl | rfl
      · exact ⟨h1.1, hl, h1.2⟩
      · exact ⟨h2.1, hl, h2.2⟩
    · rcases two s hs with rfl | rfl
      · rcases two s' hs' with rfl | rfl
        · exact ⟨rfl, rfl⟩
        · cases q'
      · cases q
    · rcases two s hs with rfl | rfl
      · cases q
      · rcases two s' hs' with rfl | rfl
        · cases q'
        · exact ⟨rfl, rfl⟩
/-- one out of each, in order -/
def Pk : Ch → List (List (List Stc)) → Prop
  | [], [] => True
  | ch :: c, l :: ls => ch ∈ l ∧ Pk c ls
  | _, _ => False
theorem pk_len : ∀ {c : Ch} {ls : List (List (List Stc))}, Pk c ls → c.length = ls.length
  | [], [], _ => rfl
  | _ :: _, _ :: _, h => congrArg Nat.succ (pk_len h.2)
  | [], _ :: _, h => h.elim
  | _ :: _, [], h => h.elim
theorem mem_fold : ∀ (ls : List (List (List Stc))) (found : List Ch) (c : Ch), c ∈ ls.foldl togS found ↔ ∃ a ∈ found, ∃ b, c = a ++ b ∧ Pk b ls
  | [], found, c => ⟨fun h => ⟨c, h, [], (List.append_nil _).symm, True.intro⟩, fun ⟨a, ha, b, e, hb⟩ => by
    cases b with
    | nil =>
      rw [e, List.append_nil]
      exact ha
    | cons _ _ => exact hb.elim⟩
  | l :: ls, found, c => by
    rw [List.foldl_cons, mem_fold ls]
    unfold togS
    constructor
    · rintro ⟨a, ha, b, rfl, hb⟩
      obtain ⟨row, hr, ha⟩ := List.mem_flatMap.mp ha
      obtain ⟨ch, hc, rfl⟩ := List.mem_map.mp ha
      exact ⟨row, hr, ch :: b, by rw [List.append_assoc]; rfl, hc, hb⟩
    · rintro ⟨a, ha, b, rfl, hb⟩
      cases b with
      | nil => exact hb.elim
      | cons ch b => exact ⟨a ++ [ch], List.mem_flatMap.mpr ⟨a, ha, List.mem_map.mpr ⟨ch, hb.1, rfl⟩⟩, b, by rw [List.append_assoc]; rfl, hb.2⟩
theorem mem_togF {ls : List (List (List Stc))} {c : Ch} : c ∈ togF ls ↔ Pk c ls := by
  unfold togF
  rw [mem_fold]
  constructor
  · rintro ⟨a, ha, b, rfl, hb⟩
    rw [List.mem_singleton.mp ha]
    exact hb
  · intro h
    exact ⟨[], List.mem_singleton_self _, c, rfl, h⟩
theorem pk_no : ∀ {c : Ch} {ls : List (List (List Stc))}, Pk c ls → ∀ l ∈ ls, 0 < l.length
  | [], [], _, _, h => by cases h
  | ch :: c, l :: ls, hp, l', h => by
    rcases List.mem_cons.mp h with rfl | h
    · exact List.length_pos_of_mem hp.1
    · exact pk_no hp.2 l' h
  | [], _ :: _, h, _, _ => h.elim
  | _ :: _, [], h, _, _ => h.elim
theorem tog_eq (ls : List (List (List Stc))) : tog ls = togF ls := by
  show (if ls.all (fun c => decide (0 < c.length)) then togF ls else []) = togF ls
  by_cases h : ls.all (fun c => decide (0 < c.length)) = true
  · rw [if_pos h]
  · rw [if_neg h]
    symm
    refine List.eq_nil_iff_forall_not_mem.mpr fun c hc => h ?_
    exact List.all_eq_true.mpr fun l hl => decide_eq_true (pk_no (mem_togF.mp hc) l hl)
theorem mem_tog {ls : List (List (List Stc))} {c : Ch} : c ∈ tog ls ↔ Pk c ls := by rw [tog_eq]; exact mem_togF
theorem pk_keep {g : List Int} {D : Int} (h : (g.length : Int) = D) : ∀ (ss : List Sg), (∀ s ∈ ss, kpL g s = true) ↔ ∃ c, Pk c (ss.map (ownCh D)) ∧ ∀ ch ∈ c, ∀ t ∈ ch, kpSt g t = true
  | [] => ⟨fun _ => ⟨[], True.intro, fun _ h => by cases h⟩, fun _ _ h => by cases h⟩
  | s :: ss => by
    have ih := pk_keep h ss
    constructor
    · intro q
      obtain ⟨ch, h1, h2⟩ := (own_keep h s).mp (q s List.mem_cons_self)
      obtain ⟨c, h3, h4⟩ := ih.mp fun s hs => q s (List.mem_cons_of_mem _ hs)
      refine ⟨ch :: c, ⟨h1, h3⟩, fun x hx => ?_⟩
      rcases List.mem_cons.mp hx with rfl | hx
      · exact h2
      · exact h4 x hx
    · rintro ⟨c, h1, h2⟩ s' hs'
      cases c with
      | nil => exact h1.elim
      | cons ch c =>
        rcases List.mem_cons.mp hs' with rfl | hs'
        · exact (own_keep h s').mpr ⟨ch, h1.1, h2 ch List.mem_cons_self⟩
        · exact ih.mpr ⟨c, h1.2, fun x hx => h2 x (List.mem_cons_of_mem _ hx)⟩ s' hs'
theorem keep_iff {k : Bk} {g : List Int} (h : (g.length : Int) = k.1) : KpAll k g ↔ ∃ c ∈ tog (lists k), ∀ ch ∈ c, ∀ t ∈ ch, kpSt g t = true := by
  unfold KpAll lists
  rw [pk_keep h]
  exact ⟨fun ⟨c, h1, h2⟩ => ⟨c, mem_tog.mpr h1, h2⟩, fun ⟨c, h1, h2⟩ => ⟨c, mem_tog.mp h1, h2⟩⟩
theorem pk_ok {D : Int} : ∀ {ss : List Sg} {c : Ch}, (∀ s ∈ ss, SgOk s) → (∀ s ∈ ss, fitS D s = true) → Pk c (ss.map (ownCh D)) → ∀ ch ∈ c, StsOk D ch
  | [], [], _, _, _, _, h => by cases h
  | s :: ss, ch :: c, h1, h2, hp, x, hx => by
    rcases List.mem_cons.mp hx with rfl | hx
    · exact own_ok (h1 s List.mem_cons_self) (h2 s List.mem_cons_self) x hp.1
    · exact pk_ok (fun s hs => h1 s (List.mem_cons_of_mem _ hs)) (fun s hs => h2 s (List.mem_cons_of_mem _ hs)) hp.2 x hx
  | [], _ :: _, _, _, h, _, _ => h.elim
  | _ :: _, [], _, _, h, _, _ => h.elim
theorem tog_ok {k : Bk} (hk : BkOk k) {c : Ch} (h : c ∈ tog (lists k)) : ∀ ch ∈ c, StsOk k.1 ch := pk_ok hk.ok hk.fit (mem_tog.mp h)
/-! ### how many -/
theorem togS_len (found : List Ch) (cs : List (List Stc)) : (togS found cs).length = found.length * cs.length := by
  unfold togS
  induction found with
  | nil => simp
  | cons x r ih => rw [List.flatMap_cons, List.length_append, List.length_map, ih, List.length_cons, Nat.succ_mul, Nat.add_comm]
theorem fold_len : ∀ (ls : List (List (List Stc))) (found : List Ch), ((ls.foldl togS found).length : Int) = (ls.map fun l => (l.length : Int)).foldl (fun a b => a * b) (found.length : Int)
  | [], found => rfl
  | l :: ls, found => by
    rw [List.foldl_cons, fold_len ls, List.map_cons, List.foldl_cons, togS_len, Int.natCast_mul]
theorem own_len (D : Int) (s : Sg) : ((ownCh D s).length : Int) = manyOwn D s := by
  cases s with
  | rule l lo hi => rfl
  | told b l lo hi => rfl
  | some l lo hi =>
    show (((begs D l).map _).length : Int) = ((begs D l).length : Int)
    rw [List.length_map]
  | just l n =>
    show (((begs D l).flatMap _).length : Int) = ((begs D l).length : Int) * ((begs D l).length : Int)
    rw [← Int.natCast_mul]
    congr 1
    generalize begs D l = ys
    have : ∀ xs : List Int, (xs.flatMap fun o => ys.map fun p => ([(o, l, none, some n), (p, l, some n, none)] : List Stc)).length = xs.length * ys.length := fun xs => by
      induction xs with
      | nil => simp
      | cons x r ih => rw [List.flatMap_cons, List.length_append, List.length_map, ih, List.length_cons, Nat.succ_mul, Nat.add_comm]
    exact this ys
theorem tog_len (k : Bk) : ((tog (lists k)).length : Int) = manyC k := by
  rw [tog_eq]
  unfold togF
  rw [fold_len]
  unfold manyC prodI lists
  rw [List.map_map]
  congr 1
  exact List.map_congr_left fun s _ => own_len k.1 s
theorem fold_ge : ∀ (ls : List (List (List Stc))) (found : List Ch), (∀ l ∈ ls, 0 < l.length) → found.length ≤ (ls.foldl togS found).length
  | [], _, _ => Nat.le_refl _
  | l :: ls, found, h => by
    rw [List.foldl_cons]
    refine Nat.le_trans ?_ (fold_ge ls _ fun l' hl => h l' (List.mem_cons_of_mem _ hl))
    rw [togS_len]
    exact Nat.le_mul_of_pos_right _ (h l List.mem_cons_self)
theorem togF_pre {ls pre post : List (List (List Stc))} (h : ls.all (fun c => decide (0 < c.length)) = true) (e : ls = pre ++ post) : (togF pre).length ≤ (tog ls).length ∧ ∀ c ∈ togF pre, c.length = pre.length := by
  refine ⟨?_, fun c hc => pk_len (mem_togF.mp hc)⟩
  rw [tog_eq, e]
  unfold togF
  rw [List.foldl_append]
  refine fold_ge post _ fun l hl => ?_
  exact of_decide_eq_true (List.all_eq_true.mp h l (by rw [e]; exact List.mem_append_right _ hl))
/-! ### the answer -/
inductive SR where
  | found (g : List Int) | barred (rs : List Ring)
def srF (k : Bk) : SR := match (look k.1.toNat (tog (lists k)) []).1 with
  | some g => .found g
  | none => .barred (look k.1.toNat (tog (lists k)) []).2
theorem ror_len {D : Nat} {c : Ch} {r : Ring} (e : rowOrRing D c = .inr r) (h : ∀ ss ∈ c, StsOk D ss) : r.length ≤ D + 1 := by
  unfold rowOrRing at e
  by_cases z : (runR (stps c) (D + 2) (Rx0 (D + 1))).2 = true
  · rw [if_pos z] at e
    cases e
  · rw [if_neg z] at e
    have z : (runR (stps c) (D + 2) (Rx0 (D + 1))).2 = false := by simpa using z
    obtain ⟨p, h1, h2, h3, C, t, lu, N, I⟩ := ror_run h z
    rw [← Sum.inr.inj e]
    unfold ringF
    rw [I.lm]
    split
    · exact Nat.zero_le _
    · rename_i k hk
      have := List.mem_range.mp (List.mem_of_find?_eq_some hk)
      rw [List.length_reverse, List.length_map, List.length_range]
      omega
theorem sr_found {k : Bk} (hk : BkOk k) {g : List Int} (e : srF k = .found g) : (g.length : Int) = k.1 ∧ KpAll k g := by
  have hD := hk.d
  have eD : ((k.1.toNat : Nat) : Int) = k.1 := by omega
  unfold srF at e
  cases z : (look k.1.toNat (tog (lists k)) []).1 with
  | none =>
    rw [z] at e
    cases e
  | some g' =>
    rw [z] at e
    have e1 : g' = g := SR.found.inj e
    subst e1
    obtain ⟨c, h1, h2⟩ := look_some z
    obtain ⟨h3, h4⟩ := ror_inl (fun ss hs => by rw [eD]; exact tog_ok hk h1 ss hs) h2
    have hl : (g'.length : Int) = k.1 := by omega
    exact ⟨hl, (keep_iff hl).mpr ⟨c, h1, h4⟩⟩
theorem sr_barred {k : Bk} (hk : BkOk k) {rs : List Ring} (e : srF k = .barred rs) : rs.length = (tog (lists k)).length ∧ (∀ p ∈ (tog (lists k)).zip rs, isRing p.1 p.2 = true) ∧ (∀ r ∈ rs, r.length ≤ 1000) ∧ ∀ g : List Int, (g.length : Int) = k.1 → ¬ KpAll k g := by
  have hD := hk.d
  have eD : ((k.1.toNat : Nat) : Int) = k.1 := by omega
  unfold srF at e
  cases z : (look k.1.toNat (tog (lists k)) []).1 with
  | some g' =>
    rw [z] at e
    cases e
  | none =>
    rw [z] at e
    have e1 : (look k.1.toNat (tog (lists k)) []).2 = rs := SR.barred.inj e
    obtain ⟨qs, h1, h2, h3⟩ := look_none z
    rw [List.nil_append, e1] at h1
    subst h1
    have ok : ∀ c ∈ tog (lists k), ∀ ss ∈ c, StsOk ((k.1.toNat : Nat) : Int) ss := fun c hc ss hs => by rw [eD]; exact tog_ok hk hc ss hs
    refine ⟨h2, fun p hp => ?_, fun r hr => ?_, fun g hg hkp => ?_⟩
    · obtain ⟨i, hi⟩ := List.mem_iff_getElem?.mp hp
      obtain ⟨a, b⟩ := List.getElem?_zip_eq_some.mp hi
      exact ror_inr (ok p.1 (List.mem_of_getElem? a)) (h3 i p.1 p.2 a b)
    · obtain ⟨i, hi⟩ := List.mem_iff_getElem?.mp hr
      have lt : i < (tog (lists k)).length := by
        have := (List.getElem?_eq_some_iff.mp hi).1
        omega
      have := ror_len (h3 i _ r (List.getElem?_eq_getElem lt) hi) (ok _ (List.getElem_mem lt))
      omega
    · obtain ⟨c, hc, hs⟩ := (keep_iff hg).mp hkp
      obtain ⟨i, hi⟩ := List.mem_iff_getElem?.mp hc
      have lt : i < rs.length := by
        have := (List.getElem?_eq_some_iff.mp hi).1
        omega
      exact ring_no (ror_inr (ok c hc) (h3 i c _ hi (List.getElem?_eq_getElem lt))) hs
/-! ### rows -/
theorem mem_rgI' {lo x : Int} {n : Nat} : x ∈ rgI lo n ↔ lo ≤ x ∧ x < lo + n := by
  constructor
  · exact mem_rgI
  · intro h
    unfold rgI
    exact List.mem_map.mpr ⟨(x - lo).toNat, List.mem_range.mpr (by omega), by omega⟩
theorem mem_rowsF {most : Int} : ∀ {n : Nat} {g : List Int}, g ∈ rowsF most n ↔ g.length = n ∧ ∀ x ∈ g, -most ≤ x ∧ x ≤ most
  | 0, g => by
    unfold rowsF
    rw [List.mem_singleton]
    constructor
    · rintro rfl
      exact ⟨rfl, fun x h => by cases h⟩
    · rintro ⟨h, _⟩
      exact List.eq_nil_of_length_eq_zero h
  | n + 1, g => by
    unfold rowsF rowsS
    rw [List.mem_flatMap]
    constructor
    · rintro ⟨row, hr, h⟩
      obtain ⟨x, hx, rfl⟩ := List.mem_map.mp h
      obtain ⟨h1, h2⟩ := mem_rowsF.mp hr
      have h3 := mem_rgI'.mp hx
      refine ⟨by rw [List.length_append, h1]; rfl, fun y hy => ?_⟩
      rcases List.mem_append.mp hy with hy | hy
      · exact h2 y hy
      · rw [List.mem_singleton.mp hy]
        omega
    · rintro ⟨h1, h2⟩
      have ne : g ≠ [] := fun z => by rw [z] at h1; cases h1
      refine ⟨g.dropLast, mem_rowsF.mpr ⟨by rw [List.length_dropLast, h1]; rfl, fun x hx => h2 x (List.dropLast_subset g hx)⟩, List.mem_map.mpr ⟨g.getLast ne, mem_rgI'.mpr ?_, List.dropLast_concat_getLast ne⟩⟩
      have := h2 _ (List.getLast_mem ne)
      omega
theorem getD_eq {xs : List Int} {i : Nat} (h : i < xs.length) : xs.getD i 0 = xs[i] := by
  rw [List.getD_eq_getElem?_getD, List.getElem?_eq_getElem h]
  rfl
theorem sum_one {g : List Int} {i : Nat} (h : i < g.length) : sumAt g i 1 = g[i] := by
  unfold sumAt
  have e : ((i : Int) + 1).toNat = i + 1 := by omega
  rw [e, Int.toNat_natCast, hts_getD g (by omega), hts_getD g (by omega), List.take_succ_eq_append_getElem h, List.sum_append, List.sum_singleton]
  omega
theorem any_rows {g : List Int} {most : Int} (h : kpL g (.rule 1 (some (-most)) (some most)) = true) : ∀ x ∈ g, -most ≤ x ∧ x ≤ most := fun x hx => by
  have h : ((sumsIn g 1).all fun v => wi v (some (-most)) (some most)) = true := h
  rw [sumsIn_begs rfl, List.all_map, List.all_eq_true] at h
  obtain ⟨i, hi, e⟩ := List.mem_iff_getElem.mp hx
  have h2 := h (i : Int) (mem_begs.mpr (by omega))
  have h2 : wi (sumAt g i 1) (some (-most)) (some most) = true := h2
  rw [sum_one hi, e] at h2
  exact ⟨wi_lo h2, wi_hi h2⟩
/-! ### turned -/
def ngG (g : List Int) : List Int := g.map fun x => -x
theorem htsF_ng (g : List Int) : ∀ a : Int, htsF (-a) (ngG g) = (htsF a g).map fun x => -x := by
  induction g with
  | nil => intro a; rfl
  | cons x r ih =>
    intro a
    show -a :: htsF (-a + -x) (ngG r) = -a :: (htsF (a + x) r).map fun x => -x
    rw [← ih (a + x)]
    have e : -a + -x = -(a + x) := by omega
    rw [e]
theorem hts_ng (g : List Int) : hts (ngG g) = (hts g).map fun x => -x := htsF_ng g 0
theorem getD_ng (xs : List Int) (i : Nat) : (xs.map fun x => -x).getD i 0 = -(xs.getD i 0) := by
  rw [List.getD_eq_getElem?_getD, List.getD_eq_getElem?_getD, List.getElem?_map]
  cases xs[i]? <;> rfl
theorem sumAt_ng (g : List Int) (b l : Int) : sumAt (ngG g) b l = -(sumAt g b l) := by
  unfold sumAt
  rw [hts_ng, getD_ng, getD_ng]
  omega
theorem ng_len (g : List Int) : (ngG g).length = g.length := List.length_map _
theorem sumsIn_ng (g : List Int) (l : Int) : sumsIn (ngG g) l = (sumsIn g l).map fun x => -x := by
  rw [sumsIn_begs (D := g.length) (by rw [ng_len]), sumsIn_begs rfl, List.map_map]
  exact List.map_congr_left fun b _ => sumAt_ng g b l
theorem wi_ng (v : Int) (lo hi : OI) : wi (-v) (ngO hi) (ngO lo) = wi v lo hi := by
  unfold wi
  rw [Bool.and_comm]
  congr 1
  · cases lo with
    | none => rfl
    | some j => exact decide_eq_decide.mpr (by omega)
  · cases hi with
    | none => rfl
    | some j => exact decide_eq_decide.mpr (by omega)
theorem kp_turn (g : List Int) (s : Sg) : kpL (ngG g) (turnS s) = kpL g s := by
  cases s with
  | rule l lo hi =>
    show ((sumsIn (ngG g) l).all fun v => wi v (ngO hi) (ngO lo)) = ((sumsIn g l).all fun v => wi v lo hi)
    rw [sumsIn_ng, List.all_map]
    congr 1
    funext v
    exact wi_ng v lo hi
  | some l lo hi =>
    show ((sumsIn (ngG g) l).any fun v => wi v (ngO hi) (ngO lo)) = ((sumsIn g l).any fun v => wi v lo hi)
    rw [sumsIn_ng, List.any_map]
    congr 1
    funext v
    exact wi_ng v lo hi
  | told b l lo hi =>
    show wi (sumAt (ngG g) b l) (ngO hi) (ngO lo) = wi (sumAt g b l) lo hi
    rw [sumAt_ng, wi_ng]
  | just l n =>
    rw [Bool.eq_iff_iff]
    show (decide (0 < (sumsIn (ngG g) l).length) && (decide (lmin (sumsIn (ngG g) l) ≤ -n) && decide (-n ≤ lmax (sumsIn (ngG g) l)))) = true ↔ (decide (0 < (sumsIn g l).length) && (decide (lmin (sumsIn g l) ≤ n) && decide (n ≤ lmax (sumsIn g l)))) = true
    rw [just_iff, just_iff, sumsIn_ng]
    constructor
    · rintro ⟨⟨a, ha, h1⟩, ⟨b, hb, h2⟩⟩
      obtain ⟨x, hx, rfl⟩ := List.mem_map.mp ha
      obtain ⟨y, hy, rfl⟩ := List.mem_map.mp hb
      exact ⟨⟨y, hy, by omega⟩, ⟨x, hx, by omega⟩⟩
    · rintro ⟨⟨a, ha, h1⟩, ⟨b, hb, h2⟩⟩
      exact ⟨⟨-b, List.mem_map.mpr ⟨b, hb, rfl⟩, by omega⟩, ⟨-a, List.mem_map.mpr ⟨a, ha, rfl⟩, by omega⟩⟩
def turnK (k : Bk) : Bk := (k.1, k.2.map turnS)
theorem sg_turn {s : Sg} (h : SgOk s) : SgOk (turnS s) := by
  cases s with
  | rule l lo hi => exact ⟨h.1, by rw [ab_ng]; exact h.2⟩
  | some l lo hi => exact ⟨h.1, by rw [ab_ng]; exact h.2⟩
  | told b l lo hi => exact ⟨h.1, by rw [ab_ng]; exact h.2⟩
  | just l n => exact h
theorem bk_turn {k : Bk} (h : BkOk k) : BkOk (turnK k) := ⟨h.d, by show (k.2.map turnS).length ≤ 8; rw [List.length_map]; exact h.n, fun s hs => by
  obtain ⟨t, ht, rfl⟩ := List.mem_map.mp hs
  exact sg_turn (h.ok t ht), fun s hs => by
  obtain ⟨t, ht, rfl⟩ := List.mem_map.mp hs
  show fitS k.1 (turnS t) = true
  rw [fit_turn]
  exact h.fit t ht⟩
theorem many_turn (k : Bk) : manyC (turnK k) = manyC k := by
  unfold manyC turnK
  rw [List.map_map]
  congr 1
  exact List.map_congr_left fun s _ => by cases s <;> rfl
theorem ng_ng (g : List Int) : ngG (ngG g) = g := by
  unfold ngG
  rw [List.map_map]
  have e : ((fun x : Int => -x) ∘ fun x : Int => -x) = id := funext fun x => by show - -x = x; omega
  rw [e, List.map_id]
theorem kpAll_turn {k : Bk} {g : List Int} : KpAll (turnK k) (ngG g) ↔ KpAll k g := by
  constructor
  · intro h s hs
    rw [← kp_turn]
    exact h (turnS s) (List.mem_map.mpr ⟨s, hs, rfl⟩)
  · intro h s hs
    obtain ⟨t, ht, rfl⟩ := List.mem_map.mp hs
    rw [kp_turn]
    exact h t ht
/-! ### backwards -/
theorem sum_reverse (g : List Int) : g.reverse.sum = g.sum := by
  induction g with
  | nil => rfl
  | cons x r ih =>
    rw [List.reverse_cons, List.sum_append, List.sum_singleton, List.sum_cons, ih]
    omega
theorem take_rev (g : List Int) {i : Nat} (h : i ≤ g.length) : (g.reverse.take i).sum = g.sum - (g.take (g.length - i)).sum := by
  rw [List.take_reverse, sum_reverse]
  have e : g.sum = (g.take (g.length - i)).sum + (g.drop (g.length - i)).sum := by rw [← List.sum_append, List.take_append_drop]
  omega
theorem sumAt_rev (g : List Int) {b l : Int} (h : 0 ≤ b ∧ 0 ≤ l ∧ b + l ≤ g.length) : sumAt g.reverse b l = sumAt g (g.length - b - l) l := by
  unfold sumAt
  have hr : g.reverse.length = g.length := List.length_reverse
  rw [hts_getD _ (by omega), hts_getD _ (by omega), hts_getD _ (by omega), hts_getD _ (by omega), take_rev g (by omega), take_rev g (by omega)]
  have e1 : g.length - (b + l).toNat = ((g.length : Int) - b - l).toNat := by omega
  have e2 : g.length - b.toNat = ((g.length : Int) - b - l + l).toNat := by omega
  rw [e1, e2]
  omega
theorem mem_rev {g : List Int} {l x : Int} (hl : 0 ≤ l) : x ∈ sumsIn g.reverse l ↔ x ∈ sumsIn g l := by
  have key : ∀ g : List Int, x ∈ sumsIn g.reverse l → x ∈ sumsIn g l := fun g h => by
    rw [sumsIn_begs (D := g.length) (by rw [List.length_reverse])] at h
    rw [sumsIn_begs rfl]
    obtain ⟨b, hb, rfl⟩ := List.mem_map.mp h
    have := mem_begs.mp hb
    refine List.mem_map.mpr ⟨g.length - b - l, mem_begs.mpr (by omega), ?_⟩
    exact (sumAt_rev g ⟨this.1, hl, this.2⟩).symm
  refine ⟨key g, fun h => key g.reverse ?_⟩
  rw [List.reverse_reverse]
  exact h
theorem kp_back {g : List Int} {D : Int} {s : Sg} (h : (g.length : Int) = D) (ho : SgOk s) (hf : fitS D s = true) : kpL g.reverse (backS D s) = kpL g s := by
  cases s with
  | rule l lo hi =>
    have hl : 1 ≤ l := ho.1.1
    rw [Bool.eq_iff_iff]
    show ((sumsIn g.reverse l).all fun v => wi v lo hi) = true ↔ ((sumsIn g l).all fun v => wi v lo hi) = true
    rw [List.all_eq_true, List.all_eq_true]
    exact ⟨fun q x hx => q x ((mem_rev (by omega)).mpr hx), fun q x hx => q x ((mem_rev (by omega)).mp hx)⟩
  | some l lo hi =>
    have hl : 1 ≤ l := ho.1.1
    rw [Bool.eq_iff_iff]
    show ((sumsIn g.reverse l).any fun v => wi v lo hi) = true ↔ ((sumsIn g l).any fun v => wi v lo hi) = true
    rw [List.any_eq_true, List.any_eq_true]
    exact ⟨fun ⟨x, hx, q⟩ => ⟨x, (mem_rev (by omega)).mp hx, q⟩, fun ⟨x, hx, q⟩ => ⟨x, (mem_rev (by omega)).mpr hx, q⟩⟩
  | told b l lo hi =>
    have hf : b + l ≤ D := of_decide_eq_true hf
    have h1 : 0 ≤ b := ho.1.1
    have h2 : 1 ≤ l := ho.1.2.2.1
    show wi (sumAt g.reverse (D - b - l) l) lo hi = wi (sumAt g b l) lo hi
    rw [sumAt_rev g ⟨by omega, by omega, by omega⟩]
    have e : (g.length : Int) - (D - b - l) - l = b := by omega
    rw [e]
  | just l n =>
    have hl : 1 ≤ l := ho.1
    rw [Bool.eq_iff_iff]
    show (decide (0 < (sumsIn g.reverse l).length) && (decide (lmin (sumsIn g.reverse l) ≤ n) && decide (n ≤ lmax (sumsIn g.reverse l)))) = true ↔ (decide (0 < (sumsIn g l).length) && (decide (lmin (sumsIn g l) ≤ n) && decide (n ≤ lmax (sumsIn g l)))) = true
    rw [just_iff, just_iff]
    exact ⟨fun ⟨⟨a, ha, h1⟩, ⟨b, hb, h2⟩⟩ => ⟨⟨a, (mem_rev (by omega)).mp ha, h1⟩, ⟨b, (mem_rev (by omega)).mp hb, h2⟩⟩, fun ⟨⟨a, ha, h1⟩, ⟨b, hb, h2⟩⟩ => ⟨⟨a, (mem_rev (by omega)).mpr ha, h1⟩, ⟨b, (mem_rev (by omega)).mpr hb, h2⟩⟩⟩
def backK (k : Bk) : Bk := (k.1, k.2.map (backS k.1))
theorem sg_back {D : Int} {s : Sg} (hD : D ≤ 48) (h : SgOk s) (hf : fitS D s = true) : SgOk (backS D s) ∧ fitS D (backS D s) = true := by
  cases s with
  | told b l lo hi =>
    have hf : b + l ≤ D := of_decide_eq_true hf
    obtain ⟨⟨h1, h2, h3, h4⟩, h5⟩ := h
    exact ⟨⟨⟨by omega, by omega, h3, h4⟩, h5⟩, decide_eq_true (by omega)⟩
  | rule l lo hi => exact ⟨h, rfl⟩
  | some l lo hi => exact ⟨h, rfl⟩
  | just l n => exact ⟨h, rfl⟩
theorem bk_back {k : Bk} (h : BkOk k) : BkOk (backK k) := ⟨h.d, by show (k.2.map (backS k.1)).length ≤ 8; rw [List.length_map]; exact h.n, fun s hs => by
  obtain ⟨t, ht, rfl⟩ := List.mem_map.mp hs
  exact (sg_back (by have := h.d; omega) (h.ok t ht) (h.fit t ht)).1, fun s hs => by
  obtain ⟨t, ht, rfl⟩ := List.mem_map.mp hs
  exact (sg_back (by have := h.d; omega) (h.ok t ht) (h.fit t ht)).2⟩
theorem many_back (k : Bk) : manyC (backK k) = manyC k := by
  unfold manyC backK
  rw [List.map_map]
  congr 1
  exact List.map_congr_left fun s _ => by cases s <;> rfl
theorem kpAll_back {k : Bk} (hk : BkOk k) {g : List Int} (hg : (g.length : Int) = k.1) : KpAll (backK k) g.reverse ↔ KpAll k g := by
  constructor
  · intro h s hs
    rw [← kp_back hg (hk.ok s hs) (hk.fit s hs)]
    exact h (backS k.1 s) (List.mem_map.mpr ⟨s, hs, rfl⟩)
  · intro h s hs
    obtain ⟨t, ht, rfl⟩ := List.mem_map.mp hs
    rw [kp_back hg (hk.ok t ht) (hk.fit t ht)]
    exact h t ht
/-! ### found or barred -/
def SR.isF : SR → Bool
  | .found _ => true
  | .barred _ => false
theorem sr_iff {k : Bk} (hk : BkOk k) : (srF k).isF = true ↔ ∃ g : List Int, (g.length : Int) = k.1 ∧ KpAll k g := by
  cases e : srF k with
  | found g => exact ⟨fun _ => ⟨g, (sr_found hk e).1, (sr_found hk e).2⟩, fun _ => rfl⟩
  | barred rs => exact ⟨fun h => Bool.noConfusion h, fun ⟨g, h1, h2⟩ => ((sr_barred hk e).2.2.2 g h1 h2).elim⟩
theorem sr_turn {k : Bk} (hk : BkOk k) : (srF (turnK k)).isF = (srF k).isF := by
  rw [Bool.eq_iff_iff, sr_iff (bk_turn hk), sr_iff hk]
  constructor
  · rintro ⟨g, h1, h2⟩
    exact ⟨ngG g, by rw [ng_len]; exact h1, kpAll_turn.mp (by rw [ng_ng]; exact h2)⟩
  · rintro ⟨g, h1, h2⟩
    exact ⟨ngG g, by rw [ng_len]; exact h1, kpAll_turn.mpr h2⟩
theorem sr_back {k : Bk} (hk : BkOk k) : (srF (backK k)).isF = (srF k).isF := by
  rw [Bool.eq_iff_iff, sr_iff (bk_back hk), sr_iff hk]
  constructor
  · rintro ⟨g, h1, h2⟩
    have h1 : (g.length : Int) = k.1 := h1
    refine ⟨g.reverse, by rw [List.length_reverse]; exact h1, (kpAll_back hk (by rw [List.length_reverse]; exact h1)).mp ?_⟩
    rw [List.reverse_reverse]
    exact h2
  · rintro ⟨g, h1, h2⟩
    exact ⟨g.reverse, by rw [List.length_reverse]; exact h1, (kpAll_back hk h1).mpr h2⟩
/-- the rows that the law keeps -/
def keptF (k : Bk) (most : Int) : List (List Int) := (rowsF most k.1.toNat).filter (kpB k.2)
theorem mem_kept {k : Bk} {most : Int} (hD : 0 ≤ k.1) (hm : .rule 1 (some (-most)) (some most) ∈ k.2) {g : List Int} : g ∈ keptF k most ↔ (g.length : Int) = k.1 ∧ KpAll k g := by
  unfold keptF
  rw [List.mem_filter, mem_rowsF, kpB_iff]
  constructor
  · rintro ⟨⟨h1, _⟩, h2⟩
    exact ⟨by omega, h2⟩
  · rintro ⟨h1, h2⟩
    exact ⟨⟨by omega, any_rows (h2 _ hm)⟩, h2⟩
theorem told_all {g : List Int} {D t : Int} (h : (g.length : Int) = D) : kpL g (.told 0 D (some t) (some t)) = decide (g.sum = t) := by
  have e : sumAt g 0 D = g.sum := by
    unfold sumAt
    rw [Int.zero_add, hts_getD _ (by omega), hts_getD _ (by omega)]
    have e1 : D.toNat = g.length := by omega
    rw [e1, List.take_length]
    show g.sum - 0 = g.sum
    omega
  show wi (sumAt g 0 D) (some t) (some t) = _
  rw [e, Bool.eq_iff_iff, decide_eq_true_eq]
  unfold wi
  rw [Bool.and_eq_true, decide_eq_true_eq, decide_eq_true_eq]
  omega
theorem kept_told {k : Bk} {most t : Int} (hD : 0 ≤ k.1) : keptF (k.1, k.2 ++ [.told 0 k.1 (some t) (some t)]) most = (keptF k most).filter fun g => decide (g.sum = t) := by
  unfold keptF
  rw [List.filter_filter]
  refine List.filter_congr fun g hg => ?_
  have hl := (mem_rowsF.mp hg).1
  show kpB (k.2 ++ [_]) g = (decide (g.sum = t) && kpB k.2 g)
  unfold kpB
  rw [List.all_append, Bool.and_comm]
  congr 1
  show (kpL g (.told 0 k.1 (some t) (some t)) && true) = _
  rw [Bool.and_true, told_all (by omega)]
end Y
set_option Elab.async false
set_option linter.all false
set_option maxRecDepth 100000
set_option maxHeartbeats 4000000
/-! Lay15: enumerate(tuple), zip(list, tuple). -/
namespace Y
open PySem PySem.Spec PyProof.Rows L2
/-! ### enumerate(tuple) -/
def ItU (K : PySem.W.Frag) (a : Addr) : It where
  go := fun i H => ∃ (xs : List V) (x : V), SqT K H a xs ∧ xs[i]? = some x
  yld := fun i H v H' => ∃ t x, v = .ref t ∧ H t = none ∧ H' = L2.upd H t (.tup [.int (i : Nat), x]) ∧ ∀ ys, SqT K H a ys → ys[i]? = some x
  stop := fun i H => ∃ ys : List V, SqT K H a ys ∧ ys.length ≤ i
theorem begin_enum {v : Value} {o : Obj} {Hh : Heap → Prop} (B : Begins v o Hh) : Meets (Builtin.«enumerate.__new__» ⟨[.type "enumerate", v], []⟩) (fun _ R s => Hh s.heap ∧
      R (.ok (.ret (.ref (s.heap.push o).objs.size))) { s with heap := (s.heap.push o).push { cls := .type "enumerate", data := .fields #[.none, .bool false, .ref s.heap.objs.size, rawInt 0, .none, .none] } }) :=
  .of_wp fun prog w A R s hh => by
    obtain ⟨hp, gs, dr, tk, os⟩ := s
    obtain ⟨h1, hh⟩ := hh
    have su := sub_enumerate
    have qi : ∀ {A2 : Around} {E2 : Value → Shared → Prop} {Q2 : Value → Shared → Prop}, Q2 (.ref hp.objs.size) ⟨hp.push o, gs, dr, tk, os⟩ → wpAny (model prog w) A2 (pyIter v) Q2 E2 ⟨hp, gs, dr, tk, os⟩ :=
      fun q2 => B.iter prog w _ _ ⟨hp, gs, dr, tk, os⟩ _ h1 q2
    wp_walk using qi
    refine wpAny_stack_any fun stk => wpAny_pure ?_
    split
    · rename_i cc _ _ _ _ _
      cases (cc == Value.type "enumerate") <;> (wp_walk using qi; exact ⟨_, rfl, hh⟩)
    · wp_walk using qi; exact ⟨_, rfl, hh⟩
theorem enum_made {prog : Program} {w : World} {A : Around} {E : Value → Shared → Prop} {s : Shared} {v : Value} {o : Obj} {Hh : Heap → Prop} {Q : Value → Shared → Prop} (B : Begins v o Hh) (h1 : Hh s.heap)
    (h : ∀ h2, IsEnum h2 (s.heap.objs.size + 1) s.heap.objs.size 0 .none → h2.get? s.heap.objs.size = some o → (∀ b u, s.heap.get? b = some u → h2.get? b = some u) → Q (.ref (s.heap.objs.size + 1)) { s with heap := h2 }) :
    wpAny (model prog w) A (call (.type "enumerate") [v]) Q E s := by
  refine callType_new F.called_enumerate (by decide) (F.typeCall_enumerate_1 _) (F.newCall_enumerate_1 _) (fun ob => F.args_object_init_2 ob _) F.entry_enumerate_new (begin_enum B) ⟨h1, ?_⟩
  have z1 : (s.heap.push o).objs.size = s.heap.objs.size + 1 := Heap.size_push ..
  have he := Heap.get?_push_size (s.heap.push o) (o := { cls := .type "enumerate", data := .fields #[.none, .bool false, .ref s.heap.objs.size, rawInt 0, .none, .none] }) rfl
  show _ ∧ _
  rw [z1] at he ⊢
  exact ⟨⟨_, he, rfl⟩, h _ he (Heap.get?_push_of_some _ (Heap.get?_push_size _ B.free)) fun b u q => Heap.get?_push_of_some _ (Heap.get?_push_of_some _ q)⟩
theorem turnU {P : Program} {w : World} {K : PySem.W.Frag} {elts : List Expr} {kk : Nat} {tpos : Pos} {a e it : Addr} (hae : a ≠ e) (hai : a ≠ it) (hei : e ≠ it) :
    Turn P w K (.Tuple elts kk tpos) (ItU K a) [e, it] e (fun i h => (∃ old, IsEnum h e it ((i : Nat) : Int) old) ∧ h.IsTupleIter it a i) where
  mem := List.mem_cons_self
  obj := fun i h st b hb => by
    obtain ⟨⟨old, he⟩, ⟨o, ho, _, hd⟩⟩ := st
    rcases List.mem_cons.mp hb with z | z
    · rw [z]
      exact ⟨_, he, fun v q => nomatch q⟩
    · rw [List.mem_singleton.mp z]
      exact ⟨o, ho, fun v q => by rw [hd] at q; cases q⟩
  keep := fun i h h' st k => ⟨⟨st.1.choose, k e List.mem_cons_self _ st.1.choose_spec⟩, st.2.at fun o q => k it (List.mem_cons_of_mem _ List.mem_cons_self) o q⟩
  item := by
    rintro X rfl rfl rfl hc i pins s σ H E I hf ⟨⟨old, he⟩, hit⟩ ⟨xs, x, hq, hx⟩
    obtain ⟨its, rv, p1, _⟩ := I.tuple hq
    have p1 : s.heap.IsTuple a its.toArray := p1
    obtain ⟨u, hu, ru⟩ := rv.get hx
    have lte : e < s.heap.objs.size := Heap.lt_size he
    have lti : it < s.heap.objs.size := by
      obtain ⟨_, q, _⟩ := hit
      exact Heap.lt_size q
    have hn : i < its.toArray.size := by
      have := (List.getElem?_eq_some_iff.mp hu).1
      simpa using this
    refine wpAny_pyNext_enum_itemC (Draws.tuple (A := X.A.in1) (show X.A.in1.handled = none from I.ok.hd hc) it a hai its.toArray) he ⟨hit, p1⟩ hn hei (by simp [hei, hae.symm]) fun x' h2 tk hP ho hs hT hsz hk => ?_
    have ex : x' = u := by
      have h3 : its.toArray[i]? = some x' := hP
      have h4 : its[i]? = some x' := by simpa using h3
      rw [hu] at h4
      exact (Option.some.inj h4).symm
    subst ex
    refine ⟨_, rfl, wpAny_letOwnedTupleGo_enum (s := { s with heap := h2, toks := tk + 1 }) ho fun h3 he3 sb => ?_⟩
    have hT3 : h3.get? s.heap.objs.size = some { cls := .type "tuple", data := .seq #[.int i tk, x'] } := (sb.2 _ (Nat.ne_of_gt lte)).trans hT
    have ob : ObjOk X.prog X.w (L2.upd H s.heap.objs.size (.tup [.int (i : Nat), x])) h3 s.heap.objs.size (.tup [.int (i : Nat), x]) :=
      ⟨by show 2 ≤ sizeLine; decide, [.int i tk, x'], .cons ⟨_, rfl⟩ (.cons ru .nil), ⟨_, hT3, rfl, _, rfl⟩⟩
    have J : Inv X pins σ (L2.upd H s.heap.objs.size (.tup [.int (i : Nat), x])) { s with heap := h3, toks := tk + 1 } :=
      I.turnedNew (ch := [e, it]) (fun b ob hb q => (sb.2 b fun z => hb (by simp [z])).trans (hk b ob (fun z => hb (by simp [z])) (fun z => hb (by simp [z])) q)) hf (Nat.le_refl _) ob
    refine ⟨.ref s.heap.objs.size, _, J, rfl, ⟨_, x, rfl, I.hok.fresh (Nat.le_refl _), rfl, fun ys hy => by rw [I.tuple_inj hy hq]; exact hx⟩, ⟨⟨x', ?_⟩, hs.1.at fun o q => (sb.2 it (Ne.symm hei)).trans q⟩, fun b hb => ?_⟩
    · rw [show ((i + 1 : Nat) : Int) = (i : Int) + 1 by omega]
      exact he3
    · have ltb : b < s.heap.objs.size := by
        rcases List.mem_cons.mp hb with z | z
        · rw [z]; exact lte
        · rw [List.mem_singleton.mp z]; exact lti
      rw [L2.upd_ne (Nat.ne_of_lt ltb)]
      exact (hf b hb).1
  done := by
    rintro X rfl rfl rfl hc i pins s σ H E I hf ⟨⟨old, he⟩, hit⟩ ⟨xs, hq, hx⟩
    obtain ⟨its, rv, p1, _⟩ := I.tuple hq
    have p1 : s.heap.IsTuple a its.toArray := p1
    have hl := rv.length
    have D : Draws X.prog X.w X.A.in1 it [it, a] i (fun _ _ => False) (fun j h => j = i ∧ h.IsTupleIter it a i ∧ h.IsTuple a its.toArray) := {
      live := fun j h st => by
        obtain ⟨_, ⟨o, ho, _⟩, _⟩ := st
        exact ⟨o, ho⟩
      frame := fun j h h' st k => ⟨st.1, st.2.1.at fun o q => k it List.mem_cons_self o q, st.2.2.at fun o q => k a (List.mem_cons_of_mem _ List.mem_cons_self) o q⟩
      item := fun j s' Q' E' hj st hQ => absurd st.1 (Nat.ne_of_lt hj)
      done := fun s' Q' E' st hE => wpAny_nextOf_tuple_end (show X.A.in1.handled = none from I.ok.hd hc) st.2.1 st.2.2 (by simp; omega) hE }
    refine wpAny_pyNext_enum_endD D he ⟨rfl, hit, p1⟩ fun h2 ex => ⟨rfl, I.turnedL (t' := s.toks) (ch := [e, it]) (fun b o hb q => ex b o (fun z => hb (by simp [z])) q) hf⟩
  self := fun A i s Q E st h => by
    obtain ⟨⟨_, he⟩, _⟩ := st
    exact wpAny_pyIter_enum he h
def iU (K : PySem.W.Frag) (ta : TA) : TI := fun σ H R => ta σ H fun vs H1 => ∃ a xs, vs = [.ref a] ∧ SqT K H1 a xs ∧ R (ItU K a) H1
theorem pi_enumU {X : Cx} {e : Expr} {ta : TA} {p pos tpos : Pos} {elts : List Expr} {kk : Nat} (hg : Gl X "enumerate") (hm : X.mg "enumerate" = none) (ha : PA X [e] ta) (hs : starEach [e] X.env = [(false, eval e X.env)] := by rfl) :
    PI X (.Tuple elts kk tpos) (.Call (.Name "enumerate" p) [e] [] pos) (iU X.K ta) where
  run := fun pins s σ H R I h => by
    refine Call_ (ld_blt I hg hm boot_enumerate (PyProof.Rows.callWith_type1 (thn (ha.run pos pins s σ H _ I h) fun us s1 ⟨vs, H1, I1, r1, q1⟩ => ?_) hs rfl))
    obtain ⟨a, xs, rfl, hq, q⟩ := q1
    cases r1 with
    | cons r rr =>
      cases rr
      cases r
      obtain ⟨its, rv, p1, _⟩ := I1.tuple hq
      have p1 : s1.heap.IsTuple a its.toArray := p1
      have lta : a < s1.heap.objs.size := by
        obtain ⟨_, z, _⟩ := id p1
        exact Heap.lt_size z
      refine enum_made (begins_tuple a its.toArray) p1 fun h2 he ho hk => wpAny_pyIter_enum he ?_
      have I2 : Inv X pins σ H1 { s1 with heap := h2 } := I1.kept (t' := s1.toks) hk
      refine ⟨s1.heap.objs.size + 1, [s1.heap.objs.size + 1, s1.heap.objs.size], _, _, H1, rfl, I2, turnU (a := a) (e := s1.heap.objs.size + 1) (it := s1.heap.objs.size) (Nat.ne_of_lt (Nat.lt_succ_of_lt lta)) (Nat.ne_of_lt lta) (Nat.succ_ne_self _), ⟨⟨.none, he⟩, ⟨_, ho, rfl, rfl⟩⟩, fun b hb => ?_, q⟩
      have hle : s1.heap.objs.size ≤ b := by
        rcases List.mem_cons.mp hb with z | z
        · rw [z]; exact Nat.le_succ _
        · rw [List.mem_singleton.mp z]; exact Nat.le_refl _
      exact I1.fpOk hle (I1.hok.fresh hle)
/-! ### zip(list, tuple) -/
def ItM (K : PySem.W.Frag) (a b : Addr) : It where
  go := fun i H => ∃ (xs ys : List V) (x y : V), SqL K H a xs ∧ SqT K H b ys ∧ xs[i]? = some x ∧ ys[i]? = some y
  yld := fun i H v H' => ∃ t x y, v = .ref t ∧ H t = none ∧ H' = L2.upd H t (.tup [x, y]) ∧ (∀ xs, SqL K H a xs → xs[i]? = some x) ∧ ∀ ys, SqT K H b ys → ys[i]? = some y
  stop := fun i H => ∃ xs ys : List V, SqL K H a xs ∧ SqT K H b ys ∧ (i = xs.length ∧ i ≤ ys.length ∨ i = ys.length ∧ i ≤ xs.length)
theorem turnM {P : Program} {w : World} {K : PySem.W.Frag} {elts : List Expr} {kk : Nat} {tpos : Pos} {a b z TI TO i1 i2 : Addr} (S : ZipSep2 z TI TO i1 i2 [i1, a] [i2, b]) (ha : a ≠ i1) (hb : b ≠ i2) :
    Turn P w K (.Tuple elts kk tpos) (ItM K a b) [z, TI, TO, i1, i2] z (fun i h => IsZip h z TI TO .none ∧ IsTupOf2 h TI (.ref i1) (.ref i2) ∧ (∃ x y, IsTupOf2 h TO x y) ∧ h.IsListIter i1 a i ∧ h.IsTupleIter i2 b i) where
  mem := List.mem_cons_self
  obj := fun i h st c hc => by
    obtain ⟨hz, hTI, ⟨x, y, hTO⟩, ⟨o1, e1, _, d1⟩, ⟨o2, e2, _, d2⟩⟩ := st
    have h5 : c = z ∨ c = TI ∨ c = TO ∨ c = i1 ∨ c = i2 := by simpa using hc
    rcases h5 with q | q | q | q | q <;> subst q
    · exact ⟨_, hz, fun v q => nomatch q⟩
    · exact ⟨_, hTI, fun v q => nomatch q⟩
    · exact ⟨_, hTO, fun v q => nomatch q⟩
    · exact ⟨o1, e1, fun v q => by rw [d1] at q; cases q⟩
    · exact ⟨o2, e2, fun v q => by rw [d2] at q; cases q⟩
  keep := fun i h h' st k => by
    obtain ⟨hz, hTI, ⟨x, y, hTO⟩, h1, h2⟩ := st
    exact ⟨k z (by simp) _ hz, k TI (by simp) _ hTI, ⟨x, y, k TO (by simp) _ hTO⟩, h1.at fun o q => k i1 (by simp) o q, h2.at fun o q => k i2 (by simp) o q⟩
  item := by
    rintro X rfl rfl rfl hc i pins s σ H E I hf ⟨hz, hTI, ⟨x0, y0, hTO⟩, h1, h2⟩ ⟨xs, ys, x, y, hqx, hqy, hx, hy⟩
    obtain ⟨its, rv, p1, _⟩ := I.list hqx
    obtain ⟨jts, rw', p2, _⟩ := I.tuple hqy
    have p2 : s.heap.IsTuple b jts.toArray := p2
    obtain ⟨u, hu, ru⟩ := rv.get hx
    obtain ⟨w2, hw, rw2⟩ := rw'.get hy
    have hzl : z < s.heap.objs.size := Heap.lt_size hz
    have n1 : i < its.toArray.size := by
      have := (List.getElem?_eq_some_iff.mp hu).1
      simpa using this
    have n2 : i < jts.toArray.size := by
      have := (List.getElem?_eq_some_iff.mp hw).1
      simpa using this
    refine wpAny_pyNext_zipD2_item S (Draws.list (A := X.A.in1) (show X.A.in1.handled = none from I.ok.hd hc) i1 a ha its.toArray) (Draws.tuple (A := X.A.in1) (show X.A.in1.handled = none from I.ok.hd hc) i2 b hb jts.toArray) hz hTI hTO ⟨h1, p1.isList⟩ ⟨h2, p2⟩ n1 n2 fun x1 x2 h3 tk y1 y2 b1 b2 d1 d2 b5 b6 hk => ?_
    have e1 : x1 = u := by
      have h3 : its.toArray[i]? = some x1 := y1
      have h4 : its[i]? = some x1 := by simpa using h3
      rw [hu] at h4
      exact (Option.some.inj h4).symm
    have e2 : x2 = w2 := by
      have h3 : jts.toArray[i]? = some x2 := y2
      have h4 : jts[i]? = some x2 := by simpa using h3
      rw [hw] at h4
      exact (Option.some.inj h4).symm
    subst e1 e2
    refine ⟨_, rfl, wpAny_letOwnedTupleGo_zip (s := { s with heap := h3, toks := tk }) b1 fun h4 z4 sb => ?_⟩
    have hT2 : h4.get? s.heap.objs.size = some { cls := .type "tuple", data := .seq #[x1, x2] } := (sb.2 _ (Nat.ne_of_gt hzl)).trans b5
    have ob : ObjOk X.prog X.w (L2.upd H s.heap.objs.size (.tup [x, y])) h4 s.heap.objs.size (.tup [x, y]) :=
      ⟨by show 2 ≤ sizeLine; decide, [x1, x2], .cons ru (.cons rw2 .nil), ⟨_, hT2, rfl, _, rfl⟩⟩
    have J : Inv X pins σ (L2.upd H s.heap.objs.size (.tup [x, y])) { s with heap := h4, toks := tk } :=
      I.turnedNew (ch := [z, TI, TO, i1, i2]) (fun c o hn q => (sb.2 c fun q' => hn (by simp [q'])).trans (hk c o (fun q' => hn (by simp [q'])) (fun q' => hn (by simp [q'])) (fun q' => hn (by simp [q'])) (fun q' => hn (by simp [q'])) q)) hf (Nat.le_refl _) ob
    refine ⟨.ref s.heap.objs.size, _, J, rfl, ⟨_, x, y, rfl, I.hok.fresh (Nat.le_refl _), rfl, fun l hl => by rw [I.list_inj hl hqx]; exact hx, fun l hl => by rw [I.tuple_inj hl hqy]; exact hy⟩, ⟨z4, ?_, ⟨x1, x2, ?_⟩, ?_, ?_⟩, fun c hm => ?_⟩
    · exact (sb.2 _ S.TIz).trans (hk _ _ S.TIz S.TITO S.TIi1 S.TIi2 hTI)
    · exact (sb.2 _ S.TOz).trans b2
    · exact d1.1.at fun o q => (sb.2 _ S.zi1.symm).trans q
    · exact d2.1.at fun o q => (sb.2 _ S.zi2.symm).trans q
    · have ltc : c < s.heap.objs.size := by
        have h5 : c = z ∨ c = TI ∨ c = TO ∨ c = i1 ∨ c = i2 := by simpa using hm
        rcases h5 with q | q | q | q | q <;> subst q
        · exact hzl
        · exact Heap.lt_size hTI
        · exact Heap.lt_size hTO
        · obtain ⟨_, e1, _⟩ := h1; exact Heap.lt_size e1
        · obtain ⟨_, e2, _⟩ := h2; exact Heap.lt_size e2
      rw [L2.upd_ne (Nat.ne_of_lt ltc)]
      exact (hf c hm).1
  done := by
    rintro X rfl rfl rfl hc i pins s σ H E I hf ⟨hz, hTI, ⟨x0, y0, hTO⟩, h1, h2⟩ ⟨xs, ys, hqx, hqy, hend⟩
    obtain ⟨its, rv, p1, _⟩ := I.list hqx
    obtain ⟨jts, rw', p2, _⟩ := I.tuple hqy
    have p2 : s.heap.IsTuple b jts.toArray := p2
    have l1 : xs.length = its.toArray.size := by rw [rv.length]; simp
    have l2 : ys.length = jts.toArray.size := by rw [rw'.length]; simp
    exact wpAny_pyNext_zipD2_end S (Draws.list (A := X.A.in1) (show X.A.in1.handled = none from I.ok.hd hc) i1 a ha its.toArray) (Draws.tuple (A := X.A.in1) (show X.A.in1.handled = none from I.ok.hd hc) i2 b hb jts.toArray) hz hTI hTO ⟨h1, p1.isList⟩ ⟨h2, p2⟩ (by omega) (by omega) (by omega) fun h3 tk hk =>
      ⟨rfl, I.turnedL (t' := tk) (ch := [z, TI, TO, i1, i2]) (fun c o hn q => hk c o (fun q' => hn (by simp [q'])) (fun q' => hn (by simp [q'])) (fun q' => hn (by simp [q'])) (fun q' => hn (by simp [q'])) q) hf⟩
  self := fun A i s Q E st h => wpAny_pyIter_zip st.1 h
def iM (K : PySem.W.Frag) (ta : TA) : TI := fun σ H R => ta σ H fun vs H1 => ∃ a b xs ys, vs = [.ref a, .ref b] ∧ SqL K H1 a xs ∧ SqT K H1 b ys ∧ R (ItM K a b) H1
theorem pi_zipM {X : Cx} {e e2 : Expr} {ta : TA} {p pos tpos : Pos} {elts : List Expr} {kk : Nat} (hg : Gl X "zip") (hm : X.mg "zip" = none) (ha : PA X [e, e2] ta)
    (hs : starEach [e, e2] X.env = (false, eval e X.env) :: starEach [e2] X.env := by rfl) (hpl : (backTo pos (starEach [e2] X.env)).any (·.1) = false := by rfl) :
    PI X (.Tuple elts kk tpos) (.Call (.Name "zip" p) [e, e2] [] pos) (iM X.K ta) where
  run := fun pins s σ H R I h => by
    refine Call_ (ld_blt I hg hm PyProof.Rows.boot_zip (PyProof.Rows.callWith_type1 (thn (ha.run pos pins s σ H _ I h) fun us s1 ⟨vs, H1, I1, r1, q1⟩ => ?_) hs hpl))
    obtain ⟨a, b, xs, ys, rfl, hqx, hqy, q⟩ := q1
    cases r1 with
    | cons r rr =>
      cases rr with
      | cons r' rr =>
        cases rr
        cases r
        cases r'
        obtain ⟨its, rv, p1, _⟩ := I1.list hqx
        obtain ⟨jts, rw', p2, _⟩ := I1.tuple hqy
        have p2 : s1.heap.IsTuple b jts.toArray := p2
        have lta : a < s1.heap.objs.size := p1.lt
        have ltb : b < s1.heap.objs.size := by
          obtain ⟨_, z, _⟩ := id p2
          exact Heap.lt_size z
        refine zip_begins2 (begins_list a its.toArray) (begins_tuple b jts.toArray) p1.isList p2 fun h3 hz hTI hTO o1 o2 hsz hk => wpAny_pyIter_zip hz ?_
        have I2 : Inv X pins σ H1 { s1 with heap := h3 } := I1.kept (t' := s1.toks) hk
        refine ⟨s1.heap.objs.size + 4, [s1.heap.objs.size + 4, s1.heap.objs.size + 2, s1.heap.objs.size + 3, s1.heap.objs.size, s1.heap.objs.size + 1], _, _, H1, rfl, I2, turnM (zip_sep2 (fp1 := [a]) (fp2 := [b]) (by simpa using lta) (by simpa using ltb)) (Nat.ne_of_lt lta) (Nat.ne_of_lt (Nat.lt_succ_of_lt ltb)), ⟨hz, hTI, ⟨_, _, hTO⟩, ⟨_, o1, rfl, rfl⟩, ⟨_, o2, rfl, rfl⟩⟩, fun c hm => ?_, q⟩
        have hle : s1.heap.objs.size ≤ c := by
          have h5 : c = s1.heap.objs.size + 4 ∨ c = s1.heap.objs.size + 2 ∨ c = s1.heap.objs.size + 3 ∨ c = s1.heap.objs.size ∨ c = s1.heap.objs.size + 1 := by simpa using hm
          rcases h5 with z | z | z | z | z <;> rw [z] <;> first | exact Nat.le_refl _ | exact Nat.le_add_right _ _
        exact I1.fpOk hle (I1.hok.fresh hle)
section
variable {X : Cx} {σ : L2.St} {G0 H0 G H G1 H1 : Hp} {d d1 d2 d3 : Dt} {ds ds1 ds2 : List Dt} {a b c e iter : Expr} {es : List Expr} {pos p : Pos}
theorem wks_U {K : PySem.W.Frag} {l : Addr} {xs : List V} (hx : SqT K G l xs) (r : Reps K G xs ds) : Wks K (ItU K l) G (ds.zipIdx.map fun q => .tup [.int q.2, q.1]) where
  go := fun i d Ga Ha h e1 e2 => by
    rw [List.getElem?_map] at h
    cases z : ds.zipIdx[i]? with
    | none =>
      rw [z] at h
      cases h
    | some pr =>
      have hz := List.getElem?_zipIdx ▸ z
      cases z1 : ds[i]? with
      | none =>
        rw [z1] at hz
        cases hz
      | some d' =>
        obtain ⟨v, h1, _⟩ := r.get z1
        exact ⟨xs, v, sqT_ex (e1.trans e2) hx, h1⟩
  yld := fun i d Ga Ha x Hb h e1 e2 y => by
    obtain ⟨t, v, rfl, nT, rfl, q1⟩ := y
    rw [List.getElem?_map, List.getElem?_zipIdx] at h
    cases z1 : ds[i]? with
    | none =>
      rw [z1] at h
      cases h
    | some d' =>
      rw [z1] at h
      have e : Dt.tup [.int ((0 + i : Nat) : Int), d'] = d := Option.some.inj h
      rw [Nat.zero_add] at e
      subst e
      obtain ⟨v', h1, rv⟩ := r.get z1
      have a1 := q1 xs (sqT_ex (e1.trans e2) hx)
      rw [h1] at a1
      have b1 : v' = v := Option.some.inj a1
      subst b1
      exact ⟨_, Stp.new1 e2 nT, rep_new_tup e2 ⟨rfl, rv.ex e1, True.intro⟩ nT⟩
  stop := fun Ga Ha e1 e2 => ⟨xs, sqT_ex (e1.trans e2) hx, by rw [List.length_map, List.length_zipIdx, r.length]; exact Nat.le_refl _⟩
theorem wk_enumU {kk : Nat} {tp : Pos} {ts : List Expr} (f : Free X "enumerate") (h : Rn X a σ G H (.tup ds)) (hs : starEach [a] X.env = [(false, eval a X.env)] := by rfl) :
    Wk X (.Tuple ts kk tp) (.Call (.Name "enumerate" p) [a] [] pos) σ G H (ds.zipIdx.map fun q => .tup [.int q.2, q.1]) :=
  ⟨_, pi_enumU f.g f.m (pa_cons pe_wp pa_nil hs) hs, fun H1 e R q => h H1 e _ fun v G2 H2 s r => by
    obtain ⟨l, xs, rfl, hx, rs⟩ := r
    exact ⟨l, xs, rfl, sqT_ex s.gh hx, q _ G2 H2 s (wks_U hx rs)⟩⟩
theorem wks_M {K : PySem.W.Frag} {l m : Addr} {xs ys : List V} (hx : G l = some (.lst xs)) (hy : SqT K G m ys) (r1 : Reps K G xs ds1) (r2 : Reps K G ys ds2) : Wks K (ItM K l m) G ((ds1.zip ds2).map fun p => .tup [p.1, p.2]) where
  go := fun i d Ga Ha h e1 e2 => by
    rw [List.getElem?_map] at h
    cases z : (ds1.zip ds2)[i]? with
    | none =>
      rw [z] at h
      cases h
    | some pr =>
      obtain ⟨z1, z2⟩ := List.getElem?_zip_eq_some.mp z
      obtain ⟨v, h1, _⟩ := r1.get z1
      obtain ⟨w, h2, _⟩ := r2.get z2
      exact ⟨xs, ys, v, w, sqL_ex (e1.trans e2) hx, sqT_ex (e1.trans e2) hy, h1, h2⟩
  yld := fun i d Ga Ha x Hb h e1 e2 y => by
    obtain ⟨T, v, w, rfl, nT, rfl, q1, q2⟩ := y
    rw [List.getElem?_map] at h
    cases z : (ds1.zip ds2)[i]? with
    | none =>
      rw [z] at h
      cases h
    | some pr =>
      rw [z] at h
      have e : Dt.tup [pr.1, pr.2] = d := Option.some.inj h
      subst e
      obtain ⟨z1, z2⟩ := List.getElem?_zip_eq_some.mp z
      obtain ⟨v', h1, rv⟩ := r1.get z1
      obtain ⟨w', h2, rw'⟩ := r2.get z2
      have a1 := q1 xs (sqL_ex (e1.trans e2) hx)
      have a2 := q2 ys (sqT_ex (e1.trans e2) hy)
      rw [h1] at a1
      rw [h2] at a2
      have b1 : v' = v := Option.some.inj a1
      have b2 : w' = w := Option.some.inj a2
      subst b1 b2
      exact ⟨_, Stp.new1 e2 nT, rep_new_tup e2 ⟨rv.ex e1, rw'.ex e1, True.intro⟩ nT⟩
  stop := fun Ga Ha e1 e2 => by
    refine ⟨xs, ys, sqL_ex (e1.trans e2) hx, sqT_ex (e1.trans e2) hy, ?_⟩
    rw [List.length_map, List.length_zip, r1.length, r2.length]
    omega
theorem wk_zipM {kk : Nat} {tp : Pos} {ts : List Expr} (f : Free X "zip") (h1 : Rn X a σ G H (.lst ds1)) (h2 : Rn X b σ G H (.tup ds2)) (hs : starEach [a, b] X.env = (false, eval a X.env) :: starEach [b] X.env := by rfl) (hs2 : starEach [b] X.env = (false, eval b X.env) :: starEach [] X.env := by rfl) (hpl : (backTo pos (starEach [b] X.env)).any (·.1) = false := by rfl) :
    Wk X (.Tuple ts kk tp) (.Call (.Name "zip" p) [a, b] [] pos) σ G H ((ds1.zip ds2).map fun p => .tup [p.1, p.2]) :=
  ⟨_, pi_zipM f.g f.m (pa_cons pe_wp (pa_cons pe_wp pa_nil hs2) hs) hs hpl, fun H1 e R q => two h1 h2 e fun v w G2 H2 s r r' => by
    obtain ⟨l, xs, rfl, hx, rs⟩ := r
    obtain ⟨m, ys, rfl, hy, rt⟩ := r'
    exact ⟨l, m, xs, ys, rfl, sqL_ex s.gh hx, sqT_ex s.gh hy, q _ G2 H2 s (wks_M hx hy rs rt)⟩⟩
end
end Y
set_option Elab.async false
set_option linter.all false
set_option maxRecDepth 100000
set_option maxHeartbeats 4000000
/-! D17: the law's together, rows, keeps. -/
namespace Y
open PySem PySem.Spec PyProof.Rows L2
def eLsL (ls : List (List (List Stc))) : Dt := .lst (ls.map eOwnL)
def eChsL (cs : List Ch) : Dt := .lst (cs.map eChL)
theorem flat_take {α β : Type} (f : α → List β) (pre post : List α) (y : α) : (pre.flatMap f).length + (f y).length ≤ ((pre ++ y :: post).flatMap f).length := by
  rw [List.flatMap_append, List.flatMap_cons, List.length_append, List.length_append]
  omega
theorem wk_to {X : Cx} {tg iter : Expr} {σ : L2.St} {G H : Hp} {ds1 ds2 : List Dt} (h : Wk X tg iter σ G H ds1) (q : ds1 = ds2) : Wk X tg iter σ G H ds2 := q ▸ h
section
variable {P : Program} {w : World} {K : PySem.W.Frag} {mg : Str → Option Value} {base : Heap}
def R_Ltogether : List Dt → Dt → Prop := fun ds d => ∃ ls : List (List (List Stc)), ds = [eLsL ls] ∧ ls.length ≤ 1000 ∧ (ls.all (fun c => decide (0 < c.length)) = true → ∀ pre post, ls = pre ++ post → (togF pre).length ≤ 100000 ∧ ∀ c ∈ togF pre, c.length ≤ 1000) ∧ d = eChsL (tog ls)
theorem c_Ltogether (T : Txt K mg) : C8.Cal P w K mg base 1 "_law_together" (Pu K R_Ltogether) [] := by
  refine cal_of (st := s_Ltogether) (N := n_Ltogether) (ps := ["_law_lists"]) T 50 rfl (by decide +kernel) (by decide +kernel) (fun _ _ _ _ _ _ us hl => match us, hl with | [_], _ => rfl) (fun ds d h => by obtain ⟨_, rfl, _⟩ := h; rfl) ?_
  rintro f cdv A outer s G H Q E σ ds d hr ⟨ls, rfl, hl, hb, rfl⟩ st q
  have enil : tog ls = (if ls.all (fun c => decide (0 < c.length)) then togF ls else []) := rfl
  have hfl : (Dt.lst ((ls.filter fun c => decide (c.length = 0)).map eOwnL)).pl 60 = true := by
    show ((ls.filter fun c => decide (c.length = 0)).map eOwnL).all (Dt.pl 59) = true
    rw [List.all_map, List.all_eq_true]
    intro c hc
    have h0 := of_decide_eq_true (List.mem_filter.mp hc).2
    rw [List.eq_nil_of_length_eq_zero h0]
    rfl
  have hk : (!((ls.filter fun c => decide (c.length = 0)).map eOwnL).isEmpty) = !(ls.all fun c => decide (0 < c.length)) := by
    congr 1
    rw [isEmpty_map, Bool.eq_iff_iff, List.isEmpty_iff, List.filter_eq_nil_iff, List.all_eq_true]
    constructor
    · intro h c hc
      have := h c hc
      rw [decide_eq_true_eq] at this
      exact decide_eq_true (by omega)
    · intro h c hc
      have := of_decide_eq_true (h c hc)
      rw [decide_eq_true_eq]
      omega
  refine rs_ifT st (rt_to (rc_t (rc_neNil hr st.ex (rn_ro (ro_flt (i := 1) (xs := ls) (enc := eOwnL) (cd := fun c => decide (c.length = 0)) (f := eOwnL) st (wk_list (rn_var st 0)) (by omega) (fun s1 HH C cl fp y hy σ' G' H' st => rts_one (rt_to (rc_t (rc_eqI (rn_lenL T.free (rn_var st 1)) (rn_int st.ex))) ?_)) fun s1 HH C cl fp y hy _ σ' G' H' st => (rn_var st 1))) hfl)) hk) (fun hk G2 H2 st => ?_) fun hk G2 H2 st => ?_
  · rw [List.length_map]
    exact decide_eq_decide.mpr (by omega)
  · rw [Bool.not_eq_true'] at hk
    rw [hk] at enil
    refine rs_rq st q (rn_to (rn_lst (ra_nil st.ex) (Nat.le_of_ble_eq_true rfl)) ?_)
    rw [enil]
    rfl
  · rw [Bool.not_eq_false'] at hk
    rw [hk, if_pos rfl] at enil
    refine rs_let (i := 2) (d := eChsL (togF [])) st (rn_lst (ra_one (rn_lst (ra_nil st.ex) (Nat.le_of_ble_eq_true rfl))) (Nat.le_of_ble_eq_true rfl)) fun σ2 G2 H2 st => ?_
    refine rs_forN (i := 1) (enc := eOwnL) (xs := ls) (fun pre => [some (eLsL ls), pre.getLast?.map eOwnL, some (eChsL (togF pre)), none, none, none]) (fun pre => []) st (wk_list (rn_var st 0)) (fun G1 H1 s1 pre y post ex σ2 G2 H2 st => ?_) fun σ' G' H' st => ?_
    · obtain ⟨_, hrow⟩ := hb hk pre (y :: post) ex
      obtain ⟨hlen, _⟩ := hb hk (pre ++ [y]) post (by rw [ex]; simp)
      refine rs_letO (i := 3) st (ro_lst (ra_nil st.ex) (Nat.le_of_ble_eq_true rfl)) fun l0 σ2 G2 H2 st => ?_
      let F : Ch → List Dt := fun row => y.map fun c => eChL (row ++ [c])
      have es : (togF (pre ++ [y])).map eChL = (togF pre).flatMap F := by
        rw [togF_snoc]
        unfold togS
        rw [List.map_flatMap]
        congr 1
        funext row
        rw [List.map_map]
        rfl
      have hlen2 : ((togF pre).flatMap F).length ≤ 100000 := by
        rw [← es, List.length_map]
        exact hlen
      refine rs_forN (i := 4) (enc := eChL) (xs := togF pre) (fun p => [some (eLsL ls), some (eOwnL y), some (eChsL (togF pre)), some (.adr l0), p.getLast?.map eChL, none]) (fun p => [(l0, p.flatMap F)]) st (wk_list (rn_var st 2)) (fun G1 H1 s1 p u po exu σ2 G2 H2 st => ?_) fun σ' G' H' st => ?_
      · have hlu := flat_take F p po u
        rw [← exu] at hlu
        refine rs_ext (j := 0) st (rn_var st 3) rfl (ro_map (xs := y) (enc := eStsL) (i := 5) (f := fun c => eChL (u ++ [c])) st (wk_list (rn_var st 1)) ?_ fun s1 HH C cl fp z hz σ' G' H' st => rn_to (rn_cat (rn_var st 4) (rn_lst (ra_one (rn_var st 5)) (Nat.le_of_ble_eq_true rfl)) ?_) ?_) ?_ fun G2 H2 st => wb_nil ⟨G2, ?_⟩
        · have : (F u).length = y.length := List.length_map _
          omega
        · have := hrow u (by rw [exu]; simp)
          rw [List.length_map]
          simp
          omega
        · show Dt.lst (u.map eStsL ++ [eStsL z]) = Dt.lst ((u ++ [z]).map eStsL)
          rw [List.map_append]
          rfl
        · exact Nat.le_trans hlu hlen2
        · rw [flat_snoc, List.getLast?_concat]
          exact st
      · obtain ⟨G3, _, st⟩ := st.freeze (i := 3) (j := 0) rfl rfl
        refine rs_let (i := 2) st (rn_var st 3) fun σ2 G2 H2 st => wb_nil ⟨G2, ?_⟩
        rw [← es] at st
        rw [List.getLast?_concat]
        exact ((st.drop 3).drop 4).drop 5
    · refine rs_rq st q (rn_to (rn_var st 2) ?_)
      rw [enil]

theorem rowsF_succ (most : Int) (n : Nat) : (rowsF most (n + 1)).map eL = (rowsF most n).flatMap fun row => (rgI (-most) (2 * most + 1).toNat).map fun x => eL (row ++ [x]) := by
  show (rowsS most (rowsF most n)).map eL = _
  unfold rowsS
  rw [List.map_flatMap]
  congr 1
  funext row
  rw [List.map_map]
  rfl
theorem rowsF_len {most : Int} : ∀ {n : Nat} {g : List Int}, g ∈ rowsF most n → g.length = n := fun h => (mem_rowsF.mp h).1
def R_Lrows : List Dt → Dt → Prop := fun ds d => ∃ (D : Nat) (most : Int), ds = [.int D, .int most] ∧ (D ≤ 1000 ∧ 0 ≤ most ∧ most ≤ 1000) ∧ (∀ n, n ≤ D → (rowsF most n).length ≤ 100000) ∧ d = .lst ((rowsF most D).map eL)
theorem c_Lrows (T : Txt K mg) : C8.Cal P w K mg base 1 "_law_rows" (Pu K R_Lrows) [] := by
  refine cal_of (st := s_Lrows) (N := n_Lrows) (ps := ["_law_days", "_law_most"]) T 54 rfl (by decide +kernel) (by decide +kernel) (fun _ _ _ _ _ _ us hl => match us, hl with | [_, _], _ => rfl) (fun ds d h => by obtain ⟨_, _, rfl, _⟩ := h; rfl) ?_
  rintro f cdv A outer s G H Q E σ ds d hr ⟨D, most, rfl, hD, hb, rfl⟩ st q
  refine rs_let (i := 2) (d := .lst ((rowsF most 0).map eL)) st (rn_lst (ra_one (rn_lst (ra_nil st.ex) (Nat.le_of_ble_eq_true rfl))) (Nat.le_of_ble_eq_true rfl)) fun σ2 G2 H2 st => ?_
  refine rs_forN (i := 3) (enc := .int) (xs := rgI 0 D) (fun pre => [some (.int D), some (.int most), some (.lst ((rowsF most pre.length).map eL)), pre.getLast?.map .int, none, none, none]) (fun pre => []) st (wk_to (wk_rg1 T.free (rn_var st 0) (by omega)) (by rw [rgD_eq, Int.toNat_natCast])) (fun G1 H1 s1 pre y post ex σ2 G2 H2 st => ?_) fun σ' G' H' st => ?_
  · have hpl : pre.length + 1 ≤ D := by
      have := congrArg List.length ex
      rw [rgI_len, List.length_append, List.length_cons] at this
      omega
    refine rs_letO (i := 4) st (ro_lst (ra_nil st.ex) (Nat.le_of_ble_eq_true rfl)) fun l0 σ2 G2 H2 st => ?_
    let F : List Int → List Dt := fun row => (rgI (-most) (2 * most + 1).toNat).map fun x => eL (row ++ [x])
    have es : (rowsF most (pre.length + 1)).map eL = (rowsF most pre.length).flatMap F := rowsF_succ most pre.length
    have hlen2 : ((rowsF most pre.length).flatMap F).length ≤ 100000 := by
      rw [← es, List.length_map]
      exact hb _ hpl
    refine rs_forN (i := 5) (enc := eL) (xs := rowsF most pre.length) (fun p => [some (.int D), some (.int most), some (.lst ((rowsF most pre.length).map eL)), some (.int y), some (.adr l0), p.getLast?.map eL, none]) (fun p => [(l0, p.flatMap F)]) st (wk_list (rn_var st 2)) (fun G1 H1 s1 p u po exu σ2 G2 H2 st => ?_) fun σ' G' H' st => ?_
    · have hlu := flat_take F p po u
      rw [← exu] at hlu
      have hu := rowsF_len (show u ∈ rowsF most pre.length by rw [exu]; simp)
      refine rs_ext (j := 0) st (rn_var st 4) rfl (ro_map (xs := rgI (-most) (2 * most + 1).toNat) (enc := .int) (i := 6) (f := fun x => eL (u ++ [x])) st (wk_to (wk_rg2 T.free (rn_neg (rn_var st 1)) (rn_add (rn_var st 1) (rn_int st.ex)) (by omega)) (by rw [rgD_eq, show most + 1 - -most = 2 * most + 1 by omega])) ?_ fun s1 HH C cl fp z hz σ' G' H' st => rn_to (rn_cat (rn_var st 5) (rn_lst (ra_one (rn_var st 6)) (Nat.le_of_ble_eq_true rfl)) ?_) ?_) ?_ fun G2 H2 st => wb_nil ⟨G2, ?_⟩
      · rw [rgI_len]
        omega
      · rw [List.length_map]
        simp
        omega
      · show Dt.lst (u.map Dt.int ++ [.int z]) = Dt.lst ((u ++ [z]).map .int)
        rw [List.map_append]
        rfl
      · exact Nat.le_trans hlu hlen2
      · rw [flat_snoc, List.getLast?_concat]
        exact st
    · obtain ⟨G3, _, st⟩ := st.freeze (i := 4) (j := 0) rfl rfl
      refine rs_let (i := 2) st (rn_var st 4) fun σ2 G2 H2 st => wb_nil ⟨G2, ?_⟩
      rw [← es] at st
      rw [List.getLast?_concat, List.length_append]
      exact ((st.drop 4).drop 5).drop 6
  · rw [rgI_len] at st
    exact rs_rq st q (rn_var st 2)

theorem svs_bls (bs : List Bool) : svs (bs.map Dt.bl) = some (bs.map V.bl) := by
  induction bs with
  | nil => rfl
  | cons b r ih =>
    rw [List.map_cons]
    unfold svs
    rw [ih]
    rfl
theorem inV_bls (b : Bool) (bs : List Bool) : inV (.bl b) (bs.map V.bl) = decide (b ∈ bs) := by
  unfold inV
  rw [List.any_map]
  have e : ((fun y => eqV y (.bl b)) ∘ V.bl) = fun c => decide (c = b) := funext fun c => by cases c <;> cases b <;> rfl
  rw [e, Bool.eq_iff_iff, List.any_eq_true, decide_eq_true_eq]
  constructor
  · rintro ⟨c, hc, h⟩
    rw [← of_decide_eq_true h]
    exact hc
  · intro h
    exact ⟨b, h, decide_eq_true rfl⟩
theorem flat_bls (bs : List Bool) : (bs.map V.bl).all flatV = true := by
  rw [List.all_map, List.all_eq_true]
  intro b _
  rfl
theorem pl_ints (ns : List Int) : (Dt.lst (ns.map .int)).pl 60 = true := by
  show (ns.map Dt.int).all (Dt.pl 59) = true
  rw [List.all_map, List.all_eq_true]
  intro x _
  rfl
def R_Lkeeps : List Dt → Dt → Prop := fun ds d => ∃ (g : List Int) (s : Sg), ds = [eL g, eT s] ∧ g.length ≤ 1000 ∧ (0 ≤ s.len ∧ s.len ≤ 1000) ∧ (∀ b l lo hi, s = .told b l lo hi → 0 ≤ b ∧ 0 ≤ l ∧ b + l ≤ g.length) ∧ d = .bl (kpL g s)
theorem c_Lkeeps (T : Txt K mg) : C8.Cal P w K mg base 3 "_law_keeps" (Pu K R_Lkeeps) [] := by
  refine cal_of (st := s_Lkeeps) (N := n_Lkeeps) (ps := ["_law_gains", "_law_saying_here"]) T 42 rfl (by decide +kernel) (by decide +kernel) (fun _ _ _ _ _ _ us hl => match us, hl with | [_, _], _ => rfl) (fun ds d h => by obtain ⟨_, _, rfl, _⟩ := h; rfl) ?_
  rintro f cdv A outer s G H Q E σ ds d hr ⟨g, sg, rfl, hg, hl, ht, rfl⟩ st q
  cases sg with
  | told b l lo hi =>
    obtain ⟨h0, h1, h2⟩ := ht b l lo hi rfl
    refine rs_ifT st (k := true) (rt_to (rc_t (rc_eqT (i := "told") (j := "told") (rn_ixT (d := _) (rn_var st 1) (rn_int st.ex) rfl) (rn_str st.ex))) (by decide +kernel)) (fun _ G2 H2 st => rs_rq st q ?_) fun z => Bool.noConfusion z
    have es : ((g.drop b.toNat).take l.toNat).sum = sumAt g b l := by
      unfold sumAt
      have e3 : (b + l).toNat = b.toNat + l.toNat := by omega
      rw [e3, hts_getD g (by omega), hts_getD g (by omega), sum_cut g (by omega)]
    refine (rn_c0 (c_Lwithin T) hr (by decide) rfl (ra_cons (rn_to (rn_sum (ns := (g.drop b.toNat).take l.toNat) T.free rfl (rn_to (rn_slL (rn_var st 0) (po_some pe_wp) (po_some pe_wp) (po_i (rn_ixT (d := _) (rn_var st 1) (rn_int st.ex) rfl)) (po_i (rn_add (rn_ixT (d := _) (rn_var st 1) (rn_int st.ex) rfl) (rn_ixT (d := _) (rn_var st 1) (rn_int st.ex) rfl)))) ?_)) (by rw [es])) (ra_cons (rn_ixT (d := _) (rn_var st 1) (rn_int st.ex) rfl) (ra_one (rn_ixT (d := _) (rn_var st 1) (rn_int st.ex) rfl)))) ⟨sumAt g b l, lo, hi, rfl, rfl⟩)
    rw [List.length_map, sIx_in h0 (by omega), sIx_in (by omega) h2, List.map_take, List.map_drop]
    congr 2
    omega
  | just l n =>
    refine rs_skip st (rt_to (rc_t (rc_eqT (i := "just") (j := "told") (rn_ixT (d := _) (rn_var st 1) (rn_int st.ex) rfl) (rn_str st.ex))) (by decide +kernel)) fun G2 H2 st => ?_
    refine rs_let (i := 2) (d := .lst ((sumsIn g l).map .int)) st (rn_c0 (c_Lsums T) hr (by decide) rfl (ra_cons (rn_var st 0) (ra_one (rn_ixT (d := _) (rn_var st 1) (rn_int st.ex) rfl))) ?_) fun σ2 G2 H2 st => ?_
    · exact ⟨g, l, rfl, hl, hg, rfl⟩
    have hne : ∀ h : (!((sumsIn g l).map Dt.int).isEmpty) = true, sumsIn g l ≠ [] := fun h z => by
      rw [z] at h
      simp at h
    have el : (!((sumsIn g l).map Dt.int).isEmpty) = decide (0 < (sumsIn g l).length) := by
      rw [isEmpty_map]
      cases sumsIn g l <;> simp
    have eq1 : kpL g (.just l n) = ((!((sumsIn g l).map Dt.int).isEmpty) && (decide (lmin (sumsIn g l) ≤ n) && decide (n ≤ lmax (sumsIn g l)))) := by rw [el] <;> rfl
    rw [eq1] at q
    refine rs_ifT st (k := true) (rt_to (rc_t (rc_eqT (i := "just") (j := "just") (rn_ixT (d := _) (rn_var st 1) (rn_int st.ex) rfl) (rn_str st.ex))) (by decide +kernel)) (fun _ G2 H2 st => rs_rq st q ?_) fun z => Bool.noConfusion z
    exact rn_andB (rc_v (rc_neNil hr st.ex (rn_var st 2) (pl_ints _))) fun h => rn_one (rn_chain op_le op_le (rn_min T.free rfl (hne h) (rn_var st 2)) (rn_ixT (d := _) (rn_var st 1) (rn_int st.ex) rfl) (rn_max T.free rfl (hne h) (rn_var st 2)))
  | rule l lo hi =>
    refine rs_skip st (rt_to (rc_t (rc_eqT (i := "any") (j := "told") (rn_ixT (d := _) (rn_var st 1) (rn_int st.ex) rfl) (rn_str st.ex))) (by decide +kernel)) fun G2 H2 st => ?_
    refine rs_let (i := 2) (d := .lst ((sumsIn g l).map .int)) st (rn_c0 (c_Lsums T) hr (by decide) rfl (ra_cons (rn_var st 0) (ra_one (rn_ixT (d := _) (rn_var st 1) (rn_int st.ex) rfl))) ?_) fun σ2 G2 H2 st => ?_
    · exact ⟨g, l, rfl, hl, hg, rfl⟩
    refine rs_skip st (rt_to (rc_t (rc_eqT (i := "any") (j := "just") (rn_ixT (d := _) (rn_var st 1) (rn_int st.ex) rfl) (rn_str st.ex))) (by decide +kernel)) fun G2 H2 st => ?_
    have e : ((sumsIn g l).map fun t => Dt.bl (wi t lo hi)) = ((sumsIn g l).map fun t => wi t lo hi).map Dt.bl := by rw [List.map_map] <;> rfl
    have len : (sumsIn g l).length ≤ 100000 := by
      have h1 : 0 ≤ l ∧ l ≤ 1000 := hl
      unfold sumsIn
      rw [List.length_map, rgI_len]
      omega
    refine rs_letM (i := 4) (j := 3) (xs := sumsIn g l) (enc := .int) (f := fun t => .bl (wi t lo hi)) st (wk_list (rn_var st 2)) len (fun s1 HH C cl fp y hy σ' G' H' st => ?_) (.inr fun σ2 G2 H2 st => ?_)
    · exact rn_c0 (c_Lwithin T) hr (by decide) rfl (ra_cons (rn_var st 4) (ra_cons (rn_ixT (d := _) (rn_var st 1) (rn_int st.ex) rfl) (ra_one (rn_ixT (d := _) (rn_var st 1) (rn_int st.ex) rfl)))) ⟨y, lo, hi, rfl, rfl⟩
    rw [e] at st
    refine rs_rq st q (rn_to (rn_if (k := true) (rt_to (rc_t (rc_eqT (i := "any") (j := "any") (rn_ixT (d := _) (rn_var st 1) (rn_int st.ex) rfl) (rn_str st.ex))) (by decide +kernel)) (fun _ => rc_v (rc_niL (x := .bl false) (rn_bl st.ex) (rn_var st 3) rfl (svs_bls _) rfl (flat_bls _))) fun z => Bool.noConfusion z) ?_)
    rw [inV_bls]
    congr 1
    show _ = (sumsIn g l).all fun v => wi v lo hi
    rw [Bool.eq_iff_iff, List.all_eq_true, Bool.not_eq_true', decide_eq_false_iff_not, List.mem_map]
    constructor
    · intro h v hv
      cases z : wi v lo hi with
      | true => rfl
      | false => exact absurd ⟨v, hv, z⟩ h
    · rintro h ⟨v, hv, z⟩
      rw [h v hv] at z
      cases z
  | some l lo hi =>
    refine rs_skip st (rt_to (rc_t (rc_eqT (i := "some") (j := "told") (rn_ixT (d := _) (rn_var st 1) (rn_int st.ex) rfl) (rn_str st.ex))) (by decide +kernel)) fun G2 H2 st => ?_
    refine rs_let (i := 2) (d := .lst ((sumsIn g l).map .int)) st (rn_c0 (c_Lsums T) hr (by decide) rfl (ra_cons (rn_var st 0) (ra_one (rn_ixT (d := _) (rn_var st 1) (rn_int st.ex) rfl))) ?_) fun σ2 G2 H2 st => ?_
    · exact ⟨g, l, rfl, hl, hg, rfl⟩
    refine rs_skip st (rt_to (rc_t (rc_eqT (i := "some") (j := "just") (rn_ixT (d := _) (rn_var st 1) (rn_int st.ex) rfl) (rn_str st.ex))) (by decide +kernel)) fun G2 H2 st => ?_
    have e : ((sumsIn g l).map fun t => Dt.bl (wi t lo hi)) = ((sumsIn g l).map fun t => wi t lo hi).map Dt.bl := by rw [List.map_map] <;> rfl
    have len : (sumsIn g l).length ≤ 100000 := by
      have h1 : 0 ≤ l ∧ l ≤ 1000 := hl
      unfold sumsIn
      rw [List.length_map, rgI_len]
      omega
    refine rs_letM (i := 4) (j := 3) (xs := sumsIn g l) (enc := .int) (f := fun t => .bl (wi t lo hi)) st (wk_list (rn_var st 2)) len (fun s1 HH C cl fp y hy σ' G' H' st => ?_) (.inr fun σ2 G2 H2 st => ?_)
    · exact rn_c0 (c_Lwithin T) hr (by decide) rfl (ra_cons (rn_var st 4) (ra_cons (rn_ixT (d := _) (rn_var st 1) (rn_int st.ex) rfl) (ra_one (rn_ixT (d := _) (rn_var st 1) (rn_int st.ex) rfl)))) ⟨y, lo, hi, rfl, rfl⟩
    rw [e] at st
    refine rs_rq st q (rn_to (rn_if (k := false) (rt_to (rc_t (rc_eqT (i := "some") (j := "any") (rn_ixT (d := _) (rn_var st 1) (rn_int st.ex) rfl) (rn_str st.ex))) (by decide +kernel)) (fun z => Bool.noConfusion z) fun _ => rc_v (rc_inL (x := .bl true) (rn_bl st.ex) (rn_var st 3) rfl (svs_bls _) rfl (flat_bls _))) ?_)
    rw [inV_bls]
    congr 1
    show _ = (sumsIn g l).any fun v => wi v lo hi
    rw [Bool.eq_iff_iff, List.any_eq_true, decide_eq_true_eq, List.mem_map]
end
end Y
set_option Elab.async false
set_option linter.all false
set_option maxRecDepth 100000
set_option maxHeartbeats 4000000
/-! Lay16: comprehensions by a pair of names. -/
namespace Y
open PySem PySem.Spec PyProof.Rows L2
section
variable {X : Cx} {σ : L2.St} {G0 H0 G H G1 H1 : Hp} {d d1 d2 d3 : Dt} {ds ds1 ds2 : List Dt} {dss : List (Option Dt)} {ow : List (Addr × List Dt)} {a b c e tg iter : Expr} {es : List Expr} {pos p tp px py : Pos} {kk : Nat}
theorem ro_flt2 {α : Type} {elt : Expr} {ifs : List Expr} {scope : Scope} {i j : Nat} {x y : Str} {e1 e2 : α → Dt} {xs : List α} {cd : α → Bool} {f : α → Dt} (s : Sta X.K G0 H0 dss ow σ G H) (hw : Wk X (.Tuple [.Name x px, .Name y py] kk tp) iter σ G H (xs.map fun u => .tup [e1 u, e2 u])) (hl : xs.length ≤ 100000)
    (hif : ∀ (s1 : Shared) (HH : Hp) (C : Addr) (cl : List (Str × Addr)) (fp : List Addr), ∀ u ∈ xs, ∀ σ' G' H', Sta (X.blk s1 HH scope (compEnvC scope cl C X.env) fp).K G0 H0 (((dss.set j none).set i (some (e1 u))).set j (some (e2 u))) ow σ' G' H' → RnTs (X.blk s1 HH scope (compEnvC scope cl C X.env) fp) ifs σ' G' H' (cd u))
    (he : ∀ (s1 : Shared) (HH : Hp) (C : Addr) (cl : List (Str × Addr)) (fp : List Addr), ∀ u ∈ xs, cd u = true → ∀ σ' G' H', Sta (X.blk s1 HH scope (compEnvC scope cl C X.env) fp).K G0 H0 (((dss.set j none).set i (some (e1 u))).set j (some (e2 u))) ow σ' G' H' → Rn (X.blk s1 HH scope (compEnvC scope cl C X.env) fp) elt σ' G' H' (f u))
    (ok : blkC X.N X.env.scope scope [(x, i), (y, j)] = true := by kernel_rfl) (hc : X.calm = true := by rfl) (hN : X.N.Nodup := by exact of_decide_eq_true (by kernel_rfl)) (hi : X.N[i]? = some x := by rfl) (hj : X.N[j]? = some y := by rfl)
    (hx : ∀ (s1 : Shared) (HH : Hp) (C : Addr) (cl : List (Str × Addr)) (fp : List Addr), (X.blk s1 HH scope (compEnvC scope cl C X.env) fp).env.scope.names.lookup x = some .local := by intro _ _ _ _ _; rfl)
    (hy : ∀ (s1 : Shared) (HH : Hp) (C : Addr) (cl : List (Str × Addr)) (fp : List Addr), (X.blk s1 HH scope (compEnvC scope cl C X.env) fp).env.scope.names.lookup y = some .local := by intro _ _ _ _ _; rfl)
    (hfs : ∀ x, foldedSetIterable iter X.env x = pure x := by intro _; rfl) :
    RnO X (.ListComp elt [⟨.Tuple [.Name x px, .Name y py] kk tp, iter, ifs, 0⟩] scope pos) σ G H ((xs.filter cd).map f) := by
  have e0 : ∀ u : α, ((wipeD dss [i, j]).set i (some (e1 u))).set j (some (e2 u)) = ((dss.set j none).set i (some (e1 u))).set j (some (e2 u)) := fun u => by
    show ((((dss.set j none).set i none).set i (some (e1 u))).set j (some (e2 u))) = _
    rw [List.set_set]
  exact ro_lc (enc := fun u => .tup [e1 u, e2 u]) (up := fun u ds => (ds.set i (some (e1 u))).set j (some (e2 u))) (is := [i, j]) (own := [(x, i), (y, j)]) s hc hN hw (blkOk_by ok) hl (by simp)
    (fun s1 HH C cl fp u hu => tg2 (X := X.blk s1 HH scope (compEnvC scope cl C X.env) fp) (hc := hc) (hN := hN) (h1 := hi) (h2 := hj) (l1 := hx s1 HH C cl fp) (l2 := hy s1 HH C cl fp))
    (fun s1 HH C cl fp u hu σ' G' H' st => hif s1 HH C cl fp u hu σ' G' H' (by
      rw [← e0]
      exact st))
    (fun s1 HH C cl fp u hu hcd σ' G' H' st => he s1 HH C cl fp u hu hcd σ' G' H' (by
      rw [← e0]
      exact st)) hfs
theorem ro_mapP {α : Type} {elt : Expr} {scope : Scope} {i j : Nat} {x y : Str} {e1 e2 : α → Dt} {xs : List α} {f : α → Dt} (s : Sta X.K G0 H0 dss ow σ G H) (hw : Wk X (.Tuple [.Name x px, .Name y py] kk tp) iter σ G H (xs.map fun u => .tup [e1 u, e2 u])) (hl : xs.length ≤ 100000)
    (he : ∀ (s1 : Shared) (HH : Hp) (C : Addr) (cl : List (Str × Addr)) (fp : List Addr), ∀ u ∈ xs, ∀ σ' G' H', Sta (X.blk s1 HH scope (compEnvC scope cl C X.env) fp).K G0 H0 (((dss.set j none).set i (some (e1 u))).set j (some (e2 u))) ow σ' G' H' → Rn (X.blk s1 HH scope (compEnvC scope cl C X.env) fp) elt σ' G' H' (f u))
    (ok : blkC X.N X.env.scope scope [(x, i), (y, j)] = true := by kernel_rfl) (hc : X.calm = true := by rfl) (hN : X.N.Nodup := by exact of_decide_eq_true (by kernel_rfl)) (hi : X.N[i]? = some x := by rfl) (hj : X.N[j]? = some y := by rfl)
    (hx : ∀ (s1 : Shared) (HH : Hp) (C : Addr) (cl : List (Str × Addr)) (fp : List Addr), (X.blk s1 HH scope (compEnvC scope cl C X.env) fp).env.scope.names.lookup x = some .local := by intro _ _ _ _ _; rfl)
    (hy : ∀ (s1 : Shared) (HH : Hp) (C : Addr) (cl : List (Str × Addr)) (fp : List Addr), (X.blk s1 HH scope (compEnvC scope cl C X.env) fp).env.scope.names.lookup y = some .local := by intro _ _ _ _ _; rfl)
    (hfs : ∀ x, foldedSetIterable iter X.env x = pure x := by intro _; rfl) :
    RnO X (.ListComp elt [⟨.Tuple [.Name x px, .Name y py] kk tp, iter, [], 0⟩] scope pos) σ G H (xs.map f) :=
  ro_to (ro_flt2 (cd := fun _ => true) s hw hl (fun s1 HH C cl fp y hy σ' G' H' st => rts_nil st.ex) (fun s1 HH C cl fp y hy _ σ' G' H' st => he s1 HH C cl fp y hy σ' G' H' st) ok hc hN hi hj hx hy hfs) (by rw [flt_all])
end
end Y
set_option Elab.async false
set_option linter.all false
set_option maxRecDepth 100000
set_option maxHeartbeats 4000000
/-! D18: rings of all choices. -/
namespace Y
open PySem PySem.Spec PyProof.Rows L2
def eRings (rs : List Ring) : Dt := .tup (rs.map eRing)
/-- what together asks of its lists -/
def LsW (ls : List (List (List Stc))) : Prop := ls.length ≤ 1000 ∧ (ls.all (fun c => decide (0 < c.length)) = true → ∀ pre post, ls = pre ++ post → (togF pre).length ≤ 100000 ∧ ∀ c ∈ togF pre, c.length ≤ 1000)
def areR (ls : List (List (List Stc))) (rs : List Ring) : Bool := decide (rs.length = (tog ls).length) && ((tog ls).zip rs).all fun p => isRing p.1 p.2
theorem togW {ls : List (List (List Stc))} (h : LsW ls) : (tog ls).length ≤ 100000 := by
  by_cases c : ls.all (fun c => decide (0 < c.length)) = true
  · rw [tog_eq]
    exact (h.2 c ls [] (List.append_nil _).symm).1
  · have e : tog ls = [] := if_neg c
    rw [e]
    exact Nat.zero_le _
theorem zip_enc {α β : Type} (f : α → Dt) (g : β → Dt) (xs : List α) (ys : List β) : (((xs.map f).zip (ys.map g)).map fun p => Dt.tup [p.1, p.2]) = (xs.zip ys).map fun u => Dt.tup [f u.1, g u.2] := by
  rw [List.zip_map, List.map_map]
  rfl
theorem len_ne {a b : Nat} : (!decide ((a : Int) = (b : Int))) = !decide (a = b) := by
  congr 1
  exact decide_eq_decide.mpr Int.ofNat_inj
section
variable {P : Program} {w : World} {K : PySem.W.Frag} {mg : Str → Option Value} {base : Heap}
def R_are_rings : List Dt → Dt → Prop := fun ds d => ∃ (ls : List (List (List Stc))) (rs : List Ring), ds = [eLs ls, eRings rs] ∧ LsW ls ∧ (∀ r ∈ rs, r.length ≤ 1000) ∧ d = .bl (areR ls rs)
theorem c_are_rings (T : Txt K mg) : C8.Cal P w K mg base 4 "are_rings" (Pu K R_are_rings) [] := by
  refine cal_of (st := s_are_rings) (N := n_are_rings) (ps := ["lists", "value"]) T 34 rfl (by decide +kernel) (by decide +kernel) (fun _ _ _ _ _ _ us hl => match us, hl with | [_, _], _ => rfl) (fun ds d h => by obtain ⟨_, _, rfl, _⟩ := h; rfl) ?_
  rintro f cdv A outer s G H Q E σ ds d hr ⟨ls, rs, rfl, hl, hr1, rfl⟩ st q
  have lz : ((tog ls).zip rs).length ≤ 100000 := by
    rw [List.length_zip]
    have := togW hl
    omega
  refine rs_let (i := 2) (d := eChs (tog ls)) st (rn_c0 (c_together T) hr (by decide) rfl (ra_one (rn_var st 0)) ?_) fun σ2 G2 H2 st => ?_
  · exact ⟨ls, rfl, hl.1, hl.2, rfl⟩
  refine rs_ifT st (k := !decide (rs.length = (tog ls).length)) (rt_w (rw_go' (rt_not (k := true) (rt_to (rt_v (rn_isi (cc := .tuple) T.cls T.kit T.free (rn_var st 1) (by first | rfl | assumption) (rn_ty T st.ex))) rfl)) (rw_or1 (rt_to (rc_t (rc_neI (rn_lenT T.free (rn_var st 1)) (rn_lenL T.free (rn_var st 2)))) ?_)))) (fun hk G2 H2 st => ?_) fun hk G2 H2 st => ?_
  · rw [List.length_map, List.length_map]
    exact len_ne
  · rw [Bool.not_eq_true'] at hk
    refine rs_rq st q (rn_to (rn_bl st.ex) ?_)
    show Dt.bl false = .bl (_ && _)
    rw [hk]
    rfl
  · rw [Bool.not_eq_false'] at hk
    have e : (((tog ls).zip rs).map fun u => Dt.bl (isRing u.1 u.2)) = (((tog ls).zip rs).map fun u => isRing u.1 u.2).map Dt.bl := by rw [List.map_map] <;> rfl
    refine rs_rq st q (rn_to (rn_all (bs := ((tog ls).zip rs).map fun u => isRing u.1 u.2) T.free rfl (rn_to (rn_ro (ro_mapP (i := 3) (j := 4) (xs := (tog ls).zip rs) (e1 := fun u => eCh u.1) (e2 := fun u => eRing u.2) (f := fun u => .bl (isRing u.1 u.2)) st (wk_to (wk_zipM T.free (rn_var st 2) (rn_var st 1)) (zip_enc eCh eRing _ _)) lz fun s1 HH C cl fp u hu σ' G' H' st => ?_)) (by rw [e]))) ?_)
    · refine (rn_c0 (c_is_ring T) hr (by decide) rfl (ra_cons (rn_var st 3) (ra_one (rn_var st 4))) ?_)
      exact ⟨u.1, u.2, rfl, hr1 _ (List.of_mem_zip hu).2, rfl⟩
    · show Dt.bl _ = .bl (_ && _)
      rw [hk, List.all_map]
      rfl
def R_Lare_rings : List Dt → Dt → Prop := fun ds d => ∃ (ls : List (List (List Stc))) (rs : List Ring), ds = [eLsL ls, eRings rs] ∧ LsW ls ∧ (∀ r ∈ rs, r.length ≤ 1000) ∧ d = .bl (areR ls rs)
theorem c_Lare_rings (T : Txt K mg) : C8.Cal P w K mg base 4 "_law_are_rings" (Pu K R_Lare_rings) [] := by
  refine cal_of (st := s_Lare_rings) (N := n_Lare_rings) (ps := ["_law_lists", "_law_rings"]) T 53 rfl (by decide +kernel) (by decide +kernel) (fun _ _ _ _ _ _ us hl => match us, hl with | [_, _], _ => rfl) (fun ds d h => by obtain ⟨_, _, rfl, _⟩ := h; rfl) ?_
  rintro f cdv A outer s G H Q E σ ds d hr ⟨ls, rs, rfl, hl, hr1, rfl⟩ st q
  have lz : ((tog ls).zip rs).length ≤ 100000 := by
    rw [List.length_zip]
    have := togW hl
    omega
  refine rs_let (i := 2) (d := eChsL (tog ls)) st (rn_c0 (c_Ltogether T) hr (by decide) rfl (ra_one (rn_var st 0)) ?_) fun σ2 G2 H2 st => ?_
  · exact ⟨ls, rfl, hl.1, hl.2, rfl⟩
  refine rs_ifT st (k := !decide (rs.length = (tog ls).length)) (rt_w (rw_go' (rt_not (k := true) (rt_to (rt_v (rn_isi (cc := .tuple) T.cls T.kit T.free (rn_var st 1) (by first | rfl | assumption) (rn_ty T st.ex))) rfl)) (rw_or1 (rt_to (rc_t (rc_neI (rn_lenT T.free (rn_var st 1)) (rn_lenL T.free (rn_var st 2)))) ?_)))) (fun hk G2 H2 st => ?_) fun hk G2 H2 st => ?_
  · rw [List.length_map, List.length_map]
    exact len_ne
  · rw [Bool.not_eq_true'] at hk
    refine rs_rq st q (rn_to (rn_bl st.ex) ?_)
    show Dt.bl false = .bl (_ && _)
    rw [hk]
    rfl
  · rw [Bool.not_eq_false'] at hk
    refine rs_rq st q (rn_to (rc_v (rc_eqNil hr st.ex (rn_ro (ro_flt2 (i := 3) (j := 4) (xs := (tog ls).zip rs) (e1 := fun u => eChL u.1) (e2 := fun u => eRing u.2) (cd := fun u => !isRing u.1 u.2) (f := fun u => .int 1) st (wk_to (wk_zipM T.free (rn_var st 2) (rn_var st 1)) (zip_enc eChL eRing _ _)) lz (fun s1 HH C cl fp u hu σ' G' H' st => ?_) fun s1 HH C cl fp u hu _ σ' G' H' st => (rn_int st.ex))) ?_)) ?_)
    · refine rts_one (rt_not (rt_v (rn_c0 (c_Lis_ring T) hr (by decide) rfl (ra_cons (rn_var st 3) (ra_one (rn_var st 4))) ?_)))
      exact ⟨u.1, u.2, rfl, hr1 _ (List.of_mem_zip hu).2, rfl⟩
    · show (List.map _ _).all (Dt.pl 59) = true
      rw [List.all_map, List.all_eq_true]
      intro x _
      rfl
    · rw [isEmpty_map]
      show Dt.bl _ = .bl (_ && _)
      rw [hk, Bool.true_and]
      congr 1
      rw [Bool.eq_iff_iff, List.isEmpty_iff, List.filter_eq_nil_iff, List.all_eq_true]
      constructor
      · intro h u hu
        simpa using h u hu
      · intro h u hu
        simpa using h u hu
end
end Y
set_option Elab.async false
set_option linter.all false
set_option maxRecDepth 100000
set_option maxHeartbeats 4000000
/-! Lay17: a staticmethod read off its class; three names at once, the first a cell. -/
namespace Y
open PySem PySem.Spec PyProof.Rows L2
theorem pe_stat {X : Cx} {pl : Sem Bool} {k : Nat} {C f g : Addr} {mc : Value} {x m : Str} {fd : FuncData} {ps : List Str} {sp : Sp} {e : Expr} {es : List Expr} {p pos apos : Pos} {t : TA} (hg : Gl X x) (hm : X.mg x = some (.ref C)) (rd : PySem.W.readsIn X.K C mc = true) (ga : PySem.W.specialIn X.K (.ref C) "__getattribute__" = some (some (.builtin "type.__getattribute__")))
    (hf : PySem.W.findCls X.K (.ref C) mc m = some (.get (.builtin "staticmethod.__get__") (.ref g) .none (.ref C))) (rc : ∃ rest, PySem.W.recIn X.K g "staticmethod" = some (.ref f :: rest)) (F : FnOk X.prog X.w X.K X.mg X.base C8.CX0 k f fd ps sp) (kp : PySem.W.keepIn X.K (.ref f) = true) (b : Binds X.K fd ps []) (hr : Room k X.A) (ha : PA X (e :: es) t)
    (hdb : (x == ("__debug__" : Str)) = false := by decide) (hst : starEach (e :: es) X.env = (false, eval e X.env) :: starEach es X.env := by rfl) (hpl : (backTo pos (starEach es X.env)).any (·.1) = false := by rfl)
    (ht : eval (.Call (.Attribute (.Name x p) m apos) (e :: es) [] pos) X.env = (do
      let ov ← eval (.Name x p) X.env
      standAt apos.atName
      let (f, first) ← holding [ov] (getMethod ov m pl)
      callWith pos f first (backTo pos (starEach (e :: es) X.env)) (backToKw pos (keywordEach [] X.env))) := by rfl) :
    PE X (.Call (.Attribute (.Name x p) m apos) (e :: es) [] pos) (tCall sp [] C8.E0 t) where
  run := fun pins s σ H Q I h => by
    refine PySem.W.methodCall_KW (pl := pl) (ld_glob I hg hm ?_ hdb) ht
    obtain ⟨rest, hrc⟩ := rc
    refine PySem.W.method_cls I.kIn ga (PySem.W.cls_bind I.kIn rd hf (wpAny_call (PySem.W.sm_get (s := { s with toks := s.toks + 1 }) I.kIn hrc (PySem.W.handed_on rfl ?_))))
    have J : Inv X pins σ H { s with toks := s.toks + 1 } := I.tok _
    refine PySem.W.callWith_K (first := []) (h₀ := X.base) J.ok.mod.kin kp (thn (ha.run pos pins _ σ H _ J h) fun us s2 ⟨vs, H2, I2, r, q2⟩ => ⟨I2.kIn, ?_⟩) hst hpl
    exact run_fn F hr b .nil C8.pass0 I2 r q2
section
variable {X : Cx} {σ : L2.St} {G0 H0 G H G1 H1 : Hp} {d d1 d2 d3 : Dt} {ds ds1 ds2 : List Dt} {dss : List (Option Dt)} {ow : List (Addr × List Dt)} {a b c e : Expr} {es : List Expr} {pos p apos : Pos} {D : Ends} {rest : List Stmt}
theorem rn_stat {pl : Sem Bool} {k j : Nat} {C f g : Addr} {mc : Value} {x m : Str} {fd : FuncData} {ps : List Str} {R : List Dt → Dt → Prop} (hg : Gl X x) (hm : X.mg x = some (.ref C)) (rd : PySem.W.readsIn X.K C mc = true) (ga : PySem.W.specialIn X.K (.ref C) "__getattribute__" = some (some (.builtin "type.__getattribute__")))
    (hf : PySem.W.findCls X.K (.ref C) mc m = some (.get (.builtin "staticmethod.__get__") (.ref g) .none (.ref C)) ∧ ∃ rest, PySem.W.recIn X.K g "staticmethod" = some (.ref f :: rest)) (F : FnOk X.prog X.w X.K X.mg X.base C8.CX0 k f fd ps (Pu X.K R) ∧ PySem.W.keepIn X.K (.ref f) = true ∧ Binds X.K fd ps []) (hr : Room j X.A) (hk : k ≤ j) (ha : RnA X (e :: es) σ G H ds) (hR : R ds d)
    (hdb : (x == ("__debug__" : Str)) = false := by decide) (hst : starEach (e :: es) X.env = (false, eval e X.env) :: starEach es X.env := by rfl) (hpl : (backTo pos (starEach es X.env)).any (·.1) = false := by rfl)
    (ht : eval (.Call (.Attribute (.Name x p) m apos) (e :: es) [] pos) X.env = (do
      let ov ← eval (.Name x p) X.env
      standAt apos.atName
      let (f, first) ← holding [ov] (getMethod ov m pl)
      callWith pos f first (backTo pos (starEach (e :: es) X.env)) (backToKw pos (keywordEach [] X.env))) := by rfl) :
    Rn X (.Call (.Attribute (.Name x p) m apos) (e :: es) [] pos) σ G H d := fun H1 e1 Q q =>
  wpE_of (pe_stat (pl := pl) hg hm rd ga hf.1 hf.2 F.1 F.2.1 F.2.2 (hr.mono hk) pa_wp hdb hst hpl ht) (ha H1 e1 _ fun vs G2 H2 s rs => ⟨G2, ds, d, s.gh, by rw [List.append_nil]; exact rs, hR, fun v G3 H3 s3 rv => q v G3 H3 (s.trans s3) rv⟩)
/-- x, y, z = a, b, c: a, b new lists of ours; x a cell -/
theorem rs_par3C {i j l : Nat} {x y z : Str} {px py pz pt : Pos} {kt k2 pt2} (s : Sta X.K G0 H0 dss ow σ G H) (ha : RnO X a σ G H ds1) (hb : RnO X b σ G H ds2) (hcc : Rn X c σ G H d)
    (q : ∀ p1 p2 σ2 G2 H2, Sta X.K G0 H0 (((dss.set i (some (.adr p1))).set j (some (.adr p2))).set l (some d)) (ow ++ [(p1, ds1)] ++ [(p2, ds2)]) σ2 G2 H2 → wpB X rest D σ2 H2)
    (hc : X.calm = true := by rfl) (hN : X.N.Nodup := by exact of_decide_eq_true (by kernel_rfl)) (hi : X.N[i]? = some x := by rfl) (hj : X.N[j]? = some y := by rfl) (hl : X.N[l]? = some z := by rfl)
    (hx : Loc X.env.scope x := by first | exact .inl rfl | exact .inr rfl) (hfx : X.fn x = true ∨ X.env.scope.names.lookup x = some .local := by first | exact .inl rfl | exact .inr rfl) (hy : X.env.scope.names.lookup y = some .local := by rfl) (hz : X.env.scope.names.lookup z = some .local := by rfl)
    (hs : swapsWithSole [.Tuple [.Name x px, .Name y py, .Name z pz] kt pt] (.Tuple [a, b, c] k2 pt2) pos.line X.env = pure false := by rfl) (hw : swappedStores [.Tuple [.Name x px, .Name y py, .Name z pz] kt pt] (.Tuple [a, b, c] k2 pt2) X.env = pure none := by rfl) (h1 : (assignEach [.Tuple [.Name x px, .Name y py, .Name z pz] kt pt] X.env).map (·.2) = [assign (.Tuple [.Name x px, .Name y py, .Name z pz] kt pt) X.env] := by rfl)
    (he : starEach [a, b, c] X.env = (false, eval a X.env) :: starEach [b, c] X.env := by rfl) (he2 : starEach [b, c] X.env = (false, eval b X.env) :: starEach [c] X.env := by rfl) (he3 : starEach [c] X.env = (false, eval c X.env) :: starEach [] X.env := by rfl) :
    wpB X (.Assign [.Tuple [.Name x px, .Name y py, .Name z pz] kt pt] (.Tuple [a, b, c] k2 pt2) pos :: rest) D σ H := by
  refine wb_cons (wpS_of (ps_asg (pe_tup (pa_cons pe_wp (pa_cons pe_wp (pa_cons pe_wp pa_nil he3) he2) he)) (pg_tup hc (pgs_cons (pg_name hN hi hx hfx) (pgs_cons (pg_name hN hj (.inl hy) (.inr hy)) (pgs_cons (pg_name hN hl (.inl hz) (.inr hz)) pgs_nil rfl) rfl) rfl) rfl rfl) hs hw h1) ?_)
  refine ha H (Ex.refl H) _ fun l1 vs1 G2 H2 s2 n1 n2 hl1 r1 => hb H2 s2.h _ fun l2 vs2 G3 H3 s3 m1 m2 hl2 r2 => hcc H3 (s2.h.trans s3.h) _ fun w G4 H4 s4 r4 => ?_
  refine ⟨(by show 3 ≤ sizeLine; decide), fun tp nt => ?_⟩
  obtain ⟨j1, u1⟩ := s2.join s3
  have t1 := s2.trans j1
  obtain ⟨j2, u2⟩ := t1.join s4
  have j3 : Stp (uni (uni G2 G3) G4) H4 (uni (uni G2 G3) G4) (L2.upd H4 tp (.tup [.ref l1, .ref l2, w])) := ⟨Ex.new nt, Ex.refl _, j2.gh.trans (Ex.new nt), fun _ h _ => h⟩
  have t2 := (t1.trans j2).trans j3
  have ne : l2 ≠ l1 := fun e => by rw [e, hl1] at m1; cases m1
  have un : uni G2 G3 l2 = none := uni_none (s2.gh.back m1) m2
  have o1 : Own X.K H0 (uni (uni G2 G3) G4) _ l1 ds1 := Own.stp (Own.stp (Own.stp ⟨vs1, hl1, r1, n2, s.st.h.back n1⟩ j1) j2) j3
  have o2 : Own X.K H0 (uni (uni G2 G3) G4) _ l2 ds2 := Own.stp (Own.stp ⟨vs2, hl2, r2.ex u1, un, s.st.h.back (s2.h.back m1)⟩ j2) j3
  have no : ∀ p ∈ ow, p.1 ≠ l1 ∧ p.1 ≠ l2 := fun p hp => by
    obtain ⟨_, z1, _⟩ := s.own p hp
    exact ⟨fun e => (by rw [e, n1] at z1; cases z1), fun e => (by rw [e, s2.h.back m1] at z1; cases z1)⟩
  refine ⟨tp, [.ref l1, .ref l2, w], rfl, SqT.of upd_same, rfl, ?_⟩
  refine ⟨_, _, rfl, _, _, rfl, _, _, rfl, rfl, ?_⟩
  refine q l1 l2 _ _ _ ⟨s.st.trans t2, (((s.env.ex t2.g).set i (show Rep X.K _ (.ref l1) (.adr l1) from rfl)).set j (show Rep X.K _ (.ref l2) (.adr l2) from rfl)).set l (r4.ex u2), fun p hp => ?_, ?_⟩
  · rcases List.mem_append.mp hp with z | z
    · rcases List.mem_append.mp z with z | z
      · exact (s.own p z).stp t2
      · have e : p = (l1, ds1) := by simpa using z
        subst e
        exact o1
    · have e : p = (l2, ds2) := by simpa using z
      subst e
      exact o2
  · rw [List.map_append, List.map_append, List.nodup_append, List.nodup_append]
    refine ⟨⟨s.nd, by simp, fun z hz y hy e => ?_⟩, by simp, fun z hz y hy e => ?_⟩
    · obtain ⟨p, hp, e1⟩ := List.mem_map.mp hz
      have e2 : y = l1 := by simpa using hy
      exact (no p hp).1 (e1.trans (e.trans e2))
    · have e2 : y = l2 := by simpa using hy
      rcases List.mem_append.mp hz with hz | hz
      · obtain ⟨p, hp, e1⟩ := List.mem_map.mp hz
        exact (no p hp).2 (e1.trans (e.trans e2))
      · have e3 : z = l1 := by simpa using hz
        exact ne (e2.symm.trans (e.symm.trans e3))
end
end Y
set_option Elab.async false
set_option linter.all false
set_option maxRecDepth 100000
set_option maxHeartbeats 4000000
/-! D19: a row by its heights; steps; the ring found by going back. -/
namespace Y
open PySem PySem.Spec PyProof.Rows L2
theorem gns_zip (h : List Int) (t : List Int) : ((((0 :: t).map Dt.int).zip (t.map Dt.int)).map fun p => Dt.tup [p.1, p.2]) = ((0 :: t).zip t).map fun u => Dt.tup [.int u.1, .int u.2] := by
  rw [List.zip_map, List.map_map]
  rfl
section
variable {P : Program} {w : World} {K : PySem.W.Frag} {mg : Str → Option Value} {base : Heap}
def R_Row_of : List Dt → Dt → Prop := fun ds d => ∃ t : List Int, ds = [eL (0 :: t)] ∧ (1 ≤ t.length ∧ t.length ≤ 48) ∧ d = eRow (gnsOf (0 :: t))
theorem c_Row_of (T : Txt K mg) : ∃ fd, FnOk P w K mg base C8.CX0 5 f_Row_of fd ["heights"] (Pu K R_Row_of) ∧ PySem.W.keepIn K (.ref f_Row_of) = true ∧ Binds K fd ["heights"] [] := by
  obtain ⟨fd, F⟩ := T.def_ 61 (d := d_Row_of) rfl
  refine ⟨fd, fn_pu (st := s_Row_of) (N := n_Row_of) (toFun F) (C8.fnScope_by (by decide +kernel)) (fun ds d h => by obtain ⟨_, rfl, _⟩ := h; rfl) ?_, F.kp, FunD.bindsN F fun _ _ _ _ _ _ us hl => match us, hl with | [_], _ => rfl⟩
  rintro cdv A outer s G H Q E σ ds d hr ⟨t, rfl, ht, rfl⟩ st q
  have el : (((0 :: t).map Dt.int).length : Int) = t.length + 1 := by rw [List.length_map, List.length_cons] <;> rfl
  refine rs_skip st (rt_w (rw_go' (rt_not (k := true) (rt_v (rn_c0 (c_are_integers T) hr (by decide) rfl (ra_one (rn_var st 0)) ?_))) (rw_go' (rt_to (rc_t (rc_lt (rn_lenL T.free (rn_var st 0)) (rn_int st.ex))) ?_) (rw_or1 (rt_to (rc_t (rc_neI (rn_ixL (rn_var st 0) (rn_int st.ex) (d := .int 0) atI_zero) (rn_int st.ex))) rfl))))) fun G2 H2 st => ?_
  · exact ⟨_, 0 :: t, rfl, .inl rfl, by rw [List.length_cons]; omega, rfl⟩
  · rw [el]
    exact decide_eq_false (by omega)
  have es : ((0 :: t).map Dt.int).drop 1 = t.map Dt.int := rfl
  have eg : ((0 :: t).zip t).map (fun u => Dt.int (u.2 - u.1)) = (gnsOf (0 :: t)).map .int := by
    unfold gnsOf
    rw [List.map_map]
    rfl
  refine rs_rq st q (rn_m0 (cl := .row) (ds := [eL (gnsOf (0 :: t))]) (m_row T) hr (by decide) rfl (ra_one (rn_to (rn_ro (ro_mapP (i := 1) (j := 2) (xs := (0 :: t).zip t) (e1 := fun u => .int u.1) (e2 := fun u => .int u.2) (f := fun u => .int (u.2 - u.1)) st (wk_to (wk_zip (ds2 := t.map .int) T.free (rn_var st 0) (rn_to (rn_slL (l := some 1) (u := none) (rn_var st 0) (po_some pe_wp) po_none (po_i (rn_int st.ex)) (po_n st.ex)) ?_)) (gns_zip [] t)) ?_ fun s1 HH C cl fp u hu σ' G' H' st => (rn_sub (rn_var st 2) (rn_var st 1)))) ?_)) ?_)
  · rw [List.length_map, List.length_cons]
    have e1 : HT.sIx (t.length + 1) 0 (some (1 : Int)) = 1 := sIx_in (by omega) (by omega)
    rw [e1]
    show Dt.lst (((0 :: t).map Dt.int |>.drop 1).take (t.length + 1 - 1)) = _
    rw [es, List.take_of_length_le (by rw [List.length_map]; omega)]
  · rw [List.length_zip]
    omega
  · rw [eg] <;> rfl
  · refine ⟨gnsOf (0 :: t), rfl, ?_, rfl⟩
    rw [gns_len]
    exact ht

theorem flat_bound {α β : Type} (f : α → List β) (m : Nat) : ∀ (l : List α), (∀ x ∈ l, (f x).length ≤ m) → (l.flatMap f).length ≤ l.length * m
  | [], _ => by simp
  | x :: r, h => by
    rw [List.flatMap_cons, List.length_append, List.length_cons, Nat.succ_mul]
    have h1 := h x List.mem_cons_self
    have h2 := flat_bound f m r fun y hy => h y (List.mem_cons_of_mem _ hy)
    omega
theorem hiStp_len (n : Int) (s : Stc) : (hiStp n s).length ≤ 1 := by
  unfold hiStp
  split <;> simp
theorem loStp_len (n : Int) (s : Stc) : (loStp n s).length ≤ 1 := by
  unfold loStp
  split <;> simp
theorem stpsOf_len (n : Int) (ss : List Stc) : (stpsOf n ss).length ≤ ss.length * 2 := by
  unfold stpsOf
  refine flat_bound _ 2 ss fun s _ => ?_
  rw [List.length_append]
  have := hiStp_len n s
  have := loStp_len n s
  omega
/-- a choice of a size that is gone through -/
def ChW (c : Ch) : Prop := c.length ≤ 10 ∧ ∀ ss ∈ c, ss.length ≤ 100
theorem stps_len {c : Ch} (h : ChW c) : (stps c).length ≤ 2000 := by
  unfold stps
  have h1 := flat_bound (fun p : List Stc × Nat => stpsOf p.2 p.1) 200 c.zipIdx fun p hp => by
    have hm : p.1 ∈ c := by
      have := List.mem_zipIdx_iff_getElem?.mp hp
      exact List.mem_of_getElem? this
    have h2 := h.2 p.1 hm
    have h3 := stpsOf_len p.2 p.1
    show (stpsOf p.2 p.1).length ≤ 200
    omega
  rw [List.length_zipIdx] at h1
  have := h.1
  omega
def R_steps_in : List Dt → Dt → Prop := fun ds d => ∃ c : Ch, ds = [eCh c] ∧ ChW c ∧ d = .lst ((stps c).map eStp)
theorem c_steps_in (T : Txt K mg) : C8.Cal P w K mg base 1 "steps_in" (Pu K R_steps_in) [] := by
  refine cal_of (st := s_steps_in) (N := n_steps_in) (ps := ["choice"]) T 24 rfl (by decide +kernel) (by decide +kernel) (fun _ _ _ _ _ _ us hl => match us, hl with | [_], _ => rfl) (fun ds d h => by obtain ⟨_, rfl, _⟩ := h; rfl) ?_
  rintro f cdv A outer s G H Q E σ ds d hr ⟨c, rfl, hw, rfl⟩ st q
  have hlen := stps_len hw
  refine rs_letO (i := 1) st (ro_lst (ra_nil st.ex) (Nat.le_of_ble_eq_true rfl)) fun l0 σ2 G2 H2 st => ?_
  have ez : (c.map eSts).zipIdx.map (fun q => Dt.tup [.int q.2, q.1]) = c.zipIdx.map fun u => Dt.tup [.int u.2, eSts u.1] := by
    rw [List.zipIdx_map, List.map_map]
    rfl
  let F : List Stc × Nat → List Stp4 := fun p => stpsOf p.2 p.1
  refine rs_forQ (enc := fun u : List Stc × Nat => .tup [.int u.2, eSts u.1]) (xs := c.zipIdx) (up := fun u ds => (ds.set 2 (some (.int u.2))).set 3 (some (eSts u.1))) (is := [2, 3]) (fun _ => True)
    (fun pre => [some (eCh c), some (.adr l0), pre.getLast?.map fun u => .int u.2, pre.getLast?.map fun u => eSts u.1, none, none, none, none]) (fun pre => [(l0, (pre.flatMap F).map eStp)]) st True.intro (wk_to (wk_enumU T.free (rn_var st 0)) ez) (fun u hu => tg2 (i1 := 2) (i2 := 3)) (fun G1 H1 s1 pre y post ex _ σ2 G2 H2 st => ?_) fun _ σ' G' H' st => ?_
  · have htot : (pre.flatMap F).length + (F y).length ≤ 2000 := by
      have h1 := flat_take F pre post y
      rw [← ex] at h1
      exact Nat.le_trans h1 hlen
    let B : Stc → List Stp4 := fun s => hiStp y.2 s ++ loStp y.2 s
    have eF : F y = y.1.flatMap B := rfl
    have st : Sta K G1 H [some (eCh c), some (.adr l0), some (.int y.2), some (eSts y.1), none, none, none, none] [(l0, (pre.flatMap F ++ ([] : List Stc).flatMap B).map eStp)] σ2 G2 H2 := by
      rw [show (pre.flatMap F ++ ([] : List Stc).flatMap B) = pre.flatMap F from List.append_nil _]
      exact st
    refine rs_forQ (enc := eStc) (xs := y.1) (up := fun u ds => (((ds.set 4 (some (.int u.1))).set 5 (some (.int u.2.1))).set 6 (some (oD u.2.2.1))).set 7 (some (oD u.2.2.2))) (is := [4, 5, 6, 7]) (fun _ => True)
      (fun p => [some (eCh c), some (.adr l0), some (.int y.2), some (eSts y.1), p.getLast?.map fun s => .int s.1, p.getLast?.map fun s => .int s.2.1, p.getLast?.map fun s => oD s.2.2.1, p.getLast?.map fun s => oD s.2.2.2]) (fun p => [(l0, (pre.flatMap F ++ p.flatMap B).map eStp)]) st True.intro (wk_tup (rn_var st 3)) (fun u hu => tg4 (i1 := 4) (i2 := 5) (i3 := 6) (i4 := 7)) (fun G1 H1 s1 p u po exu _ σ2 G2 H2 st => ?_) fun _ σ' G' H' st => ?_
    · have hb : (pre.flatMap F ++ p.flatMap B).length + (B u).length ≤ 2000 := by
        have h1 := flat_take B p po u
        rw [← exu, ← eF] at h1
        rw [List.length_append]
        omega
      have eB : (pre.flatMap F ++ (p ++ [u]).flatMap B) = (pre.flatMap F ++ p.flatMap B) ++ (hiStp y.2 u ++ loStp y.2 u) := by
        rw [flat_snoc, ← List.append_assoc]
      rw [eB, List.getLast?_concat]
      obtain ⟨b, l, lo, hi⟩ := u
      generalize pre.flatMap F ++ p.flatMap B = done at st hb ⊢
      have hbl : (B (b, l, lo, hi)).length = (hiStp y.2 (b, l, lo, hi)).length + (loStp y.2 (b, l, lo, hi)).length := List.length_append
      have hbl2 : done.length ≤ 2000 := by omega
      have e1 : ∀ x : Stp4, done.map eStp ++ [eStp x] = (done ++ [x]).map eStp := fun x => by rw [List.map_append] <;> rfl
      have e2 : ∀ x z : Stp4, done.map eStp ++ [eStp x] ++ [eStp z] = (done ++ ([x] ++ [z])).map eStp := fun x z => by rw [← List.append_assoc, List.map_append, List.map_append] <;> rfl
      cases hi with
      | none =>
        refine rs_skip st (rt_to (rc_t (rc_notN st.ex (rn_var st 7))) rfl) fun G2 H2 st => ?_
        cases lo with
        | none =>
          refine rs_skip st (rt_to (rc_t (rc_notN st.ex (rn_var st 6))) rfl) fun G2 H2 st => wb_nil ⟨True.intro, G2, ?_⟩
          rw [show hiStp y.2 (b, l, none, none) ++ loStp y.2 (b, l, none, none) = [] from rfl, List.append_nil]
          exact st
        | some j =>
          refine rs_ifT st (k := true) (rt_to (rc_t (rc_notN st.ex (rn_var st 6))) rfl) (fun _ G2 H2 st => rs_app (j := 0) st (rn_var st 1) rfl (ra_one (rn_tup (ra_cons (rn_add (rn_var st 4) (rn_var st 5)) (ra_cons (rn_var st 4) (ra_cons (rn_neg (rn_var st 6)) (ra_one (rn_tup (ra_cons (rn_add (rn_var st 4) (rn_var st 5)) (ra_cons (rn_var st 2) (ra_one (rn_neg (rn_int st.ex))))) (Nat.le_of_ble_eq_true rfl)))))) (Nat.le_of_ble_eq_true rfl))) (by rw [List.length_map]; omega) fun G2 H2 st => wb_nil (wb_nil ⟨True.intro, G2, ?_⟩)) fun z => Bool.noConfusion z
          show Sta _ _ _ _ [(l0, (done ++ [(b + l, b, -j, (b + l, (y.2 : Int), -1))]).map eStp)] _ _ _
          rw [← e1]
          exact st
      | some h =>
        refine rs_ifT st (k := true) (rt_to (rc_t (rc_notN st.ex (rn_var st 7))) rfl) (fun _ G2 H2 st => rs_app (j := 0) st (rn_var st 1) rfl (ra_one (rn_tup (ra_cons (rn_var st 4) (ra_cons (rn_add (rn_var st 4) (rn_var st 5)) (ra_cons (rn_var st 7) (ra_one (rn_tup (ra_cons (rn_var st 4) (ra_cons (rn_var st 2) (ra_one (rn_int st.ex)))) (Nat.le_of_ble_eq_true rfl)))))) (Nat.le_of_ble_eq_true rfl))) (by rw [List.length_map]; omega) fun G2 H2 st => wb_nil ?_) fun z => Bool.noConfusion z
        cases lo with
        | none =>
          refine rs_skip st (rt_to (rc_t (rc_notN st.ex (rn_var st 6))) rfl) fun G2 H2 st => wb_nil ⟨True.intro, G2, ?_⟩
          show Sta _ _ _ _ [(l0, (done ++ [(b, b + l, h, (b, (y.2 : Int), 1))]).map eStp)] _ _ _
          rw [← e1]
          exact st
        | some j =>
          refine rs_ifT st (k := true) (rt_to (rc_t (rc_notN st.ex (rn_var st 6))) rfl) (fun _ G2 H2 st => rs_app (j := 0) st (rn_var st 1) rfl (ra_one (rn_tup (ra_cons (rn_add (rn_var st 4) (rn_var st 5)) (ra_cons (rn_var st 4) (ra_cons (rn_neg (rn_var st 6)) (ra_one (rn_tup (ra_cons (rn_add (rn_var st 4) (rn_var st 5)) (ra_cons (rn_var st 2) (ra_one (rn_neg (rn_int st.ex))))) (Nat.le_of_ble_eq_true rfl)))))) (Nat.le_of_ble_eq_true rfl))) (by rw [List.length_append, List.length_map]; simp; omega) fun G2 H2 st => wb_nil (wb_nil ⟨True.intro, G2, ?_⟩)) fun z => Bool.noConfusion z
          show Sta _ _ _ _ [(l0, (done ++ ([(b, b + l, h, (b, (y.2 : Int), 1))] ++ [(b + l, b, -j, (b + l, (y.2 : Int), -1))])).map eStp)] _ _ _
          rw [← e2]
          exact st
    · refine wb_nil ⟨True.intro, G', ?_⟩
      rw [flat_snoc, List.getLast?_concat]
      exact (((st.drop 4).drop 5).drop 6).drop 7
  · obtain ⟨G3, _, st⟩ := st.freeze (i := 1) (j := 0) rfl rfl
    exact rs_rq st q (rn_var st 1)
end
end Y
set_option Elab.async false
set_option linter.all false
set_option maxRecDepth 100000
set_option maxHeartbeats 4000000
/-! D20: the ring found by going back; a row or a ring. -/
namespace Y
open PySem PySem.Spec PyProof.Rows L2
theorem getc {came : List (Option Stp4)} {v : Nat} {s : Stp4} (hv : v < came.length) (h : came.getD v none = some s) : atI (came.map eCame) (v : Int) = some (eStp s) := by
  have e := atI_map (f := eCame) (xs := came) (z := none) (i := (v : Int)) (by omega) (by omega)
  rw [Int.toNat_natCast, h] at e
  exact e
theorem range_find {p : Nat → Bool} : ∀ {n k : Nat}, (List.range n).find? p = some k → p k = true ∧ k < n ∧ ∀ j, j < k → p j = false
  | 0, k, h => by cases h
  | n + 1, k, h => by
    rw [List.range_succ, List.find?_append] at h
    cases e : (List.range n).find? p with
    | some k' =>
      rw [e] at h
      have : k' = k := Option.some.inj h
      subst this
      obtain ⟨h1, h2, h3⟩ := range_find e
      exact ⟨h1, by omega, h3⟩
    | none =>
      rw [e] at h
      have h : [n].find? p = some k := h
      have hk := List.find?_some h
      have hm := List.mem_of_find?_eq_some h
      have ek : k = n := List.mem_singleton.mp hm
      subst ek
      exact ⟨hk, by omega, fun j hj => by
        have := List.find?_eq_none.mp e j (List.mem_range.mpr hj)
        simpa using this⟩
section
variable {P : Program} {w : World} {K : PySem.W.Frag} {mg : Str → Option Value} {base : Heap}
def R_ring_at : List Dt → Dt → Prop := fun ds d => ∃ (came : List (Option Stp4)) (p : Nat), ds = [.lst (came.map eCame), .int p] ∧ came.length ≤ 100 ∧ (∀ i, ∃ s, came.getD (itr came i p) none = some s ∧ 0 ≤ s.1) ∧ (∀ i, itr came i p < came.length) ∧ (∃ k, 1 ≤ k ∧ k ≤ came.length ∧ itr came k (itr came came.length p) = itr came came.length p) ∧ d = eRing (ringF came p)
theorem c_ring_at (T : Txt K mg) : C8.Cal P w K mg base 1 "ring_at" (Pu K R_ring_at) [] := by
  refine cal_of (st := s_ring_at) (N := n_ring_at) (ps := ["came", "place"]) T 25 rfl (by decide +kernel) (by decide +kernel) (fun _ _ _ _ _ _ us hl => match us, hl with | [_, _], _ => rfl) (fun ds d h => by obtain ⟨_, _, rfl, _⟩ := h; rfl) ?_
  rintro f cdv A outer s G H Q E σ ds d hr ⟨came, p, rfl, hl, hall, hlt, hbk, rfl⟩ st q
  have nxt : ∀ i, ∃ s, came.getD (itr came i p) none = some s ∧ s.1 = ((itr came (i + 1) p : Nat) : Int) := fun i => by
    obtain ⟨s, h1, h2⟩ := hall i
    refine ⟨s, h1, ?_⟩
    rw [itr_succ]
    unfold prv
    rw [h1]
    show s.1 = ((s.1.toNat : Nat) : Int)
    omega
  refine rs_forN (i := 2) (enc := eCame) (xs := came) (fun pre => [some (.lst (came.map eCame)), some (.int (itr came pre.length p)), pre.getLast?.map eCame, none, none]) (fun _ => []) st (wk_list (rn_var st 0)) (fun G1 H1 s1 pre y post ex σ2 G2 H2 st => ?_) fun σ' G' H' st => ?_
  · obtain ⟨s, h1, h2⟩ := nxt pre.length
    refine rs_let (i := 1) (d := .int s.1) st (rn_ixT (rn_ixL (rn_var st 0) (rn_var st 1) (getc (hlt _) h1)) (rn_int st.ex) atI_zero) fun σ2 G2 H2 st => wb_nil ⟨G2, ?_⟩
    rw [h2] at st
    rw [List.getLast?_concat, List.length_append]
    exact st
  have st := st.drop 2
  refine rs_parO (i := 3) (j := 4) (d2 := .int (itr came came.length p)) st (ro_lst (ra_nil st.ex) (Nat.le_of_ble_eq_true rfl)) (rn_var st 1) rfl (of_decide_eq_true (by kernel_rfl)) rfl rfl (by decide) rfl rfl fun l σ2 G2 H2 st => ?_
  have ring_eq : ringF came p = (match (List.range came.length).find? (fun k => decide (itr came (k + 1) (itr came came.length p) = itr came came.length p)) with
    | none => []
    | some k => ((List.range (k + 1)).map fun i => mrk came (itr came i (itr came came.length p))).reverse) := rfl
  cases e : (List.range came.length).find? (fun k => decide (itr came (k + 1) (itr came came.length p) = itr came came.length p)) with
  | none =>
    obtain ⟨k0, b1, b2, b3⟩ := hbk
    have := List.find?_eq_none.mp e (k0 - 1) (List.mem_range.mpr (by omega))
    have ek : k0 - 1 + 1 = k0 := by omega
    rw [ek, b3] at this
    exact absurd (decide_eq_true rfl) this
  | some k =>
    rw [e] at ring_eq
    obtain ⟨hk, hkn, hmin⟩ := range_find e
    have hk : itr came (k + 1) (itr came came.length p) = itr came came.length p := of_decide_eq_true hk
    generalize eqn : came.length = n at *
    let z : Nat := itr came n p
    have tot : ∀ i, itr came i z = itr came (i + n) p := fun i => (itr_add _ _ _ _).symm
    let items : Nat → List Dt := fun i => (List.range i).map fun j => eWit (mrk came (itr came j z))
    have pls : ∀ i, (Dt.lst (items i)).pl 60 = true := fun i => by
      show (items i).all (Dt.pl 59) = true
      rw [List.all_map, List.all_eq_true]
      intro x _
      rfl
    refine rs_while (W := fun m σ' G' H' => ∃ i, i ≤ k + 1 ∧ m = k + 1 - i ∧ Sta K G H [some (.lst (came.map eCame)), some (.int z), none, some (.adr l), some (.int (itr came i z))] [(l, items i)] σ' G' H') PassesOwn.never (m0 := k + 1) ⟨G2, 0, Nat.zero_le _, rfl, st⟩ ?_
    rintro m σ' G' H' ⟨i, hi, rfl, st⟩
    have hne : i ≠ 0 → (items i).isEmpty = false := fun h0 => by
      cases i with
      | zero => exact absurd rfl h0
      | succ i =>
        show ((List.range (i + 1)).map _).isEmpty = false
        rw [List.range_succ, List.map_append]
        cases (List.range i) <;> rfl
    by_cases hik : i = k + 1
    · subst hik
      refine ⟨false, rt_w (rw_go' (rt_to (rc_t (rc_eqNilO hr st.ex (st.frz (j := 0)) (rn_var st 3) (pls _))) (hne (by omega))) (rw_or1 (rt_to (rc_t (rc_neI (rn_var st 4) (rn_var st 1))) ?_))), fun z => Bool.noConfusion z, fun _ G2 H2 s2 => ?_⟩
      · rw [hk]
        show (!decide ((z : Int) = (z : Int))) = false
        rw [decide_eq_true rfl]
        rfl
      · have st := st.stp s2
        refine rs_rq st q (rn_to (rn_tupL T.free (rn_revO (st.frz (j := 0)) (rn_var st 3))) ?_)
        rw [ring_eq]
        show Dt.tup (items (k + 1)).reverse = .tup (List.map eWit _)
        rw [List.map_reverse, List.map_map]
        rfl
    · have hlt2 : i < k + 1 := by omega
      refine ⟨true, ?_, fun _ G2 H2 s2 => ?_, fun z => Bool.noConfusion z⟩
      · by_cases h0 : i = 0
        · subst h0
          exact rt_w (rw_yes (rt_to (rc_t (rc_eqNilO hr st.ex (st.frz (j := 0)) (rn_var st 3) (pls 0))) rfl))
        · refine rt_w (rw_go' (rt_to (rc_t (rc_eqNilO hr st.ex (st.frz (j := 0)) (rn_var st 3) (pls _))) (hne h0)) (rw_or1 (rt_to (rc_t (rc_neI (rn_var st 4) (rn_var st 1))) ?_)))
          have hm := hmin (i - 1) (by omega)
          have ei : i - 1 + 1 = i := by omega
          rw [ei] at hm
          have hm : itr came i z ≠ z := of_decide_eq_false hm
          have : decide (((itr came i z : Nat) : Int) = ((z : Nat) : Int)) = false := decide_eq_false fun q => hm (Int.ofNat_inj.mp q)
          rw [this]
          rfl
      · have st := st.stp s2
        obtain ⟨s, h1, h2⟩ := nxt (i + n)
        have h3 : came.getD (itr came i z) none = some s := by rw [tot]; exact h1
        have h4 : s.1 = ((itr came (i + 1) z : Nat) : Int) := by
          rw [h2, tot]
          congr 2
          omega
        have h5 : itr came i z < came.length := by rw [tot, eqn]; exact hlt _
        refine rs_app (j := 0) st (rn_var st 3) rfl (ra_one (rn_ixT (d := eWit s.2.2.2) (rn_ixL (rn_var st 0) (rn_var st 4) (getc h5 h3)) (rn_int st.ex) rfl)) (by show (items i).length < 100000; rw [List.length_map, List.length_range]; omega) fun G2 H2 st => ?_
        refine rs_let (i := 4) (d := .int s.1) st (rn_ixT (rn_ixL (rn_var st 0) (rn_var st 4) (getc h5 h3)) (rn_int st.ex) atI_zero) fun σ2 G2 H2 st => wb_nil ⟨k + 1 - (i + 1), G2, by omega, i + 1, by omega, rfl, ?_⟩
        rw [h4] at st
        have ei : items (i + 1) = items i ++ [eWit s.2.2.2] := by
          show (List.range (i + 1)).map _ = _
          rw [List.range_succ, List.map_append]
          show items i ++ [eWit (mrk came (itr came i z))] = _
          have em : mrk came (itr came i z) = s.2.2.2 := by
            unfold mrk
            rw [h3]
          rw [em]
        rw [ei]
        exact st
end
end Y
set_option Elab.async false
set_option linter.all false
set_option maxRecDepth 100000
set_option maxHeartbeats 4000000
/-! D21: a row or a ring; all choices looked through. -/
namespace Y
open PySem PySem.Spec PyProof.Rows L2
def itR (ss : List Stp4) : Nat → Rx → Rx
  | 0, r => r
  | n + 1, r => (itR ss n r).round ss
theorem runR_it {ss : List Stp4} : ∀ (n k : Nat) (r : Rx), (∀ m, m < n → (itR ss (m + 1) r).moved.isNone = false) → n ≤ k → runR ss k r = runR ss (k - n) (itR ss n r)
  | 0, k, r, _, _ => rfl
  | n + 1, k, r, h, hk => by
    rw [runR_it n k r (fun m hm => h m (by omega)) (by omega)]
    have e : k - n = (k - (n + 1)) + 1 := by omega
    rw [e]
    have h1 := h n (by omega)
    have h1 : ((itR ss n r).round ss).moved.isNone = false := h1
    show (if ((itR ss n r).round ss).moved.isNone = true then _ else _) = _
    rw [if_neg (by rw [h1]; simp)]
    rfl
theorem one_len (r : Rx) (s : Stp4) : (r.one s).costs.length = r.costs.length ∧ (r.one s).came.length = r.came.length := by
  unfold Rx.one
  split <;> simp
theorem fold_len2 : ∀ (ss : List Stp4) (r : Rx), (ss.foldl Rx.one r).costs.length = r.costs.length ∧ (ss.foldl Rx.one r).came.length = r.came.length
  | [], r => ⟨rfl, rfl⟩
  | s :: ss, r => by
    rw [List.foldl_cons]
    obtain ⟨h1, h2⟩ := fold_len2 ss (r.one s)
    obtain ⟨h3, h4⟩ := one_len r s
    exact ⟨h1.trans h3, h2.trans h4⟩
theorem itR_len (ss : List Stp4) : ∀ (n : Nat) (r : Rx), (itR ss n r).costs.length = r.costs.length ∧ (itR ss n r).came.length = r.came.length
  | 0, r => ⟨rfl, rfl⟩
  | n + 1, r => by
    obtain ⟨h1, h2⟩ := itR_len ss n r
    obtain ⟨h3, h4⟩ := fold_len2 ss { (itR ss n r) with moved := none }
    exact ⟨h3.trans h1, h4.trans h2⟩
def eRor : List Int ⊕ Ring → Dt
  | .inl g => .tup [eRow g, .non]
  | .inr r => .tup [.non, eRing r]
section
variable {P : Program} {w : World} {K : PySem.W.Frag} {mg : Str → Option Value} {base : Heap}
def R_row_or_ring : List Dt → Dt → Prop := fun ds d => ∃ (D : Nat) (c : Ch), ds = [.int D, eCh c] ∧ (1 ≤ D ∧ D ≤ 48) ∧ ChW c ∧ (∀ ss ∈ c, StsOk D ss) ∧ d = eRor (rowOrRing D c)
theorem c_row_or_ring (T : Txt K mg) : C8.Cal P w K mg base 6 "row_or_ring" (Pu K R_row_or_ring) [] := by
  refine cal_of (st := s_row_or_ring) (N := n_row_or_ring) (ps := ["days", "choice"]) T 26 rfl (by decide +kernel) (by decide +kernel) (fun _ _ _ _ _ _ us hl => match us, hl with | [_, _], _ => rfl) (fun ds d h => by obtain ⟨_, _, rfl, _⟩ := h; rfl) ?_
  rintro f cdv A outer s G H Q E σ ds d hr ⟨D, c, rfl, hD, hw, hok, rfl⟩ st q
  have sok := steps_ok hok
  obtain ⟨fdR, cR⟩ := c_Row_of (P := P) (w := w) (K := K) (mg := mg) (base := base) T
  have sR := He5.wrapB_ok (T.fact 18 rfl)
  rw [of_decide_eq_true (T.fact 19 rfl)] at sR
  have run : ∀ n, n ≤ D + 2 → (∀ m, m < n → (itR (stps c) (m + 1) (Rx0 (D + 1))).moved.isNone = false) → runR (stps c) (D + 2) (Rx0 (D + 1)) = runR (stps c) (D + 2 - n) (itR (stps c) n (Rx0 (D + 1))) := fun n hn h => runR_it n (D + 2) _ h hn
  generalize eS : stps c = S at *
  have hS : S.length ≤ 2000 := by rw [← eS]; exact stps_len hw
  let rst : Nat → Rx := fun n => itR S n (Rx0 (D + 1))
  have hlc : ∀ n, (rst n).costs.length = D + 1 := fun n => (itR_len S n _).1.trans (by simp [Rx0])
  have hlm : ∀ n, (rst n).came.length = D + 1 := fun n => (itR_len S n _).2.trans (by simp [Rx0])
  refine rs_let (i := 2) (d := .lst (S.map eStp)) st (rn_c0 (c_steps_in T) hr (by decide) rfl (ra_one (rn_var st 1)) ?_) fun σ2 G2 H2 st => ?_
  · exact ⟨c, rfl, hw, by rw [eS]⟩
  refine rs_par3C (i := 3) (j := 4) (l := 5) (ds1 := (rst 0).costs.map .int) (ds2 := (rst 0).came.map eCame) (d := .int 0) st ?_ ?_ (rn_int st.ex) fun l1 l2 σ2 G2 H2 st => ?_
  · have e : (rst 0).costs.map Dt.int = List.replicate (D + 1) (.int 0) := by
      show (List.replicate (D + 1) (0 : Int)).map Dt.int = _
      rw [List.map_replicate]
    rw [e]
    exact ro_rep (p2 := ⟨0, 0, 0, 0⟩) (n := D + 1) (ra_one (rn_int st.ex)) (rn_add (rn_var st 0) (rn_int st.ex)) (by omega)
  · have e : (rst 0).came.map eCame = List.replicate (D + 1) .non := by
      show (List.replicate (D + 1) (none : Option Stp4)).map eCame = _
      rw [List.map_replicate]
      rfl
    rw [e]
    exact ro_rep (p2 := ⟨0, 0, 0, 0⟩) (n := D + 1) (ra_one (rn_non st.ex)) (rn_add (rn_var st 0) (rn_int st.ex)) (by omega)
  refine rs_forP (j := 6) (enc := .int) (xs := rgI 0 (D + 2)) (fun pre => ∀ m, m < pre.length → (rst (m + 1)).moved.isNone = false) (fun pre => [some (.int D), some (eCh c), some (.lst (S.map eStp)), some (.adr l1), some (.adr l2), some (oD (rst pre.length).moved), pre.getLast?.map .int, none, none])
    (fun pre => [(l1, (rst pre.length).costs.map .int), (l2, (rst pre.length).came.map eCame)]) st (fun m hm => absurd hm (Nat.not_lt_zero _)) (wk_to (wk_rg1 T.free (rn_add (rn_var st 0) (rn_int st.ex)) (by omega)) (by rw [rgD_eq, show ((D : Int) + 2).toNat = D + 2 by omega])) (fun G1 H1 s1 pre y post ex hI σ2 G2 H2 st => ?_) fun hI σ' G' H' st => ?_
  · have hpl : pre.length + 1 ≤ D + 2 := by
      have := congrArg List.length ex
      rw [rgI_len, List.length_append, List.length_cons] at this
      omega
    obtain ⟨n, hn⟩ : ∃ n, pre.length = n := ⟨_, rfl⟩
    rw [hn] at hpl hI st
    let rp : List Stp4 → Rx := fun p => p.foldl Rx.one { rst n with moved := none }
    have rlc : ∀ p, (rp p).costs.length = D + 1 := fun p => (fold_len2 p _).1.trans (hlc n)
    have rlm : ∀ p, (rp p).came.length = D + 1 := fun p => (fold_len2 p _).2.trans (hlm n)
    refine rs_let (i := 5) st (rn_non st.ex) fun σ2 G2 H2 st => ?_
    refine rs_forN (i := 7) (enc := eStp) (xs := S) (fun p => [some (.int D), some (eCh c), some (.lst (S.map eStp)), some (.adr l1), some (.adr l2), some (oD (rp p).moved), some (.int y), p.getLast?.map eStp, none]) (fun p => [(l1, (rp p).costs.map .int), (l2, (rp p).came.map eCame)]) st (wk_list (rn_var st 2)) (fun G1 H1 s2 p u po exu σ2 G2 H2 st => ?_) fun σ' G' H' st => ?_
    · have hu : u ∈ S := by rw [exu]; simp
      obtain ⟨p1, p2⟩ := sok.p0 u hu
      have f1 := sok.fr_lt u hu
      have f2 := sok.to_lt u hu
      have f1 : u.1.toNat < D + 1 := f1
      have f2 : u.2.1.toNat < D + 1 := f2
      have hc := rlc p
      have hm := rlm p
      have es : rp (p ++ [u]) = (rp p).one u := by
        show (p ++ [u]).foldl Rx.one _ = _
        rw [List.foldl_append]
        rfl
      rw [List.getLast?_concat, es]
      generalize rp p = r at *
      have cst : ∀ {i : Int}, 0 ≤ i → i.toNat < D + 1 → 0 ≤ i ∧ i < r.costs.length := fun {i} h0 h1 => by omega
      have ctest : (decide (r.costs.getD u.1.toNat 0 + u.2.2.1 < r.costs.getD u.2.1.toNat 0)) = decide (r.costs.getD u.1.toNat 0 + u.2.2.1 < r.costs.getD u.2.1.toNat 0) := rfl
      refine rs_ifT st (k := decide (r.costs.getD u.1.toNat 0 + u.2.2.1 < r.costs.getD u.2.1.toNat 0)) (rc_t (rc_lt (rn_add (rn_ixOI (st.frz (j := 0)) (rn_var st 3) (rn_ixT (rn_var st 7) (rn_int st.ex) (d := .int u.1) atI_zero) (cst p1 f1).1 (cst p1 f1).2) (rn_ixT (rn_var st 7) (rn_int st.ex) (d := .int u.2.2.1) rfl)) (rn_ixOI (st.frz (j := 0)) (rn_var st 3) (rn_ixT (rn_var st 7) (rn_int st.ex) (d := .int u.2.1) rfl) (cst p2 f2).1 (cst p2 f2).2))) (fun hk G2 H2 st => ?_) fun hk G2 H2 st => ?_
      · have hk := of_decide_eq_true hk
        have e1 : r.one u = ⟨r.costs.set u.2.1.toNat (r.costs.getD u.1.toNat 0 + u.2.2.1), r.came.set u.2.1.toNat (some u), some u.2.1⟩ := if_pos hk
        rw [e1]
        have eto : u.2.1 = ((u.2.1.toNat : Nat) : Int) := by omega
        refine rs_let (i := 5) (d := .int u.2.1) st (rn_ixT (rn_var st 7) (rn_int st.ex) rfl) fun σ2 G2 H2 st => ?_
        refine rs_store (j := 0) (i := u.2.1.toNat) st (rn_add (rn_ixOI (st.frz (j := 0)) (rn_var st 3) (rn_ixT (rn_var st 7) (rn_int st.ex) (d := .int u.1) atI_zero) (cst p1 f1).1 (cst p1 f1).2) (rn_ixT (rn_var st 7) (rn_int st.ex) (d := .int u.2.2.1) rfl)) (rn_var st 3) (rn_to (rn_var st 5) (by rw [← eto])) rfl (by rw [List.length_map]; omega) fun G2 H2 st => ?_
        refine rs_store (j := 1) (i := u.2.1.toNat) (d := eStp u) st (rn_var st 7) (rn_var st 4) (rn_to (rn_var st 5) (by rw [← eto])) rfl (by rw [List.length_map]; omega) fun G2 H2 st => wb_nil (wb_nil ⟨G2, ?_⟩)
        have m1 : (r.costs.map Dt.int).set u.2.1.toNat (.int (r.costs.getD u.1.toNat 0 + u.2.2.1)) = (r.costs.set u.2.1.toNat (r.costs.getD u.1.toNat 0 + u.2.2.1)).map .int := by rw [List.map_set]
        have m2 : (r.came.map eCame).set u.2.1.toNat (eStp u) = (r.came.set u.2.1.toNat (some u)).map eCame := by rw [List.map_set] <;> rfl
        rw [← m1, ← m2]
        exact st
      · have hk := of_decide_eq_false hk
        have e1 : r.one u = r := if_neg hk
        rw [e1]
        exact wb_nil ⟨G2, st⟩
    · have er : rp S = rst (n + 1) := rfl
      have hl1 := hlc (n + 1)
      rw [er] at st
      have h2 := run (n + 1) hpl
      have h3 := run n (by omega) hI
      cases em : (rst (n + 1)).moved with
      | none =>
        rw [em] at st
        refine rs_ifT st (k := true) (rt_to (rc_t (rc_isN st.ex (rn_var st 5))) rfl) (fun _ G2 H2 st => ?_) fun z => Bool.noConfusion z
        obtain ⟨G3, _, st⟩ := st.freeze (i := 3) (j := 0) rfl rfl
        have e4 : D + 2 - n = (D + 2 - n - 1) + 1 := by omega
        have e5 : rowOrRing D c = .inl (rowOf (rst (n + 1)).costs) := by
          unfold rowOrRing
          rw [eS, h3, e4]
          have e6 : runR S (D + 2 - n - 1 + 1) (itR S n (Rx0 (D + 1))) = (rst (n + 1), true) := by
            show (if ((itR S n (Rx0 (D + 1))).round S).moved.isNone = true then _ else _) = _
            have e7 : ((itR S n (Rx0 (D + 1))).round S).moved = none := em
            rw [if_pos (by rw [e7]; rfl)]
            rfl
          rw [e6]
          rfl
        rw [e5] at q
        generalize (rst (n + 1)).costs = cst at st q hl1
        cases cst with
        | nil => cases hl1
        | cons a t =>
          have ht : t.length = D := by simpa using hl1
          have e8 : ((a :: t).map fun x => Dt.int (x - a)) = (0 :: t.map fun x => x - a).map .int := by
            show Dt.int (a - a) :: t.map (fun x => Dt.int (x - a)) = Dt.int 0 :: (t.map fun x => x - a).map .int
            rw [Int.sub_self, List.map_map]
            rfl
          have e9 : rowOf (a :: t) = gnsOf (0 :: t.map fun x => x - a) := by
            unfold rowOf
            show gnsOf ((a - a) :: t.map fun x => x - a) = _
            rw [Int.sub_self]
          refine rs_rq (st.out s1) q (rn_tup (ds := [eRow (rowOf (a :: t)), .non]) (ra_cons (rn_stat (C := 525) (ds := [.lst ((0 :: t.map fun x => x - a).map .int)]) rfl (T.glo (by decide +kernel)) (List.all_eq_true.mp (T.fact 27 rfl) 525 (by decide)) (eqO_ok (T.fact 28 rfl)) sR cR hr (by decide) (ra_one (rn_to (rn_map (xs := a :: t) (enc := .int) (i := 8) (f := fun x => .int (x - a)) st (wk_list (rn_var st 3)) ?_ fun s1 HH C cl fp z hz σ' G' H' st => ?_) ?_)) ?_) (ra_one (rn_non st.ex))) (Nat.le_of_ble_eq_true rfl))
          · rw [List.length_cons]
            omega
          · exact rn_sub (rn_var st 8) (rn_ixL (rn_var st 3) (rn_int st.ex) atI_zero)
          · exact congrArg Dt.lst e8
          · exact ⟨t.map fun x => x - a, rfl, by rw [List.length_map]; omega, by rw [e9]⟩
      | some p =>
        rw [em] at st
        refine rs_skip st (rt_to (rc_t (rc_isN st.ex (rn_var st 5))) rfl) fun G2 H2 st => wb_nil ⟨fun m hm => ?_, G2, ?_⟩
        · rw [List.length_append, hn] at hm
          have hm : m < n + 1 := hm
          by_cases hmn : m = n
          · rw [hmn, em]
            rfl
          · exact hI m (by omega)
        · rw [List.length_append, List.getLast?_concat, hn]
          show Sta K G1 H [some (.int D), some (eCh c), some (.lst (S.map eStp)), some (.adr l1), some (.adr l2), some (oD (rst (n + 1)).moved), some (.int y), none, none] _ _ _ _
          rw [em]
          exact (st.drop 7).drop 8
  · rw [rgI_len] at hI st
    have h2 := run (D + 2) (Nat.le_refl _) hI
    rw [Nat.sub_self] at h2
    have h2 : runR S (D + 2) (Rx0 (D + 1)) = (rst (D + 2), false) := h2
    obtain ⟨p, e1, e2, e3, C, t, lu, N, I⟩ := ror_run hok (by rw [eS, h2])
    have e5 : rowOrRing D c = .inr (ringF (rst (D + 2)).came p.toNat) := by
      unfold rowOrRing
      rw [eS, h2]
      rw [eS, h2] at e1
      show (if false = true then _ else Sum.inr (ringF (rst (D + 2)).came ((rst (D + 2)).moved.getD 0).toNat)) = _
      rw [e1]
      rfl
    rw [eS, h2] at e1 C
    have e1 : (rst (D + 2)).moved = some p := e1
    rw [e5] at q
    rw [e1] at st
    have hm := hlm (D + 2)
    obtain ⟨G3, _, st⟩ := st.freeze (i := 4) (j := 1) rfl rfl
    refine rs_rq st q (rn_tup (ds := [.non, eRing (ringF (rst (D + 2)).came p.toNat)]) (ra_cons (rn_non st.ex) (ra_one (rn_c0 (c_ring_at T) hr (by decide) rfl (ra_cons (rn_var st 4) (ra_one (rn_var st 5))) ?_))) (Nat.le_of_ble_eq_true rfl))
    refine ⟨(rst (D + 2)).came, p.toNat, ?_, by omega, fun i => ?_, fun i => ?_, ?_, rfl⟩
    · rw [show ((p.toNat : Nat) : Int) = p by omega]
      rfl
    · obtain ⟨s, h3, h4⟩ := C.all i
      exact ⟨s, h3, (sok.p0 s h4).1⟩
    · rw [hm]
      exact C.lt i
    · rw [hm]
      exact C.back
end
end Y
set_option Elab.async false
set_option linter.all false
set_option maxRecDepth 100000
set_option maxHeartbeats 4000000
/-! D22: all choices looked through; parts fixed. -/
namespace Y
open PySem PySem.Spec PyProof.Rows L2
def rgOf (D : Nat) (c : Ch) : Ring := match rowOrRing D c with
  | .inl _ => []
  | .inr r => r
theorem look_pre {D : Nat} : ∀ (pre post : List Ch) (rs : List Ring), (∀ c ∈ pre, ∃ r, rowOrRing D c = .inr r) → look D (pre ++ post) rs = look D post (rs ++ pre.map (rgOf D))
  | [], post, rs, _ => by rw [List.map_nil, List.append_nil] <;> rfl
  | c :: pre, post, rs, h => by
    obtain ⟨r, hr⟩ := h c List.mem_cons_self
    show look D (c :: (pre ++ post)) rs = _
    have e : rgOf D c = r := by
      unfold rgOf
      rw [hr]
    rw [List.map_cons, e]
    have e2 : look D (c :: (pre ++ post)) rs = look D (pre ++ post) (rs ++ [r]) := by
      rw [look, hr]
    rw [e2, look_pre pre post (rs ++ [r]) fun c hc => h c (List.mem_cons_of_mem _ hc), List.append_assoc]
    rfl
def eLook : Option (List Int) × List Ring → Dt
  | (some g, rs) => .tup [eRow g, .lst (rs.map eRing)]
  | (none, rs) => .tup [.non, .lst (rs.map eRing)]
section
variable {P : Program} {w : World} {K : PySem.W.Frag} {mg : Str → Option Value} {base : Heap}
def R_looked_through : List Dt → Dt → Prop := fun ds d => ∃ (D : Nat) (ls : List (List (List Stc))), ds = [.int D, eLs ls] ∧ (1 ≤ D ∧ D ≤ 48) ∧ LsW ls ∧ (tog ls).length < 100000 ∧ (∀ c ∈ tog ls, ChW c ∧ ∀ ss ∈ c, StsOk D ss) ∧ d = eLook (look D (tog ls) [])
theorem c_looked_through (T : Txt K mg) : C8.Cal P w K mg base 7 "looked_through" (Pu K R_looked_through) [] := by
  refine cal_of (st := s_looked_through) (N := n_looked_through) (ps := ["days", "lists"]) T 27 rfl (by decide +kernel) (by decide +kernel) (fun _ _ _ _ _ _ us hl => match us, hl with | [_, _], _ => rfl) (fun ds d h => by obtain ⟨_, _, rfl, _⟩ := h; rfl) ?_
  rintro f cdv A outer s G H Q E σ ds d hr ⟨D, ls, rfl, hD, hl, hn, hc, rfl⟩ st q
  refine rs_letO (i := 2) st (ro_lst (ra_nil st.ex) (Nat.le_of_ble_eq_true rfl)) fun l0 σ2 G2 H2 st => ?_
  refine rs_forP (j := 3) (enc := eCh) (xs := tog ls) (fun pre => ∀ c ∈ pre, ∃ r, rowOrRing D c = .inr r) (fun pre => [some (.int D), some (eLs ls), some (.adr l0), pre.getLast?.map eCh, none, none]) (fun pre => [(l0, (pre.map (rgOf D)).map eRing)]) st (fun c hc => by cases hc) (wk_list (rn_c0 (c_together T) hr (by decide) rfl (ra_one (rn_var st 1)) ?_)) (fun G1 H1 s1 pre y post ex hI σ2 G2 H2 st => ?_) fun hI σ' G' H' st => ?_
  · exact ⟨ls, rfl, hl.1, hl.2, rfl⟩
  · obtain ⟨hw, hok⟩ := hc y (by rw [ex]; simp)
    have hlp := look_pre pre (y :: post) [] hI
    rw [List.nil_append, ← ex] at hlp
    have hpl : pre.length < 100000 := by
      have := congrArg List.length ex
      rw [List.length_append, List.length_cons] at this
      omega
    cases e : rowOrRing D y with
    | inl g =>
      refine rs_tg (d := .tup [eRow g, .non]) st (rn_to (rn_c0 (c_row_or_ring T) hr (by decide) rfl (ra_cons (rn_var st 0) (ra_one (rn_var st 3))) ?_) (by rw [← show eRor (.inl g) = Dt.tup [eRow g, .non] from rfl, ← e])) (tg2 (i1 := 4) (i2 := 5)) fun σ2 G2 H2 st => ?_
      · exact ⟨D, y, rfl, hD, hw, hok, rfl⟩
      have e2 : look D (tog ls) [] = (some g, pre.map (rgOf D)) := by
        rw [hlp, look, e]
      rw [e2] at q
      obtain ⟨G3, _, st⟩ := st.freeze (i := 2) (j := 0) rfl rfl
      exact rs_ifT st (k := true) (rt_to (rc_t (rc_notN st.ex (rn_var st 4))) rfl) (fun _ G2 H2 st => rs_rq (st.out s1) q (rn_tup (ra_cons (rn_var st 4) (ra_one (rn_var st 2))) (Nat.le_of_ble_eq_true rfl))) fun z => Bool.noConfusion z
    | inr r =>
      refine rs_tg (d := .tup [.non, eRing r]) st (rn_to (rn_c0 (c_row_or_ring T) hr (by decide) rfl (ra_cons (rn_var st 0) (ra_one (rn_var st 3))) ?_) (by rw [← show eRor (.inr r) = Dt.tup [.non, eRing r] from rfl, ← e])) (tg2 (i1 := 4) (i2 := 5)) fun σ2 G2 H2 st => ?_
      · exact ⟨D, y, rfl, hD, hw, hok, rfl⟩
      have eg : rgOf D y = r := by
        unfold rgOf
        rw [e]
      refine rs_skip st (rt_to (rc_t (rc_notN st.ex (rn_var st 4))) rfl) fun G2 H2 st => ?_
      refine rs_app (j := 0) st (rn_var st 2) rfl (ra_one (rn_var st 5)) (by rw [List.length_map, List.length_map]; exact hpl) fun G2 H2 st => wb_nil ⟨fun c hc => ?_, G2, ?_⟩
      · rcases List.mem_append.mp hc with z | z
        · exact hI c z
        · rw [List.mem_singleton.mp z]
          exact ⟨r, e⟩
      · rw [List.map_append, List.map_append, List.getLast?_concat]
        show Sta K G1 H _ [(l0, (pre.map (rgOf D)).map eRing ++ [eRing (rgOf D y)])] _ _ _
        rw [eg]
        exact (st.drop 4).drop 5
  · have hlp := look_pre (tog ls) [] [] hI
    rw [List.append_nil, List.nil_append] at hlp
    have e2 : look D (tog ls) [] = (none, (tog ls).map (rgOf D)) := hlp
    rw [e2] at q
    obtain ⟨G3, _, st⟩ := st.freeze (i := 2) (j := 0) rfl rfl
    exact rs_rq st q (rn_tup (ra_cons (rn_non st.ex) (ra_one (rn_var st 2))) (Nat.le_of_ble_eq_true rfl))
end
end Y
set_option Elab.async false
set_option linter.all false
set_option maxRecDepth 100000
set_option maxHeartbeats 4000000
/-! Lay18: a def whose first statement is super().__init__(..). -/
namespace Y
open PySem PySem.Spec PyProof.Rows L2 NdefX
/-- what the written part says of such a def of the class at D -/
structure SupF (P : Program) (K : PySem.W.Frag) (mg : Str → Option Value) (f cc D P0 : Addr) (qual : Str) (params : Arguments) (body : List Stmt) (scope : Scope) (c' : Addr) (dV kV doc pm ct : Value) (an : Option Addr) : Prop where
  lk : ∃ oc od osl, K.lookup f = some ⟨oc, od, .func (PySem.W.fnX "__init__" qual params body scope [(("__class__" : Str), cc)] dV kV doc pm an (.ref c') ct), osl⟩
  hcd : PySem.W.codeIn K (.ref c') qual = true
  file : ∃ occ ocd vs csl x t, K.lookup c' = some ⟨occ, ocd, .fields vs, csl⟩ ∧ vs[2]? = some (.str x t) ∧ P.main.file = x
  cell : ∃ cl cld csl, K.lookup cc = some ⟨cl, cld, .cell (some (.ref D)), csl⟩
  cls : ∃ cd, PySem.W.clsIn K D = some cd
  sub : PySem.W.mroIn K D (.ref D) = some true
  sup : PySem.W.ks_superIn K D D "__init__" = some (some (.ref P0))
  fty : PySem.W.typeIn K (.ref P0) = some (.type "function")
  fni : PySem.W.fnIn K P0 = true
  th : PySem.W.nsIn K cStatics "thirdparty.any" = some none
  sm : mg "super" = none
  top : (P.main.scope.names.lookup ("super" : Str)).isSome = false
section
variable {P : Program} {w : World} {K : PySem.W.Frag} {mg : Str → Option Value} {base : Heap}
theorem fn_super {k : Nat} {f cc D P0 c' : Addr} {qual : Str} {params : Arguments} {rest : List Stmt} {scope : Scope} {dV kV doc pm ct : Value} {an : Option Addr} {args : List Expr} {a0 : Expr} {p0 p1 apos cpos spos : Pos} {N ps : List Str} {sp sp2 : Sp} {ar : Arg} {pl : Env → Sem Bool}
    (T : SupF P K mg f cc D P0 qual params (.Expr (.Call (.Attribute (.Call (.Name "super" p0) [] [] p1) "__init__" apos) (a0 :: args) [] cpos) spos :: rest) scope c' dV kV doc pm ct an) (S : NScope N (("self" : Str) :: ps) ["__class__"] scope)
    (hself : (params.posonlyargs ++ params.args).head? = some ar) (har : ar.arg = "self") (hks : scope.names.lookup ("super" : Str) = some .globalImplicit) (hbt : bootBuiltins ("super" : Str) = some (.type "super"))
    (hb : ∀ us : List Value, us.length = ps.length + 1 → bindArgs (PySem.W.fnX "__init__" qual params (.Expr (.Call (.Attribute (.Call (.Name "super" p0) [] [] p1) "__init__" apos) (a0 :: args) [] cpos) spos :: rest) scope [(("__class__" : Str), cc)] dV kV doc pm an (.ref c') ct) ⟨us, []⟩ = pure ((("self" : Str) :: ps).zip us))
    (hN0 : N[0]? = some ("self" : Str)) (hlen : ∀ vs H Q E, sp vs H Q E → vs.length = ps.length + 1)
    (F2 : FnR P w K mg base C8.CX0 k P0 sp2)
    (hbody : ∀ (A : Around) (outer : List Env) (s : Shared) (H : Hp) (vs : List V) (Q : VK) (E : XK) (body : List Stmt), Room k (A.deeper (envF ⟨"__init__", qual, params, body, scope, [(("__class__" : Str), cc)], c'⟩ f s.heap.objs.size)) → sp vs H Q E →
      ∃ x vs' ta t, vs = .ref x :: vs' ∧ (∃ dx fs, H x = some (.ins D dx fs)) ∧ PA (ncx C8.CX0 P w K mg base N ⟨"__init__", qual, params, body, scope, [(("__class__" : Str), cc)], c'⟩ f A outer s H E) (a0 :: args) ta ∧
        PSs (ncx C8.CX0 P w K mg base N ⟨"__init__", qual, params, body, scope, [(("__class__" : Str), cc)], c'⟩ f A outer s H E) rest t ∧
        ta (startF N vs [some (.ref D)]) H fun ws H1 => sp2 (.ref x :: ws) H1 (fun _ H2 => t { nx := fun _ H' => Q .non H', rt := Q } (startF N vs [some (.ref D)]) H2) C8.E0)
    (he : ∀ env, starEach (a0 :: args) env = (false, eval a0 env) :: starEach args env) (hpl : ∀ env, (backTo cpos (starEach args env)).any (·.1) = false)
    (hsw : ∀ env, swapsWith (.Call (.Attribute (.Call (.Name "super" p0) [] [] p1) "__init__" apos) (a0 :: args) [] cpos) none spos.line env = pure false)
    (hev : ∀ env, eval (.Call (.Attribute (.Call (.Name "super" p0) [] [] p1) "__init__" apos) (a0 :: args) [] cpos) env = (do
      let ov ← attributeBase (.Call (.Name "super" p0) [] [] p1) "__init__" env (eval (.Call (.Name "super" p0) [] [] p1) env)
      standAt apos.atName
      let (f, first) ← holding [ov] (getMethod ov "__init__" (pl env))
      callWith cpos f first (backTo cpos (starEach (a0 :: args) env)) [])) : FnR P w K mg base C8.CX0 (k + 1) f sp := by
  intro A outer s H us vs Q E hr e0 r hsp
  obtain ⟨oc, od, osl, lk⟩ := T.lk
  have KX : K.In s.heap := e0.mod.kin.keeps fun b o e => (e0.bs b o e).1
  have lim : s.heap.NoLimit := e0.mod.nolimit.keeps fun b o e => (e0.bs b o e).1
  have hl := hlen _ _ _ _ hsp
  have hul : us.length = ps.length + 1 := by rw [← r.length]; exact hl
  obtain ⟨cl, cld, csl, hcell⟩ := T.cell
  have hcs : s.heap.get? cc = some ⟨cl, cld, .cell (some (.ref D)), csl⟩ := KX _ _ hcell
  have hcb : base.get? cc = some ⟨cl, cld, .cell (some (.ref D)), csl⟩ := e0.mod.kin _ _ hcell
  let Fn : NF := ⟨"__init__", qual, params, .Expr (.Call (.Attribute (.Call (.Name "super" p0) [] [] p1) "__init__" apos) (a0 :: args) [] cpos) spos :: rest, scope, [(("__class__" : Str), cc)], c'⟩
  have lone : ∀ {y : Str} {c : Addr}, ([(("__class__" : Str), cc)] : List (Str × Addr)).lookup y = some c → y = "__class__" ∧ c = cc := fun {y c} h => by
    by_cases z : y = "__class__"
    · subst z
      simp [List.lookup] at h
      exact ⟨rfl, h.symm⟩
    · have e : (y == ("__class__" : Str)) = false := by simpa using z
      simp [List.lookup, e] at h
  have C : CellsAt Fn.cl ["__class__"] [some (.ref D)] s.heap H := {
    len := rfl
    all := fun y c h => by
      obtain ⟨_, rfl⟩ := lone h
      exact ⟨(e0.bs _ _ hcb).2, _, _, hcs, rfl⟩
    inj := fun x y c h1 h2 => by rw [(lone h1).1, (lone h2).1]
    has := fun i y h => by
      cases i with
      | zero =>
        have e : ("__class__" : Str) = y := Option.some.inj h
        subst e
        refine ⟨cc, by simp [Fn, List.lookup], fun v hv => ?_⟩
        have e2 : V.ref D = v := Option.some.inj (Option.some.inj hv)
        subst e2
        exact ⟨.ref D, rfl, _, hcs, rfl⟩
      | succ i => simp at h }
  refine ks_codeAny_call_defAt (fd := PySem.W.fnX "__init__" qual params Fn.body scope Fn.cl dV kV doc pm an (.ref c') ct) (body := Fn.body) (binds := (("self" : Str) :: ps).zip us) hr.depth (KX _ _ lk) rfl lim (PySem.W.codeRec_of KX T.hcd) rfl (BindsTo.of_eq (hb us hul)) S.nocell (fun y hy => S.par y.1 (List.of_mem_zip hy).1) (fun h₀ hns kp => ?_) S.co S.gen S.kind
  have I0 : Inv (ncx C8.CX0 P w K mg base N Fn f A outer s H E) [] (startF N vs [some (.ref D)]) H { s with heap := h₀, toks := s.toks + ((("self" : Str) :: ps).zip us).length } := inv_startN S hr.hd e0 (by simpa using hl) r C hns kp
  obtain ⟨x, vs', ta, t, rfl, ⟨dx, fs, hx⟩, hta, hrest, hq⟩ := hbody A outer s H vs Q E Fn.body (hr.deeper _) hsp
  have fin : ∀ {s' : Shared} {σ' : L2.St} {H' : Hp} {v : V} {u : Value}, Inv (ncx C8.CX0 P w K mg base N Fn f A outer s H E) [] σ' H' s' → RelV v u → Q v H' → CE outer P w H s Q u s' :=
    fun {s' σ' H' v u} J rv q => ⟨v, H', J.os, J.bare, J.base, J.hok, rv, q⟩
  have X0 : K.In h₀ := KX.keeps kp
  obtain ⟨cdD, hcdD⟩ := T.cls
  obtain ⟨occ, ocd, cvs, ccsl, xf, tf, hcode, hvs, hfile⟩ := T.file
  obtain ⟨oD, hoD, hoDt⟩ : ∃ oD, h₀.get? D = some oD ∧ oD.data = .cls cdD := by
    have h := hcdD
    unfold PySem.W.clsIn at h
    split at h
    · rename_i c d cd' sl ho
      cases h
      exact ⟨_, X0 _ _ ho, rfl⟩
    · cases h
  have hi : interactive (envF Fn f s.heap.objs.size) = false := by
    unfold interactive
    rw [show (envF Fn f s.heap.objs.size).scope.kind = ScopeKind.function from S.kind]
    rfl
  refine ks_wpAt_execs_cons (ks_wpAt_Expr_any (env := envF Fn f s.heap.objs.size) ?_ (hi := hi) (hs := hsw _))
  refine ks_wpAt_MethodCall (pl := pl _) ?_ (hev _)
  have kc : scope.names.lookup ("__class__" : Str) = some .free := S.frk _ (List.mem_singleton_self _)
  have kself : scope.names.lookup ("self" : Str) = some .local := S.par _ List.mem_cons_self
  refine ks_wpAt_super_base (env := envF Fn f s.heap.objs.size) hks kc (by decide +kernel) rfl (X0 _ _ lk) rfl hself rfl (X0 _ _ hcode) rfl hvs (by rw [hfile]; exact beq_self_eq_true _) T.top ?_
  obtain ⟨mb, hb1, hb2⟩ := I0.mod.blt
  refine PySem.W.ks_loadName_global S.kind hks (Calls.loadGlobal_builtin (env := envF Fn f s.heap.objs.size) (I0.mod.glob.keeps I0.bk) T.sm (hb1.keeps I0.bk) ((hb2 _ (by decide)).trans hbt) ⟨rfl, ?_⟩)
  refine wpAny_loadName_free S.kind kc (show ([(("__class__" : Str), cc)] : List (Str × Addr)).lookup ("__class__" : Str) = some cc by simp [List.lookup]) ⟨_, X0 _ _ hcell, rfl⟩ ?_
  obtain ⟨us', rfl⟩ : ∃ us', us = .ref x :: us' := by
    cases r with
    | cons r0 rr =>
      cases r0
      exact ⟨_, rfl⟩
  have ndp : ((("self" : Str) :: ps)).Nodup := by
    have h1 : (N.take ((("self" : Str) :: ps).length + [("__class__" : Str)].length)).Nodup := S.nd.sublist (List.take_sublist _ _)
    rw [S.pre] at h1
    exact (List.nodup_append.mp h1).1
  have lself : ((("self" : Str) :: ps).zip (Value.ref x :: us')).reverse.lookup ("self" : Str) = some (.ref x) := zip_look (i := 0) ndp rfl rfl
  rw [har]
  refine wpAny_loadName_local S.kind kself hns lself ?_
  refine PySem.ks_wpAny_isType_cls hoD hoDt ⟨rfl, ?_⟩
  obtain ⟨mA, O, rr, _, _, _⟩ := ins_get I0.hok hx
  obtain ⟨odI, J, _⟩ := O.look
  refine PySem.ks_wpAny_call_super hoD hoDt J.at_ J.cls (fun c e => ?_) (PySem.W.looks_mroIn X0 T.sub) (fun h1 e1 k1 => ?_)
  · have := J.no
    unfold PySem.W.notCls at this
    rw [e] at this
    exact Bool.noConfusion this
  have hso : (⟨h1, s.gens, s.drawn, s.toks + ((("self" : Str) :: ps).zip (Value.ref x :: us')).length, s.os⟩ : Shared).heap.get? h₀.objs.size = some (PySem.W.ks_superObj D x D) := e1
  have I1 : Inv (ncx C8.CX0 P w K mg base N Fn f A outer s H E) [(h₀.objs.size, PySem.W.ks_superObj D x D)] (startF N (.ref x :: vs') [some (.ref D)]) H { s with heap := h1, toks := s.toks + ((("self" : Str) :: ps).zip (Value.ref x :: us')).length } :=
    ClX.pin_new (s := { s with heap := h₀, toks := s.toks + ((("self" : Str) :: ps).zip (Value.ref x :: us')).length }) (t' := s.toks + ((("self" : Str) :: ps).zip (Value.ref x :: us')).length) I0 k1 (Nat.le_refl _) e1 (fun v z => nomatch z)
  obtain ⟨mA1, O1, _⟩ := ins_get I1.hok hx
  obtain ⟨odI1, J1, _⟩ := O1.look
  have X1 : K.In h1 := X0.keeps k1
  have hsup := T.sup
  unfold PySem.W.ks_superIn at hsup
  rw [hcdD, Option.bind_some] at hsup
  obtain ⟨of, hof, hofc⟩ : ∃ of, h1.get? P0 = some of ∧ of.cls = .type "function" := by
    have ht' : (K.lookup P0).map (·.cls) = some (.type "function") := T.fty
    cases z : K.lookup P0 with
    | none => rw [z] at ht'; cases ht'
    | some of => rw [z] at ht'; exact ⟨of, X1 _ _ z, Option.some.inj ht'⟩
  refine PySem.ks_wpAny_getMethod_super e1 (PySem.W.looks_opaque X1 T.th) (l₀ := cdD.mro) (fun A Q E s k q => wpAny_bind ((PySem.W.looks_clsIn X1 hcdD) A _ E s k (wpAny_pure q))) rfl X1 hsup hof hofc (PySem.W.ks_ne X1 J1 hcdD) (by decide +kernel) ?_
  have I2 := ClX.met_new (g := P0) (C := x) I1
  refine ClX.callwith_cm I2 (ClX.base_none I1 (Nat.le_refl _)) T.fni (thn (hta.run cpos _ _ _ H _ I2 hq) fun us s3 ⟨vs3, H3, I3, rv, q2⟩ => ⟨⟨ClX.pin_at I3, I3.kIn⟩, ?_⟩) (he _) (hpl _)
  refine thn (ClX.run_cm F2 (hr.deeper _) C8.pass0 I3 rv q2) fun u s4 ⟨v4, H4, I4, rv4, q4⟩ => ?_
  refine wpAt_of_wpAny (wpAny_mono (hrest.run _ s4 _ H4 _ (ClX.unpin I4) q4) (fun fl s5 hs => ?_) fun e s5 hs => hs)
  cases fl with
  | ret u =>
    obtain ⟨v, σ', H', J, rv, q⟩ := hs
    exact fin J rv q
  | next =>
    obtain ⟨σ', H', J, q⟩ := hs
    exact fin (v := V.non) (u := Value.none) J rfl q
  | brk =>
    obtain ⟨_, _, _, q⟩ := hs
    exact False.elim q
  | cont =>
    obtain ⟨_, _, _, q⟩ := hs
    exact False.elim q
end
end Y
set_option Elab.async false
set_option linter.all false
set_option maxRecDepth 100000
set_option maxHeartbeats 4000000
/-! D23: fixed, Paper.__init__, Found and Barred made. -/
namespace Y
open PySem PySem.Spec PyProof.Rows L2 NdefX
/-- a list gets a tuple, all the way in, so deep at most -/
def FixN : Nat → Dt → Dt → Prop
  | 0, _, _ => False
  | n + 1, d, e => (∃ t, d.ky = some t ∧ kyB t .list = false ∧ kyB t .tuple = false ∧ e = d) ∨ ∃ xs : List (Dt × Dt), (d = .lst (xs.map (·.1)) ∨ d = .tup (xs.map (·.1))) ∧ e = .tup (xs.map (·.2)) ∧ xs.length ≤ 100000 ∧ ∀ p ∈ xs, FixN n p.1 p.2
theorem fix_map {α : Type} {n : Nat} {f g : α → Dt} {l : List α} (hl : l.length ≤ 100000) (h : ∀ x ∈ l, FixN n (f x) (g x)) {d : Dt} (hd : d = .lst (l.map f) ∨ d = .tup (l.map f)) : FixN (n + 1) d (.tup (l.map g)) :=
  .inr ⟨l.map fun x => (f x, g x), by simpa [List.map_map, Function.comp_def] using hd, by rw [List.map_map] <;> rfl, by rw [List.length_map]; exact hl, fun p hp => by
    obtain ⟨x, hx, rfl⟩ := List.mem_map.mp hp
    exact h x hx⟩
theorem fix_int {n : Nat} {i : Int} : FixN (n + 1) (.int i) (.int i) := .inl ⟨.int, rfl, rfl, rfl, rfl⟩
theorem fix_obj {n : Nat} {c : Cl} {ds : List Dt} : FixN (n + 1) (.obj c ds) (.obj c ds) := .inl ⟨.cl c, rfl, rfl, rfl, rfl⟩
theorem fix_wit {x : Wit} {n : Nat} : FixN (n + 2) (eWit x) (eWit x) := .inr ⟨[(.int x.1, .int x.1), (.int x.2.1, .int x.2.1), (.int x.2.2, .int x.2.2)], .inr rfl, rfl, Nat.le_of_ble_eq_true rfl, fun p hp => by
  simp at hp
  rcases hp with rfl | rfl | rfl <;> exact fix_int⟩
theorem fix_ring {r : Ring} (h : r.length ≤ 100000) : FixN 3 (eRing r) (eRing r) := fix_map (n := 2) h (fun _ _ => fix_wit) (.inr rfl)
theorem fix_rings {rs : List Ring} (hl : rs.length ≤ 100000) (h : ∀ r ∈ rs, r.length ≤ 100000) : FixN 4 (.lst (rs.map eRing)) (eRings rs) := fix_map (n := 3) hl (fun r hr => fix_ring (h r hr)) (.inl rfl)
section
variable {P : Program} {w : World} {K : PySem.W.Frag} {mg : Str → Option Value} {base : Heap}
def R_fixed (n : Nat) : List Dt → Dt → Prop := fun ds d => ∃ a, ds = [a] ∧ FixN n a d
theorem c_fixed (T : Txt K mg) : ∀ n : Nat, C8.Cal P w K mg base (n + 1) "fixed" (Pu K (R_fixed n)) []
  | 0 => by
    refine cal_of (st := s_fixed) (N := n_fixed) (ps := ["value"]) T 29 rfl (by decide +kernel) (by decide +kernel) (fun _ _ _ _ _ _ us hl => match us, hl with | [_], _ => rfl) (fun ds d h => by obtain ⟨_, rfl, _⟩ := h; rfl) ?_
    rintro f cdv A outer s G H Q E σ ds d hr ⟨a, rfl, h⟩ st q
    exact h.elim
  | n + 1 => by
    have ih := c_fixed T n
    refine cal_of (st := s_fixed) (N := n_fixed) (ps := ["value"]) T 29 rfl (by decide +kernel) (by decide +kernel) (fun _ _ _ _ _ _ us hl => match us, hl with | [_], _ => rfl) (fun ds d h => by obtain ⟨_, rfl, _⟩ := h; rfl) ?_
    rintro f cdv A outer s G H Q E σ ds d hr ⟨a, rfl, h⟩ st q
    rcases h with ⟨t, hk, h1, h2, rfl⟩ | ⟨xs, hd, rfl, hl, hx⟩
    · refine rs_ifT st (k := true) (rt_to (rt_not (k := false) (rt_to (rt_v (rn_isiT (cs := [.list, .tuple]) (t := t) T.cls T.kit T.free (rn_var st 0) hk (ra_cons (rn_ty T st.ex) (ra_one (rn_ty T st.ex))) (by decide))) ?_)) rfl) (fun _ G2 H2 st => ?_) fun z => Bool.noConfusion z
      · simp [h1, h2]
      · exact rs_rq st q (rn_var st 0)
    · rcases hd with rfl | rfl
      · refine rs_skip st (rt_to (rt_not (k := true) (rt_to (rt_v (rn_isiT (cs := [.list, .tuple]) (t := .lst) T.cls T.kit T.free (rn_var st 0) rfl (ra_cons (rn_ty T st.ex) (ra_one (rn_ty T st.ex))) (by decide))) rfl)) rfl) fun G2 H2 st => ?_
        refine rs_rq st q (rn_tupL T.free (rn_map (xs := xs) (enc := (·.1)) (i := 1) (f := (·.2)) st (wk_list (rn_var st 0)) hl fun s1 HH C cl fp y hy σ' G' H' st => ?_))
        refine (rn_c0 ih hr (Nat.le_refl _) rfl (ra_one (rn_var st 1)) ?_)
        exact ⟨y.1, rfl, hx y hy⟩
      · refine rs_skip st (rt_to (rt_not (k := true) (rt_to (rt_v (rn_isiT (cs := [.list, .tuple]) (t := .tup) T.cls T.kit T.free (rn_var st 0) rfl (ra_cons (rn_ty T st.ex) (ra_one (rn_ty T st.ex))) (by decide))) rfl)) rfl) fun G2 H2 st => ?_
        refine rs_rq st q (rn_tupL T.free (rn_map (xs := xs) (enc := (·.1)) (i := 1) (f := (·.2)) st (wk_tup (rn_var st 0)) hl fun s1 HH C cl fp y hy σ' G' H' st => ?_))
        refine (rn_c0 ih hr (Nat.le_refl _) rfl (ra_one (rn_var st 1)) ?_)
        exact ⟨y.1, rfl, hx y hy⟩
/-- what the written __init__ of papers promises: the first two fields -/
def PaI (K : PySem.W.Frag) : Sp := fun vs H Q _ => ∃ (G : Hp) (x dx : Addr) (vs' : List V) (cl : Cl) (w0 : Str) (ds fs : List Dt), vs = .ref x :: vs' ∧ Ex G H ∧ G x = none ∧ H x = some (.ins (cl.ad K) dx []) ∧ Reps K G vs' (.str w0 :: ds) ∧ cl.fl[0]? = some ("word" : Str) ∧ cl.fl[1]? = some ("parts" : Str) ∧ ds.length ≤ 1000 ∧ FixN 5 (.tup ds) (.tup fs) ∧
  ∀ G2 H2, Stp G (hide x H) G2 H2 → InS K (hide x H) G2 H2 x dx cl [.str w0, .tup fs] → Q .non H2
theorem f_paper (T : Txt K mg) : FnR P w K mg base C8.CX0 7 f_Paper_init (PaI K) := by
  obtain ⟨fd, F⟩ := T.def_ 81 rfl
  obtain ⟨oc, od, dV, kV, doc, pm, an, cdv, ct, osl, rfl, lk, hcd, hd, hk⟩ := F.ex
  have eS : FnScope n_Paper_init ((["self", "word"] : List Str) ++ (["parts"] : List Str)) (C8.fnScope s_Paper_init) := C8.fnScope_by (by decide +kernel)
  have ed : dV = .none := by
    rcases hd with ⟨_, h⟩ | ⟨h, _⟩
    · exact h
    · exact absurd rfl h
  subst ed
  refine FnR.imp (StX.fn_star (pv := "parts") (ps := ["self", "word"]) (k := 6) (sp := fun vs H Q _ => ∃ (G : Hp) (x dx : Addr) (cl : Cl) (w0 : Str) (ds fs : List Dt) (p : Addr) (v0 : V), vs = [.ref x, v0, .ref p] ∧ Ex G H ∧ G x = none ∧ H x = some (.ins (cl.ad K) dx []) ∧ Reps K G [v0, .ref p] [.str w0, .tup ds] ∧ cl.fl[0]? = some ("word" : Str) ∧ cl.fl[1]? = some ("parts" : Str) ∧ FixN 5 (.tup ds) (.tup fs) ∧
    ∀ G2 H2, Stp G (hide x H) G2 H2 → InS K (hide x H) G2 H2 x dx cl [.str w0, .tup fs] → Q .non H2) lk hcd eS StX.cxUp_none (StX.bind_star2 (B := fun us => bindArgs (PySem.W.fnOf "__init__" "Paper.__init__" (C8.fnArgs s_Paper_init) (C8.fnBody s_Paper_init) (C8.fnScope s_Paper_init) .none kV doc pm an cdv ct) ⟨us, []⟩) (fun _ _ => rfl) fun _ _ _ _ => rfl) fun A outer s H vs Q E hr h => ?_) ?_
  · obtain ⟨G, x, dx, cl, w0, ds, fs, p, v0, rfl, e, n1, hx, r, f0, f1, hf, q⟩ := h
    refine ⟨_, (pb_wp : PSs (bx P w K mg base n_Paper_init "Paper.__init__" s_Paper_init f_Paper_init cdv A outer s H E) _ _).nox, ?_⟩
    have e0 : Ex G (hide x H) := ex_hide e n1
    have st : Sta K G (hide x H) (ini n_Paper_init [.adr x, .str w0, .tup ds]) [] (L2.start n_Paper_init [.ref x, v0, .ref p]) G H := ⟨⟨hide_ex x H, Ex.refl _, e, fun _ h _ => h⟩, slo_start (ds := [.adr x, .str w0, .tup ds]) ⟨rfl, r⟩, (fun _ h => by cases h), List.nodup_nil⟩
    have io : InS K (hide x H) G H x dx cl [] := ⟨⟨[], by simpa using hx, True.intro, n1, hide_same, Nat.zero_le _⟩⟩
    refine rs_fld (X := bx P w K mg base n_Paper_init "Paper.__init__" s_Paper_init f_Paper_init cdv A outer s H E) T.cls st io (rn_var st 0) (d := .str w0) (rn_var st 1) f0 fun G2 H2 st io => ?_
    refine rs_fld T.cls st io (rn_var st 0) (d := .tup fs) (rn_c0 (c_fixed T 5) hr (by decide) rfl (ra_one (rn_var st 2)) ?_) f1 fun G2 H2 st io => ?_
    · exact ⟨_, rfl, hf⟩
    exact wb_nil (q _ _ st.st io)
  · rintro vs H Q E ⟨G, x, dx, vs', cl, w0, ds, fs, rfl, e, n1, hx, r, f0, f1, hl, hf, q⟩
    cases vs' with
    | nil => exact r.elim
    | cons v0 rest =>
      refine ⟨[.ref x, v0], rest, rfl, rfl, ?_, fun p np => ?_⟩
      · rw [r.2.length]
        exact Nat.le_trans hl (by decide)
      · have nx : p ≠ x := fun z => by
          rw [z, hx] at np
          cases np
        have eG : Ex G (upd G p (.tup rest)) := Ex.new (e.back np)
        refine ⟨upd G p (.tup rest), x, dx, cl, w0, ds, fs, p, v0, rfl, fun a o h => ?_, ?_, ?_, ⟨r.1.ex eG, ⟨p, rest, rfl, SqT.of upd_same, r.2.ex eG⟩, True.intro⟩, f0, f1, hf, fun G2 H2 s2 i2 => ?_⟩
        · by_cases z : a = p
          · subst z
            rw [upd_same] at h ⊢
            exact h
          · rw [upd_ne z] at h ⊢
            exact e a o h
        · rw [upd_ne (fun z => nx z.symm)]
          exact n1
        · rw [upd_ne (fun z => nx z.symm)]
          exact hx
        · have np' : hide x H p = none := by rw [hide_ne nx]; exact np
          have eh : hide x (upd H p (.tup rest)) = upd (hide x H) p (.tup rest) := by
            funext a
            by_cases z : a = x
            · subst z
              rw [hide_same, upd_ne (fun z => nx z.symm), hide_same]
            · rw [hide_ne z]
              by_cases y : a = p
              · subst y
                rw [upd_same, upd_same]
              · rw [upd_ne y, upd_ne y, hide_ne z]
          rw [eh] at s2 i2
          have ez : Stp G (hide x H) (upd G p (.tup rest)) (upd (hide x H) p (.tup rest)) := ⟨Ex.new np', eG, fun a o h => by
            by_cases y : a = p
            · subst y
              rw [upd_same] at h ⊢
              exact h
            · rw [upd_ne y] at h ⊢
              exact ex_hide e n1 a o h, fun a h nh => by
            have y : a ≠ p := fun z => nh (by rw [z]; exact np')
            rw [upd_ne y]
            exact h⟩
          refine q G2 H2 (ez.trans s2) ?_
          obtain ⟨ws, i1, i2, i3, i4, i5⟩ := i2.ex
          exact ⟨⟨ws, i1, i2, i3, hide_same, i5⟩⟩
end
end Y
set_option Elab.async false
set_option linter.all false
set_option maxRecDepth 100000
set_option maxHeartbeats 4000000
/-! Lay19: an object's class, its name; != by an own ==. -/
namespace Y
open PySem PySem.Spec PyProof.Rows L2 PySem.Builtin PySem.Builtin.ObjectAttr PySem.Builtin.Getset_descriptor
section
variable {prog : Program} {w : World} {A : Around} {E : Value → Shared → Prop} {s : Shared} {K : PySem.W.Frag} {R : Result → Shared → Prop} {C : Addr}
theorem nm_get {tp : Value} {oc : Value} {od : Option Addr} {cd : ClassData} {sl : Array (Option Value)} {x0 : Str} {t : Tok} (X : K.In s.heap) (ht : PySem.W.typeIn K (.ref C) = some (.type "type")) (lk : K.lookup C = some ⟨oc, od, .cls cd, sl⟩) (hs : sl[2]? = some (some (.str x0 t)))
    (h : R (.ok (.ret (.str x0 t))) s) : codeAny (model prog w) A (.call (.builtin "getset_descriptor.__get__") ⟨[.builtin "type.__name__", .ref C, tp], []⟩) R s := by
  obtain ⟨hh, g, dr, tt, os⟩ := s
  have L0 : PySem.W.Looks (model prog w) hh (typeOf (.ref C)) (.type "type") := PySem.W.looks_typeIn X ht
  have L1 : PySem.W.Looks (model prog w) hh (isSubtype (.type "type") (.type "type")) true := PySem.W.Looks.of_pure (by rw [isSubtype_type]; kernel_rfl)
  refine codeAny_call_builtin PySem.W.KF.slot_gs.plain PySem.W.KF.entry_gs (PySem.W.KF.slot_gs.check _ _ _ _ _ _ _ _ PySem.W.ktyn_type (PySem.W.KF.args_gs _ _ _) ?_)
  unfold Builtin.«getset_descriptor.__get__» descrGet
  rw [PySem.W.dga_obj]
  refine wpAny_bind (wpAny_pure ?_)
  unfold descrGetter descrCheckInstance descrNameAndClass isInstance
  simp only [PySem.W.ktyn_owner]
  repeat lk
  refine ⟨Code.quiet_builtin _ (by decide +kernel), codeAny_builtin PySem.W.ktyn_entry ?_⟩
  unfold Builtin.«type.__name__»
  dsimp only
  unfold keptObject slotAt
  refine wpAny_bind (wpAny_bind (wpAny_loadPart (X _ _ lk) (wpAny_pure ?_)))
  dsimp only
  rw [hs]
  exact wpAny_pure h
theorem nm_attr {expr : Bool} {Q : Value → Shared → Prop} {oc : Value} {od : Option Addr} {cd : ClassData} {sl : Array (Option Value)} {x0 : Str} {t : Tok} (X : K.In s.heap) (hr : PySem.W.readsIn K C (.type "type") = true) (lk : K.lookup C = some ⟨oc, od, .cls cd, sl⟩) (hs : sl[2]? = some (some (.str x0 t)))
    (h : ∀ u, Q (.str x0 t) { s with toks := u }) : wpAny (model prog w) A (getAttr (.ref C) "__name__" expr) Q E s := by
  have ht : PySem.W.typeIn K (.ref C) = some (.type "type") := by
    unfold PySem.W.readsIn at hr
    simp only [Bool.and_eq_true, beq_iff_eq] at hr
    exact hr.1.1.1.2
  refine PySem.W.cls_bind X hr (g := .builtin "getset_descriptor.__get__") (a := .builtin "type.__name__") (obj := .ref C) (tp := .type "type") ?_ (wpAny_call (nm_get (s := { s with toks := s.toks + 1 }) X ht lk hs (PySem.W.handed_on rfl (h _))))
  kernel_rfl
/-- what the class at C is called, by its object -/
structure NmOf (K : PySem.W.Frag) (C : Addr) (n : Str) : Prop where
  rd : PySem.W.readsIn K C (.type "type") = true
  at_ : ∃ oc od cd sl t, K.lookup C = some ⟨oc, od, .cls cd, sl⟩ ∧ sl[2]? = some (some (.str n t))
end
section
variable {X : Cx} {σ : L2.St} {G H : Hp} {a : Expr} {pos : Pos} {cl : Cl} {fs : List Dt} {ta : TE} {C : Addr} {n : Str}
theorem pe_klass (he : PE X a ta) (c : ∀ C, Cls X.K C → True) (hb : attributeBase a "__class__" X.env (eval a X.env) = eval a X.env) :
    PE X (.Attribute a "__class__" pos) (fun σ H Q => ta σ H fun v H1 => ∃ x C dx fs, v = .ref x ∧ H1 x = some (.ins C dx fs) ∧ Cls X.K C ∧ PySem.W.findIn X.K (.ref C) "__class__" = some (some (.builtin "object.__class__")) ∧ PySem.W.mroIn X.K C (.type "object") = some true ∧
      PySem.W.specialIn X.K (.builtin "object.__class__") "__get__" = some (some (.builtin "getset_descriptor.__get__")) ∧ PySem.W.takesIn X.K (.builtin "object.__class__") = some true ∧ Q (.ref C) H1) := by
  refine ⟨fun pins s σ H Q I h => ?_⟩
  refine attr_of hb (thn (he.run pins s σ H _ I h) fun u s1 ⟨v, H1, I1, rx, x, C, dx, fs, ev, ea, cc, hf, hm, hn, ht, q⟩ => ?_)
  subst ev
  obtain rfl : u = Value.ref x := rx
  obtain ⟨mA, O, _, _, _, _⟩ := ins_get I1.hok ea
  obtain ⟨od, J, _⟩ := O.look
  have hc : (PySem.W.clsIn X.K C).isSome = true := by
    obtain ⟨cd, hc, _⟩ := PySem.W.any_some cc.hd
    rw [hc]
    rfl
  refine PySem.W.get_bind I1.kIn J (PySem.W.plainGet_of (cc.get "__class__")).1 (PySem.W.findObj_data hc hf hn ht) (PySem.W.plainGet_of (cc.get "__class__")).2 (wpAny_call (PySem.W.class_get (s := { s1 with toks := s1.toks + 1 }) I1.kIn J hm (PySem.W.handed_on rfl ?_)))
  exact ⟨.ref C, H1, I1.tok _, rfl, q⟩
theorem rn_klass (T : ClsOk X.K) (kk : KitOk X.K) (h : Rn X a σ G H (.obj cl fs)) (hb : attributeBase a "__class__" X.env (eval a X.env) = eval a X.env := by rfl) : Rn X (.Attribute a "__class__" pos) σ G H (.adr (cl.ad X.K)) := fun H1 e Q q =>
  wpE_of (pe_klass pe_wp (fun _ _ => True.intro) hb) (h H1 e _ fun v G2 H2 s r => by
    obtain ⟨x, dx, xs, rfl, hx, hl, rs⟩ := id r
    exact ⟨x, _, dx, _, rfl, s.gh _ _ hx, T.cls cl, kk.ha cl, kk.hm cl, kk.hn, kk.ht, q _ G2 H2 s rfl⟩)
theorem pe_name (he : PE X a ta) (hb : attributeBase a "__name__" X.env (eval a X.env) = eval a X.env) :
    PE X (.Attribute a "__name__" pos) (fun σ H Q => ta σ H fun v H1 => ∃ C n, v = .ref C ∧ NmOf X.K C n ∧ Q (.str n) H1) := by
  refine ⟨fun pins s σ H Q I h => ?_⟩
  refine attr_of hb (thn (he.run pins s σ H _ I h) fun u s1 ⟨v, H1, I1, rx, C, n, ev, N, q⟩ => ?_)
  subst ev
  obtain rfl : u = Value.ref C := rx
  obtain ⟨oc, od, cd, sl, t, lk, hs⟩ := N.at_
  exact nm_attr I1.kIn N.rd lk hs fun u => ⟨.str n, H1, I1.tok _, ⟨_, rfl⟩, q⟩
theorem rn_name (h : Rn X a σ G H (.adr C)) (N : NmOf X.K C n) (hb : attributeBase a "__name__" X.env (eval a X.env) = eval a X.env := by rfl) : Rn X (.Attribute a "__name__" pos) σ G H (.str n) := fun H1 e Q q =>
  wpE_of (pe_name pe_wp hb) (h H1 e _ fun v G2 H2 s r => ⟨C, n, r, N, q _ G2 H2 s rfl⟩)
end
end Y
set_option Elab.async false
set_option linter.all false
set_option maxRecDepth 100000
set_option maxHeartbeats 4000000
/-! Lay20: == and != of data with objects that have an own ==. -/
namespace Y
open PySem PySem.Spec PyProof.Rows L2
open AutoSeq1 (wpAny_loadPart')
section
variable {prog : Program} {w : World} {A : Around} {R : Result → Shared → Prop} {E : Value → Shared → Prop} {s : Shared}
theorem tup_ne (l b : Addr) (items items2 : Array Value) (n n2 : Nat) (dd dd2 : Option Addr) (sl sl2 : Array (Option Value)) (hsz : items.size = items2.size) (I : Nat → Shared → Prop)
    (each : ∀ i (h1 : i < items.size) (h2 : i < items2.size) s, I i s → wpAny (model prog w) A.in1 (eqBool items[i] items2[i]) (fun r s' => r = true ∧ I (i + 1) s') (fun e s' => R (.error e) s') s)
    (done : ∀ s, I items.size s → R (.ok (.ret (.bool false))) s) {s : Shared} (hl1 : s.heap.get? l = some { cls := .type "tuple", dict := dd, data := .seq items n, slots := sl }) (hb1 : s.heap.get? b = some { cls := .type "tuple", dict := dd2, data := .seq items2 n2, slots := sl2 }) (h : I 0 s) :
    wpAny (model prog w) A.in1 (Builtin.«tuple.__ne__» ⟨[.ref l, .ref b], []⟩) (GQ.FinOf prog w A R) (fun e s' => R (.error e) s') s := by
  have f2 := AutoSeq1.sub_tuple_tuple
  have zl : (items.toList.zip items2.toList).length = items.size := by simp [hsz]
  have st := h
  obtain ⟨hp, g, d, tk, os⟩ := s
  wp_walk using wpAny_loadPart' hl1, wpAny_loadPart' hb1, wpAny_forIn_list _ (fun rest b s' => b.1 = none ∧ ∃ i, rest = (items.toList.zip items2.toList).drop i ∧ i ≤ items.size ∧ I i s') _
  case turn =>
    rintro ⟨y, x⟩ rest b s' ⟨hb', i, hz, hi, hI⟩
    have lt0 : i < (items.toList.zip items2.toList).length := by
      by_cases z : i < (items.toList.zip items2.toList).length
      · exact z
      · rw [List.drop_of_length_le (Nat.le_of_not_lt z)] at hz
        cases hz
    have h1 : i < items.size := zl ▸ lt0
    have h2 : i < items2.size := hsz ▸ h1
    rw [List.drop_eq_getElem_cons lt0] at hz
    injection hz with eyx erest
    have hy : y = items[i] := by simpa using congrArg Prod.fst eyx
    have hx : x = items2[i] := by simpa using congrArg Prod.snd eyx
    subst hy hx
    refine wpAny_bind (wpAny_mono (each i h1 h2 s' hI) (fun r s2 q2 => ?_) fun _ _ x => x)
    obtain ⟨hr, q2⟩ := q2
    subst hr
    wp_walk
    exact ⟨rfl, i + 1, erest, h1, q2⟩
  case fin =>
    rintro ⟨b1, b2⟩ s' ⟨hb', i, hz, hi, hI⟩
    simp only at hb'
    subst hb'
    have hge : items.size ≤ i := by
      by_cases h' : i < (items.toList.zip items2.toList).length
      · rw [List.drop_eq_getElem_cons h'] at hz
        cases hz
      · exact zl ▸ Nat.le_of_not_lt h'
    have hi' : i = items.size := Nat.le_antisymm hi hge
    have hR : R (.ok (.ret (.bool false))) s' := done s' (hi' ▸ hI)
    wp_walk
    simpa [Builtin.Tuple.tupleCompareSizes, hsz] using hR
  case h =>
    exact ⟨rfl, 0, rfl, Nat.zero_le _, st⟩
theorem rn_tupG {l b : Addr} {items items2 : Array Value} {Q : Value → Shared → Prop} (hsz : items.size = items2.size) (hu : A.units < cLine) (I : Nat → Shared → Prop)
    (hl : s.heap.IsTuple l items) (hb : s.heap.IsTuple b items2)
    (each : ∀ i (h1 : i < items.size) (h2 : i < items2.size) s, I i s → wpAny (model prog w) A.in1 (eqBool items[i] items2[i]) (fun r s' => r = true ∧ I (i + 1) s') E s)
    (done : ∀ s, I items.size s → Q (.bool false) s) (h : I 0 s) : wpAny (model prog w) A (richCompare .NotEq (.ref l) (.ref b)) Q E s := by
  obtain ⟨⟨cls, dd, data, sl⟩, ho, hc, n, hd⟩ := id hl
  obtain ⟨⟨cls2, dd2, data2, sl2⟩, ho2, hc2, n2, hd2⟩ := id hb
  simp only at hc hd hc2 hd2
  subst hc hd hc2 hd2
  refine wpAny_richCompare_same_room (op := .NotEq) ⟨_, ho, rfl⟩ ⟨_, ho2, rfl⟩ PySem.F.slot_tuple_ne (GQ.call_here PySem.F.slot_tuple_ne ⟨_, ho, rfl⟩ PySem.F.entry_tuple_ne (PySem.F.args_tuple_ne_2 _ _) ?_) hu
  exact tup_ne (R := wants (fun v s' => v ≠ .notImplemented ∧ Q v s') E) l b items items2 n n2 dd dd2 sl sl2 hsz I each (fun s' q => ⟨(fun x => nomatch x), done s' q⟩) ho ho2 h
theorem if_B {K : PySem.W.Frag} {M : Model} {a C : Addr} {ox : Obj} {od : Option Obj} {T : String} {name : Str} {id : String} {args : List Value} {Q : Option Value → Shared → Prop} (S : PySem.Slot T name id) (X : K.In s.heap) (I : PySem.W.InstAt s.heap a ox C od)
    (hs : PySem.W.findIn K (.ref C) name = some (some (.builtin id))) (h : wpAny M A (call (.builtin id) (.ref a :: args)) (fun v => Q (some v)) E s) : wpAny M A (callSpecialIfBound? (.ref a) name args) Q E s := by
  unfold callSpecialIfBound? bindSpecialIfBound?
  refine wpAny_holding (wpAny_bind (wpAny_bind (wpAny_bind (I.type.here ((PySem.W.looks_findIn X hs).here ?_)))))
  refine wpAny_bind (wpAny_askSetting (wpAny_ite ?_))
  rw [S.bind]
  have go : wpAny M A (call (.builtin id) ([.ref a] ++ args) >>= fun v => pure (some v)) Q E s := wpAny_bind (wpAny_mono h (fun v s' z => wpAny_pure z) fun _ _ z => z)
  split
  · exact wpAny_bind (wpAny_pure (wpAny_pure go))
  · exact wpAny_tryCatch (wpAny_bind (wpAny_pure (wpAny_pure go)))
theorem own_ne {K : PySem.W.Frag} {x C f : Addr} {ox : Obj} {od : Option Obj} {b : Value} {tb : Value} {Q : Value → Shared → Prop} (hu : A.units + 1 < cLine) (X : K.In s.heap) (I : PySem.W.InstAt s.heap x ox C od)
    (hb : PySem.W.Looks (model prog w) s.heap (typeOf b) tb) (hn : PySem.W.notFirst K C tb = true) (hne : PySem.W.findIn K (.ref C) "__ne__" = some (some (.builtin "object.__ne__"))) (hm : PySem.W.mroIn K C (.type "object") = some true)
    (hs : PySem.W.findIn K (.ref C) "__eq__" = some (some (.ref f))) (hf : PySem.W.isFn K (.ref f) = true)
    (h : wpAny (model prog w) A.in1 (call (.ref f) [.ref x, b]) (fun v s' => ∃ r, v = .bool r ∧ Q (.bool (!r)) s') E s) : wpAny (model prog w) A (richCompare .NotEq (.ref x) b) Q E s := by
  have sub : PySem.W.Looks (model prog w) s.heap (isInstance (.ref x) (.type "object")) true := I.type.andThen (PySem.W.looks_mroIn X hm)
  have body : wpAny (model prog w) A.in1 (Builtin.«object.__ne__» ⟨[.ref x, b], []⟩) (GQ.FinOf prog w A (wants (fun v s' => v ≠ .notImplemented ∧ Q v s') E)) (fun e s' => wants (fun v s' => v ≠ .notImplemented ∧ Q v s') E (.error e) s') s := by
    unfold Builtin.«object.__ne__»
    refine wpAny_bind (wpAny_of_eq (a := ((Value.ref x : Value), [b])) (by first | rfl | (simp only [slotArgs]; rfl)) ?_)
    refine wpAny_bind (wpAny_cRoomFor (by simpa [Around.in1] using hu) ?_)
    refine wpAny_bind (PySem.W.ifBound_K X I hs hf (wpAny_mono h (fun v s' z => ?_) fun _ _ z => z))
    obtain ⟨r, rfl, q⟩ := z
    refine wpAny_bind (wpAny_truthy_bool (wpAny_pure ?_))
    exact ⟨(fun z => nomatch z), q⟩
  have one : wpAny (model prog w) A (tryCompare (.ref x) "__ne__" b) (fun r s' => ∃ v, r = some v ∧ v ≠ .notImplemented ∧ Q v s') E s := by
    unfold tryCompare
    refine wpAny_bind (if_B PySem.F.slot_object_ne X I hne ?_)
    refine wpAny_mono (wpAny_call (Q := fun v s' => v ≠ .notImplemented ∧ Q v s') (codeAny_call_builtin PySem.F.slot_object_ne.plain PySem.F.cmpEntry_ne (PySem.W.check_slot PySem.F.cmpKind_ne PySem.F.cmpSplit_ne sub (PySem.F.cmpArgs_ne _ _) body))) (fun v s' z => ?_) fun _ _ z => z
    obtain ⟨nv, q⟩ := z
    cases v <;> first | exact absurd rfl nv | exact wpAny_pure ⟨_, rfl, nv, q⟩
  unfold richCompare
  simp only [oneThing_ref]
  refine wpAny_holding (wpAny_bind (wpAny_cRoomFor (Nat.lt_of_succ_lt hu) ?_))
  refine wpAny_bind (I.type.here (wpAny_bind (hb.here ?_)))
  split
  · rename_i q
    have e : PySem.W.subIn K tb (.ref C) = some false := by
      rcases Bool.or_eq_true_iff.mp hn with e | e
      · rw [beq_iff_eq.mp e] at q; simp at q
      · exact beq_iff_eq.mp e
    refine wpAny_bind ((PySem.W.looks_subIn X e).here ?_)
    simp only [Bool.false_eq_true, if_false]
    refine wpAny_bind (wpAny_mono one (fun r s' z => ?_) fun _ _ e => e)
    obtain ⟨v, rfl, nv, hq⟩ := z
    exact wpAny_pure hq
  · refine wpAny_bind (wpAny_pure ?_)
    simp only [Bool.false_eq_true, if_false]
    refine wpAny_bind (wpAny_mono one (fun r s' z => ?_) fun _ _ e => e)
    obtain ⟨v, rfl, nv, hq⟩ := z
    exact wpAny_pure hq
end
section
variable {X : Cx} {n m : Nat} {D D' : Eqv}
/-- != says no -/
def NeG (X : Cx) (n : Nat) (D : Eqv) : Prop :=
  ∀ (A : Around) (pins : List (Addr × Obj)) (s : Shared) (σ : L2.St) (H : Hp) (x y : V) (u v : Value), Sub X n A → Inv X pins σ H s → RelV x u → RelV y v → D x y H →
    wpAny (model X.prog X.w) A (richCompare .NotEq u v) (fun r s' => r = .bool false ∧ ∃ H', Inv X pins σ H' s' ∧ Ext H H') X.xe s
theorem neG_tup (hD : Mon D) (h : EqG X n D) : NeG X (n + 1) (DTup X.K D) := by
  intro A pins s σ H x y u v sb I rx ry d
  obtain ⟨a, b, xs, ys, rfl, rfl, ha, hb, p⟩ := d
  cases rx
  cases ry
  obtain ⟨its, r, e, z⟩ := I.tuple ha
  obtain ⟨its2, r2, e2, z2⟩ := I.tuple hb
  have hsz : its.toArray.size = its2.toArray.size := by
    rw [List.size_toArray, List.size_toArray, ← r.length, ← r2.length]
    exact p.1
  exact rn_tupG hsz sb.room.units0 (fun _ s' => LoopI X pins σ H s') e e2 (fun i h1 h2 s' q => turnG hD h sb p r r2 i h1 h2 s' q) (fun s' q => ⟨rfl, q⟩) ⟨H, I, Ext.rfl'⟩
theorem neG_ins {CX : CXT} {C f : Addr} {fd : FuncData} {ps : List Str} {R : Addr → Addr → Hp → Prop} {E : XK} (F : FnOk X.prog X.w X.K X.mg X.base CX n f fd ps (spEq R))
    (hs : PySem.W.findIn X.K (.ref C) "__eq__" = some (some (.ref f))) (hf : PySem.W.isFn X.K (.ref f) = true) (hne : PySem.W.findIn X.K (.ref C) "__ne__" = some (some (.builtin "object.__ne__"))) (hm : PySem.W.mroIn X.K C (.type "object") = some true) (hb : Binds X.K fd ps []) (hx : Passes CX X E) : NeG X (n + 1) (DIns C R) := by
  intro A pins s σ H x y u v sb I rx ry d
  obtain ⟨a, b, dx, dy, fs, gs, rfl, rfl, ha, hb', hr⟩ := d
  cases rx
  cases ry
  obtain ⟨mA, J, _⟩ := ins_get I.hok ha
  obtain ⟨mB, J', _⟩ := ins_get I.hok hb'
  obtain ⟨od, J, _⟩ := J.look
  obtain ⟨od', J', _⟩ := J'.look
  obtain ⟨m, hF⟩ := I.fr
  have hsp : spEq R [.ref a, .ref b] H (fun v H' => v = .bl true ∧ Ext H H') E := ⟨a, b, rfl, hr, fun H' e => ⟨rfl, e⟩⟩
  have e0 : Env0 X.prog X.w X.K X.mg X.base A.in1 X.stack s H := by
    have e := I.env0
    exact ⟨by rw [sb.in1.fr]; exact e.frames, e.mod, e.bs, e.bsz, e.funs, e.frf, e.hok, e.bare⟩
  have hl := F.len _ _ _ _ hsp
  have r2 : Vals [V.ref a, V.ref b] [Value.ref a, Value.ref b] := .cons rfl (.cons rfl .nil)
  refine own_ne (tb := .ref C) ?_ I.kIn J J'.type (by simp [PySem.W.notFirst]) hne hm hs hf ?_
  · exact sb.in1.room.units0
  refine wpAny_call (codeAny_mono (F.run A.in1 X.stack s H ⟨[.ref a, .ref b], []⟩ [.ref a, .ref b] [.ref a, .ref b] _ E sb.in1.room e0 (by
    have := hb s [.ref a, .ref b] I.kIn (by simpa using hl)
    simpa using this) r2 hsp) fun r s' hq => ?_)
  cases r with
  | error e => exact hx pins σ H s e s' I hq
  | ok fl =>
    cases fl with
    | ret w =>
      obtain ⟨z, H', I', rz, ez, ex⟩ := I.after hq
      subst ez
      cases rz
      exact ⟨true, rfl, rfl, H', I', ex⟩
    | next => exact False.elim hq
    | brk => exact False.elim hq
    | cont => exact False.elim hq
theorem op_neG (h : NeG X n D) (hr : Room n X.A) : OpR X (compareOp .NotEq) (fun x y H Q => D x y H ∧ ∀ H', Ext H H' → Q (.bl false) H') := by
  intro pins s σ H x y v u Q I rx ry hq
  obtain ⟨d, q⟩ := hq
  show wpAny (model X.prog X.w) X.A (richCompare .NotEq v u) (EP X pins σ Q) X.xe s
  refine wpAny_mono (h X.A pins s σ H x y v u ⟨hr, rfl⟩ I rx ry d) (fun r s' z => ?_) fun _ _ x => x
  obtain ⟨hr', H', I', e⟩ := z
  subst hr'
  exact ⟨.bl false, H', I', rfl, q H' e⟩
end
/-- two of the same data -/
def DEq (K : PySem.W.Frag) (p : Dt → Prop) : Eqv := fun x y H => ∃ d, p d ∧ Rep K H x d ∧ Rep K H y d
theorem mon_deq {K : PySem.W.Frag} {p : Dt → Prop} : Mon (DEq K p) := fun x y H H' e ⟨d, hp, r1, r2⟩ => ⟨d, hp, r1.ex e, r2.ex e⟩
section
variable {X : Cx} {n : Nat} {p : Dt → Prop} {σ : L2.St} {G H : Hp} {a b : Expr} {d : Dt}
theorem deq_tup {K : PySem.W.Frag} {x y : V} {H : Hp} {ds : List Dt} (hp : ∀ e ∈ ds, p e) (r1 : Rep K H x (.tup ds)) (r2 : Rep K H y (.tup ds)) : DTup K (DEq K p) x y H := by
  obtain ⟨a, xs, rfl, h1, q1⟩ := r1
  obtain ⟨b, ys, rfl, h2, q2⟩ := r2
  refine ⟨a, b, xs, ys, rfl, rfl, h1, h2, by rw [q1.length, q2.length], fun i x y e1 e2 => ?_⟩
  have lt : i < ds.length := by rw [← q1.length]; exact (List.getElem?_eq_some_iff.mp e1).1
  obtain ⟨x', f1, g1⟩ := q1.get (List.getElem?_eq_getElem lt)
  obtain ⟨y', f2, g2⟩ := q2.get (List.getElem?_eq_getElem lt)
  have z1 : x = x' := Option.some.inj (e1.symm.trans f1)
  have z2 : y = y' := Option.some.inj (e2.symm.trans f2)
  rw [z1, z2]
  exact ⟨_, hp _ (List.getElem_mem lt), g1, g2⟩
theorem rc_eqTg {ds : List Dt} (h : EqG X n (DEq X.K p)) (hr : Room (n + 1) X.A) (hp : ∀ e ∈ ds, p e) (ha : Rn X a σ G H (.tup ds)) (hb : Rn X b σ G H (.tup ds)) : RnC X .Eq a b σ G H (.bl true) :=
  rc_of (op_eqG (rcG_tup mon_deq h) hr) (nomark _) ha hb fun x y G2 H2 s rx ry Q k => ⟨deq_tup hp (rx.ex s.gh) (ry.ex s.gh), fun H' e => k _ G2 H' ⟨e, Ex.refl _, s.gh.trans e, fun _ z _ => z⟩ rfl⟩
theorem rc_neTg {ds : List Dt} (h : EqG X n (DEq X.K p)) (hr : Room (n + 1) X.A) (hp : ∀ e ∈ ds, p e) (ha : Rn X a σ G H (.tup ds)) (hb : Rn X b σ G H (.tup ds)) : RnC X .NotEq a b σ G H (.bl false) :=
  rc_of (op_neG (neG_tup mon_deq h) hr) (nomark _) ha hb fun x y G2 H2 s rx ry Q k => ⟨deq_tup hp (rx.ex s.gh) (ry.ex s.gh), fun H' e => k _ G2 H' ⟨e, Ex.refl _, s.gh.trans e, fun _ z _ => z⟩ rfl⟩
end
end Y
set_option Elab.async false
set_option linter.all false
set_option maxRecDepth 100000
set_option maxHeartbeats 4000000
/-! D24: Found and Barred made. -/
namespace Y
open PySem PySem.Spec PyProof.Rows L2 NdefX
/-- what is asked of the program itself -/
structure ProOk (P : Program) : Prop where
  file : P.main.file = PySem.Challenge.pw_anyseven_k88_whole_some_row_or_none.main.file
  top : (P.main.scope.names.lookup ("super" : Str)).isSome = false
section
variable {P : Program} {w : World} {K : PySem.W.Frag} {mg : Str → Option Value} {base : Heap}
theorem sup_of {f cc D P0 : Addr} {q nm : Str} {args : Arguments} {body : List Stmt} {scope : Scope} (T : Txt K mg) (hP : ProOk P) (h1 : supB K f cc D P0 q args body scope = true) (h2 : fileB K f = true) (h3 : nmB K D nm = true) (h4 : dnB K f = true)
    (h5 : He5.fnA K f = (some ("__init__", q, args, .stmts body, scope, mainGlobals, [(("__class__" : Str), cc)], builtinsNs) : He5.FnW)) (hfn : PySem.W.fnIn K P0 = true) : ∃ c' kV doc pm ct an, SupF P K mg f cc D P0 q args body scope c' .none kV doc pm ct an := by
  obtain ⟨g1, g2⟩ := He.ba h1
  obtain ⟨g2, g3⟩ := He.ba g2
  obtain ⟨g3, g4⟩ := He.ba g3
  obtain ⟨g4, g5⟩ := He.ba g4
  have i1 : PySem.W.mroIn K D (.ref D) = some true := of_decide_eq_true g3
  have i2 : PySem.W.ks_superIn K D D "__init__" = some (some (.ref P0)) := of_decide_eq_true g4
  have i3 : PySem.W.typeIn K (.ref P0) = some (.type "function") := of_decide_eq_true g5
  have i4 : ∃ cl cld csl, K.lookup cc = some ⟨cl, cld, .cell (some (.ref D)), csl⟩ := by
    split at g2
    · rename_i cl cld d csl e
      have e2 : d = D := of_decide_eq_true g2
      subst e2
      exact ⟨_, _, _, e⟩
    · cases g2
  have i5 : ∃ cd, PySem.W.clsIn K D = some cd := by
    unfold nmB at h3
    split at h3
    · rename_i cd e
      exact ⟨cd, e⟩
    · cases h3
  unfold He5.fnA at h5
  unfold dnB at h4
  unfold fileB at h2
  split at g1
  · rename_i oc od fd osl e
    rw [e] at h2 h4 h5
    dsimp only at h2 h4 h5
    have h5 := Option.some.inj h5
    simp only [Prod.mk.injEq] at h5
    obtain ⟨a1, a2, a3, a4, a5, a6, a7, a8⟩ := h5
    obtain ⟨name, qualname, params, fbody, fscope, globals, closure, defaults, kwdefaults, doc, pm, an, code, ct, bt⟩ := fd
    dsimp only at a1 a2 a3 a4 a5 a6 a7 a8 h2 h4 g1
    subst a1 a2 a3 a4 a5 a6 a7 a8
    have ed : defaults = .none := by
      cases defaults <;> first | rfl | cases h4
    subst ed
    obtain ⟨_, g1⟩ := He.ba g1
    obtain ⟨_, g1⟩ := He.ba g1
    obtain ⟨_, g1⟩ := He.ba g1
    obtain ⟨_, g1⟩ := He.ba g1
    obtain ⟨_, g1⟩ := He.ba g1
    obtain ⟨hcd, hkp⟩ := He.ba g1
    cases code with
    | ref c' =>
      dsimp only at h2
      split at h2
      · rename_i occ ocd vs csl ec
        split at h2
        · rename_i v0 v1 x t rest ev
          have ex : x = _ := of_decide_eq_true h2
          refine ⟨c', kwdefaults, doc, pm, ct, an, ⟨⟨_, _, _, e⟩, hcd, ⟨occ, ocd, vs, csl, x, t, ec, ?_, hP.file.trans ex.symm⟩, i4, i5, i1, i2, i3, hfn, eqO_ok (T.fact 12 rfl), T.fre (by decide +kernel), hP.top⟩⟩
          have : vs = ⟨v0 :: v1 :: .str x t :: rest⟩ := by rw [← ev]
          rw [this]
          rfl
        · cases h2
      · cases h2
    | _ => cases h2
  · cases g1
theorem paper_fn (T : Txt K mg) : PySem.W.fnIn K f_Paper_init = true := by
  obtain ⟨fd, F⟩ := T.def_ 81 rfl
  obtain ⟨oc, od, dV, kV, doc, pm, an, cdv, ct, osl, rfl, lk, hcd, hd, hk⟩ := F.ex
  unfold PySem.W.fnIn
  rw [show K.lookup f_Paper_init = _ from lk]
theorem reps1' {G : Hp} {vs : List V} {d : Dt} (r : Reps K G vs [d]) : ∃ v, vs = [v] ∧ Rep K G v d ∧ True := by
  obtain ⟨v, e, h⟩ := reps1 r
  exact ⟨v, e, h, True.intro⟩
/-- the slots at the body's entry: parameters, then the class's cell -/
theorem slo_f {G : Hp} {n0 n1 n2 : Str} {v0 : V} {vs : List V} {d0 d1 : Dt} {C : Addr} (r : Reps K G (v0 :: vs) [d0, d1]) : Slo K G (startF [n0, n1, n2] (v0 :: vs) [some (.ref C)]) [some d0, some d1, some (.adr C)] := by
  obtain ⟨r0, r1⟩ := r
  obtain ⟨v1, rfl, r1, _⟩ := reps1' r1
  refine ⟨rfl, fun i d h => ?_⟩
  match i, h with
  | 0, h => exact ⟨v0, rfl, by have e : d0 = d := Option.some.inj (Option.some.inj h); subst e; exact r0⟩
  | 1, h => exact ⟨v1, rfl, by have e : d1 = d := Option.some.inj (Option.some.inj h); subst e; exact r1⟩
  | 2, h => exact ⟨.ref C, rfl, by have e : Dt.adr C = d := Option.some.inj (Option.some.inj h); subst e; rfl⟩
  | i + 3, h => simp at h
def R_Found_init : List Dt → List Dt → Prop := fun ds fs => ∃ g : List Int, ds = [eRow g] ∧ fs = [.str "found", .tup [eRow g], eRow g]
def R_Barred_init : List Dt → List Dt → Prop := fun ds fs => ∃ rs : List Ring, ds = [.lst (rs.map eRing)] ∧ rs.length ≤ 100000 ∧ (∀ r ∈ rs, r.length ≤ 100000) ∧ fs = [.str "barred", .tup [eRings rs], eRings rs]

theorem f_found (T : Txt K mg) (hP : ProOk P) : FnR P w K mg base C8.CX0 8 f_Found_init (Ini K .found R_Found_init) := by
  obtain ⟨_, _, h3⟩ := T.all
  have h5 : He5.fnA K f_Found_init = (some ("__init__", "Found.__init__", C8.fnArgs s_Found_init, .stmts (C8.fnBody s_Found_init), C8.fnScope s_Found_init, mainGlobals, [(("__class__" : Str), (1151 : Addr))], builtinsNs) : He5.FnW) := by
    have e : (fnD.map (fun d => He5.fnA K (d.at_ K)) ++ [He5.fnA K f_Found_init, He5.fnA K f_Barred_init])[fnD.length + 0]? = (valK.2)[fnD.length + 0]? := by rw [h3]
    rw [List.getElem?_append_right (by rw [List.length_map]; omega), List.length_map, Nat.add_sub_cancel_left] at e
    exact Option.some.inj e
  obtain ⟨c', kV, doc, pm, ct, an, S⟩ := sup_of (nm := "Found") T hP (T.fact 21 rfl) (T.fact 29 rfl) (T.fact 23 rfl) (T.fact 33 rfl) h5 (paper_fn T)
  refine fn_super (k := 7) (N := ["self", "row", "__class__"]) (ps := ["row"]) (sp2 := PaI K) S (nscope_by (by decide +kernel)) rfl rfl (by decide +kernel) (by decide +kernel) (fun us hl => match us, hl with | [_, _], _ => rfl) rfl (fun vs H Q E h => ?_) (f_paper T) (fun A outer s H vs Q E body hr h => ?_) (fun _ => rfl) (fun _ => rfl) (fun _ => rfl) fun _ => rfl
  · obtain ⟨G, y, dx, vs', ds, fs, rfl, _, _, _, _, _, r, hR, _⟩ := h
    obtain ⟨g, rfl, _⟩ := hR
    rw [List.length_cons, r.length]
    rfl
  · obtain ⟨G, x, dx, vs', ds, fs, rfl, e, n1, n2, hx, hdx, r, hR, q⟩ := h
    obtain ⟨g, rfl, rfl⟩ := hR
    refine ⟨x, vs', _, _, rfl, ⟨dx, [], by rw [← show Cl.ad K .found = 1166 from rfl]; exact hx⟩, pa_wp, pb_wp, ?_⟩
    have e0 : Ex G (hide x H) := ex_hide e n1
    have st : Sta K G (hide x H) [some (.adr x), some (eRow g), some (.adr 1166)] [] (startF ["self", "row", "__class__"] (.ref x :: vs') [some (.ref 1166)]) G H := ⟨⟨hide_ex x H, Ex.refl _, e, fun _ h _ => h⟩, slo_f ⟨rfl, r⟩, (fun _ h => by cases h), List.nodup_nil⟩
    refine (ra_cons (rn_str st.ex) (ra_one (rn_var st 1))) H (Ex.refl H) _ fun ws G2 H2 s2 rw0 => ?_
    have hxn : H x ≠ none := by rw [hx]; simp
    refine ⟨G2, x, dx, ws, .found, "found", [eRow g], [eRow g], rfl, s2.gh, s2.new x n1 hxn, s2.h _ _ hx, rw0, rfl, rfl, Nat.le_of_ble_eq_true rfl, fix_map (n := 4) (f := eRow) (g := eRow) (l := [g]) (Nat.le_of_ble_eq_true rfl) (fun _ _ => fix_obj) (.inr rfl), fun G3 H3 s3 io => ?_⟩
    have st : Sta K G (hide x H) [some (.adr x), some (eRow g), some (.adr 1166)] [] (startF ["self", "row", "__class__"] (.ref x :: vs') [some (.ref 1166)]) G3 H3 := ⟨(s2.hid n1 hxn).trans s3, st.env.ex (s2.g.trans s3.g), (fun _ h => by cases h), List.nodup_nil⟩
    have io : InS K (hide x H) G3 H3 x dx .found [.str "found", .tup [eRow g]] := by
      obtain ⟨us, i1, i2, i3, i4, i5⟩ := io.ex
      exact ⟨⟨us, i1, i2, i3, hide_same, i5⟩⟩
    refine rs_fld T.cls st io (rn_var st 0) (d := eRow g) (rn_ixT (rn_fldI T.cls io (rn_var st 0) (j := 1) rfl rfl) (rn_int st.ex) atI_zero) rfl fun G2 H2 st io => ?_
    obtain ⟨us, i1, i3, i4, _, _⟩ := io.ex
    refine wb_nil (q G2 H2 us ⟨fun z u hz => ?_, st.st.g, ex_hide st.st.gh i4, st.st.new⟩ i1 i3.length i3)
    have nz : z ≠ x := fun t => by rw [t, hide_same] at hz; cases hz
    rw [hide_ne nz]
    exact st.st.h z u hz

theorem f_barred (T : Txt K mg) (hP : ProOk P) : FnR P w K mg base C8.CX0 8 f_Barred_init (Ini K .barred R_Barred_init) := by
  obtain ⟨_, _, h3⟩ := T.all
  have h5 : He5.fnA K f_Barred_init = (some ("__init__", "Barred.__init__", C8.fnArgs s_Barred_init, .stmts (C8.fnBody s_Barred_init), C8.fnScope s_Barred_init, mainGlobals, [(("__class__" : Str), (1172 : Addr))], builtinsNs) : He5.FnW) := by
    have e : (fnD.map (fun d => He5.fnA K (d.at_ K)) ++ [He5.fnA K f_Found_init, He5.fnA K f_Barred_init])[fnD.length + 1]? = (valK.2)[fnD.length + 1]? := by rw [h3]
    rw [List.getElem?_append_right (by rw [List.length_map]; omega), List.length_map, Nat.add_sub_cancel_left] at e
    exact Option.some.inj e
  obtain ⟨c', kV, doc, pm, ct, an, S⟩ := sup_of (nm := "Barred") T hP (T.fact 22 rfl) (T.fact 30 rfl) (T.fact 24 rfl) (T.fact 34 rfl) h5 (paper_fn T)
  refine fn_super (k := 7) (N := ["self", "rings", "__class__"]) (ps := ["rings"]) (sp2 := PaI K) S (nscope_by (by decide +kernel)) rfl rfl (by decide +kernel) (by decide +kernel) (fun us hl => match us, hl with | [_, _], _ => rfl) rfl (fun vs H Q E h => ?_) (f_paper T) (fun A outer s H vs Q E body hr h => ?_) (fun _ => rfl) (fun _ => rfl) (fun _ => rfl) fun _ => rfl
  · obtain ⟨G, y, dx, vs', ds, fs, rfl, _, _, _, _, _, r, hR, _⟩ := h
    obtain ⟨rs, rfl, _⟩ := hR
    rw [List.length_cons, r.length]
    rfl
  · obtain ⟨G, x, dx, vs', ds, fs, rfl, e, n1, n2, hx, hdx, r, hR, q⟩ := h
    obtain ⟨rs, rfl, hl, hrs, rfl⟩ := hR
    refine ⟨x, vs', _, _, rfl, ⟨dx, [], by rw [← show Cl.ad K .barred = 1187 from rfl]; exact hx⟩, pa_wp, pb_wp, ?_⟩
    have e0 : Ex G (hide x H) := ex_hide e n1
    have st : Sta K G (hide x H) [some (.adr x), some (.lst (rs.map eRing)), some (.adr 1187)] [] (startF ["self", "rings", "__class__"] (.ref x :: vs') [some (.ref 1187)]) G H := ⟨⟨hide_ex x H, Ex.refl _, e, fun _ h _ => h⟩, slo_f ⟨rfl, r⟩, (fun _ h => by cases h), List.nodup_nil⟩
    refine (ra_cons (rn_str st.ex) (ra_one (rn_var st 1))) H (Ex.refl H) _ fun ws G2 H2 s2 rw0 => ?_
    have hxn : H x ≠ none := by rw [hx]; simp
    refine ⟨G2, x, dx, ws, .barred, "barred", [.lst (rs.map eRing)], [eRings rs], rfl, s2.gh, s2.new x n1 hxn, s2.h _ _ hx, rw0, rfl, rfl, Nat.le_of_ble_eq_true rfl, fix_map (n := 4) (f := fun rs => .lst (rs.map eRing)) (g := eRings) (l := [rs]) (Nat.le_of_ble_eq_true rfl) (fun x hx => by rw [List.mem_singleton.mp hx]; exact fix_rings hl hrs) (.inr rfl), fun G3 H3 s3 io => ?_⟩
    have st : Sta K G (hide x H) [some (.adr x), some (.lst (rs.map eRing)), some (.adr 1187)] [] (startF ["self", "rings", "__class__"] (.ref x :: vs') [some (.ref 1187)]) G3 H3 := ⟨(s2.hid n1 hxn).trans s3, st.env.ex (s2.g.trans s3.g), (fun _ h => by cases h), List.nodup_nil⟩
    have io : InS K (hide x H) G3 H3 x dx .barred [.str "barred", .tup [eRings rs]] := by
      obtain ⟨us, i1, i2, i3, i4, i5⟩ := io.ex
      exact ⟨⟨us, i1, i2, i3, hide_same, i5⟩⟩
    refine rs_fld T.cls st io (rn_var st 0) (d := eRings rs) (rn_ixT (rn_fldI T.cls io (rn_var st 0) (j := 1) rfl rfl) (rn_int st.ex) atI_zero) rfl fun G2 H2 st io => ?_
    obtain ⟨us, i1, i3, i4, _, _⟩ := io.ex
    refine wb_nil (q G2 H2 us ⟨fun z u hz => ?_, st.st.g, ex_hide st.st.gh i4, st.st.new⟩ i1 i3.length i3)
    have nz : z ≠ x := fun t => by rw [t, hide_same] at hz; cases hz
    rw [hide_ne nz]
    exact st.st.h z u hz
end
section
variable {X : Cx} {σ : L2.St} {G H : Hp} {ds fs : List Dt} {e : Expr} {es : List Expr} {pos p : Pos} {k j : Nat}
theorem rn_makeR {x : Str} {f : Addr} {cl : Cl} {R : List Dt → List Dt → Prop} (M : Mk X.K (cl.ad X.K) f) (F : FnR X.prog X.w X.K X.mg X.base C8.CX0 k f (Ini X.K cl R)) (hr : Room j X.A) (hk : k + 1 ≤ j) (hg : Gl X x) (hm : X.mg x = some (.ref (cl.ad X.K))) (ha : RnA X (e :: es) σ G H ds) (hR : R ds fs)
    (hdb : (x == ("__debug__" : Str)) = false := by decide) (he : starEach (e :: es) X.env = (false, eval e X.env) :: starEach es X.env := by rfl) (hpl : (backTo pos (starEach es X.env)).any (·.1) = false := by rfl) : Rn X (.Call (.Name x p) (e :: es) [] pos) σ G H (.obj cl fs) := fun H1 e1 Q q =>
  wpE_of (StX.pe_makeR (E := C8.E0) M F (hr.mono hk) hg hm C8.pass0 pa_wp hdb he hpl) (ha H1 e1 _ fun vs G2 H2 s rs => by
    intro y dy ny ndy ne
    have nyd : y ≠ dy := fun z => ne z.symm
    have e2 : Ex H2 (upd (upd H2 dy (.own y)) y (.ins (cl.ad X.K) dy [])) := (Ex.new ndy).trans (Ex.new (by rw [upd_ne nyd]; exact ny))
    refine ⟨G2, y, dy, vs, ds, fs, rfl, s.gh.trans e2, s.gh.back ny, s.gh.back ndy, upd_same, by rw [upd_ne ne, upd_same]; simp, rs, hR, fun G3 H3 ws s3 h3 hl r3 => ⟨rfl, ?_⟩⟩
    have n3 : G3 y = none := s3.gh.back hide_same
    have e3 : Ex H2 H3 := fun a u h => by
      have z : a ≠ y := ne_of_none h ny
      have h1 := s3.h a u (by rw [hide_ne z]; exact e2 a u h)
      rw [hide_ne z] at h1
      exact h1
    refine q _ (upd G3 y (.ins (cl.ad X.K) dy (cl.fl.zip ws))) H3 (s.trans ⟨e3, s3.g.trans (Ex.new n3), fun a u h => ?_, fun a h n => ?_⟩) ⟨y, dy, ws, rfl, upd_same, hl, r3.ex (Ex.new n3)⟩
    · by_cases z : a = y
      · subst z
        rw [upd_same] at h
        rw [h3]
        exact h
      · rw [upd_ne z] at h
        exact hide_ex _ _ _ _ (s3.gh a u h)
    · have z : a ≠ y := fun z => n (by rw [z]; exact ny)
      rw [upd_ne z]
      refine s3.new a h ?_
      rw [hide_ne z]
      cases q : H2 a with
      | none => exact absurd q n
      | some u =>
        rw [e2 a u q]
        simp)
def eFound (g : List Int) : Dt := .obj .found [.str "found", .tup [eRow g], eRow g]
def eBarred (rs : List Ring) : Dt := .obj .barred [.str "barred", .tup [eRings rs], eRings rs]
theorem rn_found {g : List Int} (T : Txt X.K X.mg) (hP : ProOk X.prog) (hr : Room j X.A) (hk : 9 ≤ j) (hg : Gl X "Found") (ha : RnA X (e :: es) σ G H [eRow g])
    (he : starEach (e :: es) X.env = (false, eval e X.env) :: starEach es X.env := by rfl) (hpl : (backTo pos (starEach es X.env)).any (·.1) = false := by rfl) : Rn X (.Call (.Name "Found" p) (e :: es) [] pos) σ G H (eFound g) :=
  rn_makeR (cl := .found) (T.mkr (show ((1166 : Addr), f_Found_init) ∈ mkL by decide +kernel)) (f_found T hP) hr hk hg (T.glo (show (("Found" : Str), (1166 : Addr)) ∈ gloL by decide +kernel)) ha ⟨g, rfl, rfl⟩ (by decide) he hpl
theorem rn_barred {rs : List Ring} (T : Txt X.K X.mg) (hP : ProOk X.prog) (hr : Room j X.A) (hk : 9 ≤ j) (hg : Gl X "Barred") (ha : RnA X (e :: es) σ G H [.lst (rs.map eRing)]) (hl : rs.length ≤ 100000) (hrs : ∀ r ∈ rs, r.length ≤ 100000)
    (he : starEach (e :: es) X.env = (false, eval e X.env) :: starEach es X.env := by rfl) (hpl : (backTo pos (starEach es X.env)).any (·.1) = false := by rfl) : Rn X (.Call (.Name "Barred" p) (e :: es) [] pos) σ G H (eBarred rs) :=
  rn_makeR (cl := .barred) (T.mkr (show ((1187 : Addr), f_Barred_init) ∈ mkL by decide +kernel)) (f_barred T hP) hr hk hg (T.glo (show (("Barred" : Str), (1187 : Addr)) ∈ gloL by decide +kernel)) ha ⟨rs, rfl, hl, hrs, rfl⟩ (by decide) he hpl
end
end Y
set_option Elab.async false
set_option linter.all false
set_option maxRecDepth 100000
set_option maxHeartbeats 4000000
/-! Lay21: truth by an own __bool__. -/
namespace Y
open PySem PySem.Spec PyProof.Rows L2
theorem type_bool : isType (.type "bool") = pure true := by first | rfl | kernel_rfl | (unfold isType; rw [isSubtype_type]; kernel_rfl)
section
variable {prog : Program} {w : World} {A : Around} {E : Value → Shared → Prop} {s : Shared}
theorem call_bool_of {x : Value} {Q : Value → Shared → Prop} (h : wpAny (model prog w) A.in1.in1 (truthy x) (fun b s' => Q (.bool b) s') E s) : wpAny (model prog w) A (call (.type "bool") [x]) Q E s := by
  refine callType_codes (T := "bool") (Bi := Builtin.«object.__init__») (Q₁ := fun r s₁ => (∃ b, r = .bool b) ∧ Q r s₁) PySem.F.called_bool (PySem.F.typeCall_bool_1 _) PySem.F.entry_object_init ?_ ?_
  · refine codeAny_of_tree ?_
    show wpAny _ A.in1.in1 (do checkBuiltinCall "bool.__new__" ⟨[.type "bool", x], []⟩; again (.builtin "bool.__new__" ⟨[.type "bool", x], []⟩)) _ _ s
    refine wpAny_bind (wpAny_of_eq (PySem.F.newCall_bool_1 _) (wpAny_pure ⟨plainId_quiet (by decide +kernel) _, codeAny_builtin PySem.F.entry_bool_new ?_⟩))
    rw [Around.under_plainId (by decide +kernel) _]
    unfold Builtin.«bool.__new__»
    refine wpAny_bind (wpAny_of_eq (a := true) type_bool ?_)
    refine PySem.W.KFB.if_not rfl ?_
    refine wpAny_bind (wpAny_of_eq (a := true) PySem.F.conv_sub_bool ?_)
    refine PySem.W.KFB.if_not rfl ?_
    refine wpAny_bind (wpAny_of_eq (a := [x]) rfl ?_)
    dsimp only
    exact wpAny_bind (wpAny_mono h (fun b s' q => wpAny_pure ⟨⟨b, rfl⟩, q⟩) fun _ _ z => z)
  · rintro obj s₁ ⟨⟨b, rfl⟩, hq⟩
    exact ⟨rfl, PySem.F.args_object_init_2 _ _, object_init_meets PySem.F.called_bool.init.lookup PySem.F.called_bool.made (by decide) prog w A.in1 _ s₁ ⟨rfl, rfl, hq⟩⟩
end
/-- what an own __bool__ promises -/
def spBl (R : Addr → Hp → Prop) (k : Bool) : Sp := fun vs H Q _ => ∃ a, vs = [.ref a] ∧ R a H ∧ ∀ H', Ext H H' → Q (.bl k) H'
section
variable {X : Cx} {n : Nat} {CX : CXT} {C f a dx : Addr} {fd : FuncData} {ps : List Str} {R : Addr → Hp → Prop} {E : XK} {k : Bool} {pins : List (Addr × Obj)} {σ : L2.St} {H : Hp} {s : Shared} {fs : List (Str × V)} {A : Around}
theorem run_bl (F : FnOk X.prog X.w X.K X.mg X.base CX n f fd ps (spBl R k)) (hb : Binds X.K fd ps []) (hx : Passes CX X E) (sb : Sub X n A) (I : Inv X pins σ H s) (hr : R a H) :
    wpAny (model X.prog X.w) A (call (.ref f) [.ref a]) (PySem.W.BoolBack fun b s' => b = k ∧ ∃ H', Inv X pins σ H' s' ∧ Ext H H') X.xe s := by
  have hsp : spBl R k [.ref a] H (fun v H' => v = .bl k ∧ Ext H H') E := ⟨a, rfl, hr, fun H' e => ⟨rfl, e⟩⟩
  have e0 : Env0 X.prog X.w X.K X.mg X.base A X.stack s H := by
    have e := I.env0
    exact ⟨by rw [sb.fr]; exact e.frames, e.mod, e.bs, e.bsz, e.funs, e.frf, e.hok, e.bare⟩
  have hl := F.len _ _ _ _ hsp
  have r2 : Vals [V.ref a] [Value.ref a] := .cons rfl .nil
  refine wpAny_call (codeAny_mono (F.run A X.stack s H ⟨[.ref a], []⟩ [.ref a] [.ref a] _ E sb.room e0 (by
    have := hb s [.ref a] I.kIn (by simpa using hl)
    simpa using this) r2 hsp) fun r s' hq => ?_)
  cases r with
  | error e => exact hx pins σ H s e s' I hq
  | ok fl =>
    cases fl with
    | ret w =>
      obtain ⟨z, H', I', rz, ez, ex⟩ := I.after hq
      subst ez
      cases rz
      exact ⟨rfl, H', I', ex⟩
    | next => exact False.elim hq
    | brk => exact False.elim hq
    | cont => exact False.elim hq
theorem truth_bl (F : FnOk X.prog X.w X.K X.mg X.base CX n f fd ps (spBl R k)) (hb : Binds X.K fd ps []) (hx : Passes CX X E) (hs : PySem.W.findIn X.K (.ref C) "__bool__" = some (some (.ref f))) (hf : PySem.W.isFn X.K (.ref f) = true) (sb : Sub X n A) (I : Inv X pins σ H s)
    (ha : H a = some (.ins C dx fs)) (hr : R a H) : wpAny (model X.prog X.w) A (truthy (.ref a)) (fun b s' => b = k ∧ ∃ H', Inv X pins σ H' s' ∧ Ext H H') X.xe s := by
  obtain ⟨mA, J, _⟩ := ins_get I.hok ha
  obtain ⟨od, J, _⟩ := J.look
  obtain ⟨m, hF⟩ := I.fr
  exact PySem.W.truthy_K hF I.ok.mod.kin J hs hf (run_bl F hb hx sb I hr)
theorem tru_own (F : FnOk X.prog X.w X.K X.mg X.base CX n f fd ps (spBl R k)) (hb : Binds X.K fd ps []) (hx : Passes CX X E) (hs : PySem.W.findIn X.K (.ref C) "__bool__" = some (some (.ref f))) (hf : PySem.W.isFn X.K (.ref f) = true) (hr : Room n X.A) :
    TruR X (fun x H Q => ∃ a dx fs, x = .ref a ∧ H a = some (.ins C dx fs) ∧ R a H ∧ ∀ H', Ext H H' → Q k H') := by
  rintro pins s σ H x v Q I rx ⟨a, dx, fs, rfl, ha, hR, q⟩
  cases rx
  refine wpAny_mono (truth_bl F hb hx hs hf ⟨hr, rfl⟩ I ha hR) (fun b s' z => ?_) fun _ _ z => z
  obtain ⟨rfl, H', I', e⟩ := z
  exact ⟨H', I', q H' e⟩
theorem call_bl (F : FnOk X.prog X.w X.K X.mg X.base CX n f fd ps (spBl R k)) (hb : Binds X.K fd ps []) (hx : Passes CX X E) (hs : PySem.W.findIn X.K (.ref C) "__bool__" = some (some (.ref f))) (hf : PySem.W.isFn X.K (.ref f) = true) (hr : Room (n + 2) X.A) :
    CallR X (.type "bool") (fun xs H Q => ∃ a dx fs, xs = [.ref a] ∧ H a = some (.ins C dx fs) ∧ R a H ∧ ∀ H', Ext H H' → Q (.bl k) H') := by
  rintro pins s σ H xs us Q I r ⟨a, dx, fs, rfl, ha, hR, q⟩
  obtain rfl := Vals.ref1 r
  refine call_bool_of (wpAny_mono (truth_bl F hb hx hs hf ⟨hr.in1.in1, rfl⟩ I ha hR) (fun b s' z => ?_) fun _ _ z => z)
  obtain ⟨rfl, H', I', e⟩ := z
  exact ⟨.bl b, H', I', rfl, q H' e⟩
end
section
variable {X : Cx} {σ : L2.St} {G H : Hp} {a : Expr} {cl : Cl} {fs : List Dt} {k : Bool} {n : Nat} {f : Addr} {fd : FuncData} {ps : List Str} {pos p : Pos}
/-- the truth of an object of ours -/
theorem rt_own (F : FnOk X.prog X.w X.K X.mg X.base C8.CX0 n f fd ps (spBl (fun a H => Rep X.K H (.ref a) (.obj cl fs)) k)) (hb : Binds X.K fd ps []) (m : Meth X.K (cl.ad X.K) "__bool__" f) (hr : Room n X.A) (ha : Rn X a σ G H (.obj cl fs))
    (he : ∀ whole, isTrue a X.env whole = (do let v ← whole; standAt a.pos; holding [v] (truthy v)) := by intro _; rfl) : RnT X a σ G H k := fun H1 e Q q =>
  wpT_of (pt_truthR pe_wp (tru_own (E := C8.E0) F hb C8.pass0 m.at_ m.fn hr) he) (ha H1 e _ fun v G2 H2 s r => by
    have r2 := r.ex s.gh
    obtain ⟨x, dx, xs, rfl, hx, hl, rs⟩ := id r2
    exact ⟨x, dx, _, rfl, hx, r2, fun H' e => q G2 H' (s.trans ⟨e, Ex.refl _, s.gh.trans e, fun _ z _ => z⟩)⟩)
/-- bool(x), x an object of ours -/
theorem rn_bool (T : Free X "bool") (F : FnOk X.prog X.w X.K X.mg X.base C8.CX0 n f fd ps (spBl (fun a H => Rep X.K H (.ref a) (.obj cl fs)) k)) (hb : Binds X.K fd ps []) (m : Meth X.K (cl.ad X.K) "__bool__" f) (hr : Room (n + 2) X.A) (ha : Rn X a σ G H (.obj cl fs))
    (he : starEach [a] X.env = (false, eval a X.env) :: starEach [] X.env := by rfl) (hpl : (backTo pos (starEach [] X.env)).any (·.1) = false := by rfl) : Rn X (.Call (.Name "bool" p) [a] [] pos) σ G H (.bl k) :=
  rn_cty (call_bl (E := C8.E0) F hb C8.pass0 m.at_ m.fn hr) T.1 T.2 (by decide +kernel) (ra_one ha he) (fun vs G2 H2 s rs Q q => by
    obtain ⟨v, rfl, r⟩ := reps1 rs
    have r2 := r.ex s.gh
    obtain ⟨x, dx, xs, rfl, hx, hl, rs⟩ := id r2
    exact ⟨x, dx, _, rfl, hx, r2, fun H' e => q _ G2 H' ⟨e, Ex.refl _, s.gh.trans e, fun _ z _ => z⟩ rfl⟩) (hn := by decide) (hdb := by decide) (he := he) (hpl := hpl)
end
end Y
set_option Elab.async false
set_option linter.all false
set_option maxRecDepth 100000
set_option maxHeartbeats 4000000
/-! D25: Row's ==, papers' == and truth. -/
namespace Y
open PySem PySem.Spec PyProof.Rows L2
theorem stp_ext {G H H' : Hp} (e : Ex G H) (x : Ex H H') : Stp G H G H' := ⟨x, Ex.refl _, e.trans x, fun _ z _ => z⟩
theorem plJ_ints {n : Nat} {g : List Int} : (eI g).pl (n + 1) = true := by
  show (g.map Dt.int).all (Dt.pl n) = true
  rw [List.all_map, List.all_eq_true]
  intro x _
  cases n <;> rfl
theorem plJ_wit {n : Nat} {x : Wit} : (eWit x).pl (n + 1) = true := by cases n <;> rfl
theorem plJ_ring {n : Nat} {r : Ring} : (eRing r).pl (n + 2) = true := by
  show (r.map eWit).all (Dt.pl (n + 1)) = true
  rw [List.all_map, List.all_eq_true]
  exact fun x _ => plJ_wit
theorem plJ_rings {n : Nat} {rs : List Ring} : (eRings rs).pl (n + 3) = true := by
  show (rs.map eRing).all (Dt.pl (n + 2)) = true
  rw [List.all_map, List.all_eq_true]
  exact fun x _ => plJ_ring
section
variable {P : Program} {w : World} {K : PySem.W.Frag} {mg : Str → Option Value} {base : Heap}
def R_Row_eq : List Dt → Dt → Prop := fun ds d => ∃ g : List Int, ds = [eRow g, eRow g] ∧ d = .bl true
theorem t_Row_eq (T : Txt K mg) : C8.Met P w K mg base 1 (Cl.ad K .row) "__eq__" (Pu K R_Row_eq) [] := by
  refine met_of (st := s_Row_eq) (N := n_Row_eq) (ps := ["self", "other"]) T 62 rfl (show ((525 : Addr), ("__eq__" : Str), f_Row_eq) ∈ methL by decide +kernel) (show (525 : Addr) ∈ clsL by decide) (by decide +kernel) (fun _ _ _ _ _ _ us hl => match us, hl with | [_, _], _ => rfl) (fun ds d h => by obtain ⟨_, rfl, _⟩ := h; rfl) ?_
  rintro f cdv A outer s G H Q E σ ds d hr ⟨g, rfl, rfl⟩ st q
  refine rs_rq st q (rn_to (rn_andB (rn_isi (cc := .cl .row) T.cls T.kit T.free (rn_var st 1) (by first | rfl | assumption) (rn_gcl (C := 525) T st.ex)) fun _ => rn_one (rc_v (rc_eqSame hr (rn_fld T.cls (rn_var st 0) (i := 0) rfl rfl) (rn_fld T.cls (rn_var st 1) (i := 0) rfl rfl) plJ_ints))) rfl)

/-- papers of ours -/
inductive Ppr : Dt → Prop where
  | found (g : List Int) : Ppr (eFound g)
  | barred (rs : List Ring) : Ppr (eBarred rs)
def pprCl : Cl → Prop := fun c => c = .found ∨ c = .barred
theorem nm_of (T : Txt K mg) {C : Addr} {n : Str} (h1 : C ∈ clsL) (h2 : nmS K C n = true) : NmOf K C n where
  rd := List.all_eq_true.mp (T.fact 27 rfl) C h1
  at_ := by
    unfold nmS at h2
    split at h2
    · rename_i oc od cd sl e
      split at h2
      · rename_i a b x t r ev
        have ex : x = n := of_decide_eq_true h2
        subst ex
        refine ⟨_, _, _, _, t, e, ?_⟩
        have : sl = ⟨a :: b :: some (.str x t) :: r⟩ := by rw [← ev]
        rw [this]
        rfl
      · cases h2
    · cases h2
theorem nm_found (T : Txt K mg) : NmOf K (Cl.ad K .found) "Found" := nm_of T (show (1166 : Addr) ∈ clsL by decide) (T.fact 31 rfl)
theorem nm_barred (T : Txt K mg) : NmOf K (Cl.ad K .barred) "Barred" := nm_of T (show (1187 : Addr) ∈ clsL by decide) (T.fact 32 rfl)
/-- rows by their own == -/
theorem eq_rows {X : Cx} (T : Txt X.K X.mg) : EqG X 1 (DEq X.K fun d => ∃ g, d = eRow g) := by
  obtain ⟨f, fd, ps, ds, _, me, F, b, dv⟩ := (t_Row_eq (P := X.prog) (w := X.w) (base := X.base) T).ex
  cases dv
  refine EqG.imp (eqG_ins (E := C8.E0) (R := fun a b H => ∃ g, Rep X.K H (.ref a) (eRow g) ∧ Rep X.K H (.ref b) (eRow g)) (FnOk.imp F fun vs H Q E h => ?_) me.at_ me.fn b C8.pass0) fun x y H h => ?_
  · obtain ⟨a, b, rfl, ⟨g, r1, r2⟩, q⟩ := h
    exact ⟨H, [eRow g, eRow g], .bl true, Ex.refl H, ⟨r1, r2, True.intro⟩, ⟨g, rfl, rfl⟩, fun v G2 H2 s r => by
      have e : v = .bl true := r
      subst e
      exact q H2 s.h⟩
  · obtain ⟨d, ⟨g, rfl⟩, r1, r2⟩ := h
    obtain ⟨a, da, xs, rfl, ha, la, ra⟩ := id r1
    obtain ⟨b, db, ys, rfl, hb, lb, rb⟩ := id r2
    exact ⟨a, b, da, db, _, _, rfl, rfl, ha, hb, g, r1, r2⟩
def R_Paper_eq : List Dt → Dt → Prop := fun ds d => ∃ p, Ppr p ∧ ds = [p, p] ∧ d = .bl true
theorem k_Paper_eq (T : Txt K mg) : ∃ fd, FnOk P w K mg base C8.CX0 4 f_Paper_eq fd ["self", "other"] (Pu K R_Paper_eq) ∧ Binds K fd ["self", "other"] [] := by
  obtain ⟨fd, F⟩ := T.def_ 83 rfl
  refine ⟨fd, fn_pu (N := n_Paper_eq) (k := 3) (x := "__eq__") (qual := "Paper.__eq__") (st := s_Paper_eq) (toFun F) (C8.fnScope_by (by decide +kernel)) (fun ds d h => by obtain ⟨_, _, rfl, _⟩ := h; rfl) ?_, FunD.bindsN F fun _ _ _ _ _ _ us hl => match us, hl with | [_, _], _ => rfl⟩
  rintro cdv A outer s G H Q E σ ds d hr ⟨p, hp, rfl, rfl⟩ st q
  cases hp with
  | found g =>
    refine rs_skip st (rt_w (rw_go' (rt_to (rt_not (k := true) (rt_to (rt_v (rn_isi (t := .cl .found) (cc := .paper) T.cls T.kit T.free (rn_var st 1) rfl (rn_gcl (C := 1124) T st.ex))) rfl)) rfl) (rw_or1 (rt_to (rc_t (rc_neT (rn_name (rn_klass T.cls T.kit (rn_var st 1)) (nm_found T)) (rn_name (rn_klass T.cls T.kit (rn_var st 0)) (nm_found T)))) (by simp))))) fun G2 H2 st => ?_
    refine rs_rq st q (rn_boolB T.free (rn_to (rn_andB (rc_v (rc_eqT (rn_fld T.cls (rn_var st 0) (i := 0) rfl rfl) (rn_fld T.cls (rn_var st 1) (i := 0) rfl rfl))) fun _ => rn_one (rc_v (rc_eqTg (p := fun d => ∃ g, d = eRow g) (eq_rows T) (hr.mono (by decide)) (fun e he => ⟨g, List.mem_singleton.mp he⟩) (rn_fld T.cls (rn_var st 0) (i := 1) rfl rfl) (rn_fld T.cls (rn_var st 1) (i := 1) rfl rfl)))) (by simp)))
  | barred rs =>
    refine rs_skip st (rt_w (rw_go' (rt_to (rt_not (k := true) (rt_to (rt_v (rn_isi (t := .cl .barred) (cc := .paper) T.cls T.kit T.free (rn_var st 1) rfl (rn_gcl (C := 1124) T st.ex))) rfl)) rfl) (rw_or1 (rt_to (rc_t (rc_neT (rn_name (rn_klass T.cls T.kit (rn_var st 1)) (nm_barred T)) (rn_name (rn_klass T.cls T.kit (rn_var st 0)) (nm_barred T)))) (by simp))))) fun G2 H2 st => ?_
    refine rs_rq st q (rn_boolB T.free (rn_to (rn_andB (rc_v (rc_eqT (rn_fld T.cls (rn_var st 0) (i := 0) rfl rfl) (rn_fld T.cls (rn_var st 1) (i := 0) rfl rfl))) fun _ => rn_one (rc_v (rc_eqSame hr (rn_fld T.cls (rn_var st 0) (i := 1) rfl rfl) (rn_fld T.cls (rn_var st 1) (i := 1) rfl rfl) ?_))) (by simp)))
    show ([eRings rs].all (Dt.pl 59)) = true
    rw [List.all_cons, List.all_nil, Bool.and_true]
    exact plJ_rings
end
end Y
set_option Elab.async false
set_option linter.all false
set_option maxRecDepth 100000
set_option maxHeartbeats 4000000
/-! D26: papers in use. -/
namespace Y
open PySem PySem.Spec PyProof.Rows L2
section
variable {X : Cx} {σ : L2.St} {G H : Hp} {a b : Expr} {p : Dt} {j : Nat} {pos q0 : Pos}
theorem ne_ppr {cl : Cl} {fs : List Dt} (T : Txt X.K X.mg) (hp : Ppr (.obj cl fs)) (hm : (cl.ad X.K, ("__eq__" : Str), f_Paper_eq) ∈ methI) (hne : PySem.W.findIn X.K (.ref (cl.ad X.K)) "__ne__" = some (some (.builtin "object.__ne__"))) (hr : Room 5 X.A)
    (ha : Rn X a σ G H (.obj cl fs)) (hb : Rn X b σ G H (.obj cl fs)) : RnC X .NotEq a b σ G H (.bl false) := by
  obtain ⟨fd, F, bn⟩ := k_Paper_eq (P := X.prog) (w := X.w) (base := X.base) T
  have me := T.methI hm
  have N := neG_ins (E := C8.E0) (n := 4) (C := cl.ad X.K) (R := fun a b H => Rep X.K H (.ref a) (.obj cl fs) ∧ Rep X.K H (.ref b) (.obj cl fs)) (FnOk.imp F fun vs H Q E h => by
    obtain ⟨a, b, rfl, ⟨r1, r2⟩, q⟩ := h
    exact ⟨H, [.obj cl fs, .obj cl fs], .bl true, Ex.refl H, ⟨r1, r2, True.intro⟩, ⟨_, hp, rfl, rfl⟩, fun v G2 H2 s r => by
      have e : v = .bl true := r
      subst e
      exact q H2 s.h⟩) me.at_ me.fn hne (T.kit.hm cl) bn C8.pass0
  exact rc_of (op_neG N hr) (nomark _) ha hb fun x y G2 H2 s rx ry Q k => by
    have r1 := rx.ex s.gh
    have r2 := ry.ex s.gh
    obtain ⟨a, da, xs, rfl, ha, la, ra⟩ := id r1
    obtain ⟨b, db, ys, rfl, hb, lb, rb⟩ := id r2
    exact ⟨⟨a, b, da, db, _, _, rfl, rfl, ha, hb, r1, r2⟩, fun H' e => k _ G2 H' ⟨e, Ex.refl _, s.gh.trans e, fun _ z _ => z⟩ rfl⟩
theorem rc_neP (T : Txt X.K X.mg) (hp : Ppr p) (hr : Room 5 X.A) (ha : Rn X a σ G H p) (hb : Rn X b σ G H p) : RnC X .NotEq a b σ G H (.bl false) := by
  cases hp with
  | found g => exact ne_ppr T (.found g) (show ((1166 : Addr), ("__eq__" : Str), f_Paper_eq) ∈ methI by decide +kernel) (eqO_ok (T.fact 25 rfl)) hr ha hb
  | barred rs => exact ne_ppr T (.barred rs) (show ((1187 : Addr), ("__eq__" : Str), f_Paper_eq) ∈ methI by decide +kernel) (eqO_ok (T.fact 26 rfl)) hr ha hb
/-- whether a paper says yes -/
def yes : Dt → Bool
  | .obj .found _ => true
  | _ => false
theorem rn_k {P : Program} {w : World} {K : PySem.W.Frag} {mg : Str → Option Value} {base : Heap} (T : Txt K mg) : (∃ fd, FnOk P w K mg base C8.CX0 1 f_Paper_bool fd ["self"] (Pu K fun ds d => ∃ p, ds = [p] ∧ d = .bl true) ∧ Binds K fd ["self"] []) ∧
    ∃ fd, FnOk P w K mg base C8.CX0 1 f_Denial_bool fd ["self"] (Pu K fun ds d => ∃ p, ds = [p] ∧ d = .bl false) ∧ Binds K fd ["self"] [] := by
  constructor
  · obtain ⟨fd, F⟩ := T.def_ 82 rfl
    refine ⟨fd, fn_pu (N := n_Paper_bool) (k := 0) (x := "__bool__") (qual := "Paper.__bool__") (st := s_Paper_bool) (toFun F) (C8.fnScope_by (by decide +kernel)) (fun ds d h => by obtain ⟨_, rfl, _⟩ := h; rfl) ?_, FunD.bindsN F fun _ _ _ _ _ _ us hl => match us, hl with | [_], _ => rfl⟩
    rintro cdv A outer s G H Q E σ ds d hr ⟨p, rfl, rfl⟩ st q
    exact rs_rq st q (rn_bl st.ex)
  · obtain ⟨fd, F⟩ := T.def_ 84 rfl
    refine ⟨fd, fn_pu (N := n_Denial_bool) (k := 0) (x := "__bool__") (qual := "Denial.__bool__") (st := s_Denial_bool) (toFun F) (C8.fnScope_by (by decide +kernel)) (fun ds d h => by obtain ⟨_, rfl, _⟩ := h; rfl) ?_, FunD.bindsN F fun _ _ _ _ _ _ us hl => match us, hl with | [_], _ => rfl⟩
    rintro cdv A outer s G H Q E σ ds d hr ⟨p, rfl, rfl⟩ st q
    exact rs_rq st q (rn_bl st.ex)
theorem bl_imp {K : PySem.W.Frag} {k : Bool} {cl : Cl} {fs : List Dt} : ∀ vs H Q E, spBl (fun a H => Rep K H (.ref a) (.obj cl fs)) k vs H Q E → Pu K (fun ds d => ∃ p, ds = [p] ∧ d = .bl k) vs H Q E := fun vs H Q E ⟨a, e, r, q⟩ => by
  subst e
  exact ⟨H, [.obj cl fs], .bl k, Ex.refl H, ⟨r, True.intro⟩, ⟨_, rfl, rfl⟩, fun v G2 H2 s rv => by
    have e : v = .bl k := rv
    subst e
    exact q H2 s.h⟩
theorem rt_ppr (T : Txt X.K X.mg) (hp : Ppr p) (hr : Room 1 X.A) (ha : Rn X a σ G H p) (he : ∀ whole, isTrue a X.env whole = (do let v ← whole; standAt a.pos; holding [v] (truthy v)) := by intro _; rfl) : RnT X a σ G H (yes p) := by
  obtain ⟨⟨fd1, F1, b1⟩, fd2, F2, b2⟩ := rn_k (P := X.prog) (w := X.w) (base := X.base) T
  cases hp with
  | found g => exact rt_own (cl := .found) (FnOk.imp F1 bl_imp) b1 (T.methI (show ((1166 : Addr), ("__bool__" : Str), f_Paper_bool) ∈ methI by decide +kernel)) hr ha he
  | barred rs => exact rt_own (cl := .barred) (FnOk.imp F2 bl_imp) b2 (T.methI (show ((1187 : Addr), ("__bool__" : Str), f_Denial_bool) ∈ methI by decide +kernel)) hr ha he
theorem rn_boolP (T : Txt X.K X.mg) (hp : Ppr p) (hg : Gl X "bool") (hr : Room 3 X.A) (ha : Rn X a σ G H p) (he : starEach [a] X.env = (false, eval a X.env) :: starEach [] X.env := by rfl) (hpl : (backTo pos (starEach [] X.env)).any (·.1) = false := by rfl) : Rn X (.Call (.Name "bool" q0) [a] [] pos) σ G H (.bl (yes p)) := by
  obtain ⟨⟨fd1, F1, b1⟩, fd2, F2, b2⟩ := rn_k (P := X.prog) (w := X.w) (base := X.base) T
  cases hp with
  | found g => exact rn_bool (cl := .found) (T.free hg) (FnOk.imp F1 bl_imp) b1 (T.methI (show ((1166 : Addr), ("__bool__" : Str), f_Paper_bool) ∈ methI by decide +kernel)) hr ha he hpl
  | barred rs => exact rn_bool (cl := .barred) (T.free hg) (FnOk.imp F2 bl_imp) b2 (T.methI (show ((1187 : Addr), ("__bool__" : Str), f_Denial_bool) ∈ methI by decide +kernel)) hr ha he hpl
end
end Y
set_option Elab.async false
set_option linter.all false
set_option maxRecDepth 100000
set_option maxHeartbeats 4000000
/-! D27: some_row, where it answers. -/
namespace Y
open PySem PySem.Spec PyProof.Rows L2
theorem sg_len {s : Sg} (h : SgOk s) : 1 ≤ s.len ∧ s.len ≤ 48 := by
  cases s with
  | rule l lo hi => exact h.1
  | some l lo hi => exact h.1
  | just l n => exact h
  | told b l lo hi => exact ⟨h.1.2.2.1, h.1.2.2.2⟩
theorem begs12 {D l : Int} (hD : 0 ≤ D ∧ D ≤ 12) (hl : 1 ≤ l) : (begs D l).length ≤ 12 := by
  unfold begs rgI
  rw [List.length_map, List.length_range]
  omega
theorem own_bound {D : Int} {s : Sg} (hD : 0 ≤ D ∧ D ≤ 12) (h : SgOk s) : ∀ ch ∈ ownCh D s, ch.length ≤ 100 := by
  intro ch hc
  cases s with
  | rule l lo hi =>
    have e : ch = _ := List.mem_singleton.mp hc
    subst e
    have := begs12 (D := D) (l := l) hD h.1.1
    unfold allWith
    rw [List.length_map]
    omega
  | some l lo hi =>
    obtain ⟨b, _, rfl⟩ := List.mem_map.mp hc
    exact Nat.le_of_ble_eq_true rfl
  | just l n =>
    obtain ⟨a, _, h2⟩ := List.mem_flatMap.mp hc
    obtain ⟨b, _, rfl⟩ := List.mem_map.mp h2
    exact Nat.le_of_ble_eq_true rfl
  | told b l lo hi =>
    have e : ch = _ := List.mem_singleton.mp hc
    subst e
    exact Nat.le_of_ble_eq_true rfl
theorem many_bound {D : Int} {s : Sg} (hD : 0 ≤ D ∧ D ≤ 12) (h : SgOk s) : 0 ≤ manyOwn D s ∧ manyOwn D s ≤ 144 := by
  have sq : ∀ n : Int, 0 ≤ n → n ≤ 12 → 0 ≤ n * n ∧ n * n ≤ 144 := fun n h1 h2 => ⟨Int.mul_nonneg h1 h1, by
    have := Int.mul_le_mul h2 h2 h1 (by omega)
    omega⟩
  rw [← own_len]
  refine ⟨Int.natCast_nonneg _, ?_⟩
  rw [own_len]
  cases s with
  | rule l lo hi => show (1 : Int) ≤ 144; decide
  | told b l lo hi => show (1 : Int) ≤ 144; decide
  | some l lo hi =>
    have := begs12 (D := D) (l := l) hD h.1.1
    show ((begs D l).length : Int) ≤ 144
    omega
  | just l n =>
    have := begs12 (D := D) (l := l) hD h.1
    show ((begs D l).length : Int) * ((begs D l).length : Int) ≤ 144
    exact (sq _ (Int.natCast_nonneg _) (by omega)).2
theorem bk_w {k : Bk} (h : BkOk k) : BkW k := by
  have hd := h.d
  have hn := h.n
  refine ⟨by omega, by omega, fun s hs => ?_⟩
  have := sg_len (h.ok s hs)
  omega
theorem ls_w {k : Bk} (h : BkOk k) (hm : manyC k ≤ 400) : LsW (lists k) := by
  have hn := h.n
  have hl : (lists k).length = k.2.length := List.length_map _
  refine ⟨by omega, fun ha pre post e => ?_⟩
  obtain ⟨h1, h2⟩ := togF_pre ha e
  have h3 := tog_len k
  have h4 := congrArg List.length e
  rw [List.length_append] at h4
  refine ⟨by omega, fun c hc => ?_⟩
  rw [h2 c hc]
  omega
theorem pk_bound {D : Int} (hD : 0 ≤ D ∧ D ≤ 12) : ∀ {ss : List Sg} {c : Ch}, (∀ s ∈ ss, SgOk s) → Pk c (ss.map (ownCh D)) → ∀ ch ∈ c, ch.length ≤ 100
  | [], c, _, h, ch, hc => by
    have := pk_len h
    have e : c = [] := List.length_eq_zero_iff.mp (by simpa using this)
    subst e
    cases hc
  | s :: ss, [], _, h, ch, hc => by cases hc
  | s :: ss, x :: c, ho, h, ch, hc => by
    obtain ⟨h1, h2⟩ := h
    rcases List.mem_cons.mp hc with z | z
    · rw [z]
      exact own_bound hD (ho s List.mem_cons_self) x h1
    · exact pk_bound hD (fun t ht => ho t (List.mem_cons_of_mem _ ht)) h2 ch z
theorem ch_w {k : Bk} (h : BkOk k) {c : Ch} (hc : c ∈ tog (lists k)) : ChW c := by
  have hp := mem_tog.mp hc
  have hd := h.d
  have hn := h.n
  refine ⟨?_, pk_bound (by omega) h.ok hp⟩
  have := pk_len hp
  rw [show (lists k).length = k.2.length from List.length_map _] at this
  omega
def eSR : SR → Dt
  | .found g => eFound g
  | .barred rs => eBarred rs
theorem sr_ppr (s : SR) : Ppr (eSR s) := by
  cases s with
  | found g => exact .found g
  | barred rs => exact .barred rs
theorem sr_yes (s : SR) : yes (eSR s) = s.isF := by cases s <;> rfl
section
variable {P : Program} {w : World} {K : PySem.W.Frag} {mg : Str → Option Value} {base : Heap}
def R_need_saying_book : List Dt → Dt → Prop := fun ds d => ∃ k : Bk, ds = [eBk k] ∧ d = .non
theorem c_need_saying_book (T : Txt K mg) : C8.Cal P w K mg base 1 "need_saying_book" (Pu K R_need_saying_book) [] := by
  refine cal_of (st := s_need_saying_book) (N := n_need_saying_book) (ps := ["value"]) T 13 rfl (by decide +kernel) (by decide +kernel) (fun _ _ _ _ _ _ us hl => match us, hl with | [_], _ => rfl) (fun ds d h => by obtain ⟨_, rfl, _⟩ := h; rfl) ?_
  rintro f cdv A outer s G H Q E σ ds d hr ⟨k, rfl, rfl⟩ st q
  refine rs_need st (rt_to (rt_v (rn_isi (cc := .cl .sbook) T.cls T.kit T.free (rn_var st 0) (by first | rfl | assumption) (rn_gcl (C := 1005) T st.ex))) rfl) fun G2 H2 st => ?_
  exact wb_nil (q .non G2 H2 st.st rfl)

def R_need_few : List Dt → Dt → Prop := fun ds d => ∃ n : Int, ds = [.int n] ∧ n ≤ 400 ∧ d = .non
theorem c_need_few (T : Txt K mg) : C8.Cal P w K mg base 1 "need_few" (Pu K R_need_few) [] := by
  refine cal_of (st := s_need_few) (N := n_need_few) (ps := ["many"]) T 19 rfl (by decide +kernel) (by decide +kernel) (fun _ _ _ _ _ _ us hl => match us, hl with | [_], _ => rfl) (fun ds d h => by obtain ⟨_, rfl, _⟩ := h; rfl) ?_
  rintro f cdv A outer s G H Q E σ ds d hr ⟨n, rfl, hn, rfl⟩ st q
  refine rs_skip st (rt_to (rc_t (rc_gt (rn_var st 0) (rn_gint (i := 400) T st.ex))) (decide_eq_false (by omega))) fun G2 H2 st => ?_
  exact wb_nil (q .non G2 H2 st.st rfl)

def R_many_choices : List Dt → Dt → Prop := fun ds d => ∃ k : Bk, ds = [eBk k] ∧ BkOk k ∧ d = .int (manyC k)
theorem c_many_choices (T : Txt K mg) : C8.Cal P w K mg base 4 "many_choices" (Pu K R_many_choices) [] := by
  refine cal_of (st := s_many_choices) (N := n_many_choices) (ps := ["book"]) T 28 rfl (by decide +kernel) (by decide +kernel) (fun _ _ _ _ _ _ us hl => match us, hl with | [_], _ => rfl) (fun ds d h => by obtain ⟨_, rfl, _⟩ := h; rfl) ?_
  rintro f cdv A outer s G H Q E σ ds d hr ⟨k, rfl, hk, rfl⟩ st q
  have hd := hk.d
  have hn := hk.n
  refine rs_do (d := .non) st (rn_c0 (c_need_saying_book T) hr (by decide) rfl (ra_one (rn_var st 0)) ?_) fun G2 H2 st => ?_
  · exact ⟨k, rfl, rfl⟩
  refine rs_rq st q (rn_c0 (c_multiplied T) hr (by decide) rfl (ra_one (rn_to (rn_map (xs := k.2) (enc := eSg) (i := 1) (f := fun s => .int (manyOwn k.1 s)) st (wk_tup (rn_fld T.cls (rn_var st 0) (i := 1) rfl rfl)) (by omega) fun s1 HH C cl fp y hy σ' G' H' st => ?_) (show Dt.lst (k.2.map fun s => .int (manyOwn k.1 s)) = .lst ((k.2.map (manyOwn k.1)).map .int) by rw [List.map_map] <;> rfl))) ?_)
  · refine (rn_c0 (c_many_own T) hr (by decide) rfl (ra_cons (rn_fld T.cls (rn_var st 0) (i := 0) rfl rfl) (ra_one (rn_var st 1))) ?_)
    have hs := hk.ok y hy
    refine ⟨k.1, y, rfl, by omega, fun l n e => ?_, fun l lo hi e => ?_, rfl⟩
    · subst e
      have := sg_len hs
      exact ⟨by have := this.1; show 0 ≤ l; exact Int.le_trans (by decide) this, by have := this.2; exact Int.le_trans this (by decide)⟩
    · subst e
      have := sg_len hs
      exact ⟨by have := this.1; show 0 ≤ l; exact Int.le_trans (by decide) this, by have := this.2; exact Int.le_trans this (by decide)⟩
  · refine ⟨_, rfl, fun n hn => ?_, rfl⟩
    obtain ⟨s, hs, rfl⟩ := List.mem_map.mp hn
    have := many_bound (D := k.1) (by omega) (hk.ok s hs)
    omega

def R_some_row : List Dt → Dt → Prop := fun ds d => ∃ k : Bk, ds = [eBk k] ∧ BkOk k ∧ manyC k ≤ 400 ∧ d = eSR (srF k)
theorem b_some_row (T : Txt K mg) (hP : ProOk P) : Bod P w K mg base 9 "some_row" s_some_row n_some_row R_some_row := by
  rintro f cdv A outer s G H Q E σ ds d hr ⟨k, rfl, hk, hm, rfl⟩ st q
  have hd := hk.d
  have eD : ((k.1.toNat : Nat) : Int) = k.1 := by omega
  have htl := tog_len k
  refine rs_do (d := .non) st (rn_c0 (c_need_few T) hr (by decide) rfl (ra_one (rn_c0 (d := .int (manyC k)) (c_many_choices T) hr (by decide) rfl (ra_one (rn_var st 0)) ?_)) ?_) fun G2 H2 st => ?_
  · exact ⟨k, rfl, hk, rfl⟩
  · exact ⟨_, rfl, hm, rfl⟩
  have hLT : R_looked_through [.int k.1, eLs (lists k)] (eLook (look k.1.toNat (tog (lists k)) [])) := ⟨k.1.toNat, lists k, by rw [eD], by omega, ls_w hk hm, by omega, fun c hc => ⟨ch_w hk hc, fun ss hss => by rw [eD]; exact tog_ok hk hc ss hss⟩, rfl⟩
  cases e : look k.1.toNat (tog (lists k)) [] with
  | mk o rs =>
    rw [e] at hLT
    cases o with
    | some g =>
      have e2 : srF k = .found g := by
        unfold srF
        rw [e]
      rw [e2] at q
      refine rs_tg (d := .tup [eRow g, .lst (rs.map eRing)]) st (rn_c0 (ds := [.int k.1, eLs (lists k)]) (c_looked_through T) hr (by decide) rfl (ra_cons (rn_fld T.cls (rn_var st 0) (i := 0) rfl rfl) (ra_one (rn_c0 (c_lists_of T) hr (by decide) rfl (ra_one (rn_var st 0)) ⟨k, rfl, bk_w hk, rfl⟩))) hLT) (tg2 (i1 := 1) (i2 := 2)) fun σ2 G2 H2 st => ?_
      exact rs_rq st q (rn_if (k := false) (rt_to (rc_t (rc_isN st.ex (rn_var st 1))) rfl) (fun z => Bool.noConfusion z) fun _ => rn_found T hP hr (by decide) rfl (ra_one (rn_var st 1)))
    | none =>
      have e2 : srF k = .barred rs := by
        unfold srF
        rw [e]
      obtain ⟨h1, _, h3, _⟩ := sr_barred hk e2
      rw [e2] at q
      refine rs_tg (d := .tup [.non, .lst (rs.map eRing)]) st (rn_c0 (ds := [.int k.1, eLs (lists k)]) (c_looked_through T) hr (by decide) rfl (ra_cons (rn_fld T.cls (rn_var st 0) (i := 0) rfl rfl) (ra_one (rn_c0 (c_lists_of T) hr (by decide) rfl (ra_one (rn_var st 0)) ⟨k, rfl, bk_w hk, rfl⟩))) hLT) (tg2 (i1 := 1) (i2 := 2)) fun σ2 G2 H2 st => ?_
      exact rs_rq st q (rn_if (k := true) (rt_to (rc_t (rc_isN st.ex (rn_var st 1))) rfl) (fun _ => rn_barred T hP hr (by decide) rfl (ra_one (rn_var st 2)) (by omega) fun r hr => Nat.le_trans (h3 r hr) (by decide)) fun z => Bool.noConfusion z)
theorem c_some_row (T : Txt K mg) (hP : ProOk P) : C8.Cal P w K mg base 10 "some_row" (Pu K R_some_row) [] := cal_of (st := s_some_row) (N := n_some_row) (ps := ["book"]) T 30 rfl (by decide +kernel) (by decide +kernel) (fun _ _ _ _ _ _ us hl => match us, hl with | [_], _ => rfl) (fun ds d h => by obtain ⟨_, rfl, _⟩ := h; rfl) (b_some_row T hP)
end
end Y
set_option Elab.async false
set_option linter.all false
set_option maxRecDepth 100000
set_option maxHeartbeats 4000000
/-! D28: books keep rows; whether papers are right. -/
namespace Y
open PySem PySem.Spec PyProof.Rows L2
theorem bad_none {l : Int} {lo hi : OI} {g : List Int} (h : kpL g (.rule l lo hi) = true) : (firstBad l lo hi g).isNone = true := by
  have e : firstBad l lo hi g = none := List.find?_eq_none.mpr fun b hb => by
    have h1 := List.all_eq_true.mp h (sumAt g b l) (List.mem_map.mpr ⟨b, hb, rfl⟩)
    rw [h1]
    simp
  rw [e]
  rfl
section
variable {P : Program} {w : World} {K : PySem.W.Frag} {mg : Str → Option Value} {base : Heap}
def R_SayingBook_first_broken : List Dt → Dt → Prop := fun ds d => ∃ (k : Bk) (g : List Int), ds = [eBk k, eRow g] ∧ BkOk k ∧ (g.length : Int) = k.1 ∧ KpAll k g ∧ d = .non
theorem t_SayingBook_first_broken (T : Txt K mg) : C8.Met P w K mg base 6 (Cl.ad K .sbook) "first_broken" (Pu K R_SayingBook_first_broken) [] := by
  refine met_of (st := s_SayingBook_first_broken) (N := n_SayingBook_first_broken) (ps := ["self", "row"]) T 78 rfl (show ((1005 : Addr), ("first_broken" : Str), f_SayingBook_first_broken) ∈ methL by decide +kernel) (show (1005 : Addr) ∈ clsL by decide) (by decide +kernel) (fun _ _ _ _ _ _ us hl => match us, hl with | [_, _], _ => rfl) (fun ds d h => by obtain ⟨_, _, rfl, _⟩ := h; rfl) ?_
  rintro f cdv A outer s G H Q E σ ds d hr ⟨k, g, rfl, hk, hg, hA, rfl⟩ st q
  have hd := hk.d
  refine rs_do (d := .non) st (rn_c0 (c_need_row T) hr (by decide) rfl (ra_cons (rn_var st 1) (ra_one (rn_str st.ex))) ?_) fun G2 H2 st => ?_
  · exact ⟨_, _, rfl, rfl⟩
  refine rs_skip st (rt_to (rc_t (rc_neI (rn_fld T.cls (rn_var st 1) (i := 2) rfl rfl) (rn_fld T.cls (rn_var st 0) (i := 0) rfl rfl))) (by rw [hg]; simp)) fun G2 H2 st => ?_
  have ez : (k.2.map eSg).zipIdx.map (fun q => Dt.tup [.int q.2, q.1]) = k.2.zipIdx.map fun u => Dt.tup [.int u.2, eSg u.1] := by
    rw [List.zipIdx_map, List.map_map]
    rfl
  refine rs_forQ (enc := fun u : Sg × Nat => .tup [.int u.2, eSg u.1]) (xs := k.2.zipIdx) (up := fun u ds => (ds.set 2 (some (.int u.2))).set 3 (some (eSg u.1))) (is := [2, 3]) (fun _ => True)
    (fun pre => [some (eBk k), some (eRow g), pre.getLast?.map fun u => .int u.2, pre.getLast?.map fun u => eSg u.1]) (fun _ => []) st True.intro (wk_to (wk_enumU T.free (rn_fld T.cls (rn_var st 0) (i := 1) rfl rfl)) ez) (fun u hu => tg2 (i1 := 2) (i2 := 3)) (fun G1 H1 s1 pre y post ex _ σ2 G2 H2 st => ?_) fun _ σ' G' H' st => ?_
  · have hm : y.1 ∈ k.2 := by
      have h1 : y ∈ k.2.zipIdx := by rw [ex]; simp
      exact List.mem_of_getElem? (List.mem_zipIdx_iff_getElem?.mp h1)
    have hs := hk.ok _ hm
    have hf := hk.fit _ hm
    have hK := hA _ hm
    have hl := sg_len hs
    obtain ⟨y, n⟩ := y
    cases y with
    | rule l lo hi =>
      refine rs_skip st (rt_to (rt_not (k := true) (rt_to (rt_v (rn_me (cl := .rule) (t_Rule_keeps T) hr (by decide) (rn_var st 3) (by decide) (ra_one (rn_var st 1)) ?_)) (bad_none hK))) rfl) fun G2 H2 st => ?_
      · exact ⟨l, lo, hi, g, rfl, ⟨by have := hl.1; exact Int.le_trans (by decide) this, by have := hl.2; exact Int.le_trans this (by decide)⟩, by omega, rfl⟩
      · exact wb_nil ⟨True.intro, G2, by rw [List.getLast?_concat]; exact st⟩
    | some l lo hi =>
      refine rs_skip st (rt_to (rt_not (k := true) (rt_to (rt_v (rn_me (cl := .some) (t_Some_keeps T) hr (by decide) (rn_var st 3) (by decide) (ra_one (rn_var st 1)) ?_)) hK)) rfl) fun G2 H2 st => ?_
      · exact ⟨l, lo, hi, g, rfl, ⟨by have := hl.1; exact Int.le_trans (by decide) this, by have := hl.2; exact Int.le_trans this (by decide)⟩, by omega, rfl⟩
      · exact wb_nil ⟨True.intro, G2, by rw [List.getLast?_concat]; exact st⟩
    | just l m =>
      refine rs_skip st (rt_to (rt_not (k := true) (rt_to (rt_v (rn_me (cl := .just) (t_Just_keeps T) hr (by decide) (rn_var st 3) (by decide) (ra_one (rn_var st 1)) ?_)) hK)) rfl) fun G2 H2 st => ?_
      · exact ⟨l, m, g, rfl, ⟨by have := hl.1; exact Int.le_trans (by decide) this, by have := hl.2; exact Int.le_trans this (by decide)⟩, by omega, rfl⟩
      · exact wb_nil ⟨True.intro, G2, by rw [List.getLast?_concat]; exact st⟩
    | told b l lo hi =>
      refine rs_skip st (rt_to (rt_not (k := true) (rt_to (rt_v (rn_me (cl := .told) (t_Told_keeps T) hr (by decide) (rn_var st 3) (by decide) (ra_one (rn_var st 1)) ?_)) hK)) rfl) fun G2 H2 st => ?_
      · have h1 : b + l ≤ k.1 := of_decide_eq_true hf
        obtain ⟨⟨h2, h3, h4, h5⟩, _⟩ := hs
        exact ⟨b, l, lo, hi, g, rfl, ⟨h2, by omega, by omega⟩, rfl⟩
      · exact wb_nil ⟨True.intro, G2, by rw [List.getLast?_concat]; exact st⟩
  · exact rs_rq st q (rn_non st.ex)

def R_SayingBook_keeps : List Dt → Dt → Prop := fun ds d => ∃ (k : Bk) (g : List Int), ds = [eBk k, eRow g] ∧ BkOk k ∧ (g.length : Int) = k.1 ∧ KpAll k g ∧ d = .bl true
theorem t_SayingBook_keeps (T : Txt K mg) : C8.Met P w K mg base 7 (Cl.ad K .sbook) "keeps" (Pu K R_SayingBook_keeps) [] := by
  refine met_of (st := s_SayingBook_keeps) (N := n_SayingBook_keeps) (ps := ["self", "row"]) T 77 rfl (show ((1005 : Addr), ("keeps" : Str), f_SayingBook_keeps) ∈ methL by decide +kernel) (show (1005 : Addr) ∈ clsL by decide) (by decide +kernel) (fun _ _ _ _ _ _ us hl => match us, hl with | [_, _], _ => rfl) (fun ds d h => by obtain ⟨_, _, rfl, _⟩ := h; rfl) ?_
  rintro f cdv A outer s G H Q E σ ds d hr ⟨k, g, rfl, hk, hg, hA, rfl⟩ st q
  refine rs_rq st q (rn_to (rc_v (rc_isN st.ex (d := .non) (rn_me (cl := .sbook) (t_SayingBook_first_broken T) hr (by decide) (rn_var st 0) (by decide) (ra_one (rn_var st 1)) ?_))) rfl)
  exact ⟨k, g, rfl, hk, hg, hA, rfl⟩

def R_is_row_of : List Dt → Dt → Prop := fun ds d => ∃ (k : Bk) (g : List Int), ds = [eBk k, eRow g] ∧ BkOk k ∧ (g.length : Int) = k.1 ∧ KpAll k g ∧ d = .bl true
theorem c_is_row_of (T : Txt K mg) : C8.Cal P w K mg base 8 "is_row_of" (Pu K R_is_row_of) [] := by
  refine cal_of (st := s_is_row_of) (N := n_is_row_of) (ps := ["book", "value"]) T 35 rfl (by decide +kernel) (by decide +kernel) (fun _ _ _ _ _ _ us hl => match us, hl with | [_, _], _ => rfl) (fun ds d h => by obtain ⟨_, _, rfl, _⟩ := h; rfl) ?_
  rintro f cdv A outer s G H Q E σ ds d hr ⟨k, g, rfl, hk, hg, hA, rfl⟩ st q
  refine rs_rq st q (rn_to (rn_andB (rn_isi (cc := .cl .row) T.cls T.kit T.free (rn_var st 1) (by first | rfl | assumption) (rn_gcl (C := 525) T st.ex)) fun _ => rn_andB (rc_v (rc_eqI (rn_fld T.cls (rn_var st 1) (i := 2) rfl rfl) (rn_fld T.cls (rn_var st 0) (i := 0) rfl rfl))) fun _ => rn_one (d := .bl true) (rn_me (cl := .sbook) (t_SayingBook_keeps T) hr (by decide) (rn_var st 0) (by decide) (ra_one (rn_var st 1)) ?_)) ?_)
  · exact ⟨k, g, rfl, hk, hg, hA, rfl⟩
  · rw [hg]
    simp [kyB]

theorem areR_ok {k : Bk} (hk : BkOk k) {rs : List Ring} (e : srF k = .barred rs) : areR (lists k) rs = true := by
  obtain ⟨h1, h2, _, _⟩ := sr_barred hk e
  unfold areR
  rw [Bool.and_eq_true, decide_eq_true_eq, List.all_eq_true]
  exact ⟨h1, h2⟩
def R_shows_some_row : List Dt → Dt → Prop := fun ds d => ∃ k : Bk, ds = [eBk k, eSR (srF k)] ∧ BkOk k ∧ manyC k ≤ 400 ∧ d = .bl true
theorem b_shows_some_row (T : Txt K mg) : Bod P w K mg base 8 "shows_some_row" s_shows_some_row n_shows_some_row R_shows_some_row := by
  rintro f cdv A outer s G H Q E σ ds d hr ⟨k, rfl, hk, hm, rfl⟩ st q
  refine rs_do (d := .non) st (rn_c0 (c_need_few T) hr (by decide) rfl (ra_one (rn_c0 (d := .int (manyC k)) (c_many_choices T) hr (by decide) rfl (ra_one (rn_var st 0)) ?_)) ?_) fun G2 H2 st => ?_
  · exact ⟨k, rfl, hk, rfl⟩
  · exact ⟨_, rfl, hm, rfl⟩
  cases e : srF k with
  | found g =>
    obtain ⟨h1, h2⟩ := sr_found hk e
    rw [e] at st
    refine rs_ifT st (k := true) (rt_to (rt_v (rn_isi (t := .cl .found) (cc := .cl .found) T.cls T.kit T.free (rn_var st 1) rfl (rn_gcl (C := 1166) T st.ex))) rfl) (fun _ G2 H2 st => rs_rq st q (rn_c0 (c_is_row_of T) hr (by decide) rfl (ra_cons (rn_var st 0) (ra_one (rn_fld T.cls (rn_var st 1) (i := 2) rfl rfl))) ?_)) fun z => Bool.noConfusion z
    exact ⟨k, g, rfl, hk, h1, h2, rfl⟩
  | barred rs =>
    obtain ⟨_, _, h3, _⟩ := sr_barred hk e
    rw [e] at st
    refine rs_skip st (rt_to (rt_v (rn_isi (t := .cl .barred) (cc := .cl .found) T.cls T.kit T.free (rn_var st 1) rfl (rn_gcl (C := 1166) T st.ex))) rfl) fun G2 H2 st => ?_
    refine rs_rq st q (rn_to (rn_andB (rn_isi (t := .cl .barred) (cc := .cl .barred) T.cls T.kit T.free (rn_var st 1) rfl (rn_gcl (C := 1187) T st.ex)) fun _ => rn_one (d := .bl (areR (lists k) rs)) (rn_c0 (ds := [eLs (lists k), eRings rs]) (c_are_rings T) hr (by decide) rfl (ra_cons (rn_c0 (c_lists_of T) hr (by decide) rfl (ra_one (rn_var st 0)) ?_) (ra_one (rn_fld T.cls (rn_var st 1) (i := 2) rfl rfl))) ?_)) ?_)
    · exact ⟨k, rfl, bk_w hk, rfl⟩
    · exact ⟨lists k, rs, rfl, ls_w hk hm, h3, rfl⟩
    · rw [areR_ok hk e]
      rfl
theorem c_shows_some_row (T : Txt K mg) : C8.Cal P w K mg base 9 "shows_some_row" (Pu K R_shows_some_row) [] := cal_of (st := s_shows_some_row) (N := n_shows_some_row) (ps := ["book", "value"]) T 36 rfl (by decide +kernel) (by decide +kernel) (fun _ _ _ _ _ _ us hl => match us, hl with | [_, _], _ => rfl) (fun ds d h => by obtain ⟨_, rfl, _⟩ := h; rfl) (b_shows_some_row T)
end
end Y
set_option Elab.async false
set_option linter.all false
set_option maxRecDepth 100000
set_option maxHeartbeats 4000000
/-! Lay22: calls by keywords alone. -/
namespace Y
open PySem PySem.Spec PyProof.Rows L2
/-- a def of the module that may be called by the keywords ks: g, gV put them in the parameters' order -/
structure Kw (P : Program) (w : World) (K : PySem.W.Frag) (mg : Str → Option Value) (base : Heap) (k : Nat) (x : Str) (ks : List Str) (gV : List V → List V) (sp : Sp) : Prop where
  ex : ∃ (f : Addr) (fd : FuncData) (ps : List Str) (g : List Value → List Value), FnOk P w K mg base C8.CX0 k f fd ps sp ∧ mg x = some (.ref f) ∧ PySem.W.keepIn K (.ref f) = true ∧ (∀ s ws, ws.length = ks.length → BindsTo s fd ⟨[], ks.zip ws⟩ (ps.zip (g ws))) ∧ ∀ zs ws, Vals zs ws → Vals (gV zs) (g ws)
section
variable {P : Program} {w : World} {K : PySem.W.Frag} {mg : Str → Option Value} {base : Heap}
theorem kw_of {x : Str} {st : Stmt} {a : Addr} {N ps ks : List Str} {k : Nat} {R : List Dt → Dt → Prop} {g : List Value → List Value} {gV : List V → List V} (T : Txt K mg) (i : Nat) (hd : fnD[i]? = some ⟨fun _ => a, x, x, C8.fnArgs st, C8.fnBody st, C8.fnScope st, [], []⟩) (hg : (x, a) ∈ gloL) (S : C8.scC N ps (C8.fnScope st) = true)
    (hb : ∀ (kV doc pm : Value) (an : Option Addr) (cdv ct : Value) (ws : List Value), ws.length = ks.length → bindArgs (PySem.W.fnOf x x (C8.fnArgs st) (C8.fnBody st) (C8.fnScope st) .none kV doc pm an cdv ct) ⟨[], ks.zip ws⟩ = pure (ps.zip (g ws))) (rel : ∀ zs ws, Vals zs ws → Vals (gV zs) (g ws))
    (len : ∀ ds d, R ds d → ds.length = ps.length) (body : Bod P w K mg base k x st N R) : Kw P w K mg base (k + 1) x ks gV (Pu K R) := by
  obtain ⟨fd, F⟩ := T.def_ i hd
  have ok := fn_pu (toFun F) (C8.fnScope_by S) len (body a)
  obtain ⟨oc, od, dV, kV, doc, pm, an, cdv, ct, osl, rfl, lk, hcd, hD, hK⟩ := F.ex
  have ed : dV = .none := by
    rcases hD with ⟨_, h⟩ | ⟨h, _⟩
    · exact h
    · exact absurd rfl h
  subst ed
  exact ⟨a, _, ps, g, ok, T.glo hg, F.kp, fun s ws hl => BindsTo.of_eq (hb kV doc pm an cdv ct ws hl), rel⟩
end
def wpK (X : Cx) (kws : List Keyword) : TA := fun σ H Q => ∀ (pos : Pos) (pins : List (Addr × Obj)) (s : Shared), Inv X pins σ H s → wpAny (model X.prog X.w) X.A (evalAll ((backToKw pos (keywordEach kws X.env)).map (·.2))) (AP X pins σ Q) X.xe s
def RnK (X : Cx) (kws : List Keyword) (σ : L2.St) (G H : Hp) (ds : List Dt) : Prop :=
  ∀ H1, Ex H H1 → ∀ Q : List V → Hp → Prop, (∀ vs G2 H2, Stp G H1 G2 H2 → Reps X.K G2 vs ds → Q vs H2) → wpK X kws σ H1 Q
section
variable {X : Cx} {σ : L2.St} {G H : Hp} {e : Expr} {kws : List Keyword} {nm : Option Str} {p pos kpos : Pos} {d : Dt} {ds : List Dt} {k j : Nat}
theorem pk_wp : PK X kws (wpK X kws) := ⟨fun pos pins s _ _ _ I h => h pos pins s I⟩
theorem wpK_of {t : TA} (q : PK X kws t) {Q : List V → Hp → Prop} (h : t σ H Q) : wpK X kws σ H Q := fun pos pins s I => q.run pos pins s σ H Q I h
theorem rk_nil (s : Ex G H) : RnK X [] σ G H [] := fun H1 e Q q => wpK_of pk_nil (q _ _ _ (Stp.refl (s.trans e)) True.intro)
theorem rk_cons (h : Rn X e σ G H d) (hr : RnK X kws σ G H ds) : RnK X (⟨nm, e, kpos⟩ :: kws) σ G H (d :: ds) := fun H1 e1 Q q =>
  wpK_of (pk_cons pe_wp pk_wp) (h H1 e1 _ fun v G2 H2 s2 r => hr H2 (e1.trans s2.h) _ fun vs G3 H3 s3 rs => q (v :: vs) _ _ (s2.trans (s2.join s3).1) ⟨r.ex (uni_l _ _), rs.ex (s2.join s3).2⟩)
theorem pe_kw {x : Str} {ks : List Str} {gV : List V → List V} {sp : Sp} {tk : TA} (c : Kw X.prog X.w X.K X.mg X.base k x ks gV sp) (hr : Room k X.A) (hg : Gl X x) (hkw : PK X kws tk) (hall : (backToKw pos (keywordEach kws X.env)).all (·.1.isSome) = true) (hks : (backToKw pos (keywordEach kws X.env)).filterMap (·.1) = ks)
    (hpl : ((backTo pos (starEach [] X.env)).any (·.1) || (backToKw pos (keywordEach kws X.env)).any (·.1.isNone)) = false) (hn : kws.length = ks.length) (hdb : (x == ("__debug__" : Str)) = false) (hlen : ∀ zs H Q, sp (gV zs) H Q C8.E0 → zs.length = ks.length) :
    PE X (.Call (.Name x p) [] kws pos) (fun σ H Q => tk σ H fun zs H2 => sp (gV zs) H2 Q C8.E0) := by
  obtain ⟨f, fd, ps, g, F, hm, hk, hb, rel⟩ := c.ex
  refine ⟨fun pins s σ H Q I h => ?_⟩
  refine wpAny_Call_Name_kw (ld_glob I hg hm ?_ hdb)
  refine PySem.W.callWith_KW0 (h₀ := X.base) I.ok.mod.kin hk hall (thn (hkw.run pos pins s σ H _ I h) fun ws s2 ⟨zs, H2, I2, rz, q2⟩ => ⟨I2.kIn, ?_⟩) hpl
  rw [hks]
  have r2 := rel zs ws rz
  have hl : ws.length = ks.length := by rw [← rz.length]; exact hlen _ _ _ q2
  refine wpAny_call (codeAny_mono (F.run X.A X.stack s2 H2 ⟨[], ks.zip ws⟩ (g ws) (gV zs) Q C8.E0 hr I2.env0 (hb s2 ws hl) r2 q2) fun r s' hq => ?_)
  cases r with
  | error e => exact C8.pass0 (X := X) (E := C8.E0) pins σ H2 s2 e s' I2 hq
  | ok fl =>
    cases fl with
    | ret u => exact I2.after hq
    | next => exact False.elim hq
    | brk => exact False.elim hq
    | cont => exact False.elim hq
theorem rn_kw {x : Str} {ks : List Str} {gV : List V → List V} {R : List Dt → Dt → Prop} {ds2 : List Dt} (c : Kw X.prog X.w X.K X.mg X.base k x ks gV (Pu X.K R)) (hr : Room j X.A) (hk : k ≤ j) (hg : Gl X x) (ha : RnK X kws σ G H ds) (hR : R ds2 d) (hv : ∀ G vs, Reps X.K G vs ds → Reps X.K G (gV vs) ds2)
    (hlen : ∀ zs H Q, Pu X.K R (gV zs) H Q C8.E0 → zs.length = ks.length)
    (hall : (backToKw pos (keywordEach kws X.env)).all (·.1.isSome) = true := by rfl) (hks : (backToKw pos (keywordEach kws X.env)).filterMap (·.1) = ks := by rfl)
    (hpl : ((backTo pos (starEach [] X.env)).any (·.1) || (backToKw pos (keywordEach kws X.env)).any (·.1.isNone)) = false := by rfl) (hn : kws.length = ks.length := by rfl) (hdb : (x == ("__debug__" : Str)) = false := by decide) :
    Rn X (.Call (.Name x p) [] kws pos) σ G H d := fun H1 e1 Q q =>
  wpE_of (pe_kw c (hr.mono hk) hg pk_wp hall hks hpl hn hdb hlen) (ha H1 e1 _ fun vs G2 H2 s rs => ⟨G2, ds2, d, s.gh, hv G2 vs rs, hR, fun v G3 H3 s3 rv => q v G3 H3 (s.trans s3) rv⟩)
end
end Y
set_option Elab.async false
set_option linter.all false
set_option maxRecDepth 100000
set_option maxHeartbeats 4000000
/-! D29: the empty book of rules; calls by keywords. -/
namespace Y
open PySem PySem.Spec PyProof.Rows L2
section
variable {P : Program} {w : World} {K : PySem.W.Frag} {mg : Str → Option Value} {base : Heap}
theorem vals_rev : ∀ {zs : List V} {ws : List Value}, Vals zs ws → Vals zs.reverse ws.reverse
  | _, _, .nil => .nil
  | _, _, .cons a r => by
    rw [List.reverse_cons, List.reverse_cons]
    exact (vals_rev r).append (.cons a .nil)
def R_are_rules : List Dt → Dt → Prop := fun ds d => ∃ u : Unit, ds = [.lst []] ∧ d = .bl true
theorem c_are_rules (T : Txt K mg) : C8.Cal P w K mg base 1 "are_rules" (Pu K R_are_rules) [] := by
  refine cal_of (st := s_are_rules) (N := n_are_rules) (ps := ["value"]) T 31 rfl (by decide +kernel) (by decide +kernel) (fun _ _ _ _ _ _ us hl => match us, hl with | [_], _ => rfl) (fun ds d h => by obtain ⟨_, rfl, _⟩ := h; rfl) ?_
  rintro f cdv A outer s G H Q E σ ds d hr ⟨u, rfl, rfl⟩ st q
  refine rs_rq st q (rn_to (rn_andB (rn_isiT (cs := [.list, .tuple]) T.cls T.kit T.free (rn_var st 0) (by first | rfl | assumption) (ra_cons (rn_ty T st.ex) (ra_one (rn_ty T st.ex))) (by decide)) fun _ => rn_one (rn_all (bs := []) T.free rfl (rn_map (xs := ([] : List Dt)) (enc := id) (i := 1) (f := fun _ => .bl true) st (wk_list (rn_var st 0)) (by decide) fun s1 HH C cl fp y hy σ' G' H' st => ?_))) ?_)
  · cases hy
  · rfl

def R_Book_init : List Dt → List Dt → Prop := fun ds fs => ∃ D : Int, ds = [.int D, .lst []] ∧ (1 ≤ D ∧ D ≤ 48) ∧ fs = [.int D, .tup []]
theorem m_book (T : Txt K mg) : C8.Mak P w K mg base 4 "Book" (Cl.ad K .book) (Ini K .book R_Book_init) [] := by
  refine mak_of (cl := .book) (dds := []) (st := s_Book_init) (N := n_Book_init) (ps := ["self", "days", "rules"]) (dfl := []) T 85 rfl (show (("Book" : Str), (1337 : Addr)) ∈ gloL by decide +kernel) (show ((1337 : Addr), f_Book_init) ∈ mkL by decide +kernel) (by decide +kernel) (fun fd F => ⟨[], .nil, FunD.bindsN F fun _ _ _ _ _ _ us hl => match us, hl with | [_, _, _], _ => rfl⟩) (fun ds d h => by obtain ⟨_, rfl, _⟩ := h; rfl) (fun ds d h => by obtain ⟨_, rfl, hD, rfl⟩ := h; rfl) ?_
  rintro f cdv A outer s G H x dx Q E σ ds fs hr ⟨D, rfl, hD, rfl⟩ st io q
  refine ri_do (d := .non) st io (rn_c0 (c_need_number T) hr (by decide) rfl (ra_cons (rn_var st 1) (ra_cons (rn_str st.ex) (ra_cons (rn_int st.ex) (ra_one (rn_gint (i := 48) T st.ex))))) ?_) fun G2 H2 st io => ?_
  · exact ⟨D, _, some 1, some 48, rfl, by simp [wi]; omega, rfl⟩
  refine ri_need st io (rt_v (rn_c0 (c_are_rules T) hr (by decide) rfl (ra_one (rn_var st 2)) ?_)) fun G2 H2 st io => ?_
  · exact ⟨(), rfl, rfl⟩
  refine ri_skip st io (rt_to (rc_t (rc_gt (rn_lenL T.free (rn_var st 2)) (rn_gint (i := 8) T st.ex))) rfl) fun G2 H2 st io => ?_
  refine rs_fld T.cls st io (rn_var st 0) (rn_var st 1) rfl fun G2 H2 st io => ?_
  refine rs_fld T.cls st io (rn_var st 0) (d := .tup []) (rn_tupL T.free (rn_var st 2)) rfl fun G2 H2 st io => ?_
  exact wb_nil (q _ _ st.st io)

theorem kw_some_row (T : Txt K mg) (hP : ProOk P) : Kw P w K mg base 10 "some_row" ["book"] id (Pu K R_some_row) :=
  kw_of (ps := ["book"]) (st := s_some_row) (N := n_some_row) (g := id) T 30 rfl (by decide +kernel) (by decide +kernel) (fun _ _ _ _ _ _ ws hl => match ws, hl with | [_], _ => rfl) (fun _ _ h => h) (fun ds d h => by obtain ⟨_, rfl, _⟩ := h; rfl) (b_some_row T hP)
theorem kw_shows (T : Txt K mg) : Kw P w K mg base 9 "shows_some_row" ["value", "book"] List.reverse (Pu K R_shows_some_row) :=
  kw_of (ps := ["book", "value"]) (st := s_shows_some_row) (N := n_shows_some_row) (g := List.reverse) T 36 rfl (by decide +kernel) (by decide +kernel) (fun _ _ _ _ _ _ ws hl => match ws, hl with | [_, _], _ => rfl) (fun zs ws h => vals_rev h) (fun ds d h => by obtain ⟨_, rfl, _⟩ := h; rfl) (b_shows_some_row T)
end
section
variable {X : Cx} {σ : L2.St} {G H : Hp} {e e1 e2 : Expr} {p pos kp kp2 : Pos} {j : Nat}
theorem rn_kw1 {k : Bk} (T : Txt X.K X.mg) (hP : ProOk X.prog) (hr : Room j X.A) (hk : 10 ≤ j) (hg : Gl X "some_row") (sx : Ex G H) (ha : Rn X e σ G H (eBk k)) (hb : BkOk k) (hm : manyC k ≤ 400)
    (hall : (backToKw pos (keywordEach [⟨some "book", e, kp⟩] X.env)).all (·.1.isSome) = true := by rfl) (hks : (backToKw pos (keywordEach [⟨some "book", e, kp⟩] X.env)).filterMap (·.1) = (["book"] : List Str) := by rfl)
    (hpl : ((backTo pos (starEach [] X.env)).any (·.1) || (backToKw pos (keywordEach [⟨some "book", e, kp⟩] X.env)).any (·.1.isNone)) = false := by rfl) : Rn X (.Call (.Name "some_row" p) [] [⟨some "book", e, kp⟩] pos) σ G H (eSR (srF k)) :=
  rn_kw (ds := [eBk k]) (ds2 := [eBk k]) (kw_some_row T hP) hr hk hg (rk_cons ha (rk_nil sx)) ⟨k, rfl, hb, hm, rfl⟩ (fun _ _ h => h) (fun zs H Q h => by
    obtain ⟨G, ds, d, _, r, ⟨_, rfl, _⟩, _⟩ := h
    exact r.length) hall hks hpl rfl (by decide)
theorem rn_kw2 {k : Bk} (T : Txt X.K X.mg) (hr : Room j X.A) (hk : 9 ≤ j) (hg : Gl X "shows_some_row") (sx : Ex G H) (h1 : Rn X e1 σ G H (eSR (srF k))) (h2 : Rn X e2 σ G H (eBk k)) (hb : BkOk k) (hm : manyC k ≤ 400)
    (hall : (backToKw pos (keywordEach [⟨some "value", e1, kp⟩, ⟨some "book", e2, kp2⟩] X.env)).all (·.1.isSome) = true := by rfl) (hks : (backToKw pos (keywordEach [⟨some "value", e1, kp⟩, ⟨some "book", e2, kp2⟩] X.env)).filterMap (·.1) = (["value", "book"] : List Str) := by rfl)
    (hpl : ((backTo pos (starEach [] X.env)).any (·.1) || (backToKw pos (keywordEach [⟨some "value", e1, kp⟩, ⟨some "book", e2, kp2⟩] X.env)).any (·.1.isNone)) = false := by rfl) : Rn X (.Call (.Name "shows_some_row" p) [] [⟨some "value", e1, kp⟩, ⟨some "book", e2, kp2⟩] pos) σ G H (.bl true) :=
  rn_kw (ds := [eSR (srF k), eBk k]) (ds2 := [eBk k, eSR (srF k)]) (kw_shows T) hr hk hg (rk_cons h1 (rk_cons h2 (rk_nil sx))) ⟨k, rfl, hb, hm, rfl⟩ (fun G vs h => by
    match vs, h with
    | [a, b], ⟨x, y, _⟩ => exact ⟨y, x, True.intro⟩) (fun zs H Q h => by
    obtain ⟨G, ds, d, _, r, ⟨_, rfl, _⟩, _⟩ := h
    have := r.length
    rw [List.length_reverse] at this
    exact this) hall hks hpl rfl (by decide)
end
end Y
set_option Elab.async false
set_option linter.all false
set_option maxRecDepth 100000
set_option maxHeartbeats 4000000
/-! Lay23: what changes hidden things (an urn, tables), counted. -/
namespace Y
open PySem PySem.Spec PyProof.Rows L2
open Classical in
noncomputable def hds (us : List Addr) (H : Hp) : Hp := fun a => if a ∈ us then none else H a
section
variable {us : List Addr} {G H G1 H1 G2 H2 : Hp}
theorem hds_in {a : Addr} (h : a ∈ us) : hds us H a = none := if_pos h
theorem hds_out {a : Addr} (h : a ∉ us) : hds us H a = H a := if_neg h
theorem hds_ex : Ex (hds us H) H := fun a o h => by
  by_cases z : a ∈ us
  · rw [hds_in z] at h
    cases h
  · rw [hds_out z] at h
    exact h
theorem hds_mono (e : Ex H H1) : Ex (hds us H) (hds us H1) := fun a o h => by
  by_cases z : a ∈ us
  · rw [hds_in z] at h
    cases h
  · rw [hds_out z] at h ⊢
    exact e a o h
theorem hds_some {a : Addr} {o : HO} (h : hds us H a = some o) : a ∉ us := fun z => by
  rw [hds_in z] at h
  cases h
theorem hds_upd {a : Addr} {o : HO} (h : a ∈ us) : hds us (upd H a o) = hds us H := by
  funext b
  by_cases z : b ∈ us
  · rw [hds_in z, hds_in z]
  · rw [hds_out z, hds_out z, upd_ne (fun e => z (by rw [e]; exact h))]
theorem Stp.hids (s : Stp G H G2 H2) (n : ∀ a ∈ us, G a = none ∧ H a ≠ none) : Stp G (hds us H) G2 (hds us H2) :=
  ⟨hds_mono s.h, s.g, fun a o h => by
    have z : a ∉ us := fun z => by
      rw [s.new a (n a z).1 (n a z).2] at h
      cases h
    rw [hds_out z]
    exact s.gh a o h, fun a h q => s.new a h fun z => q (by
    by_cases w : a ∈ us
    · exact hds_in w
    · rw [hds_out w, z])⟩
end
/-- what holds of the hidden things, counted -/
structure HidOk (us : List Addr) (J : Nat → Hp → Hp → Prop) : Prop where
  at_ : ∀ {n : Nat} {G H : Hp}, J n G H → ∀ a ∈ us, G a = none ∧ H a ≠ none
  stp : ∀ {n : Nat} {G H G2 H2 : Hp}, J n G H → (∀ a ∈ us, H2 a = H a) → (∀ a o, H a = some o → (∀ xs, o ≠ .lst xs) → (∀ ps, o ≠ .tbl ps) → H2 a = some o) → Ex G G2 → (∀ a ∈ us, G2 a = none) → J n G2 H2
  mono : ∀ {n m : Nat} {G H : Hp}, J n G H → n ≤ m → J m G H
theorem same_ex {H H2 : Hp} (e : Ex H H2) {a : Addr} (h : H a ≠ none) : H2 a = H a := by
  cases z : H a with
  | none => exact absurd z h
  | some o => exact e a o z
theorem hds_set {us : List Addr} {H : Hp} {a : Addr} {o : HO} (h : a ∉ us) : hds us (upd H a o) = upd (hds us H) a o := by
  funext b
  by_cases z : b ∈ us
  · rw [hds_in z, upd_ne (fun e => h (by rw [← e]; exact z)), hds_in z]
  · rw [hds_out z]
    by_cases y : b = a
    · subst y
      rw [upd_same, upd_same]
    · rw [upd_ne y, upd_ne y, hds_out z]
/-- e gives data that P tells, at the cost m -/
def RnU (X : Cx) (us : List Addr) (J : Nat → Hp → Hp → Prop) (e : Expr) (σ : L2.St) (G Hh : Hp) (m : Nat) (P : Dt → Prop) : Prop :=
  ∀ (G1 H1 : Hp) (n : Nat), Stp G Hh G1 (hds us H1) → J n G1 H1 → n + m ≤ 1000000 → ∀ Q : VK, (∀ v d G2 H2, P d → Stp G1 (hds us H1) G2 (hds us H2) → J (n + m) G2 H2 → Rep X.K G2 v d → Q v H2) → wpE X e σ H1 Q
def RnUA (X : Cx) (us : List Addr) (J : Nat → Hp → Hp → Prop) (es : List Expr) (σ : L2.St) (G Hh : Hp) (m : Nat) (P : List Dt → Prop) : Prop :=
  ∀ (G1 H1 : Hp) (n : Nat), Stp G Hh G1 (hds us H1) → J n G1 H1 → n + m ≤ 1000000 → ∀ Q : List V → Hp → Prop, (∀ vs ds G2 H2, P ds → Stp G1 (hds us H1) G2 (hds us H2) → J (n + m) G2 H2 → Reps X.K G2 vs ds → Q vs H2) → wpA X es σ H1 Q
/-- .. a new list -/
def RnUO (X : Cx) (us : List Addr) (J : Nat → Hp → Hp → Prop) (e : Expr) (σ : L2.St) (G Hh : Hp) (m : Nat) (P : List Dt → Prop) : Prop :=
  ∀ (G1 H1 : Hp) (n : Nat), Stp G Hh G1 (hds us H1) → J n G1 H1 → n + m ≤ 1000000 → ∀ Q : VK, (∀ l vs ds G2 H2, P ds → Stp G1 (hds us H1) G2 (hds us H2) → H1 l = none → G2 l = none → H2 l = some (.lst vs) → J (n + m) G2 H2 → Reps X.K G2 vs ds → Q (.ref l) H2) → wpE X e σ H1 Q
/-- a test whose answer is not known -/
def RtU (X : Cx) (us : List Addr) (J : Nat → Hp → Hp → Prop) (c : Expr) (σ : L2.St) (G Hh : Hp) (m : Nat) (P : Bool → Prop) : Prop :=
  ∀ (G1 H1 : Hp) (n : Nat), Stp G Hh G1 (hds us H1) → J n G1 H1 → n + m ≤ 1000000 → ∀ Q : Bool → Hp → Prop, (∀ k G2 H2, P k → Stp G1 (hds us H1) G2 (hds us H2) → J (n + m) G2 H2 → Q k H2) → wpT X c σ H1 Q
def IntP (p : Int → Prop) : Dt → Prop := fun d => ∃ i, d = .int i ∧ p i
/-- R: for which arguments what is given -/
def PuJ (K : PySem.W.Frag) (us : List Addr) (J : Nat → Hp → Hp → Prop) (m : Nat) (R : List Dt → (Dt → Prop) → Prop) : Sp := fun vs H Q _ => ∃ G ds P n, Ex G (hds us H) ∧ J n G H ∧ n + m ≤ 1000000 ∧ Reps K G vs ds ∧ R ds P ∧
  ∀ v d G2 H2, P d → Stp G (hds us H) G2 (hds us H2) → J (n + m) G2 H2 → Rep K G2 v d → Q v H2
section
variable {X : Cx} {us : List Addr} {J : Nat → Hp → Hp → Prop} {σ : L2.St} {G0 H0 G Hh H G1 H1 : Hp} {d d1 d2 : Dt} {ds ds1 ds2 : List Dt} {dss : List (Option Dt)} {ow : List (Addr × List Dt)} {a b c e : Expr} {es : List Expr} {pos p : Pos} {k : Bool} {D : Ends} {rest body : List Stmt} {m m1 m2 n j0 : Nat} {P P1 P2 : Dt → Prop} {PA PB : List Dt → Prop}
/-- a plain step taken where hidden things stand -/
theorem pure_stp (ok : HidOk us J) (s : Stp G Hh G1 (hds us H1)) (hj : J n G1 H1) {G2 H2 : Hp} (s2 : Stp G H1 G2 H2) : Stp G1 (hds us H1) (uni G1 G2) (hds us H2) ∧ Ex G2 (uni G1 G2) ∧ J n (uni G1 G2) H2 := by
  have hn := ok.at_ hj
  have sh := s2.hids (us := us) fun a h => ⟨s.g.back (hn a h).1, (hn a h).2⟩
  obtain ⟨j, e⟩ := s.join sh
  exact ⟨j, e, ok.stp hj (fun a h => same_ex s2.h (hn a h).2) (fun a o h _ _ => s2.h a o h) j.g fun a h => j.gh.back (hds_in h)⟩
theorem step_j (ok : HidOk us J) (hj : J n G H) {G2 H2 : Hp} (s2 : Stp G H G2 H2) : Stp G (hds us H) G2 (hds us H2) ∧ J n G2 H2 :=
  have sh := s2.hids (us := us) (ok.at_ hj)
  ⟨sh, ok.stp hj (fun a h => same_ex s2.h (ok.at_ hj a h).2) (fun a o h _ _ => s2.h a o h) s2.g fun a h => sh.gh.back (hds_in h)⟩
theorem ru_pure (ok : HidOk us J) (h : Rn X e σ G Hh d) (hP : P d) : RnU X us J e σ G Hh 0 P := fun G1 H1 n s hj hn Q q =>
  h H1 (s.h.trans hds_ex) _ fun v G2 H2 s2 r => by
    obtain ⟨t, u, j⟩ := pure_stp ok s hj s2
    exact q v d _ H2 hP t j (r.ex u)
theorem rua_pure (ok : HidOk us J) (h : RnA X es σ G Hh ds) (hP : PA ds) : RnUA X us J es σ G Hh 0 PA := fun G1 H1 n s hj hn Q q =>
  h H1 (s.h.trans hds_ex) _ fun v G2 H2 s2 r => by
    obtain ⟨t, u, j⟩ := pure_stp ok s hj s2
    exact q v ds _ H2 hP t j (r.ex u)
theorem rtu_pure (ok : HidOk us J) {PB : Bool → Prop} (h : RnT X e σ G Hh k) (hP : PB k) : RtU X us J e σ G Hh 0 PB := fun G1 H1 n s hj hn Q q =>
  h H1 (s.h.trans hds_ex) _ fun G2 H2 s2 => by
    obtain ⟨t, u, j⟩ := pure_stp ok s hj s2
    exact q k _ H2 hP t j
theorem ruo_pure (ok : HidOk us J) (h : RnO X e σ G Hh ds) (hP : PA ds) : RnUO X us J e σ G Hh 0 PA := fun G1 H1 n s hj hn Q q =>
  h H1 (s.h.trans hds_ex) _ fun l vs G2 H2 s2 n1 n2 hl r => by
    obtain ⟨t, u, j⟩ := pure_stp ok s hj s2
    have hl1 : H1 l = none := n1
    have hG1 : G1 l = none := by
      cases z : G1 l with
      | none => rfl
      | some o =>
        have := hds_ex _ _ (s.gh l o z)
        rw [hl1] at this
        cases this
    exact q l vs ds _ H2 hP t hl1 (uni_none hG1 n2) hl j (r.ex u)
theorem ru_imp (h : RnU X us J e σ G Hh m P1) (hP : ∀ d, P1 d → P d) : RnU X us J e σ G Hh m P := fun G1 H1 n s hj hn Q q => h G1 H1 n s hj hn Q fun v d G2 H2 hd => q v d G2 H2 (hP d hd)
theorem ru_le (ok : HidOk us J) (h : RnU X us J e σ G Hh m1 P) (hm : m1 ≤ m) : RnU X us J e σ G Hh m P := fun G1 H1 n s hj hn Q q => h G1 H1 n s hj (by omega) Q fun v d G2 H2 hd t j => q v d G2 H2 hd t (ok.mono j (by omega))
theorem rua_one (h : RnU X us J a σ G Hh m P) (hP : ∀ d, P d → PA [d]) (he : starEach [a] X.env = (false, eval a X.env) :: starEach [] X.env := by rfl) : RnUA X us J [a] σ G Hh m PA := fun G1 H1 n s hj hn Q q =>
  wpA_of (pa_cons pe_wp pa_nil he) (h G1 H1 n s hj hn _ fun v d G2 H2 hd t j r => q [v] [d] G2 H2 (hP d hd) t j (Reps.one r))
theorem rua_cons (h : RnU X us J a σ G Hh m1 P1) (hr : RnUA X us J es σ G Hh m2 PB) (hP : ∀ d ds, P1 d → PB ds → PA (d :: ds)) (he : starEach (a :: es) X.env = (false, eval a X.env) :: starEach es X.env := by rfl) : RnUA X us J (a :: es) σ G Hh (m1 + m2) PA := fun G1 H1 n s hj hn Q q =>
  wpA_of (pa_cons pe_wp pa_wp he) (h G1 H1 n s hj (by omega) _ fun v d G2 H2 hd t j r => hr G2 H2 (n + m1) (s.trans t) j (by omega) _ fun vs ds G3 H3 hpd t3 j3 rs => q (v :: vs) (d :: ds) G3 H3 (hP d ds hd hpd) (t.trans t3) (by rw [← Nat.add_assoc]; exact j3) ⟨r.ex t3.g, rs⟩)
/-- a call of a def that works on hidden things: fewer of them than here -/
theorem ru_call {x : Str} {us0 : List Addr} {J0 : Nat → Hp → Hp → Prop} {R : List Dt → (Dt → Prop) → Prop} {k0 : Nat} (ok : HidOk us J) (hsub : ∀ a ∈ us0, a ∈ us) (h0 : ∀ {n G H}, J n G H → J0 n G H)
    (h1 : ∀ {n G H G2 H2}, J n G H → J0 (n + m) G2 H2 → Ex (hds us0 H) (hds us0 H2) → Ex G G2 → (∀ a ∈ us, G2 a = none) → J (n + m) G2 H2)
    (c : C8.Cal X.prog X.w X.K X.mg X.base k0 x (PuJ X.K us0 J0 m R) []) (hr : Room j0 X.A) (hk : k0 ≤ j0) (hg : Gl X x) (ha : RnUA X us J (e :: es) σ G Hh m1 PA) (hR : ∀ ds, PA ds → R ds P)
    (hdb : (x == ("__debug__" : Str)) = false := by decide) (he : starEach (e :: es) X.env = (false, eval e X.env) :: starEach es X.env := by rfl) (hpl : (backTo pos (starEach es X.env)).any (·.1) = false := by rfl) : RnU X us J (.Call (.Name x p) (e :: es) [] pos) σ G Hh (m1 + m) P := fun G1 H1 n s hj hn Q q =>
  wpE_of (C8.pe_c c hr hk hg pa_wp hdb he hpl) (ha G1 H1 n s hj (by omega) _ fun vs ds G2 H2 hpd t j rs => by
    have e0 : Ex G2 (hds us0 H2) := fun a o h => by
      have h2 := t.gh a o h
      have h3 := hds_some h2
      rw [hds_out h3] at h2
      rw [hds_out (fun z => h3 (hsub a z))]
      exact h2
    refine ⟨G2, ds, P, n + m1, e0, h0 j, by omega, by rw [List.append_nil]; exact rs, hR ds hpd, fun v d G3 H3 hd t3 j3 r => ?_⟩
    have hn2 := ok.at_ j
    have key : ∀ a ∈ us, G3 a = none := fun a h => by
      by_cases z : a ∈ us0
      · exact t3.gh.back (hds_in z)
      · exact t3.new a (hn2 a h).1 (by rw [hds_out z]; exact (hn2 a h).2)
    have t4 : Stp G2 (hds us H2) G3 (hds us H3) := ⟨fun a o h => by
      have h3 := hds_some h
      rw [hds_out h3] at h ⊢
      have := t3.h a o (by rw [hds_out (fun z => h3 (hsub a z))]; exact h)
      exact hds_ex _ _ this, t3.g, fun a o h => by
      have z : a ∉ us := fun z => by
        rw [key a z] at h
        cases h
      rw [hds_out z]
      exact hds_ex _ _ (t3.gh a o h), fun a h q0 => by
      refine t3.new a h fun z => q0 ?_
      by_cases y : a ∈ us
      · exact hds_in y
      · rw [hds_out (fun w => y (hsub a w))] at z
        rw [hds_out y]
        exact z⟩
    exact q v d G3 H3 hd (t.trans t4) (by rw [← Nat.add_assoc]; exact h1 j j3 t3.h t3.g key) r)
/-- a call of a plain def -/
theorem ru_c0 {x : Str} {R : List Dt → Dt → Prop} {k0 : Nat} (ok : HidOk us J) (c : C8.Cal X.prog X.w X.K X.mg X.base k0 x (Pu X.K R) []) (hr : Room j0 X.A) (hk : k0 ≤ j0) (hg : Gl X x) (ha : RnUA X us J (e :: es) σ G Hh m PA) (hR : ∀ ds, PA ds → ∃ d, R ds d ∧ P d)
    (hdb : (x == ("__debug__" : Str)) = false := by decide) (he : starEach (e :: es) X.env = (false, eval e X.env) :: starEach es X.env := by rfl) (hpl : (backTo pos (starEach es X.env)).any (·.1) = false := by rfl) : RnU X us J (.Call (.Name x p) (e :: es) [] pos) σ G Hh m P := fun G1 H1 n s hj hn Q q =>
  wpE_of (C8.pe_c c hr hk hg pa_wp hdb he hpl) (ha G1 H1 n s hj hn _ fun vs ds G2 H2 hpd t j rs => by
    obtain ⟨d, hd, hp⟩ := hR ds hpd
    refine ⟨G2, ds, d, t.gh.trans hds_ex, by rw [List.append_nil]; exact rs, hd, fun v G3 H3 s3 r => ?_⟩
    obtain ⟨t3, j3⟩ := step_j ok j s3
    exact q v d G3 H3 hp (t.trans t3) j3 r)
/-- a class made -/
theorem ru_m0 {x : Str} {cl : Cl} {R : List Dt → List Dt → Prop} {k0 : Nat} (ok : HidOk us J) (c : C8.Mak X.prog X.w X.K X.mg X.base k0 x (cl.ad X.K) (Ini X.K cl R) []) (hr : Room j0 X.A) (hk : k0 + 1 ≤ j0) (hg : Gl X x) (ha : RnUA X us J (e :: es) σ G Hh m PA) (hR : ∀ ds, PA ds → ∃ fs, R ds fs ∧ P (.obj cl fs))
    (hdb : (x == ("__debug__" : Str)) = false := by decide) (he : starEach (e :: es) X.env = (false, eval e X.env) :: starEach es X.env := by rfl) (hpl : (backTo pos (starEach es X.env)).any (·.1) = false := by rfl) : RnU X us J (.Call (.Name x p) (e :: es) [] pos) σ G Hh m P := fun G1 H1 n s0 hj hn Q q =>
  wpE_of (C8.pe_mk c hr hk hg pa_wp hdb he hpl) (ha G1 H1 n s0 hj hn _ fun vs ds G2 H2 hpd t j rs => by
    obtain ⟨fs, hR, hp⟩ := hR ds hpd
    intro y dy ny ndy ne
    have s : Stp G2 H2 G2 H2 := Stp.refl (t.gh.trans hds_ex)
    have nyd : y ≠ dy := fun z => ne z.symm
    have e2 : Ex H2 (upd (upd H2 dy (.own y)) y (.ins (cl.ad X.K) dy [])) := (Ex.new ndy).trans (Ex.new (by rw [upd_ne nyd]; exact ny))
    refine ⟨G2, y, dy, vs ++ [], ds, fs, rfl, s.gh.trans e2, s.gh.back ny, s.gh.back ndy, upd_same, by rw [upd_ne ne, upd_same]; simp, by rw [List.append_nil]; exact rs, hR, fun G3 H3 ws s3 h3 hl r3 => ⟨rfl, ?_⟩⟩
    have n3 : G3 y = none := s3.gh.back hide_same
    have e3 : Ex H2 H3 := fun a u h => by
      have z : a ≠ y := ne_of_none h ny
      have h1 := s3.h a u (by rw [hide_ne z]; exact e2 a u h)
      rw [hide_ne z] at h1
      exact h1
    have t5 : Stp G2 H2 (upd G3 y (.ins (cl.ad X.K) dy (cl.fl.zip ws))) H3 := ⟨e3, s3.g.trans (Ex.new n3), fun a u h => by
      by_cases z : a = y
      · subst z
        rw [upd_same] at h
        rw [h3]
        exact h
      · rw [upd_ne z] at h
        exact hide_ex _ _ _ _ (s3.gh a u h), fun a h n => by
      have z : a ≠ y := fun z => n (by rw [z]; exact ny)
      rw [upd_ne z]
      refine s3.new a h ?_
      rw [hide_ne z]
      cases q : H2 a with
      | none => exact absurd q n
      | some u =>
        rw [e2 a u q]
        simp⟩
    obtain ⟨t6, j6⟩ := step_j ok j t5
    exact q _ (.obj cl fs) _ H3 hp (t.trans t6) j6 ⟨y, dy, ws, rfl, upd_same, hl, r3.ex (Ex.new n3)⟩)
theorem ru_opI {op : Operator} {g : Int → Int → Int} {p1 p2 p3 : Int → Prop} (ho : OpR X (binaryOp op) (rI0 fun i j => .int (g i j))) (ha : RnU X us J a σ G Hh m1 (IntP p1)) (hb : RnU X us J b σ G Hh m2 (IntP p2)) (hg : ∀ i j, p1 i → p2 j → p3 (g i j)) : RnU X us J (.BinOp a op b pos) σ G Hh (m1 + m2) (IntP p3) := fun G1 H1 n s hj hn Q q =>
  wpE_of (pe_op ho pe_wp pe_wp) (ha G1 H1 n s hj (by omega) _ fun v d G2 H2 ⟨i, hi, pi⟩ t j r => hb G2 H2 (n + m1) (s.trans t) j (by omega) _ fun v2 d2 G3 H3 ⟨i2, hi2, pi2⟩ t3 j3 r3 => by
    subst hi hi2
    exact ⟨i, i2, r, r3, q _ (.int (g i i2)) G3 H3 ⟨_, rfl, hg i i2 pi pi2⟩ (t.trans t3) (by rw [← Nat.add_assoc]; exact j3) rfl⟩)
theorem ru_ixT (ha : Rn X a σ G Hh (.tup ds)) (hb : RnU X us J b σ G Hh m (IntP fun i => 0 ≤ i ∧ i < ds.length)) (ok : HidOk us J) (hs : PlainIx b := by intro _ _; rfl) : RnU X us J (.Subscript a b pos) σ G Hh m (· ∈ ds) := fun G1 H1 n s hj hn Q q =>
  wpE_of (pe_ix ix_tup pe_wp pe_wp hs) (ru_pure (P := (· = .tup ds)) ok ha rfl G1 H1 n s hj (by omega) _ fun v d G2 H2 ed t j r => hb G2 H2 n (s.trans t) j hn _ fun v2 d2 G3 H3 ⟨i, hi, h0, hl⟩ t3 j3 r3 => by
    subst ed hi
    obtain ⟨l, xs, rfl, hx, rs⟩ := r.ex t3.g
    have lt : i.toNat < ds.length := by omega
    have ei : atI ds i = some ds[i.toNat] := by
      unfold atI ixN
      rw [if_pos h0, if_pos hl]
      exact List.getElem?_eq_getElem lt
    obtain ⟨v, e1, rv⟩ := atI_get rs ei
    exact ⟨l, xs, i, v, rfl, r3, sqT_ex (t3.gh.trans hds_ex) hx, e1, q v _ G3 H3 (List.getElem_mem lt) (t.trans t3) j3 rv⟩)
theorem ru_ixL (ha : Rn X a σ G Hh (.lst ds)) (hb : RnU X us J b σ G Hh m (IntP fun i => 0 ≤ i ∧ i < ds.length)) (ok : HidOk us J) (hs : PlainIx b := by intro _ _; rfl) : RnU X us J (.Subscript a b pos) σ G Hh m (· ∈ ds) := fun G1 H1 n s hj hn Q q =>
  wpE_of (pe_ix ix_list pe_wp pe_wp hs) (ru_pure (P := (· = .lst ds)) ok ha rfl G1 H1 n s hj (by omega) _ fun v d G2 H2 ed t j r => hb G2 H2 n (s.trans t) j hn _ fun v2 d2 G3 H3 ⟨i, hi, h0, hl⟩ t3 j3 r3 => by
    subst ed hi
    obtain ⟨l, xs, rfl, hx, rs⟩ := r.ex t3.g
    have lt : i.toNat < ds.length := by omega
    have ei : atI ds i = some ds[i.toNat] := by
      unfold atI ixN
      rw [if_pos h0, if_pos hl]
      exact List.getElem?_eq_getElem lt
    obtain ⟨v, e1, rv⟩ := atI_get rs ei
    exact ⟨l, xs, i, v, rfl, r3, sqL_ex (t3.gh.trans hds_ex) hx, e1, q v _ G3 H3 (List.getElem_mem lt) (t.trans t3) j3 rv⟩)
theorem ru_if (ok : HidOk us J) (hc : RnT X c σ G Hh k) (h1 : k = true → RnU X us J a σ G Hh m P) (h2 : k = false → RnU X us J b σ G Hh m P) : RnU X us J (.IfExp c a b pos) σ G Hh m P := fun G1 H1 n s hj hn Q q =>
  wpE_of (pe_ifExp pt_wp pe_wp pe_wp) (rtu_pure (PB := (· = k)) ok hc rfl G1 H1 n s hj (by omega) _ fun k' G2 H2 ek t j => by
    subst ek
    cases k' with
    | true => exact iteT (h1 rfl G2 H2 n (s.trans t) j hn _ fun v d G3 H3 hd t3 j3 r => q v d G3 H3 hd (t.trans t3) j3 r)
    | false => exact iteF (h2 rfl G2 H2 n (s.trans t) j hn _ fun v d G3 H3 hd t3 j3 r => q v d G3 H3 hd (t.trans t3) j3 r))
theorem ru_cb {x : Str} {id : String} {r : List V → Hp → VK → Prop} (hc : CallR X (.builtin id) r) (f : Free X x) (hv : bootBuiltins x = some (.builtin id)) (ha : RnUA X us J (e :: es) σ G Hh m PA) (hr : ∀ ds, PA ds → ∃ d, P d ∧ ∀ vs G2 H2, Ex G2 H2 → Reps X.K G2 vs ds → ∀ Q : VK, (∀ v, Rep X.K G2 v d → Q v H2) → r vs H2 Q)
    (hn : x ≠ "__name__" := by decide) (hdb : (x == ("__debug__" : Str)) = false := by decide) (he : starEach (e :: es) X.env = (false, eval e X.env) :: starEach es X.env := by rfl) (hpl : (backTo pos (starEach es X.env)).any (·.1) = false := by rfl) : RnU X us J (.Call (.Name x p) (e :: es) [] pos) σ G Hh m P := fun G1 H1 n s hj hn0 Q q =>
  wpE_of (pe_callB hc f.g f.m hv pa_wp (hn := hn) (hdb := hdb) (he := he) (hpl := hpl)) (ha G1 H1 n s hj hn0 _ fun vs ds G2 H2 hpd t j rs => by
    obtain ⟨d, hd, k⟩ := hr ds hpd
    exact k vs G2 H2 (t.gh.trans hds_ex) rs Q fun v rv => q v d G2 H2 hd t j rv)
/-- tests -/
theorem rtu_cmpI {op : CmpOp} {g : Int → Int → Bool} {p1 p2 : Int → Prop} (ho : OpR X (compareOp op) (rI0 fun i j => .bl (g i j))) (hm : behindInMarks op b = false) (ha : RnU X us J a σ G Hh m1 (IntP p1)) (hb : RnU X us J b σ G Hh m2 (IntP p2)) : RtU X us J (.Compare a [op] [b] pos) σ G Hh (m1 + m2) (fun _ => True) := fun G1 H1 n s hj hn Q q =>
  wpT_of (pt_cmpR ho pe_wp pe_wp hm) (ha G1 H1 n s hj (by omega) _ fun v d G2 H2 ⟨i, hi, pi⟩ t j r => hb G2 H2 (n + m1) (s.trans t) j (by omega) _ fun v2 d2 G3 H3 ⟨i2, hi2, pi2⟩ t3 j3 r3 => by
    subst hi hi2
    exact ⟨i, i2, r, r3, g i i2, rfl, q _ G3 H3 True.intro (t.trans t3) (by rw [← Nat.add_assoc]; exact j3)⟩)
theorem rtu_eqI {i0 : Int} {p1 : Int → Prop} (ok : HidOk us J) (ha : RnU X us J a σ G Hh m (IntP p1)) (hb : Rn X b σ G Hh (.int i0)) : RtU X us J (.Compare a [.Eq] [b] pos) σ G Hh m (fun _ => True) := fun G1 H1 n s hj hn Q q => by
  have hb := ru_pure (us := us) (J := J) (P := (· = .int i0)) ok hb rfl
  exact wpT_of (pt_cmpR op_eq pe_wp pe_wp (nomark _)) (ha G1 H1 n s hj hn _ fun v d G2 H2 ⟨i, hi, pi⟩ t j r => hb G2 H2 (n + m) (s.trans t) j hn _ fun v2 d2 G3 H3 e2 t3 j3 r3 => by
    subst hi e2
    have e1 : v = .int i := r
    have e3 : v2 = .int i0 := r3
    subst e1 e3
    exact ⟨rfl, _, rfl, q _ G3 H3 True.intro (t.trans t3) j3⟩)
theorem rtu_and {PB : Bool → Prop} (ok : HidOk us J) (ha : RtU X us J a σ G Hh m (fun _ => True)) (hb : RnT X b σ G Hh k) (hP : ∀ k', PB (k' && k)) : RtU X us J (.BoolOp .And [a, b] pos) σ G Hh m PB := fun G1 H1 n s hj hn Q q => by
  have hw : wpW X (.BoolOp .And [a, b] pos) σ H1 Q := wpW_of (pw_and pt_wp (pw_and1 pt_wp)) (ha G1 H1 n s hj hn _ fun k1 G2 H2 _ t j => by
    cases k1 with
    | true => exact iteT (rtu_pure (PB := (· = k)) ok hb rfl G2 H2 (n + m) (s.trans t) j hn _ fun k2 G3 H3 e3 t3 j3 => by
        subst e3
        exact q _ G3 H3 (hP true) (t.trans t3) j3)
    | false => exact iteF (q false G2 H2 (hP false) t j))
  exact fun pins s1 I => hw _ pins s1 I
theorem rtu_not {PB PC : Bool → Prop} (ha : RtU X us J a σ G Hh m PC) (hP : ∀ k', PC k' → PB (!k')) : RtU X us J (.UnaryOp .Not a pos) σ G Hh m PB := fun G1 H1 n s hj hn Q q => wpT_of (pt_not pt_wp) (ha G1 H1 n s hj hn _ fun k G2 H2 hk t j => q _ G2 H2 (hP k hk) t j)
theorem rtu_v {PB : Bool → Prop} (ha : RnU X us J a σ G Hh m (fun d => ∃ k, d = .bl k ∧ PB k)) (he : ∀ whole, isTrue a X.env whole = (do let v ← whole; standAt a.pos; holding [v] (truthy v)) := by intro _; rfl) : RtU X us J a σ G Hh m PB := fun G1 H1 n s hj hn Q q =>
  wpT_of (pt_val pe_wp he) (ha G1 H1 n s hj hn _ fun v d G2 H2 ⟨k, ed, hk⟩ t j r => by
    subst ed
    exact ⟨k, r, q k G2 H2 hk t j⟩)
end
end Y
set_option Elab.async false
set_option linter.all false
set_option maxRecDepth 100000
set_option maxHeartbeats 4000000
/-! Lay24: statements where hidden things stand. -/
namespace Y
open PySem PySem.Spec PyProof.Rows L2
structure StJ (K : PySem.W.Frag) (us : List Addr) (J : Nat → Hp → Hp → Prop) (n : Nat) (G0 H0 : Hp) (dss : List (Option Dt)) (ow : List (Addr × List Dt)) (σ : L2.St) (G H : Hp) : Prop where
  b : Sta K G0 H0 dss ow σ G (hds us H)
  j : J n G H
section
variable {X : Cx} {us : List Addr} {J : Nat → Hp → Hp → Prop} {σ : L2.St} {G0 H0 G Hh H G1 H1 : Hp} {d d1 d2 : Dt} {ds ds1 ds2 : List Dt} {dss : List (Option Dt)} {ow : List (Addr × List Dt)} {a b c e tg iter : Expr} {es : List Expr} {pos p tp : Pos} {k : Bool} {D : Ends} {rest body orelse : List Stmt} {m m1 m2 n j0 : Nat} {P P1 P2 : Dt → Prop} {PA PB : List Dt → Prop}
theorem StJ.ex {K : PySem.W.Frag} (s : StJ K us J n G0 H0 dss ow σ G H) : Ex G H := s.b.ex.trans hds_ex
theorem StJ.mono {K : PySem.W.Frag} (s : StJ K us J n G0 H0 dss ow σ G H) (ok : HidOk us J) (h : n ≤ m) : StJ K us J m G0 H0 dss ow σ G H := ⟨s.b, ok.mono s.j h⟩
theorem StJ.stp {K : PySem.W.Frag} {G2 H2 : Hp} (s : StJ K us J n G0 H0 dss ow σ G H) (t : Stp G (hds us H) G2 (hds us H2)) (j : J m G2 H2) : StJ K us J m G0 H0 dss ow σ G2 H2 := ⟨s.b.stp t, j⟩
theorem su_let {i : Nat} {x : Str} {pos' : Pos} (s : StJ X.K us J n G0 H0 dss ow σ G H) (h : RnU X us J e σ G (hds us H) m P) (hn : n + m ≤ 1000000) (q : ∀ d σ2 G2 H2, P d → StJ X.K us J (n + m) G0 H0 (dss.set i (some d)) ow σ2 G2 H2 → wpB X rest D σ2 H2) (hN : X.N.Nodup := by exact of_decide_eq_true (by kernel_rfl)) (hi : X.N[i]? = some x := by rfl) (hx : Loc X.env.scope x := by first | exact .inl rfl | exact .inr rfl)
    (hs : swapsWith e (some (.Name x pos')) pos.line X.env = pure false := by rfl) (hf : X.fn x = true ∨ X.env.scope.names.lookup x = some .local := by first | exact .inl rfl | exact .inr rfl) : wpB X (.Assign [.Name x pos'] e pos :: rest) D σ H :=
  wb_cons (wpS_of (ps_set hN hi hx pe_wp hs hf) (h G H n (Stp.refl s.b.ex) s.j hn _ fun v d G2 H2 hd t j r => q d _ G2 H2 hd ⟨⟨s.b.st.trans t, (s.b.env.ex t.g).set i r, fun p hp => (s.b.own p hp).stp t, s.b.nd⟩, j⟩))
theorem su_tg {up : Dt → List (Option Dt) → List (Option Dt)} {is : List Nat} (s : StJ X.K us J n G0 H0 dss ow σ G H) (h : RnU X us J e σ G (hds us H) m P) (hn : n + m ≤ 1000000) (ht : ∀ d, P d → TgOk X tg d (up d) is) (q : ∀ d σ2 G2 H2, P d → StJ X.K us J (n + m) G0 H0 (up d dss) ow σ2 G2 H2 → wpB X rest D σ2 H2)
    (hs : swapsWithSole [tg] e pos.line X.env = pure false := by rfl) (hw : swappedStores [tg] e X.env = pure none := by rfl) (h1 : (assignEach [tg] X.env).map (·.2) = [assign tg X.env] := by rfl) : wpB X (.Assign [tg] e pos :: rest) D σ H :=
  wb_cons (wpS_of (ps_asg pe_wp pg_wp hs hw h1) (h G H n (Stp.refl s.b.ex) s.j hn _ fun v d G2 H2 hd t j r => ht d hd σ G2 H2 v (t.gh.trans hds_ex) r _ fun σ2 l2 a2 k2 => q d σ2 G2 H2 hd ⟨⟨s.b.st.trans t, k2 _ (s.b.env.ex t.g), fun p hp => (s.b.own p hp).stp t, s.b.nd⟩, j⟩))
theorem reps3 {K : PySem.W.Frag} {vs : List V} {d3 : Dt} (r : Reps K G vs [d1, d2, d3]) : ∃ u v w, vs = [u, v, w] ∧ Rep K G u d1 ∧ Rep K G v d2 ∧ Rep K G w d3 := by
  match vs, r with
  | [u, v, w], ⟨r1, r2, r3, _⟩ => exact ⟨u, v, w, rfl, r1, r2, r3⟩
/-- x, y = a, b -/
theorem su_par {i j : Nat} {x y : Str} {px py pt : Pos} {kt k2 pt2} (s : StJ X.K us J n G0 H0 dss ow σ G H) (h : RnUA X us J [a, b] σ G (hds us H) m (fun ds => ∃ d1 d2, ds = [d1, d2] ∧ P1 d1 ∧ P2 d2)) (hn : n + m ≤ 1000000)
    (q : ∀ d1 d2 σ2 G2 H2, P1 d1 → P2 d2 → StJ X.K us J (n + m) G0 H0 ((dss.set i (some d1)).set j (some d2)) ow σ2 G2 H2 → wpB X rest D σ2 H2) (hij : i ≠ j := by decide) (hc : X.calm = true := by rfl) (hN : X.N.Nodup := by exact of_decide_eq_true (by kernel_rfl)) (hi : X.N[i]? = some x := by rfl) (hj : X.N[j]? = some y := by rfl)
    (hx : X.env.scope.names.lookup x = some .local := by rfl) (hy : X.env.scope.names.lookup y = some .local := by rfl)
    (hw : swappedStores [.Tuple [.Name x px, .Name y py] kt pt] (.Tuple [a, b] k2 pt2) X.env = pure (some [x, y]) := by rfl)
    (hs : swapsWithSole [.Tuple [.Name x px, .Name y py] kt pt] (.Tuple [a, b] k2 pt2) pos.line X.env = pure false := by rfl) :
    wpB X (.Assign [.Tuple [.Name x px, .Name y py] kt pt] (.Tuple [a, b] k2 pt2) pos :: rest) D σ H :=
  wb_cons (wpS_of (ps_par hc hN hi hj hij hx hy pa_wp hw hs) (h G H n (Stp.refl s.b.ex) s.j hn _ fun vs ds G2 H2 ⟨d1, d2, ed, h1, h2⟩ t j r => by
    subst ed
    obtain ⟨v, w, rfl, r1, r2⟩ := reps2 r
    exact ⟨v, w, rfl, q d1 d2 _ G2 H2 h1 h2 ⟨⟨s.b.st.trans t, ((s.b.env.ex t.g).set i r1).set _ r2, fun p hp => (s.b.own p hp).stp t, s.b.nd⟩, j⟩⟩))
/-- x, y, z = a, b, c -/
theorem su_par3 {P3 : Dt → Prop} {i j l : Nat} {x y z : Str} {px py pz pt : Pos} {kt k2 pt2} (s : StJ X.K us J n G0 H0 dss ow σ G H) (h : RnUA X us J [a, b, c] σ G (hds us H) m (fun ds => ∃ d1 d2 d3, ds = [d1, d2, d3] ∧ P1 d1 ∧ P2 d2 ∧ P3 d3)) (hn : n + m ≤ 1000000)
    (q : ∀ d1 d2 d3 σ2 G2 H2, P1 d1 → P2 d2 → P3 d3 → StJ X.K us J (n + m) G0 H0 (((dss.set i (some d1)).set j (some d2)).set l (some d3)) ow σ2 G2 H2 → wpB X rest D σ2 H2) (hij : i ≠ j := by decide) (hil : i ≠ l := by decide) (hjl : j ≠ l := by decide) (hc : X.calm = true := by rfl) (hN : X.N.Nodup := by exact of_decide_eq_true (by kernel_rfl)) (hi : X.N[i]? = some x := by rfl) (hj : X.N[j]? = some y := by rfl) (hl : X.N[l]? = some z := by rfl)
    (hx : X.env.scope.names.lookup x = some .local := by rfl) (hy : X.env.scope.names.lookup y = some .local := by rfl) (hz : X.env.scope.names.lookup z = some .local := by rfl)
    (hw : swappedStores [.Tuple [.Name x px, .Name y py, .Name z pz] kt pt] (.Tuple [a, b, c] k2 pt2) X.env = pure (some [x, y, z]) := by rfl)
    (hs : swapsWithSole [.Tuple [.Name x px, .Name y py, .Name z pz] kt pt] (.Tuple [a, b, c] k2 pt2) pos.line X.env = pure false := by rfl) :
    wpB X (.Assign [.Tuple [.Name x px, .Name y py, .Name z pz] kt pt] (.Tuple [a, b, c] k2 pt2) pos :: rest) D σ H :=
  wb_cons (wpS_of (ps_par3 hc hN hi hj hl hij hil hjl hx hy hz pa_wp hw hs) (h G H n (Stp.refl s.b.ex) s.j hn _ fun vs ds G2 H2 ⟨d1, d2, d3, ed, h1, h2, h3⟩ t j r => by
    subst ed
    obtain ⟨u, v, w, rfl, r1, r2, r3⟩ := reps3 r
    exact ⟨u, v, w, rfl, q d1 d2 d3 _ G2 H2 h1 h2 h3 ⟨⟨s.b.st.trans t, (((s.b.env.ex t.g).set i r1).set _ r2).set _ r3, fun p hp => (s.b.own p hp).stp t, s.b.nd⟩, j⟩⟩))
theorem su_if {PB : Bool → Prop} (s : StJ X.K us J n G0 H0 dss ow σ G H) (h : RtU X us J c σ G (hds us H) m PB) (hn : n + m ≤ 1000000) (h1 : PB true → ∀ G2 H2, StJ X.K us J (n + m) G0 H0 dss ow σ G2 H2 → wpB X body { D with nx := wpB X rest D } σ H2) (h2 : PB false → ∀ G2 H2, StJ X.K us J (n + m) G0 H0 dss ow σ G2 H2 → wpB X orelse { D with nx := wpB X rest D } σ H2) : wpB X (.If c body orelse pos :: rest) D σ H :=
  wb_cons (wpS_of (ps_if pt_wp pb_wp pb_wp) (h G H n (Stp.refl s.b.ex) s.j hn _ fun k G2 H2 hk t j => by
    cases k with
    | true => exact iteT (h1 hk G2 H2 (s.stp t j))
    | false => exact iteF (h2 hk G2 H2 (s.stp t j))))
/-- a test of plain data -/
theorem su_ifP (ok : HidOk us J) (s : StJ X.K us J n G0 H0 dss ow σ G H) (h : RnT X c σ G (hds us H) k) (hn : n ≤ 1000000) (h1 : k = true → ∀ G2 H2, StJ X.K us J n G0 H0 dss ow σ G2 H2 → wpB X body { D with nx := wpB X rest D } σ H2) (h2 : k = false → ∀ G2 H2, StJ X.K us J n G0 H0 dss ow σ G2 H2 → wpB X orelse { D with nx := wpB X rest D } σ H2) : wpB X (.If c body orelse pos :: rest) D σ H :=
  su_if (PB := (· = k)) s (rtu_pure ok h rfl) hn (fun e => h1 e.symm) fun e => h2 e.symm
theorem su_skip (ok : HidOk us J) (s : StJ X.K us J n G0 H0 dss ow σ G H) (h : RnT X c σ G (hds us H) false) (hn : n ≤ 1000000) (q : ∀ G2 H2, StJ X.K us J n G0 H0 dss ow σ G2 H2 → wpB X rest D σ H2) : wpB X (.If c body [] pos :: rest) D σ H :=
  su_ifP ok s h hn (fun z => Bool.noConfusion z) fun _ G2 H2 st => wb_nil (q G2 H2 st)
theorem su_ret (s : StJ X.K us J n G0 H0 dss ow σ G H) (h : RnU X us J e σ G (hds us H) m P) (hn : n + m ≤ 1000000) (q : ∀ v d G2 H2, P d → Stp G0 H0 G2 (hds us H2) → J (n + m) G2 H2 → Rep X.K G2 v d → D.rt v H2) : wpB X (.Return (some e) pos :: rest) D σ H :=
  wb_cons (wpS_of (ps_ret pe_wp) (h G H n (Stp.refl s.b.ex) s.j hn _ fun v d G2 H2 hd t j r => q v d G2 H2 hd (s.b.st.trans t) j r))
/-- x = e, e a new list -/
theorem su_letO {i : Nat} {x : Str} {pos' : Pos} (ok : HidOk us J) (s : StJ X.K us J n G0 H0 dss ow σ G H) (h : RnUO X us J e σ G (hds us H) m PA) (hn : n + m ≤ 1000000) (q : ∀ l ds σ2 G2 H2, PA ds → StJ X.K us J (n + m) G0 H0 (dss.set i (some (.adr l))) (ow ++ [(l, ds)]) σ2 G2 H2 → wpB X rest D σ2 H2) (hN : X.N.Nodup := by exact of_decide_eq_true (by kernel_rfl)) (hi : X.N[i]? = some x := by rfl) (hx : Loc X.env.scope x := by first | exact .inl rfl | exact .inr rfl)
    (hs : swapsWith e (some (.Name x pos')) pos.line X.env = pure false := by rfl) (hf : X.fn x = true ∨ X.env.scope.names.lookup x = some .local := by first | exact .inl rfl | exact .inr rfl) : wpB X (.Assign [.Name x pos'] e pos :: rest) D σ H :=
  wb_cons (wpS_of (ps_set hN hi hx pe_wp hs hf) (h G H n (Stp.refl s.b.ex) s.j hn _ fun l vs ds G2 H2 hd t n1 n2 hl j r => q l ds _ G2 H2 hd ⟨by
    have lu : l ∉ us := fun z => (ok.at_ s.j l z).2 n1
    have n1' : hds us H l = none := by rw [hds_out lu]; exact n1
    have hl' : hds us H2 l = some (.lst vs) := by rw [hds_out lu]; exact hl
    exact s.b.fresho t n1' n2 hl' r, j⟩))
end
end Y
set_option Elab.async false
set_option linter.all false
set_option maxRecDepth 100000
set_option maxHeartbeats 4000000
/-! Lay25: comprehensions whose element works on hidden things. -/
namespace Y
open PySem PySem.Spec PyProof.Rows L2
section
variable {X : Cx} {us : List Addr} {J : Nat → Hp → Hp → Prop} {σ : L2.St} {G0 H0 G Hh H G1 H1 : Hp} {d d1 d2 : Dt} {ds ds1 ds2 : List Dt} {dss : List (Option Dt)} {ow : List (Addr × List Dt)} {a b c e elt tg iter : Expr} {es : List Expr} {pos p tp : Pos} {k : Bool} {D : Ends} {rest body orelse : List Stmt} {m mi B n j0 : Nat} {P : Dt → Prop} {pk : Int → Prop}
/-- what comes of it -/
def Lcd (pk : Int → Prop) (P : Dt → Prop) : List Dt → Prop := fun ds => pk ds.length ∧ ∀ d ∈ ds, P d
theorem lcU_t {scope : Scope} {i0 : Nat} {x : Str} {rp rpos : Pos} (ok : HidOk us J) (s : Sta X.K G0 H0 dss ow σ G Hh) (f : Free X "range") (ha : RnU X us J a σ G Hh mi (IntP pk)) (hB : ∀ k, pk k → 0 ≤ k ∧ k ≤ B) (hB2 : B ≤ 1000)
    (he : ∀ (s1 : Shared) (HH : Hp) (C : Addr) (cl : List (Str × Addr)) (fp : List Addr) (y : Int), ∀ σ' G' H', Sta (X.blk s1 HH scope (compEnvC scope cl C X.env) fp).K G0 H0 (dss.set i0 (some (.int y))) ow σ' G' H' → RnU (X.blk s1 HH scope (compEnvC scope cl C X.env) fp) us J elt σ' G' H' m P)
    (hN : X.N.Nodup) (hi : X.N[i0]? = some x) (hx : ∀ (s1 : Shared) (HH : Hp) (C : Addr) (cl : List (Str × Addr)) (fp : List Addr), (X.blk s1 HH scope (compEnvC scope cl C X.env) fp).env.scope.names.lookup x = some .local) (hs : starEach [a] X.env = [(false, eval a X.env)]) :
    ∃ wi, PI X (.Name x tp) (.Call (.Name "range" rp) [a] [] rpos) wi ∧ ∀ G1 H1 n, Stp G Hh G1 (hds us H1) → J n G1 H1 → n + (mi + B * m) ≤ 1000000 → ∀ Q : VK, (∀ l vs ds G2 H2, Lcd pk P ds → Stp G1 (hds us H1) G2 (hds us H2) → H1 l = none → G2 l = none → H2 l = some (.lst vs) → J (n + (mi + B * m)) G2 H2 → Reps X.K G2 vs ds → Q (.ref l) H2) →
      tLc wi (fun v σ H Q => ∀ (s1 : Shared) (HH : Hp) (C : Addr) (cl : List (Str × Addr)) (fp : List Addr), wpG (X.blk s1 HH scope (compEnvC scope cl C X.env) fp) (.Name x tp) v σ H Q) (fun σ H Q => ∀ (s1 : Shared) (HH : Hp) (C : Addr) (cl : List (Str × Addr)) (fp : List Addr), wpTs (X.blk s1 HH scope (compEnvC scope cl C X.env) fp) [] σ H Q) (fun σ H Q => ∀ (s1 : Shared) (HH : Hp) (C : Addr) (cl : List (Str × Addr)) (fp : List Addr), wpE (X.blk s1 HH scope (compEnvC scope cl C X.env) fp) elt σ H Q) [i0] σ H1 Q := by
  refine ⟨_, pi_range1 f.g f.m (pa_cons pe_wp pa_nil hs) hs, fun G1 H1 n s1 hj hn Q q => ?_⟩
  refine ha G1 H1 n s1 hj (by omega) _ fun v d G2 H2 ⟨kk, ek, hpk⟩ t j r => ?_
  subst ek
  obtain ⟨hk0, hkB⟩ := hB kk hpk
  refine ⟨kk, by rw [show v = V.int kk from r], by omega, by omega, fun D nD => ?_⟩
  have D2 : D ∉ us := fun z => (ok.at_ j D z).2 nD
  let N := kk.toNat
  have hNB : N ≤ B := by show kk.toNat ≤ B; omega
  refine ⟨fun i m' H' => m' = N - i ∧ i ≤ N ∧ ∃ G' acc ds, Stp G2 (hds us H2) G' (hds us H') ∧ J (n + mi + i * m) G' H' ∧ H' D = some (.lst acc) ∧ G' D = none ∧ Reps X.K G' acc ds ∧ ds.length = i ∧ ∀ d ∈ ds, P d, ⟨_, rfl, Nat.zero_le _, G2, [], [], ?_, ?_, upd_same, t.gh.trans hds_ex |>.back nD, True.intro, rfl, fun _ h => by cases h⟩, ?_⟩
  · rw [hds_set D2]
    have nD' : hds us H2 D = none := by rw [hds_out D2]; exact nD
    exact ⟨Ex.new nD', Ex.refl _, t.gh.trans (Ex.new nD'), fun _ h _ => h⟩
  · rw [Nat.zero_mul, Nat.add_zero]
    exact ok.stp j (fun a h => upd_ne fun z => D2 (by rw [← z]; exact h)) (fun a o h _ _ => by rw [upd_ne (ne_of_none h nD)]; exact h) (Ex.refl _) fun a h => (ok.at_ j a h).1
  rintro i m' H' ⟨rfl, hi', G', acc, ds, s3, j3, hD, nG, r3, hl, hP⟩
  by_cases lt : i < N
  · refine .inr ⟨lt, fun H3 => ∃ G3 acc ds, Stp G2 (hds us H2) G3 (hds us H3) ∧ J (n + mi + (i + 1) * m) G3 H3 ∧ H3 D = some (.lst acc) ∧ G3 D = none ∧ Reps X.K G3 acc ds ∧ ds.length = i + 1 ∧ ∀ d ∈ ds, P d, fun H3 h3 => ⟨N - (i + 1), by omega, rfl, by omega, h3⟩, fun x0 H4 y => ?_⟩
    obtain ⟨ex, eq⟩ := y
    subst ex eq
    intro s1' HH C cl fp
    have eGH : Ex G' H4 := s3.gh.trans hds_ex
    refine tg_name (X := X.blk s1' HH scope (compEnvC scope cl C X.env) fp) (d := .int (0 + (i : Int))) hN hi (.inl (hx s1' HH C cl fp)) (.inr (hx s1' HH C cl fp)) (wipe σ [i0]) G' H4 (.int (0 + (i : Int))) eGH rfl _ ?_
    intro σ2 l2 a2 k2
    refine ⟨?_, ?_⟩
    · have h1 : wipe σ2 [i0] = wipe (wipe σ [i0]) [i0] := wipe_set l2 _ fun i hi => a2 i hi
      rw [h1, wipe_wipe]
    · have sS : Sta X.K G0 H0 (dss.set i0 (some (.int (0 + (i : Int))))) ow σ2 G' (hds us H4) := by
        have h := s.stp ((s1.trans t).trans s3)
        have ew : (wipeD dss [i0]).set i0 (some (.int (0 + (i : Int)))) = dss.set i0 (some (.int (0 + (i : Int)))) := set_wipe
        rw [← ew]
        exact ⟨h.st, k2 _ (slo_wipe h.env _), h.own, h.nd⟩
      intro s1' HH C cl fp pins sh I
      refine pts_nil.run pins sh σ2 H4 _ I (iteT (show ∀ (s1 : Shared) (HH : Hp) (C : Addr) (cl : List (Str × Addr)) (fp : List Addr), wpE (X.blk s1 HH scope (compEnvC scope cl C X.env) fp) elt σ2 H4 _ from ?_) (B := ∃ G3 acc ds, Stp G2 (hds us H2) G3 (hds us H4) ∧ J (n + mi + (i + 1) * m) G3 H4 ∧ H4 D = some (.lst acc) ∧ G3 D = none ∧ Reps X.K G3 acc ds ∧ ds.length = i + 1 ∧ ∀ d ∈ ds, P d))
      intro s1' HH C cl fp
      have hcost : n + mi + i * m + m ≤ 1000000 := by
        have h1 : i * m + m = (i + 1) * m := by rw [Nat.add_mul, Nat.one_mul]
        have h2 : (i + 1) * m ≤ B * m := Nat.mul_le_mul_right m (by omega)
        omega
      refine he s1' HH C cl fp (0 + (i : Int)) σ2 G' (hds us H4) sS G' H4 (n + mi + i * m) (Stp.refl s3.gh) j3 hcost _ fun v d G6 H6 hd t6 j6 r6 => ?_
      have hD' : hds us H4 D = some (.lst acc) := by rw [hds_out D2]; exact hD
      have hD6 : H6 D = some (.lst acc) := hds_ex _ _ (t6.h _ _ hD')
      have nG6 : G6 D = none := t6.new D nG (by rw [hD']; simp)
      have s8 := s3.trans t6
      have nD' : hds us H2 D = none := by rw [hds_out D2]; exact nD
      refine ⟨acc, hD6, ?_, G6, acc ++ [v], ds ++ [d], ?_, ?_, upd_same, nG6, (r3.ex t6.g).append (Reps.one r6), (by rw [List.length_append, hl, List.length_singleton]), fun d' h' => ?_⟩
      · rw [r3.length, hl]
        exact Nat.lt_of_lt_of_le (show i < 1000 by omega) (by decide)
      · rw [hds_set D2]
        exact ⟨s8.h.upd nD', s8.g, s8.gh.upd nG6, s8.new⟩
      · have h1 : n + mi + (i + 1) * m = n + mi + i * m + m := by
          have : (i + 1) * m = i * m + m := by rw [Nat.add_mul, Nat.one_mul]
          omega
        rw [h1]
        exact ok.stp j6 (fun a h => upd_ne fun z => D2 (by rw [← z]; exact h)) (fun a o h nl _ => by rw [upd_ne (fun z => by rw [z, hD6] at h; cases h; exact nl _ rfl)]; exact h) (Ex.refl _) fun a h => (ok.at_ j6 a h).1
      · rcases List.mem_append.mp h' with z | z
        · exact hP d' z
        · rw [List.mem_singleton.mp z]
          exact hd
  · have ei : i = N := by omega
    subst ei
    refine .inl ⟨Nat.le_refl _, ?_⟩
    refine q D acc ds G' H' ⟨?_, hP⟩ (t.trans s3) ?_ nG hD (ok.mono j3 ?_) r3
    · have e1 : (ds.length : Int) = kk := by
        rw [hl]
        show ((kk.toNat : Nat) : Int) = kk
        omega
      rw [e1]
      exact hpk
    · have nD' : hds us H2 D = none := by rw [hds_out D2]; exact nD
      have := t.h.back nD'
      rw [hds_out D2] at this
      exact this
    · have h2 : N * m ≤ B * m := Nat.mul_le_mul_right m hNB
      omega
theorem ruo_lc {scope : Scope} {i0 : Nat} {x : Str} {rp rpos : Pos} (ok : HidOk us J) (s : Sta X.K G0 H0 dss ow σ G Hh) (f : Free X "range") (ha : RnU X us J a σ G Hh mi (IntP pk)) (hB : ∀ k, pk k → 0 ≤ k ∧ k ≤ B) (hB2 : B ≤ 1000)
    (he : ∀ (s1 : Shared) (HH : Hp) (C : Addr) (cl : List (Str × Addr)) (fp : List Addr) (y : Int), ∀ σ' G' H', Sta (X.blk s1 HH scope (compEnvC scope cl C X.env) fp).K G0 H0 (dss.set i0 (some (.int y))) ow σ' G' H' → RnU (X.blk s1 HH scope (compEnvC scope cl C X.env) fp) us J elt σ' G' H' m P)
    (okb : blkC X.N X.env.scope scope [(x, i0)] = true := by kernel_rfl) (hc : X.calm = true := by rfl) (hN : X.N.Nodup := by exact of_decide_eq_true (by kernel_rfl)) (hi : X.N[i0]? = some x := by rfl) (hx : ∀ (s1 : Shared) (HH : Hp) (C : Addr) (cl : List (Str × Addr)) (fp : List Addr), (X.blk s1 HH scope (compEnvC scope cl C X.env) fp).env.scope.names.lookup x = some .local := by intro _ _ _ _ _; rfl)
    (hs : starEach [a] X.env = [(false, eval a X.env)] := by rfl) (hfs : ∀ x, foldedSetIterable (.Call (.Name "range" rp) [a] [] rpos) X.env x = pure x := by intro _; rfl) : RnUO X us J (.ListComp elt [⟨.Name x tp, .Call (.Name "range" rp) [a] [] rpos, [], 0⟩] scope pos) σ G Hh (mi + B * m) (Lcd pk P) := fun G1 H1 n s1 hj hn Q q => by
  obtain ⟨wi, hpi, h⟩ := lcU_t (tp := tp) (rp := rp) (rpos := rpos) ok s f ha hB hB2 he hN hi hx hs
  exact wpE_of (pe_lc (own := [(x, i0)]) hc hN hpi (blkOk_by okb) (fun s1 HH C cl fp => ⟨fun pins s σ H v u Q I r h => h s1 HH C cl fp pins s u I r⟩) (fun s1 HH C cl fp => ⟨fun pins s σ H Q I h => h s1 HH C cl fp pins s I⟩) (fun s1 HH C cl fp => ⟨fun pins s σ H Q I h => h s1 HH C cl fp pins s I⟩) hfs) (h G1 H1 n s1 hj hn Q q)
/-- a new list as data -/
theorem ru_ro {PA : List Dt → Prop} (ok : HidOk us J) (h : RnUO X us J e σ G Hh m PA) : RnU X us J e σ G Hh m (fun d => ∃ ds, d = .lst ds ∧ PA ds) := fun G1 H1 n s1 hj hn Q q =>
  h G1 H1 n s1 hj hn Q fun l vs ds G2 H2 hd t n1 n2 hl j r => by
    have lu : l ∉ us := fun z => (ok.at_ hj l z).2 n1
    have hl' : hds us H2 l = some (.lst vs) := by rw [hds_out lu]; exact hl
    have n1' : hds us H1 l = none := by rw [hds_out lu]; exact n1
    refine q _ (.lst ds) (upd G2 l (.lst vs)) H2 ⟨ds, rfl, hd⟩ ⟨t.h, t.g.trans (Ex.new n2), fun a u h => ?_, fun a h n => ?_⟩ (ok.stp j (fun _ _ => rfl) (fun _ _ h _ _ => h) (Ex.new n2) fun a h => ?_) ⟨l, vs, rfl, upd_same, r.ex (Ex.new n2)⟩
    · by_cases z : a = l
      · subst z
        rw [upd_same] at h
        rw [hl']
        exact h
      · rw [upd_ne z] at h
        exact t.gh a u h
    · have z : a ≠ l := fun z => n (by rw [z]; exact n1')
      rw [upd_ne z]
      exact t.new a h n
    · rw [upd_ne (fun z => lu (by rw [← z]; exact h))]
      exact (ok.at_ j a h).1
/-- y = [elt for x in range(..)], a list of ours -/
theorem su_letC {scope : Scope} {i0 jy : Nat} {x y : Str} {py spos rp rpos : Pos} (ok : HidOk us J) (s : StJ X.K us J n G0 H0 dss ow σ G H) (f : Free X "range") (ha : RnU X us J a σ G (hds us H) mi (IntP pk)) (hB : ∀ k, pk k → 0 ≤ k ∧ k ≤ B) (hB2 : B ≤ 1000) (hn : n + (mi + B * m) ≤ 1000000)
    (he : ∀ (s1 : Shared) (HH : Hp) (C : Addr) (cl : List (Str × Addr)) (fp : List Addr) (y : Int), ∀ σ' G' H', Sta (X.blk s1 HH scope (compEnvC scope cl C X.env) fp).K G0 H0 (dss.set i0 (some (.int y))) ow σ' G' H' → RnU (X.blk s1 HH scope (compEnvC scope cl C X.env) fp) us J elt σ' G' H' m P)
    (q : ∀ l ds σ2 G2 H2, Lcd pk P ds → StJ X.K us J (n + (mi + B * m)) G0 H0 (dss.set jy (some (.adr l))) (ow ++ [(l, ds)]) σ2 G2 H2 → wpB X rest D σ2 H2)
    (okb : blkC X.N X.env.scope scope [(x, i0)] = true := by kernel_rfl) (hc : X.calm = true := by rfl) (hN : X.N.Nodup := by exact of_decide_eq_true (by kernel_rfl)) (hi : X.N[i0]? = some x := by rfl) (hx : ∀ (s1 : Shared) (HH : Hp) (C : Addr) (cl : List (Str × Addr)) (fp : List Addr), (X.blk s1 HH scope (compEnvC scope cl C X.env) fp).env.scope.names.lookup x = some .local := by intro _ _ _ _ _; rfl)
    (hs : starEach [a] X.env = [(false, eval a X.env)] := by rfl) (hfs : ∀ x, foldedSetIterable (.Call (.Name "range" rp) [a] [] rpos) X.env x = pure x := by intro _; rfl) (hy : X.N[jy]? = some y := by rfl) (hyl : X.env.scope.names.lookup y = some .local := by rfl)
    (hsw : swapsWith (.ListComp elt [⟨.Name x tp, .Call (.Name "range" rp) [a] [] rpos, [], 0⟩] scope pos) (some (.Name y py)) spos.line X.env = pure true := by rfl) :
    wpB X (.Assign [.Name y py] (.ListComp elt [⟨.Name x tp, .Call (.Name "range" rp) [a] [] rpos, [], 0⟩] scope pos) spos :: rest) D σ H := by
  obtain ⟨wi, hpi, h⟩ := lcU_t (tp := tp) (rp := rp) (rpos := rpos) ok s.b f ha hB hB2 he hN hi hx hs
  refine wb_cons (wpS_of (ps_setLc (own := [(x, i0)]) hc hN hy hyl hsw hpi (blkOk_by okb) (fun s1 HH C cl fp => ⟨fun pins s σ H v u Q I r h => h s1 HH C cl fp pins s u I r⟩) (fun s1 HH C cl fp => ⟨fun pins s σ H Q I h => h s1 HH C cl fp pins s I⟩) (fun s1 HH C cl fp => ⟨fun pins s σ H Q I h => h s1 HH C cl fp pins s I⟩) hfs) (h G H n (Stp.refl s.b.ex) s.j hn _ fun l vs ds G2 H2 hd t n1 n2 hl j r => q l ds _ G2 H2 hd ⟨?_, j⟩))
  have lu : l ∉ us := fun z => (ok.at_ s.j l z).2 n1
  have n1' : hds us H l = none := by rw [hds_out lu]; exact n1
  have hl' : hds us H2 l = some (.lst vs) := by rw [hds_out lu]; exact hl
  exact s.b.fresho t n1' n2 hl' r
end
end Y
set_option Elab.async false
set_option linter.all false
set_option maxRecDepth 100000
set_option maxHeartbeats 4000000
/-! Lay26: the urn; defs that work on hidden things. -/
namespace Y
open PySem PySem.Spec PyProof.Rows L2
/-- cells, how many were begun (n at most), what is left -/
structure UrnD (n : Nat) (it : List Dt) : Prop where
  ex : ∃ (cs : List Int) (i r : Int), it = [.lst (cs.map .int), .int i, .int r] ∧ cs.length ≤ 60 ∧ 0 ≤ i ∧ i ≤ n ∧ 0 ≤ r
theorem UrnD.mono {n m : Nat} {it : List Dt} (h : UrnD n it) (hn : n ≤ m) : UrnD m it := by
  obtain ⟨cs, i, r, e, h1, h2, h3, h4⟩ := h.ex
  exact ⟨cs, i, r, e, h1, h2, by omega, h4⟩
def Urn (K : PySem.W.Frag) (u : Addr) (n : Nat) (G H : Hp) : Prop := G u = none ∧ ∃ vs it, H u = some (.lst vs) ∧ Reps K G vs it ∧ UrnD n it
theorem urn_ok {K : PySem.W.Frag} {u : Addr} : HidOk [u] (Urn K u) where
  at_ := fun ⟨g, vs, it, h, _⟩ a ha => by
    rw [List.mem_singleton.mp ha]
    exact ⟨g, by rw [h]; simp⟩
  stp := fun ⟨g, vs, it, h, r, hd⟩ e1 _ e2 hn => ⟨hn u List.mem_cons_self, vs, it, by rw [e1 u List.mem_cons_self]; exact h, r.ex e2, hd⟩
  mono := fun ⟨g, vs, it, h, r, hd⟩ hn => ⟨g, vs, it, h, r, hd.mono hn⟩
section
variable {K : PySem.W.Frag} {u : Addr} {n m : Nat} {G0 H0 G H G2 H2 : Hp} {dss : List (Option Dt)} {ow : List (Addr × List Dt)} {σ : L2.St} {it : List Dt}
/-- the urn seen as a list of ours .. -/
theorem StJ.open_ (s : StJ K [u] (Urn K u) n G0 H0 dss ow σ G H) : ∃ it, UrnD n it ∧ Sta K G0 H0 dss ((u, it) :: ow) σ G H := by
  obtain ⟨g, vs, it, h, r, hd⟩ := s.j
  have h0 : H0 u = none := s.b.st.h.back (hds_in List.mem_cons_self)
  refine ⟨it, hd, ⟨s.b.st.h.trans hds_ex, s.b.st.g, s.b.st.gh.trans hds_ex, s.b.st.new⟩, s.b.env, fun p hp => ?_, ?_⟩
  · rcases List.mem_cons.mp hp with z | z
    · subst z
      exact ⟨vs, h, r, g, h0⟩
    · obtain ⟨ws, o1, o2, o3, o4⟩ := s.b.own p z
      exact ⟨ws, hds_ex _ _ o1, o2, o3, o4⟩
  · rw [List.map_cons, List.nodup_cons]
    refine ⟨fun z => ?_, s.b.nd⟩
    obtain ⟨p, hp, e⟩ := List.mem_map.mp z
    obtain ⟨ws, o1, _⟩ := s.b.own p hp
    exact hds_some o1 (by rw [e]; exact List.mem_cons_self)
/-- .. and hidden again -/
theorem Sta.close (s : Sta K G0 H0 dss ((u, it) :: ow) σ G H) (hd : UrnD n it) : StJ K [u] (Urn K u) n G0 H0 dss ow σ G H := by
  obtain ⟨vs, o1, o2, o3, o4⟩ := s.own (u, it) List.mem_cons_self
  have nd := s.nd
  rw [List.map_cons, List.nodup_cons] at nd
  have out : ∀ {a : Addr}, a ≠ u → hds [u] H a = H a := fun z => hds_out (by simpa using z)
  refine ⟨⟨⟨fun a o h => ?_, s.st.g, fun a o h => ?_, fun a h q => s.st.new a h q⟩, s.env, fun p hp => ?_, nd.2⟩, o3, vs, it, o1, o2, hd⟩
  · rw [out (ne_of_none h o4)]
    exact s.st.h a o h
  · rw [out (ne_of_none h o3)]
    exact s.st.gh a o h
  · obtain ⟨ws, p1, p2, p3, p4⟩ := s.own p (List.mem_cons_of_mem _ hp)
    have ne : p.1 ≠ u := fun z => nd.1 (List.mem_map.mpr ⟨p, hp, z⟩)
    exact ⟨ws, by rw [out ne]; exact p1, p2, p3, p4⟩
end
section
variable {X : Cx} {σ : L2.St} {G0 H0 G H : Hp} {a b e : Expr} {pos : Pos} {dss : List (Option Dt)} {ow : List (Addr × List Dt)} {rest : List Stmt} {D : Ends} {u : Addr} {n m : Nat} {it : List Dt} {d : Dt}
theorem rn_pow {i j : Int} (ha : Rn X a σ G H (.int i)) (hb : Rn X b σ G H (.int j)) (hc : CPow i j) : Rn X (.BinOp a .Pow b pos) σ G H (.int (i ^ j.toNat)) := rn_opI (g := fun i j => i ^ j.toNat) op_pow ha hb hc
theorem rn_fdiv {i j : Int} (ha : Rn X a σ G H (.int i)) (hb : Rn X b σ G H (.int j)) (hc : CDiv i j) : Rn X (.BinOp a .FloorDiv b pos) σ G H (.int (i / j)) := rn_opI (g := fun i j => i / j) op_fdiv ha hb hc
/-- return, the urn open -/
theorem rs_retU (s : Sta X.K G0 H0 dss ((u, it) :: ow) σ G H) (hd : UrnD n it) (h : Rn X e σ G H d) (q : ∀ v G2 H2, Stp G0 H0 G2 (hds [u] H2) → Urn X.K u n G2 H2 → Rep X.K G2 v d → D.rt v H2) : wpB X (.Return (some e) pos :: rest) D σ H :=
  rs_ret h fun v G2 H2 s2 r => by
    have t := (s.stp s2).close hd
    exact q v G2 H2 t.b.st t.j r
/-- if .. : .., some slots told behind it in common -/
theorem rs_ifE {α : Type} {c : Expr} {k : Bool} {body : List Stmt} {W : α → Prop} (dsf : α → List (Option Dt)) (s : Sta X.K G0 H0 dss ow σ G H) (h : RnT X c σ G H k) (h1 : k = true → ∀ G2 H2, Sta X.K G0 H0 dss ow σ G2 H2 → wpB X body { D with nx := fun σ3 H3 => ∃ z G3, W z ∧ Sta X.K G0 H0 (dsf z) ow σ3 G3 H3 } σ H2) (h2 : k = false → ∃ z, W z ∧ dsf z = dss)
    (q : ∀ z σ2 G2 H2, W z → Sta X.K G0 H0 (dsf z) ow σ2 G2 H2 → wpB X rest D σ2 H2) : wpB X (.If c body [] pos :: rest) D σ H :=
  rs_ifT s h (fun hk G2 H2 st => wpB_mono (h1 hk G2 H2 st) (fun σ3 H3 ⟨z, G3, hw, hs⟩ => q z σ3 G3 H3 hw hs) (fun _ _ h => h) (fun _ _ h => h) fun _ _ h => h) fun hk G2 H2 st => by
    obtain ⟨z, hw, e⟩ := h2 hk
    exact q z σ G2 H2 hw (by rw [e]; exact st)
theorem su_ifE {α : Type} {us : List Addr} {J : Nat → Hp → Hp → Prop} {c : Expr} {PB : Bool → Prop} {m m2 : Nat} {body : List Stmt} {W : α → Prop} (dsf : α → List (Option Dt)) (ok : HidOk us J) (s : StJ X.K us J n G0 H0 dss ow σ G H) (h : RtU X us J c σ G (hds us H) m PB) (hn : n + m ≤ 1000000) (h1 : PB true → ∀ G2 H2, StJ X.K us J (n + m) G0 H0 dss ow σ G2 H2 → wpB X body { D with nx := fun σ3 H3 => ∃ z G3, W z ∧ StJ X.K us J (n + m + m2) G0 H0 (dsf z) ow σ3 G3 H3 } σ H2) (h2 : PB false → ∃ z, W z ∧ dsf z = dss)
    (q : ∀ z σ2 G2 H2, W z → StJ X.K us J (n + m + m2) G0 H0 (dsf z) ow σ2 G2 H2 → wpB X rest D σ2 H2) : wpB X (.If c body [] pos :: rest) D σ H :=
  su_if s h hn (fun hk G2 H2 st => wpB_mono (h1 hk G2 H2 st) (fun σ3 H3 ⟨z, G3, hw, hs⟩ => q z σ3 G3 H3 hw hs) (fun _ _ h => h) (fun _ _ h => h) fun _ _ h => h) fun hk G2 H2 st => by
    obtain ⟨z, hw, e⟩ := h2 hk
    exact wb_nil (q z σ G2 H2 hw ⟨by rw [e]; exact st.b, ok.mono st.j (Nat.le_add_right _ _)⟩)
end
section
variable {P : Program} {w : World} {K : PySem.W.Frag} {mg : Str → Option Value} {base : Heap}
abbrev BodJ (P : Program) (w : World) (K : PySem.W.Frag) (mg : Str → Option Value) (base : Heap) (k : Nat) (q : Str) (st : Stmt) (N : List Str) (us : List Addr) (J : Nat → Hp → Hp → Prop) (m : Nat) (R : List Dt → (Dt → Prop) → Prop) : Prop :=
  ∀ (f : Addr) (cdv : Value) (A : Around) (outer : List Env) (s : Shared) (G H : Hp) (Q : VK) (E : XK) (σ : L2.St) (ds : List Dt) (Pd : Dt → Prop) (n : Nat), Room k (A.deeper (envOfC q (C8.fnScope st) s.heap.objs.size f cdv)) → R ds Pd → n + m ≤ 1000000 → StJ K us J n G (hds us H) (ini N ds) [] σ G H →
      (∀ v d G2 H2, Pd d → Stp G (hds us H) G2 (hds us H2) → J (n + m) G2 H2 → Rep K G2 v d → Q v H2) → wpB (bx P w K mg base N q st f cdv A outer s H E) (C8.fnBody st) (dE Q) σ H
theorem cal_pj {x : Str} {st : Stmt} {a : Addr} {N ps : List Str} {k m : Nat} {us : List Addr} {J : Nat → Hp → Hp → Prop} {R : List Dt → (Dt → Prop) → Prop} (T : Txt K mg) (i : Nat) (hd : fnD[i]? = some ⟨fun _ => a, x, x, C8.fnArgs st, C8.fnBody st, C8.fnScope st, [], []⟩) (hg : (x, a) ∈ gloL) (S : C8.scC N ps (C8.fnScope st) = true)
    (hb : ∀ (kV doc pm : Value) (an : Option Addr) (cdv ct : Value) (us : List Value), us.length = ps.length → bindArgs (PySem.W.fnOf x x (C8.fnArgs st) (C8.fnBody st) (C8.fnScope st) .none kV doc pm an cdv ct) ⟨us, []⟩ = pure (ps.zip us))
    (len : ∀ ds Pd, R ds Pd → ds.length = ps.length) (body : BodJ P w K mg base k x st N us J m R) : C8.Cal P w K mg base (k + 1) x (PuJ K us J m R) [] := by
  obtain ⟨fd, F⟩ := T.def_ i hd
  refine ⟨a, fd, ps, [], C8.fn0 (toFun F) (C8.fnScope_by S) (fun vs H Q E h => ?_) (fun cdv A outer s H vs Q E hr h => ?_), T.glo hg, F.kp, FunD.bindsN F hb, .nil⟩
  · obtain ⟨G, ds, Pd, n, _, _, _, r, hR, _⟩ := h
    rw [r.length]
    exact len ds Pd hR
  · obtain ⟨G, ds, Pd, n, e, j, hn, r, hR, q⟩ := h
    exact ⟨_, pb_wp, body a cdv A outer s G H Q E _ ds Pd n hr hR hn ⟨sta_start e r, j⟩ q⟩
end
end Y
set_option Elab.async false
set_option linter.all false
set_option maxRecDepth 100000
set_option maxHeartbeats 4000000
/-! D30: what draws. -/
namespace Y
open PySem PySem.Spec PyProof.Rows L2
section
variable {P : Program} {w : World} {K : PySem.W.Frag} {mg : Str → Option Value} {base : Heap}
def R_Ltake (u : Addr) : List Dt → (Dt → Prop) → Prop := fun ds Pd => ∃ m : Int, ds = [.adr u, .int m] ∧ (1 ≤ m ∧ m ≤ 1000000) ∧ ∀ i, 0 ≤ i → i < m → Pd (.int i)
theorem c_Ltake (T : Txt K mg) (u : Addr) : C8.Cal P w K mg base 1 "_law_take" (PuJ K [u] (Urn K u) 1 (R_Ltake u)) [] := by
  refine cal_pj (st := s_Ltake) (N := n_Ltake) (ps := ["_law_urn_here", "_law_many_here"]) T 38 rfl (by decide +kernel) (by decide +kernel) (fun _ _ _ _ _ _ us hl => match us, hl with | [_, _], _ => rfl) (fun ds Pd h => by obtain ⟨m, rfl, hm, hP⟩ := h; rfl) ?_
  rintro f cdv A outer s G H Q E σ ds Pd n hr ⟨m, rfl, hm, hP⟩ hn st q
  obtain ⟨it, hd, st⟩ := st.open_
  obtain ⟨cs, i, r, rfl, hc, hi, hin, hr0⟩ := hd.ex
  have hmod : ∀ z : Int, Pd (.int (z % m)) := fun z => hP _ (Int.emod_nonneg _ (by omega)) (Int.emod_lt_of_pos _ (by omega))
  have hdr : ∀ j z : Int, 0 ≤ j → j ≤ n + 1 → 0 ≤ z → UrnD (n + 1) [.lst (cs.map .int), .int j, .int z] := fun j z h1 h2 h3 => ⟨⟨cs, j, z, rfl, hc, h1, by exact_mod_cast h2, h3⟩⟩
  refine rs_ifT st (rc_t (rc_gt (rn_ixO (st.frz (j := 0)) (rn_var st 0) (rn_int st.ex) rfl) (rn_int st.ex))) (fun hk G2 H2 st => ?_) fun hk G2 H2 st => ?_
  · refine rs_let (i := 2) st (rn_intI T.free (rn_ixO (st.frz (j := 0)) (rn_var st 0) (rn_int st.ex) rfl)) fun σ2 G2 H2 st => ?_
    refine rs_store (j := 0) (i := 2) st (rn_fdiv (rn_var st 2) (rn_var st 1) ?_) (rn_var st 0) (rn_int st.ex) rfl (Nat.le_of_ble_eq_true rfl) fun G2 H2 st => ?_
    · exact ⟨by omega, by omega⟩
    refine rs_retU st (hdr i (r / m) hi (by omega) (Int.ediv_nonneg hr0 (by omega))) (rn_mod (rn_intI T.free (rn_var st 2)) (rn_var st 1) ?_) fun v G2 H2 t j rv => q v _ G2 H2 (hmod _) t j rv
    omega
  refine rs_let (i := 3) st (rn_ixO (st.frz (j := 0)) (rn_var st 0) (rn_int st.ex) rfl) fun σ2 G2 H2 st => ?_
  refine rs_store (j := 0) (i := 1) st (rn_add (rn_var st 3) (rn_int st.ex)) (rn_var st 0) (rn_int st.ex) rfl (Nat.le_of_ble_eq_true rfl) fun G2 H2 st => ?_
  refine rs_let (i := 4) st (rn_add (rn_mul (rn_int st.ex) (rn_var st 3) ?_) (rn_int st.ex)) fun σ2 G2 H2 st => ?_
  · exact .inl ⟨by omega, by omega⟩
  refine rs_ifE (W := fun _ => True) (fun c : Int => [some (.adr u), some (.int m), none, some (.int i), some (.int c), none]) st (rc_t (rc_neNil hr st.ex (rn_ixO (st.frz (j := 0)) (rn_var st 0) (rn_int st.ex) rfl) ?_)) (fun hk G2 H2 st => ?_) (fun hk => ⟨_, True.intro, rfl⟩) fun c σ2 G2 H2 _ st => ?_
  · exact plJ_ints
  · have hne : cs ≠ [] := fun z => by
      subst z
      cases hk
    have hl : 0 < cs.length := List.length_pos_iff.mpr hne
    refine rs_let (i := 4) st (rn_ixLI (rn_ixO (st.frz (j := 0)) (rn_var st 0) (rn_int st.ex) rfl) (rn_mod (rn_intI T.free (rn_var st 3)) (rn_lenL T.free (rn_ixO (st.frz (j := 0)) (rn_var st 0) (rn_int st.ex) rfl)) ?_) ?_ ?_) fun σ2 G2 H2 st => wb_nil ⟨_, G2, True.intro, st⟩
    · rw [List.length_map]
      omega
    · exact Int.emod_nonneg _ (by rw [List.length_map]; omega)
    · have := Int.emod_lt_of_pos i (b := ((cs.map Dt.int).length : Int)) (by rw [List.length_map]; omega)
      rw [List.length_map] at this ⊢
      exact this
  refine rs_ifT st (rt_w (rw_and (rc_t (rc_lt (rn_var st 3) (rn_lenL T.free (rn_ixO (st.frz (j := 0)) (rn_var st 0) (rn_int st.ex) rfl)))) fun _ => (rw_and1 (rc_t (rc_ge (rn_abs T.free (rn_var st 4)) (rn_pow (rn_int st.ex) (rn_int st.ex) ?_)))))) (fun hk G2 H2 st => ?_) fun hk G2 H2 st => ?_
  · exact ⟨by omega, by omega, by decide⟩
  · have h2 : 0 ≤ 2 * ((if c < 0 then -c else c) - 10 ^ Int.toNat 18) + (if decide (c < 0) = true then 1 else 0) := by
      have := (Bool.and_eq_true _ _).mp hk
      have hge : 10 ^ Int.toNat 18 ≤ if c < 0 then -c else c := of_decide_eq_true this.2
      have h3 : (0 : Int) ≤ if decide (c < 0) = true then 1 else 0 := by split <;> decide
      omega
    refine rs_let (i := 2) st (rn_add (rn_mul (rn_int st.ex) (rn_sub (rn_abs T.free (rn_intI T.free (rn_var st 4))) (rn_pow (rn_int st.ex) (rn_int st.ex) ?_)) ?_) (rn_intB T.free (rc_v (rc_lt (rn_var st 4) (rn_int st.ex))))) fun σ2 G2 H2 st => ?_
    · exact ⟨by omega, by omega, by decide⟩
    · exact .inl ⟨by omega, by omega⟩
    refine rs_store (j := 0) (i := 2) st (rn_fdiv (rn_var st 2) (rn_var st 1) ?_) (rn_var st 0) (rn_int st.ex) rfl (Nat.le_of_ble_eq_true rfl) fun G2 H2 st => ?_
    · exact ⟨by omega, by omega⟩
    refine rs_retU st (hdr (i + 1) _ (by omega) (by omega) (Int.ediv_nonneg ?_ (by omega))) (rn_mod (rn_intI T.free (rn_var st 2)) (rn_var st 1) ?_) fun v G2 H2 t j rv => q v _ G2 H2 (hmod _) t j rv
    · exact h2
    · omega
  have hx0 : 0 ≤ c % 2147483579 ∧ c % 2147483579 < 2147483579 := ⟨Int.emod_nonneg _ (by omega), Int.emod_lt_of_pos _ (by omega)⟩
  refine rs_let (i := 5) st (rn_mod (rn_intI T.free (rn_pow (rn_add (rn_add (rn_mod (rn_intI T.free (rn_var st 4)) (rn_int st.ex) ?_) (rn_mul (rn_int st.ex) (rn_var st 3) ?_)) (rn_int st.ex)) (rn_int st.ex) ?_)) (rn_int st.ex) ?_) fun σ2 G2 H2 st => ?_
  · omega
  · exact .inl ⟨by omega, by omega⟩
  · exact ⟨by omega, by omega, by omega⟩
  · omega
  generalize (c % 2147483579 + 72043 * i + 3457) ^ (5 : Int).toNat = b5 at st
  have hx1 : 0 ≤ b5 % 2147483587 ∧ b5 % 2147483587 < 2147483587 := ⟨Int.emod_nonneg _ (by omega), Int.emod_lt_of_pos _ (by omega)⟩
  generalize b5 % 2147483587 = x1 at st hx1
  have hp1 : 0 ≤ x1 * (2 * i + 1949) ∧ x1 * (2 * i + 1949) ≤ 2147483587 * 2001949 := ⟨Int.mul_nonneg hx1.1 (by omega), Int.mul_le_mul (by omega) (by omega) (by omega) (by omega)⟩
  have hp2 : 0 ≤ 61211 * i * i ∧ 61211 * i * i ≤ 61211000000 * 1000000 := ⟨Int.mul_nonneg (by omega) hi, Int.mul_le_mul (by omega) (by omega) hi (by omega)⟩
  refine rs_let (i := 5) st (rn_mod (rn_intI T.free (rn_pow (rn_add (rn_add (rn_mul (rn_var st 5) (rn_add (rn_mul (rn_int st.ex) (rn_var st 3) ?_) (rn_int st.ex)) ?_) (rn_mul (rn_mul (rn_int st.ex) (rn_var st 3) ?_) (rn_var st 3) ?_)) (rn_int st.ex)) (rn_int st.ex) ?_)) (rn_int st.ex) ?_) fun σ2 G2 H2 st => ?_
  · exact .inl ⟨by omega, by omega⟩
  · exact .inl ⟨by omega, by omega⟩
  · exact .inl ⟨by omega, by omega⟩
  · exact .inl ⟨by omega, by omega⟩
  · exact ⟨by omega, by omega, by omega⟩
  · omega
  refine rs_retU st (hdr (i + 1) r (by omega) (by omega) hr0) (rn_mod (rn_intI T.free (rn_fdiv (rn_var st 5) (rn_int st.ex) ?_)) (rn_var st 1) ?_) fun v G2 H2 t j rv => q v _ G2 H2 (hmod _) t j rv
  · exact ⟨by omega, by omega⟩
  · omega
end
end Y
set_option Elab.async false
set_option linter.all false
set_option maxRecDepth 100000
set_option maxHeartbeats 4000000
/-! Lay27: draws where more is hidden. -/
namespace Y
open PySem PySem.Spec PyProof.Rows L2
structure SubJ (us0 : List Addr) (J0 : Nat → Hp → Hp → Prop) (us : List Addr) (J : Nat → Hp → Hp → Prop) : Prop where
  sub : ∀ a ∈ us0, a ∈ us
  h0 : ∀ {n : Nat} {G H : Hp}, J n G H → J0 n G H
  h1 : ∀ {n k : Nat} {G H G2 H2 : Hp}, J n G H → J0 k G2 H2 → n ≤ k → Ex (hds us0 H) (hds us0 H2) → Ex G G2 → (∀ a ∈ us, G2 a = none) → J k G2 H2
theorem SubJ.refl {us : List Addr} {J : Nat → Hp → Hp → Prop} : SubJ us J us J := ⟨fun _ h => h, fun h => h, fun _ h _ _ _ _ => h⟩
section
variable {X : Cx} {u : Addr} {us : List Addr} {J : Nat → Hp → Hp → Prop} {σ : L2.St} {G Hh : Hp} {a b e : Expr} {es : List Expr} {p pos : Pos} {j0 m1 m : Nat} {PA : List Dt → Prop} {P : Dt → Prop}
theorem ru_callS {x : Str} {us0 : List Addr} {J0 : Nat → Hp → Hp → Prop} {R : List Dt → (Dt → Prop) → Prop} {k0 : Nat} (ok : HidOk us J) (sb : SubJ us0 J0 us J) (c : C8.Cal X.prog X.w X.K X.mg X.base k0 x (PuJ X.K us0 J0 m R) []) (hr : Room j0 X.A) (hk : k0 ≤ j0) (hg : Gl X x) (ha : RnUA X us J (e :: es) σ G Hh m1 PA) (hR : ∀ ds, PA ds → R ds P)
    (hdb : (x == ("__debug__" : Str)) = false := by decide) (he : starEach (e :: es) X.env = (false, eval e X.env) :: starEach es X.env := by rfl) (hpl : (backTo pos (starEach es X.env)).any (·.1) = false := by rfl) : RnU X us J (.Call (.Name x p) (e :: es) [] pos) σ G Hh (m1 + m) P :=
  ru_call ok sb.sub sb.h0 (fun j j3 e1 e2 e3 => sb.h1 j j3 (Nat.le_add_right _ _) e1 e2 e3) c hr hk hg ha hR hdb he hpl
theorem ru_take {m : Int} (T : Txt X.K X.mg) (ok : HidOk us J) (sb : SubJ [u] (Urn X.K u) us J) (hr : Room j0 X.A) (hk : 1 ≤ j0) (hg : Gl X "_law_take") (ha : RnA X [a, b] σ G Hh [.adr u, .int m]) (hm : 1 ≤ m ∧ m ≤ 1000000)
    (he : starEach [a, b] X.env = (false, eval a X.env) :: starEach [b] X.env := by rfl) (hpl : (backTo pos (starEach [b] X.env)).any (·.1) = false := by rfl) : RnU X us J (.Call (.Name "_law_take" p) [a, b] [] pos) σ G Hh 1 (IntP fun i => 0 ≤ i ∧ i < m) :=
  ru_callS (m1 := 0) (m := 1) ok sb (c_Ltake T u) hr hk hg (rua_pure (PA := (· = [.adr u, .int m])) ok ha rfl) (fun ds e => ⟨m, e, hm, fun i h1 h2 => ⟨i, rfl, h1, h2⟩⟩) (by decide) he hpl
end
end Y
set_option Elab.async false
set_option linter.all false
set_option maxRecDepth 100000
set_option maxHeartbeats 4000000
/-! D31: one of some, bounds around a sum. -/
namespace Y
open PySem PySem.Spec PyProof.Rows L2
section
variable {P : Program} {w : World} {K : PySem.W.Frag} {mg : Str → Option Value} {base : Heap}
def R_Lpick (u : Addr) : List Dt → (Dt → Prop) → Prop := fun ds Pd => ∃ xs : List Dt, ds = [.adr u, .lst xs] ∧ (1 ≤ xs.length ∧ xs.length ≤ 1000000) ∧ ∀ d ∈ xs, Pd d
theorem c_Lpick (T : Txt K mg) (u : Addr) : C8.Cal P w K mg base 2 "_law_pick" (PuJ K [u] (Urn K u) 1 (R_Lpick u)) [] := by
  refine cal_pj (st := s_Lpick) (N := n_Lpick) (ps := ["_law_urn_here", "_law_some"]) T 39 rfl (by decide +kernel) (by decide +kernel) (fun _ _ _ _ _ _ us hl => match us, hl with | [_, _], _ => rfl) (fun ds Pd h => by obtain ⟨xs, rfl, hx, hP⟩ := h; rfl) ?_
  rintro f cdv A outer s G H Q E σ ds Pd n hr ⟨xs, rfl, hx, hP⟩ hn st q
  exact su_ret st (ru_ixL (rn_var st.b 1) (ru_take T urn_ok SubJ.refl hr (by decide) rfl (ra_cons (rn_var st.b 0) (ra_one (rn_lenL T.free (rn_var st.b 1)))) (by omega)) urn_ok) hn fun v d G2 H2 hd t j r => q v d G2 H2 (hP d hd) t j r
end
section
variable {X : Cx} {u : Addr} {us : List Addr} {J : Nat → Hp → Hp → Prop} {σ : L2.St} {G Hh : Hp} {a b : Expr} {p pos : Pos} {j0 : Nat} {xs : List Dt}
theorem ru_pick (T : Txt X.K X.mg) (ok : HidOk us J) (sb : SubJ [u] (Urn X.K u) us J) (hr : Room j0 X.A) (hk : 2 ≤ j0) (hg : Gl X "_law_pick") (ha : RnA X [a, b] σ G Hh [.adr u, .lst xs]) (hm : 1 ≤ xs.length ∧ xs.length ≤ 1000000)
    (he : starEach [a, b] X.env = (false, eval a X.env) :: starEach [b] X.env := by rfl) (hpl : (backTo pos (starEach [b] X.env)).any (·.1) = false := by rfl) : RnU X us J (.Call (.Name "_law_pick" p) [a, b] [] pos) σ G Hh 1 (· ∈ xs) :=
  ru_callS (m1 := 0) (m := 1) ok sb (c_Lpick T u) hr hk hg (rua_pure (PA := (· = [.adr u, .lst xs])) ok ha rfl) (fun ds e => ⟨xs, e, hm, fun d h => h⟩) (by decide) he hpl
end
section
variable {P : Program} {w : World} {K : PySem.W.Frag} {mg : Str → Option Value} {base : Heap}
/-- bounds around a sum -/
def Near (t : Int) (lo hi : OI) : Prop := ab lo hi = true ∧ (∀ i, lo = some i → i ≤ t) ∧ ∀ j, hi = some j → t ≤ j
def R_Lnear (u : Addr) : List Dt → (Dt → Prop) → Prop := fun ds Pd => ∃ t b : Int, ds = [.adr u, .int t, .int b] ∧ (1 ≤ b ∧ b ≤ 1000) ∧ ∀ lo hi, Near t lo hi → Pd (.tup [oD lo, oD hi])
theorem c_Lnear (T : Txt K mg) (u : Addr) : C8.Cal P w K mg base 2 "_law_near" (PuJ K [u] (Urn K u) 3 (R_Lnear u)) [] := by
  refine cal_pj (st := s_Lnear) (N := n_Lnear) (ps := ["_law_urn_here", "_law_total", "_law_wide"]) T 45 rfl (by decide +kernel) (by decide +kernel) (fun _ _ _ _ _ _ us hl => match us, hl with | [_, _, _], _ => rfl) (fun ds Pd h => by obtain ⟨t, b, rfl, hb, hP⟩ := h; rfl) ?_
  rintro f cdv A outer s G H Q E σ ds Pd n hr ⟨t, b, rfl, hb, hP⟩ hn st q
  refine su_par3 (i := 3) (j := 4) (l := 5) (m := 3) (P1 := IntP fun i => i ≤ t) (P2 := IntP fun i => t ≤ i) (P3 := IntP fun i => 0 ≤ i ∧ i < 3) st (rua_cons (m1 := 1) (m2 := 2) (P1 := IntP fun i => i ≤ t) (PB := fun ds => ∃ d2 d3, ds = [d2, d3] ∧ IntP (fun i => t ≤ i) d2 ∧ IntP (fun i => 0 ≤ i ∧ i < 3) d3)
    (ru_opI (m1 := 0) (m2 := 1) (p1 := (· = t)) (g := fun i j => i - j) op_sub (ru_pure urn_ok (rn_var st.b 1) ⟨t, rfl, rfl⟩) (ru_take T urn_ok SubJ.refl hr (by decide) rfl (ra_cons (rn_var st.b 0) (ra_one (rn_var st.b 2))) (by omega)) fun i j h1 h2 => by omega)
    (rua_cons (m1 := 1) (m2 := 1) (P1 := IntP fun i => t ≤ i) (PB := fun ds => ∃ d3, ds = [d3] ∧ IntP (fun i => 0 ≤ i ∧ i < 3) d3) (ru_opI (m1 := 0) (m2 := 1) (p1 := (· = t)) (g := fun i j => i + j) op_add (ru_pure urn_ok (rn_var st.b 1) ⟨t, rfl, rfl⟩) (ru_take T urn_ok SubJ.refl hr (by decide) rfl (ra_cons (rn_var st.b 0) (ra_one (rn_var st.b 2))) (by omega)) fun i j h1 h2 => by omega)
      (rua_one (ru_take T urn_ok SubJ.refl hr (by decide) rfl (ra_cons (rn_var st.b 0) (ra_one (rn_int st.b.ex))) (by omega)) fun d h => ⟨d, rfl, h⟩) fun d ds h1 ⟨d3, e, h⟩ => ⟨d, d3, by rw [e], h1, h⟩) fun d ds h1 ⟨d2, d3, e, h2, h3⟩ => ⟨d, d2, d3, by rw [e], h1, h2, h3⟩) hn fun d1 d2 d3 σ2 G2 H2 ⟨lo, e1, h1⟩ ⟨hi, e2, h2⟩ ⟨wy, e3, h3⟩ st => ?_
  subst e1 e2 e3
  have hc : wy = 0 ∨ wy = 1 ∨ wy = 2 := by omega
  have fin : ∀ (lo' hi' : OI), Near t lo' hi' → ∀ {e : Expr} {pos : Pos}, Rn (bx P w K mg base n_Lnear "_law_near" s_Lnear f cdv A outer s H E) e σ2 G2 (hds [u] H2) (.tup [oD lo', oD hi']) → wpB (bx P w K mg base n_Lnear "_law_near" s_Lnear f cdv A outer s H E) [.Return (some e) pos] (dE Q) σ2 H2 := fun lo' hi' hN e pos he =>
    su_ret (m := 0) (P := (· = .tup [oD lo', oD hi'])) st (ru_pure urn_ok he rfl) hn fun v d G3 H3 hd t j r => q v d G3 H3 (by rw [hd]; exact hP lo' hi' hN) t j r
  rcases hc with rfl | rfl | rfl
  · refine fin none (some hi) ⟨rfl, (fun i h => by cases h), fun j h => by have e := Option.some.inj h; omega⟩ (rn_tup (ra_cons (rn_if (k := true) (rt_to (rc_t (rc_eqI (rn_var st.b 5) (rn_int st.b.ex))) rfl) (fun _ => (rn_non st.b.ex)) fun z => Bool.noConfusion z) (ra_one (rn_if (k := false) (rt_to (rc_t (rc_eqI (rn_var st.b 5) (rn_int st.b.ex))) rfl) (fun z => Bool.noConfusion z) fun _ => (rn_var st.b 4)))) (Nat.le_of_ble_eq_true rfl))
  · refine fin (some lo) none ⟨rfl, (fun i h => by have e := Option.some.inj h; omega), fun j h => by cases h⟩ (rn_tup (ra_cons (rn_if (k := false) (rt_to (rc_t (rc_eqI (rn_var st.b 5) (rn_int st.b.ex))) rfl) (fun z => Bool.noConfusion z) fun _ => (rn_var st.b 3)) (ra_one (rn_if (k := true) (rt_to (rc_t (rc_eqI (rn_var st.b 5) (rn_int st.b.ex))) rfl) (fun _ => (rn_non st.b.ex)) fun z => Bool.noConfusion z))) (Nat.le_of_ble_eq_true rfl))
  · refine fin (some lo) (some hi) ⟨decide_eq_true (by omega), (fun i h => by have e := Option.some.inj h; omega), fun j h => by have e := Option.some.inj h; omega⟩ (rn_tup (ra_cons (rn_if (k := false) (rt_to (rc_t (rc_eqI (rn_var st.b 5) (rn_int st.b.ex))) rfl) (fun z => Bool.noConfusion z) fun _ => (rn_var st.b 3)) (ra_one (rn_if (k := false) (rt_to (rc_t (rc_eqI (rn_var st.b 5) (rn_int st.b.ex))) rfl) (fun z => Bool.noConfusion z) fun _ => (rn_var st.b 4)))) (Nat.le_of_ble_eq_true rfl))
end
end Y
set_option Elab.async false
set_option linter.all false
set_option maxRecDepth 100000
set_option maxHeartbeats 4000000
/-! D32: a drawn saying. -/
namespace Y
open PySem PySem.Spec PyProof.Rows L2
def up2 (i j : Nat) (d : Dt) (ds : List (Option Dt)) : List (Option Dt) := match d with
  | .tup [a, b] => (ds.set i (some a)).set j (some b)
  | _ => ds
def NearD (t : Int) : Dt → Prop := fun d => ∃ lo hi, Near t lo hi ∧ d = .tup [oD lo, oD hi]
section
variable {X : Cx} {u : Addr} {us : List Addr} {J : Nat → Hp → Hp → Prop} {σ : L2.St} {G Hh : Hp} {a b c : Expr} {p pos : Pos} {j0 : Nat} {t w0 : Int}
theorem ru_near (T : Txt X.K X.mg) (ok : HidOk us J) (sb : SubJ [u] (Urn X.K u) us J) (hr : Room j0 X.A) (hk : 2 ≤ j0) (hg : Gl X "_law_near") (ha : RnA X [a, b, c] σ G Hh [.adr u, .int t, .int w0]) (hm : 1 ≤ w0 ∧ w0 ≤ 1000)
    (he : starEach [a, b, c] X.env = (false, eval a X.env) :: starEach [b, c] X.env := by rfl) (hpl : (backTo pos (starEach [b, c] X.env)).any (·.1) = false := by rfl) : RnU X us J (.Call (.Name "_law_near" p) [a, b, c] [] pos) σ G Hh 3 (NearD t) :=
  ru_callS (m1 := 0) (m := 3) ok sb (c_Lnear T u) hr hk hg (rua_pure (PA := (· = [.adr u, .int t, .int w0])) ok ha rfl) (fun ds e => ⟨t, w0, e, hm, fun lo hi h => ⟨lo, hi, h, rfl⟩⟩) (by decide) he hpl
end
theorem sums_len {g : List Int} {l : Int} : ((sumsIn g l).length : Int) = if (g.length : Int) - l + 1 < 0 then 0 else (g.length : Int) - l + 1 := by
  unfold sumsIn rgI
  rw [List.length_map, List.length_map, List.length_range]
  split <;> omega
section
variable {P : Program} {w : World} {K : PySem.W.Frag} {mg : Str → Option Value} {base : Heap}
def KindOk (k : Str) : Prop := k = "any" ∨ k = "some" ∨ k = "just" ∨ k = "told"
def R_Lsaying (u : Addr) : List Dt → (Dt → Prop) → Prop := fun ds Pd => ∃ (g : List Int) (ks : List Str), ds = [.adr u, eL g, .lst (ks.map Dt.str)] ∧ (1 ≤ g.length ∧ g.length ≤ 12) ∧ (1 ≤ ks.length ∧ ks.length ≤ 100) ∧ (∀ k ∈ ks, KindOk k) ∧ ∀ s, SgOk s → fitS g.length s = true → Pd (eT s)
theorem c_Lsaying (T : Txt K mg) (u : Addr) : C8.Cal P w K mg base 3 "_law_saying" (PuJ K [u] (Urn K u) 20 (R_Lsaying u)) [] := by
  refine cal_pj (st := s_Lsaying) (N := n_Lsaying) (ps := ["_law_urn_here", "_law_gains", "_law_kinds"]) T 46 rfl (by decide +kernel) (by decide +kernel) (fun _ _ _ _ _ _ us hl => match us, hl with | [_, _, _], _ => rfl) (fun ds Pd h => by obtain ⟨g, ks, rfl, hg, hk, hks, hP⟩ := h; rfl) ?_
  rintro f cdv A outer s G H Q E σ ds Pd n hr ⟨g, ks, rfl, hg, hk, hks, hP⟩ hn st q
  have el : ((g.map Dt.int).length : Int) = g.length := by rw [List.length_map]
  refine su_par (i := 3) (j := 4) (m := 1) (P1 := (· ∈ ks.map Dt.str)) (P2 := (· = .int g.length)) st (rua_cons (m1 := 1) (m2 := 0) (ru_pick T urn_ok SubJ.refl hr (by decide) rfl (ra_cons (rn_var st.b 0) (ra_one (rn_var st.b 2))) (by rw [List.length_map]; omega)) (rua_one (PA := fun ds => ds = [.int g.length]) (ru_pure (P := (· = .int g.length)) urn_ok (rn_to (rn_lenL T.free (rn_var st.b 1)) (by rw [el])) rfl) fun d h => by rw [h]) fun d ds h1 h2 => ⟨d, .int g.length, by rw [h2], h1, rfl⟩) (by omega) fun d1 d2 σ2 G2 H2 h1 h2 st => ?_
  obtain ⟨kd, hkd, rfl⟩ := List.mem_map.mp h1
  subst h2
  have hko := hks kd hkd
  refine su_let (i := 5) (m := 1) (P := IntP fun L => 1 ≤ L ∧ L ≤ g.length) st (ru_opI (m1 := 0) (m2 := 1) (p1 := (· = 1)) (g := fun i j => i + j) op_add (ru_pure urn_ok (rn_int st.b.ex) ⟨1, rfl, rfl⟩) (ru_take T urn_ok SubJ.refl hr (by decide) rfl (ra_cons (rn_var st.b 0) (ra_one (rn_var st.b 4))) (by omega)) fun i j h1 h2 => by omega) (by omega) fun d σ2 G2 H2 ⟨L0, ed, hL0⟩ st => ?_
  subst ed
  refine su_ifE (m := 1) (m2 := 1) (PB := fun b => b = true → kd ≠ "told") (W := fun L : Int => 1 ≤ L ∧ L ≤ g.length + 3 ∧ (kd = "told" → L ≤ g.length)) (fun L => [some (.adr u), some (eL g), some (.lst (ks.map Dt.str)), some (.str kd), some (.int g.length), some (.int L), none, none, none, none, none, none]) urn_ok st
    (rtu_and urn_ok (rtu_eqI urn_ok (ru_take T urn_ok SubJ.refl hr (by decide) rfl (ra_cons (rn_var st.b 0) (ra_one (rn_int st.b.ex))) (by omega)) (rn_int st.b.ex)) (rc_t (rc_neT (rn_var st.b 3) (rn_str st.b.ex))) fun k' hk => ?_) (by omega) (fun hb G2 H2 st => ?_) (fun hb => ⟨L0, by omega, rfl⟩) fun L σ2 G2 H2 hL st => ?_
  · intro z
    rw [z] at hk
    simp at hk
  · refine su_let (i := 5) (m := 1) (P := IntP fun L => g.length + 1 ≤ L ∧ L ≤ g.length + 3) st (ru_opI (m1 := 0) (m2 := 1) (p1 := (· = (g.length : Int) + 1)) (g := fun i j => i + j) op_add (ru_pure urn_ok (rn_add (rn_var st.b 4) (rn_int st.b.ex)) ⟨_, rfl, rfl⟩) (ru_take T urn_ok SubJ.refl hr (by decide) rfl (ra_cons (rn_var st.b 0) (ra_one (rn_int st.b.ex))) (by omega)) fun i j h1 h2 => by omega) (by omega) fun d σ2 G2 H2 ⟨L1, ed, hL1⟩ st => ?_
    subst ed
    exact wb_nil ⟨L1, G2, ⟨by omega, by omega, fun z => absurd z (hb rfl)⟩, st⟩
  obtain ⟨hL1, hL2, hL3⟩ := hL
  have hsl := sums_len (g := g) (l := L)
  have em : ((sumsIn g L).map Dt.int).length = (sumsIn g L).length := List.length_map _
  let offs : List Dt := [.int 0, .int 0, .int 0, .int 0, .int 0, .int 1, .int (-1), .int 2, .int (-3)]
  have hoffs : ∀ d ∈ offs, ∃ o : Int, d = .int o := by
    intro d hd
    simp only [offs, List.mem_cons, List.not_mem_nil, or_false] at hd
    rcases hd with rfl | rfl | rfl | rfl | rfl | rfl | rfl | rfl | rfl <;> exact ⟨_, rfl⟩
  refine su_par (i := 6) (j := 7) (m := 1) (P1 := (· = .lst ((sumsIn g L).map .int))) (P2 := (· ∈ offs)) st (rua_cons (m1 := 0) (m2 := 1) (P1 := (· = .lst ((sumsIn g L).map .int))) (PB := fun ds => ∃ d, ds = [d] ∧ d ∈ offs) (ru_pure urn_ok (rn_c0 (c_Lsums T) hr (by decide) rfl (ra_cons (rn_var st.b 1) (ra_one (rn_var st.b 5))) ⟨g, L, rfl, by omega, by omega, rfl⟩) rfl)
    (rua_one (ru_pick (xs := offs) T urn_ok SubJ.refl hr (by decide) rfl (ra_cons (rn_var st.b 0) (ra_one (rn_lst (ra_cons (rn_int st.b.ex) (ra_cons (rn_int st.b.ex) (ra_cons (rn_int st.b.ex) (ra_cons (rn_int st.b.ex) (ra_cons (rn_int st.b.ex) (ra_cons (rn_int st.b.ex) (ra_cons (rn_neg (rn_int st.b.ex)) (ra_cons (rn_int st.b.ex) (ra_one (rn_neg (rn_int st.b.ex))))))))))) (Nat.le_of_ble_eq_true rfl)))) (by decide)) fun d h => ⟨d, rfl, h⟩) fun d ds h1 ⟨d2, e, h2⟩ => ⟨d, d2, by rw [e], h1, h2⟩) (by omega) fun d1 d2 σ2 G2 H2 e1 h2 st => ?_
  obtain ⟨o, e2⟩ := hoffs d2 h2
  subst e1 e2
  refine su_ifP (k := decide (kd = "told")) urn_ok st (rc_t (rc_eqT (rn_var st.b 3) (rn_str st.b.ex))) (by omega) (fun hk G2 H2 st => ?_) fun hk G2 H2 st => wb_nil ?_
  · have hkd : kd = "told" := of_decide_eq_true hk
    have hLD := hL3 hkd
    rw [if_neg (by omega)] at hsl
    refine su_let (i := 8) (m := 1) st (ru_take (m := (sumsIn g L).length) T urn_ok SubJ.refl hr (by decide) rfl (by rw [← em]; exact (ra_cons (rn_var st.b 0) (ra_one (rn_lenL T.free (rn_var st.b 6))))) (by omega)) (by omega) fun d σ2 G2 H2 ⟨b, ed, hb⟩ st => ?_
    subst ed
    refine su_tg (m := 3) (up := up2 9 10) (is := [9, 10]) st (ru_near (t := (sumsIn g L).getD b.toNat 0 + o) T urn_ok SubJ.refl hr (by decide) rfl (ra_cons (rn_var st.b 0) (ra_cons (rn_add (rn_ixLI (rn_var st.b 6) (rn_var st.b 8) hb.1 hb.2) (rn_var st.b 7)) (ra_one (rn_int st.b.ex)))) (by decide)) (by omega) (fun d ⟨lo, hi, _, ed⟩ => by subst ed; exact tg2 (i1 := 9) (i2 := 10)) fun d σ2 G2 H2 ⟨lo, hi, hN, ed⟩ st => ?_
    subst ed
    refine su_ret (m := 0) (P := (· = .tup [.str kd, .int b, .int L, oD lo, oD hi])) st (ru_pure urn_ok (rn_tup (ra_cons (rn_var st.b 3) (ra_cons (rn_var st.b 8) (ra_cons (rn_var st.b 5) (ra_cons (rn_var st.b 9) (ra_one (rn_var st.b 10)))))) (Nat.le_of_ble_eq_true rfl)) rfl) (by omega) fun v d G2 H2 hd t j r => q v d G2 H2 ?_ t (urn_ok.mono j (by omega)) r
    rw [hd, hkd]
    exact hP (.told b L lo hi) ⟨⟨hb.1, by omega, by omega, by omega⟩, hN.1⟩ (decide_eq_true (by omega))
  have hnt : kd ≠ "told" := of_decide_eq_false hk
  have hemp : ((sumsIn g L).map Dt.int).isEmpty = (sumsIn g L).isEmpty := by cases sumsIn g L <;> rfl
  refine su_let (i := 11) (m := 1) (P := IntP fun _ => True) st (ru_opI (m1 := 1) (m2 := 0) (p1 := fun _ => True) (p2 := fun _ => True) (g := fun i j => i + j) op_add (ru_if (k := !((sumsIn g L).map Dt.int).isEmpty) urn_ok (rc_t (rc_neNil hr st.b.ex (rn_var st.b 6) ?_)) (fun hz => ru_imp (ru_pick (xs := (sumsIn g L).map .int) T urn_ok SubJ.refl hr (by decide) rfl (ra_cons (rn_var st.b 0) (ra_one (rn_var st.b 6))) ?_) fun d h => ?_) fun hz => ru_le urn_ok (ru_pure urn_ok (rn_int st.b.ex) ⟨0, rfl, True.intro⟩) (by omega)) (ru_pure urn_ok (rn_var st.b 7) ⟨o, rfl, True.intro⟩) fun _ _ _ _ => True.intro) (by omega) fun d σ2 G2 H2 ⟨t0, ed, _⟩ st => ?_
  · exact plJ_ints
  · rw [hemp] at hz
    rw [em]
    cases zz : sumsIn g L with
    | nil => rw [zz] at hz; cases hz
    | cons x xs =>
      rw [zz] at hsl
      refine ⟨by rw [List.length_cons]; omega, ?_⟩
      split at hsl <;> omega
  · obtain ⟨i, _, rfl⟩ := List.mem_map.mp h
    exact ⟨i, rfl, True.intro⟩
  subst ed
  refine su_ifP (k := decide (kd = "just")) urn_ok st (rc_t (rc_eqT (rn_var st.b 3) (rn_str st.b.ex))) (by omega) (fun hk G2 H2 st => ?_) fun hk G2 H2 st => wb_nil ?_
  · have hkd : kd = "just" := of_decide_eq_true hk
    refine su_ret (m := 0) (P := (· = .tup [.str kd, .int L, .int t0])) st (ru_pure urn_ok (rn_tup (ra_cons (rn_var st.b 3) (ra_cons (rn_var st.b 5) (ra_one (rn_var st.b 11)))) (Nat.le_of_ble_eq_true rfl)) rfl) (by omega) fun v d G2 H2 hd t j r => q v d G2 H2 ?_ t (urn_ok.mono j (by omega)) r
    rw [hd, hkd]
    exact hP (.just L t0) ⟨hL1, by omega⟩ rfl
  have hnj : kd ≠ "just" := of_decide_eq_false hk
  refine su_tg (m := 3) (up := up2 9 10) (is := [9, 10]) st (ru_near (t := t0) T urn_ok SubJ.refl hr (by decide) rfl (ra_cons (rn_var st.b 0) (ra_cons (rn_var st.b 11) (ra_one (rn_int st.b.ex)))) (by decide)) (by omega) (fun d ⟨lo, hi, _, ed⟩ => by subst ed; exact tg2 (i1 := 9) (i2 := 10)) fun d σ2 G2 H2 ⟨lo, hi, hN, ed⟩ st => ?_
  subst ed
  refine su_ifE (m := 0) (m2 := 1) (PB := fun b => b = true → (sumsIn g L).map Dt.int ≠ []) (W := fun p : OI × OI => ab p.1 p.2 = true) (fun p => [some (.adr u), some (eL g), some (.lst (ks.map Dt.str)), some (.str kd), some (.int g.length), some (.int L), some (.lst ((sumsIn g L).map .int)), some (.int o), none, some (oD p.1), some (oD p.2), some (.int t0)]) urn_ok st
    (rtu_pure urn_ok (rt_w (rw_and (rc_t (rc_eqT (rn_var st.b 3) (rn_str st.b.ex))) fun _ => (rw_and1 (rc_t (rc_neNil hr st.b.ex (rn_var st.b 6) ?_))))) fun hz => ?_) (by omega) (fun hb G2 H2 st => ?_) (fun hb => ⟨(lo, hi), hN.1, rfl⟩) fun p σ2 G2 H2 hp st => ?_
  · exact plJ_ints
  · intro z
    rw [z] at hz
    simp at hz
  · have hne : sumsIn g L ≠ [] := fun z => hb rfl (by rw [z]; rfl)
    cases lo with
    | none =>
      refine su_let (i := 9) (m := 0) (P := (· = .non)) st (ru_pure urn_ok (rn_if (k := true) (rt_to (rc_t (rc_isN st.b.ex (rn_var st.b 9))) rfl) (fun _ => (rn_non st.b.ex)) fun z => Bool.noConfusion z) rfl) (by omega) fun d σ2 G2 H2 ed st => ?_
      subst ed
      cases hi with
      | none => exact absurd hN.1 (by decide)
      | some j =>
        refine su_let (i := 10) (m := 1) (P := IntP fun _ => True) st (ru_if (k := false) urn_ok (rt_to (rc_t (rc_isN st.b.ex (rn_var st.b 10))) rfl) (fun z => Bool.noConfusion z) fun _ => ru_cb (PA := fun ds => ∃ a b : Int, ds = [.int a, .int b]) (call_max2 rfl) T.free (by decide +kernel) (rua_cons (m1 := 1) (m2 := 0) (P1 := IntP fun _ => True) (PB := fun ds => ∃ b : Int, ds = [.int b]) (ru_opI (m1 := 1) (m2 := 0) (p1 := fun _ => True) (p2 := fun _ => True) (g := fun i j => i + j) op_add (ru_opI (m1 := 0) (m2 := 1) (p1 := fun _ => True) (g := fun i j => i - j) op_sub (ru_pure urn_ok (rn_max T.free rfl ?_ (rn_var st.b 6)) ⟨_, rfl, True.intro⟩) (ru_take T urn_ok SubJ.refl hr (by decide) rfl (ra_cons (rn_var st.b 0) (ra_one (rn_int st.b.ex))) (by decide)) fun _ _ _ _ => True.intro) (ru_pure urn_ok (rn_var st.b 7) ⟨o, rfl, True.intro⟩) fun _ _ _ _ => True.intro) (rua_one (ru_pure (P := fun d => ∃ b : Int, d = .int b) urn_ok (rn_if (k := false) (rt_to (rc_t (rc_notN st.b.ex (rn_var st.b 9))) rfl) (fun z => Bool.noConfusion z) fun _ => (rn_sub (rn_add (rn_max T.free rfl ?_ (rn_var st.b 6)) (rn_var st.b 7)) (rn_int st.b.ex))) ⟨_, rfl⟩) fun d ⟨b, e⟩ => ⟨b, by rw [e]⟩) fun d ds ⟨a, e1, _⟩ ⟨b, e2⟩ => ⟨a, b, by rw [e1, e2]⟩) fun ds ⟨a, b, e⟩ => ⟨.int (if b > a then b else a), ⟨_, rfl, True.intro⟩, fun vs G2 H2 _ rs Q q => by
          subst e
          obtain ⟨v1, v2, rfl, r1, r2⟩ := reps2 rs
          exact ⟨a, b, by rw [show v1 = V.int a from r1, show v2 = V.int b from r2], q _ rfl⟩⟩) (by omega) fun d σ2 G2 H2 ⟨h, ed, _⟩ st => ?_
        · exact hne
        · exact hne
        subst ed
        exact wb_nil ⟨(none, some h), G2, rfl, st⟩
    | some lo =>
      refine su_let (i := 9) (m := 0) (P := (· = .int (lmin (sumsIn g L) + o))) st (ru_pure urn_ok (rn_if (k := false) (rt_to (rc_t (rc_isN st.b.ex (rn_var st.b 9))) rfl) (fun z => Bool.noConfusion z) fun _ => (rn_add (rn_min T.free rfl ?_ (rn_var st.b 6)) (rn_var st.b 7))) rfl) (by omega) fun d σ2 G2 H2 ed st => ?_
      · exact hne
      subst ed
      cases hi with
      | none =>
        refine su_let (i := 10) (m := 1) (P := (· = .non)) st (ru_le urn_ok (ru_pure urn_ok (rn_if (k := true) (rt_to (rc_t (rc_isN st.b.ex (rn_var st.b 10))) rfl) (fun _ => (rn_non st.b.ex)) fun z => Bool.noConfusion z) rfl) (Nat.zero_le _)) (by omega) fun d σ2 G2 H2 ed st => ?_
        subst ed
        exact wb_nil ⟨(some (lmin (sumsIn g L) + o), none), G2, rfl, st⟩
      | some j =>
        refine su_let (i := 10) (m := 1) (P := IntP fun h => lmin (sumsIn g L) + o ≤ h) st (ru_if (k := false) urn_ok (rt_to (rc_t (rc_isN st.b.ex (rn_var st.b 10))) rfl) (fun z => Bool.noConfusion z) fun _ => ru_cb (PA := fun ds => ∃ a : Int, ds = [.int a, .int (lmin (sumsIn g L) + o)]) (call_max2 rfl) T.free (by decide +kernel) (rua_cons (m1 := 1) (m2 := 0) (P1 := IntP fun _ => True) (PB := fun ds => ds = [.int (lmin (sumsIn g L) + o)]) (ru_opI (m1 := 1) (m2 := 0) (p1 := fun _ => True) (p2 := fun _ => True) (g := fun i j => i + j) op_add (ru_opI (m1 := 0) (m2 := 1) (p1 := fun _ => True) (g := fun i j => i - j) op_sub (ru_pure urn_ok (rn_max T.free rfl ?_ (rn_var st.b 6)) ⟨_, rfl, True.intro⟩) (ru_take T urn_ok SubJ.refl hr (by decide) rfl (ra_cons (rn_var st.b 0) (ra_one (rn_int st.b.ex))) (by decide)) fun _ _ _ _ => True.intro) (ru_pure urn_ok (rn_var st.b 7) ⟨o, rfl, True.intro⟩) fun _ _ _ _ => True.intro) (rua_one (ru_pure (P := (· = .int (lmin (sumsIn g L) + o))) urn_ok (rn_if (k := true) (rt_to (rc_t (rc_notN st.b.ex (rn_var st.b 9))) rfl) (fun _ => (rn_var st.b 9)) fun z => Bool.noConfusion z) rfl) fun d e => by rw [e]) fun d ds ⟨a, e1, _⟩ e2 => ⟨a, by rw [e1, e2]⟩) fun ds ⟨a, e⟩ => ⟨.int (if lmin (sumsIn g L) + o > a then lmin (sumsIn g L) + o else a), ⟨_, rfl, by split <;> omega⟩, fun vs G2 H2 _ rs Q q => by
          subst e
          obtain ⟨v1, v2, rfl, r1, r2⟩ := reps2 rs
          exact ⟨a, _, by rw [show v1 = V.int a from r1, show v2 = V.int _ from r2], q _ rfl⟩⟩) (by omega) fun d σ2 G2 H2 ⟨h, ed, hh⟩ st => ?_
        · exact hne
        subst ed
        exact wb_nil ⟨(some (lmin (sumsIn g L) + o), some h), G2, decide_eq_true hh, st⟩
  · obtain ⟨lo2, hi2⟩ := p
    refine su_ret (m := 0) (P := (· = .tup [.str kd, .int L, oD lo2, oD hi2])) st (ru_pure urn_ok (rn_tup (ra_cons (rn_var st.b 3) (ra_cons (rn_var st.b 5) (ra_cons (rn_var st.b 9) (ra_one (rn_var st.b 10))))) (Nat.le_of_ble_eq_true rfl)) rfl) (by omega) fun v d G2 H2 hd t j r => q v d G2 H2 ?_ t (urn_ok.mono j (by omega)) r
    rw [hd]
    rcases hko with rfl | rfl | rfl | rfl
    · exact hP (.rule L lo2 hi2) ⟨⟨hL1, by omega⟩, hp⟩ rfl
    · exact hP (.some L lo2 hi2) ⟨⟨hL1, by omega⟩, hp⟩ rfl
    · exact absurd rfl hnj
    · exact absurd rfl hnt
end
end Y
set_option Elab.async false
set_option linter.all false
set_option maxRecDepth 100000
set_option maxHeartbeats 400000
/-! D33: the urn made; a small world. -/
namespace Y
open PySem PySem.Spec PyProof.Rows L2
/-- what gives a new list -/
def PuO (K : PySem.W.Frag) (R : List Dt → List Dt → Prop) : Sp := fun vs H Q _ => ∃ G ds ds', Ex G H ∧ Reps K G vs ds ∧ R ds ds' ∧ ∀ l us G2 H2, Stp G H G2 H2 → H l = none → G2 l = none → H2 l = some (.lst us) → Reps K G2 us ds' → Q (.ref l) H2
section
variable {X : Cx} {us : List Addr} {J : Nat → Hp → Hp → Prop} {σ : L2.St} {G H Hh : Hp} {e : Expr} {es : List Expr} {p pos : Pos} {j0 k0 m : Nat} {ds ds2 : List Dt} {PA : List Dt → Prop}
theorem ro_call {x : Str} {R : List Dt → List Dt → Prop} (c : C8.Cal X.prog X.w X.K X.mg X.base k0 x (PuO X.K R) []) (hr : Room j0 X.A) (hk : k0 ≤ j0) (hg : Gl X x) (ha : RnA X (e :: es) σ G H ds) (hR : R ds ds2)
    (hdb : (x == ("__debug__" : Str)) = false := by decide) (he : starEach (e :: es) X.env = (false, eval e X.env) :: starEach es X.env := by rfl) (hpl : (backTo pos (starEach es X.env)).any (·.1) = false := by rfl) : RnO X (.Call (.Name x p) (e :: es) [] pos) σ G H ds2 := fun H1 e1 Q q =>
  wpE_of (C8.pe_c c hr hk hg pa_wp hdb he hpl) (ha H1 e1 _ fun vs G2 H2 s rs => ⟨G2, ds, ds2, s.gh, by rw [List.append_nil]; exact rs, hR, fun l us G3 H3 s3 n1 n2 hl r => q l us G3 H3 (s.trans s3) (s.h.back n1) n2 hl r⟩)
theorem ru_tup {x1} (ok : HidOk us J) (h : RnUA X us J es σ G Hh m PA) (hl : ∀ ds, PA ds → ds.length ≤ 100000) : RnU X us J (.Tuple es x1 pos) σ G Hh m (fun d => ∃ ds, d = .tup ds ∧ PA ds) := fun G1 H1 n s hj hn Q q =>
  wpE_of (pe_tup pa_wp) (h G1 H1 n s hj hn _ fun vs ds G2 H2 hpd t j r => ⟨by rw [r.length]; exact Nat.le_trans (hl ds hpd) (by decide), fun p np => by
    have e2 : Ex G2 H2 := t.gh.trans hds_ex
    obtain ⟨t3, j3⟩ := step_j ok j (Stp.new1 (o := .tup vs) e2 np)
    exact q _ (.tup ds) _ _ ⟨ds, rfl, hpd⟩ (t.trans t3) j3 (rep_new_tup e2 r np)⟩)
end
section
variable {P : Program} {w : World} {K : PySem.W.Frag} {mg : Str → Option Value} {base : Heap}
def R_Lurn : List Dt → List Dt → Prop := fun ds ds2 => ∃ cs : List Int, ds = [eL cs] ∧ ds2 = [eL (cs.take 60), .int 0, .int 0]
theorem c_Lurn (T : Txt K mg) : C8.Cal P w K mg base 1 "_law_urn" (PuO K R_Lurn) [] := by
  obtain ⟨fd, F⟩ := T.def_ 37 rfl
  refine ⟨f_Lurn, fd, ["_law_script"], [], C8.fn0 (x := "_law_urn") (qual := "_law_urn") (st := s_Lurn) (N := n_Lurn) (toFun F) (C8.fnScope_by (by decide +kernel)) (fun vs H Q E h => ?_) (fun cdv A outer s H vs Q E hr h => ?_), T.glo (show (("_law_urn" : Str), f_Lurn) ∈ gloL by decide +kernel), F.kp, FunD.bindsN F fun _ _ _ _ _ _ us hl => match us, hl with | [_], _ => rfl, .nil⟩
  · obtain ⟨G, ds, ds', _, r, ⟨_, rfl, _⟩, _⟩ := h
    exact r.length
  · obtain ⟨G, ds, ds', e, r, ⟨cs, rfl, rfl⟩, q⟩ := h
    have st := sta_start (K := K) (N := n_Lurn) e r
    refine ⟨_, pb_wp, ?_⟩
    refine wb_cons (wpS_of (ps_ret pe_wp) ((ro_lst (ra_cons (rn_to (rn_map (X := bx P w K mg base n_Lurn "_law_urn" s_Lurn f_Lurn cdv A outer s H E) (xs := cs.take 60) (enc := .int) (i := 1) (f := Dt.int) st (wk_list (rn_to (rn_slL (rn_var st 0) po_none (po_some pe_wp) (po_n st.ex) (po_i (rn_int st.ex))) ?_)) ?_ fun s1 HH C cl fp y hy σ' G' H' st => rn_intI T.free (rn_var st 1)) (show Dt.lst ((cs.take 60).map .int) = eL (cs.take 60) from rfl)) (ra_cons (rn_int st.ex) (ra_one (rn_int st.ex)))) (Nat.le_of_ble_eq_true rfl)) H (Ex.refl H) _ fun l us G2 H2 s2 n1 n2 hl r2 => q l us G2 H2 s2 n1 n2 hl r2))
    · have e60 : ∀ n : Nat, HT.sIx n n (some 60) = min 60 n := fun n => HT.sIx_nat n n 60
      rw [HT.sIx_none, e60, List.drop_zero, Nat.sub_zero, List.map_take, List.length_map]
      congr 1
      rcases Nat.le_total 60 cs.length with h | h
      · rw [Nat.min_eq_left h]
      · rw [Nat.min_eq_right h, List.take_of_length_le (by rw [List.length_map]; exact Nat.le_refl _), List.take_of_length_le (by rw [List.length_map]; exact h)]
    · rw [List.length_take]
      omega
theorem se_tup {es rest : List Expr} {k : Nat} {p : Pos} {env : Env} : starEach (.Tuple es k p :: rest) env = (false, eval (.Tuple es k p) env) :: starEach rest env := rfl
theorem se_con {c : Const} {rest : List Expr} {k : Nat} {p : Pos} {env : Env} : starEach (.Constant c k p :: rest) env = (false, eval (.Constant c k p) env) :: starEach rest env := rfl
/-- a written pair of whole numbers, told by its text -/
inductive PrsE : List Dt → List Expr → Prop where
  | nil : PrsE [] []
  | cons {i j : Int} {k1 k2 k3 : Nat} {p1 p2 p3 : Pos} {ds : List Dt} {es : List Expr} (h : PrsE ds es) : PrsE (.tup [.int i, .int j] :: ds) (.Tuple [.Constant (.int i) k1 p1, .Constant (.int j) k2 p2] k3 p3 :: es)
theorem PrsE.rn {X : Cx} {σ : L2.St} {G H : Hp} (s : Ex G H) : ∀ {ds : List Dt} {es : List Expr}, PrsE ds es → RnA X es σ G H ds
  | _, _, .nil => ra_nil s
  | _, _, .cons h => ra_cons (rn_tup (ra_cons (rn_int s) (ra_one (rn_int s) se_con) se_con) (Nat.le_of_ble_eq_true rfl)) (PrsE.rn s h) se_tup
theorem rn_prs {X : Cx} {σ : L2.St} {G H : Hp} {ds : List Dt} {es : List Expr} {pos : Pos} (s : Ex G H) (h : PrsE ds es) (hl : ds.length ≤ 100000) : Rn X (.List es pos) σ G H (.lst ds) := rn_lst (h.rn s) hl
theorem ra_two {X : Cx} {σ : L2.St} {G H : Hp} {a : Expr} {es : List Expr} {pos : Pos} {d1 d2 : Dt} (ha : Rn X a σ G H d1) (hb : Rn X (.List es pos) σ G H d2) (he : starEach [a, .List es pos] X.env = (false, eval a X.env) :: starEach [.List es pos] X.env) : RnA X [a, .List es pos] σ G H [d1, d2] := ra_cons ha (ra_one hb rfl) he
/-- a target's name that may be a cell -/
theorem tg2C {X : Cx} {d1 d2 : Dt} {i1 i2 : Nat} {x1 x2 : Str} {p1 p2 pt : Pos} {kk : Nat} (hc : X.calm = true := by rfl) (hN : X.N.Nodup := by exact of_decide_eq_true (by kernel_rfl)) (h1 : X.N[i1]? = some x1 := by rfl) (h2 : X.N[i2]? = some x2 := by rfl)
    (l1 : Loc X.env.scope x1 := by first | exact .inl rfl | exact .inr rfl) (l2 : Loc X.env.scope x2 := by first | exact .inl rfl | exact .inr rfl) (f1 : X.fn x1 = true ∨ X.env.scope.names.lookup x1 = some .local := by first | exact .inl rfl | exact .inr rfl) (f2 : X.fn x2 = true ∨ X.env.scope.names.lookup x2 = some .local := by first | exact .inl rfl | exact .inr rfl) :
    TgOk X (.Tuple [.Name x1 p1, .Name x2 p2] kk pt) (.tup [d1, d2]) (fun ds => (ds.set i1 (some d1)).set i2 (some d2)) [i1, i2] :=
  tg_tup hc (tgs_cons (tg_name hN h1 l1 f1) (tgs_cons (tg_name hN h2 l2 f2) tgs_nil))
def worldsL : List (Int × Int) := [(4, 2), (3, 3), (4, 1), (5, 1), (3, 2), (2, 4), (6, 1), (4, 2), (1, 5)]
def worldsD : List Dt := [.tup [.int 4, .int 2], .tup [.int 3, .int 3], .tup [.int 4, .int 1], .tup [.int 5, .int 1], .tup [.int 3, .int 2], .tup [.int 2, .int 4], .tup [.int 6, .int 1], .tup [.int 4, .int 2], .tup [.int 1, .int 5]]
theorem worldsD_mem {d : Dt} (h : d ∈ worldsD) : ∃ p ∈ worldsL, d = .tup [.int p.1, .int p.2] := by
  unfold worldsD at h
  simp only [List.mem_cons, List.not_mem_nil, or_false] at h
  rcases h with rfl | rfl | rfl | rfl | rfl | rfl | rfl | rfl | rfl
  · exact ⟨(4, 2), by decide, rfl⟩
  · exact ⟨(3, 3), by decide, rfl⟩
  · exact ⟨(4, 1), by decide, rfl⟩
  · exact ⟨(5, 1), by decide, rfl⟩
  · exact ⟨(3, 2), by decide, rfl⟩
  · exact ⟨(2, 4), by decide, rfl⟩
  · exact ⟨(6, 1), by decide, rfl⟩
  · exact ⟨(4, 2), by decide, rfl⟩
  · exact ⟨(1, 5), by decide, rfl⟩
def eWd (p : Int × Int) : Dt := .tup [.int p.1, .int p.2]
theorem wd_bound : ∀ p ∈ worldsL, (1 ≤ p.1 ∧ p.1 ≤ 6) ∧ 1 ≤ p.2 ∧ p.2 ≤ 5 := by decide
def R_Lworld (u : Addr) : List Dt → (Dt → Prop) → Prop := fun ds Pd => ∃ z : Unit, ds = [.adr u] ∧ ∀ p ∈ worldsL, ∀ g : List Int, (g.length : Int) = p.1 → Pd (.tup [.int p.1, .int p.2, eL g])
theorem c_Lworld (T : Txt K mg) (u : Addr) : C8.Cal P w K mg base 3 "_law_world" (PuJ K [u] (Urn K u) 7 (R_Lworld u)) [] := by
  refine cal_pj (st := s_Lworld) (N := n_Lworld) (ps := ["_law_urn_here"]) T 55 rfl (by decide +kernel) (by decide +kernel) (fun _ _ _ _ _ _ us hl => match us, hl with | [_], _ => rfl) (fun ds Pd h => by obtain ⟨z, rfl, hP⟩ := h; rfl) ?_
  rintro f cdv A outer s G H Q E σ ds Pd n hr ⟨z, rfl, hP⟩ hn st q
  refine su_tg (m := 1) (P := (· ∈ worldsD)) (up := up2 1 2) (is := [1, 2]) st (ru_pick (xs := worldsD) T urn_ok SubJ.refl hr (by decide) rfl (@ra_two _ _ _ _ _ _ _ _ _ (rn_var st.b 0) (@rn_prs _ _ _ _ worldsD _ _ st.b.ex (.cons (.cons (.cons (.cons (.cons (.cons (.cons (.cons (.cons .nil))))))))) (Nat.le_of_ble_eq_true rfl)) rfl) (by decide) rfl rfl) (by omega) (fun d h => by obtain ⟨p, _, rfl⟩ := worldsD_mem h; exact tg2C (i1 := 1) (i2 := 2)) fun d σ2 G2 H2 h st => ?_
  obtain ⟨p, hp, rfl⟩ := worldsD_mem h
  obtain ⟨⟨h1, h2⟩, h3, h4⟩ := wd_bound p hp
  refine su_ret (m := 6) (P := fun d => ∃ ds, d = .tup ds ∧ ∃ l, ds = [.int p.1, .int p.2, l] ∧ ∃ xs, l = .lst xs ∧ Lcd (· = p.1) (IntP fun _ => True) xs) st (ru_tup urn_ok (rua_cons (m1 := 0) (m2 := 6) (P1 := (· = .int p.1)) (PB := fun ds => ∃ l, ds = [.int p.2, l] ∧ ∃ xs, l = .lst xs ∧ Lcd (· = p.1) (IntP fun _ => True) xs) (ru_pure urn_ok (rn_var st.b 1) rfl) (rua_cons (m1 := 0) (m2 := 6) (P1 := (· = .int p.2)) (PB := fun ds => ∃ l, ds = [l] ∧ ∃ xs, l = .lst xs ∧ Lcd (· = p.1) (IntP fun _ => True) xs) (ru_pure urn_ok (rn_var st.b 2) rfl)
    (rua_one (ru_ro urn_ok (ruo_lc (mi := 0) (m := 1) (B := 6) (i0 := 3) (pk := (· = p.1)) urn_ok st.b T.free (ru_pure urn_ok (rn_var st.b 1) ⟨_, rfl, rfl⟩) (fun k hk => by rw [hk]; omega) (by decide) fun s1 HH C cl fp y σ' G' H' st => ru_opI (m1 := 1) (m2 := 0) (p2 := fun _ => True) (g := fun i j => i - j) op_sub (ru_take T urn_ok SubJ.refl hr (by decide) rfl (ra_cons (rn_var st 0) (ra_one (rn_add (rn_mul (rn_int st.ex) (rn_var st 2) ?_) (rn_int st.ex)))) (by omega)) (ru_pure urn_ok (rn_var st 2) ⟨_, rfl, True.intro⟩) fun _ _ _ _ => True.intro)) fun d ⟨xs, e, h⟩ => ⟨d, rfl, xs, e, h⟩) fun d ds e ⟨l, e2, h⟩ => ⟨l, by rw [e, e2], h⟩) fun d ds e ⟨l, e2, h⟩ => ⟨l, by rw [e, e2], h⟩) fun ds ⟨l, e, _⟩ => by rw [e]; exact Nat.le_of_ble_eq_true rfl) (by omega) fun v d G2 H2 ⟨ds, e1, l, e2, xs, e3, hl, hx⟩ t j r => q v d G2 H2 ?_ t (urn_ok.mono j (by omega)) r
  · exact .inl ⟨by omega, by omega⟩
  · have key : ∀ xs : List Dt, (∀ d ∈ xs, IntP (fun _ => True) d) → ∃ g : List Int, xs = g.map Dt.int := by
      intro xs
      induction xs with
      | nil => exact fun _ => ⟨[], rfl⟩
      | cons x xs ih =>
        intro h
        obtain ⟨g, e⟩ := ih fun d hd => h d (List.mem_cons_of_mem _ hd)
        obtain ⟨i, e2, _⟩ := h x List.mem_cons_self
        exact ⟨i :: g, by rw [e, e2] <;> rfl⟩
    obtain ⟨g, e4⟩ := key xs hx
    subst e1 e2 e3 e4
    rw [List.length_map] at hl
    exact hP p hp g hl
end
end Y
set_option Elab.async false
set_option linter.all false
set_option maxRecDepth 100000
set_option maxHeartbeats 1000000
/-! Lay28: own exceptions made, raised, asked. -/
namespace Y
open PySem PySem.Spec PyProof.Rows L2
section
variable {K : PySem.W.Frag} {C fI : Addr}
theorem oexB_ok (h : oexB K C = true) : OexC K C := by
  obtain ⟨h1, h⟩ := He.ba h
  obtain ⟨h2, h⟩ := He.ba h
  obtain ⟨h3, h⟩ := He.ba h
  obtain ⟨h4, h5⟩ := He.ba h
  refine ⟨?_, eqO_ok h2, of_decide_eq_true h3, of_decide_eq_true h4, h5⟩
  split at h1
  · rename_i dd cd sl e
    split at h1
    · rename_i C' bm k0 k1 k2 k3 n k5 em es
      obtain ⟨g1, g⟩ := He.ba h1
      obtain ⟨g2, g⟩ := He.ba g
      obtain ⟨g3, g⟩ := He.ba g
      obtain ⟨g4, g5⟩ := He.ba g
      have e1 : C' = C := of_decide_eq_true g1
      have e2 : n = "ValueError.__new__" := of_decide_eq_true g2
      subst e1 e2
      obtain ⟨nm, bs, mro, ns, q, hd, sn, sub, ab, col, del⟩ := cd
      dsimp only at em g3 g4
      subst em g4
      have g3 : del = false := by
        cases del
        · rfl
        · cases g3
      subst g3
      have esl : sl = #[k0, k1, k2, k3, some (.builtin "ValueError.__new__"), k5] := by
        have := congrArg List.toArray es
        simpa using this
      subst esl
      exact ⟨nm, q, ns, bs, bm, sn, sub, ab, col, dd, k0, k1, k2, k3, k5, e, g5⟩
    · cases h1
  · cases h1
/-- what the written part says of an own exception -/
structure ExK (K : PySem.W.Frag) (C fI : Addr) : Prop where
  oex : OexC K C
  ini : PySem.W.findIn K (.ref C) "__init__" = some (some (.ref fI))
  fn : PySem.W.isFn K (.ref fI) = true
  xf : XfC K C
  ca : PySem.W.findIn K (.ref C) "__class__" = some (some (.builtin "object.__class__"))
  ob : PySem.W.mroIn K C (.type "object") = some true
  day : PySem.W.exmOne K (.ref C) (.ref 31) = some true
theorem Txt.exk {mg : Str → Option Value} (T : Txt K mg) (h : (C, fI) ∈ exL) : ExK K C fI := by
  obtain ⟨h1, g⟩ := He.ba (List.all_eq_true.mp (T.fact 8 rfl) _ h)
  obtain ⟨h2, g⟩ := He.ba g
  obtain ⟨h3, g⟩ := He.ba g
  obtain ⟨h4, g⟩ := He.ba g
  obtain ⟨h5, g⟩ := He.ba g
  obtain ⟨h6, h7⟩ := He.ba g
  exact ⟨oexB_ok h1, eqO_ok h2, h3, xfB_ok h4, eqO_ok h5, of_decide_eq_true h6, of_decide_eq_true h7⟩
end
/-! ### isinstance of a kept exception -/
section
open PySem.Calls PySem.W
variable {prog : Program} {w : World} {A : Around} {E : Value → Shared → Prop} {s : Shared} {K : PySem.W.Frag} {x D : Addr} {ox : Obj} {od : Obj}
theorem exc_class {Q : Option Value → Shared → Prop} (T : XfC K D) (ha : findIn K (.ref D) "__class__" = some (some (.builtin "object.__class__")))
    (hn : specialIn K (.builtin "object.__class__") "__get__" = some (some (.builtin "getset_descriptor.__get__"))) (htk : takesIn K (.builtin "object.__class__") = some true) (hm : mroIn K D (.type "object") = some true)
    (X : K.In s.heap) (I : InstAt s.heap x ox D (some od)) (h : Q (some (.ref D)) { s with toks := s.toks + 1 }) : wpAny (model prog w) A (getAttr? (.ref x) "__class__") Q E s := by
  have ic : PySem.W.isClsIn K D = true := by
    obtain ⟨cd, hc, _⟩ := any_some T.hdC
    unfold PySem.W.isClsIn
    rw [hc]
    rfl
  have hf : findObj K D (some od) "__class__" = some (.bind (.builtin "getset_descriptor.__get__") (.builtin "object.__class__")) := findObj_data ic ha hn htk
  obtain ⟨hq, gg, dd, tt, ww⟩ := s
  have m0 := I.type (M := model prog w)
  have m1 := looks_findIn (M := model prog w) X T.ga
  have m2 := looks_findIn (M := model prog w) X T.gg
  have m3 := looks_find (M := model prog w) X I hf
  have isb : Looks (model prog w) hq (isInstance (.ref x) (.type "BaseException")) true := m0.andThen (looks_subIn X T.exC)
  have no1 : (false && onTheHeap (Value.builtin "BaseException.__getattribute__")) = false := rfl
  have no2 : (onTheHeap (Value.ref D) && Value.builtin "BaseException.__getattribute__" == Value.builtin "object.__getattribute__") = false := by
    rw [show (Value.builtin "BaseException.__getattribute__" == Value.builtin "object.__getattribute__") = false from by decide +kernel] <;> rfl
  unfold getAttr? getAttrBy? getAttrBy
  refine wpAny_bind (wpAny_mkText (wpAny_bind (wpAny_attempt (wpAny_holding (wpAny_bind (m0.at (wpAny_bind (m1.at ?_))))))))
  show wpAny _ _ (if (onTheHeap (Value.ref D) && Value.builtin "BaseException.__getattribute__" == Value.builtin "object.__getattribute__") = true then _ else _) _ _ _
  rw [no2, if_neg Bool.false_ne_true]
  unfold getAttrByItsOwn hookBefore
  refine wpAny_bind ?_
  rw [if_pos (show onTheHeap (Value.ref D) = true from rfl)]
  refine m2.at (wpAny_bind (wpAny_attempt (wpAny_holding ?_)))
  unfold callGetattribute
  rw [no1, if_neg Bool.false_ne_true]
  unfold boundAndCalled
  rw [PySem.F.excAttr_ValueError.ga.bind (.ref x)]
  refine wpAny_bind (wpAny_pure ?_)
  show wpAny _ _ (call (.builtin "BaseException.__getattribute__") [.ref x, .str "__class__" tt]) _ _ _
  refine wpAny_call (codeAny_call_builtin PySem.F.excAttr_ValueError.ga.plain PySem.F.entry_bexc_ga ?_)
  refine @check_slot (model prog w) _ _ ⟨hq, gg, dd, tt + 1, ww⟩ "BaseException.__getattribute__" "BaseException" "__getattribute__" (.ref x) [.str "__class__" tt] [] _ (by decide +kernel) (by decide +kernel) isb (PySem.F.args_bexc_ga (.ref x) (.str "__class__" tt)) ?_
  unfold Builtin.«object.__getattribute__»
  refine wpAny_bind (wpAny_of_eq (a := ((Value.ref x : Value), [Value.str "__class__" tt])) (by first | rfl | (simp only [slotArgs]; rfl)) ?_)
  refine wpAny_bind (wpAny_pure (wpAny_bind (m0.at (wpAny_bind (m3.at ?_)))))
  show wpAny _ _ (holding [Value.builtin "object.__class__"] (call (.builtin "getset_descriptor.__get__") [.builtin "object.__class__", .ref x, .ref D]) >>= ret) _ _ _
  refine wpAny_bind (wpAny_holding (wpAny_call (class_get (s := ⟨hq, gg, dd, tt + 1, ww⟩) (ox := ox) (od := some od) X I hm ?_)))
  refine wpAny_pure ?_
  show wpAny _ _ (handedOut (.ref D)) _ _ _
  rw [handedOut_of (v := .ref D) rfl]
  first
    | exact wpAny_pure (wpAny_pure h)
    | exact wpAny_pure h
    | exact wpAny_pure (wpAny_bind (wpAny_pure (wpAny_pure h)))
theorem kitx_excD (T : XfC K D) (ha : findIn K (.ref D) "__class__" = some (some (.builtin "object.__class__")))
    (hn : specialIn K (.builtin "object.__class__") "__get__" = some (some (.builtin "getset_descriptor.__get__"))) (htk : takesIn K (.builtin "object.__class__") = some true) (hm : mroIn K D (.type "object") = some true) :
    KitX K (.ref x) (.ref D) (fun h => InstAt h x ox D (some od)) where
  ty := fun _ _ _ I => I.type
  it := fun _ _ X _ => by
    obtain ⟨cdD, hcD, _⟩ := any_some T.hdC
    unfold clsIn at hcD
    split at hcD
    · rename_i a1 a2 a3 a4 at5
      intro A' Q' E' s' k q
      unfold isType loadHead
      exact wpAny_bind (wpAny_loadPart (k _ _ (X _ _ at5)) (wpAny_pure q))
    · cases hcD
  ne := fun h tp dd its n sl X htp => by
    obtain ⟨cdD, hcD, _⟩ := any_some T.hdC
    refine Bool.eq_false_iff.mpr fun q => ?_
    have e : D = tp := Value.ref.inj (beq_iff_eq.mp q)
    subst e
    unfold clsIn at hcD
    split at hcD
    · rename_i a1 a2 a3 a4 at5
      have z := (X _ _ at5).symm.trans htp
      cases z
    · cases hcD
  ca := fun X I k => exc_class T ha hn htk hm X I k
end
/-- an exception that is kept: its class, its dict -/
def EO (a : Addr) (cls : Value) (d : Option Addr) : HO := .ext fun h => ∃ oe, h.get? a = some oe ∧ Zc cls d oe ∧ ∃ vs, oe.data = .fields vs
end Y
set_option Elab.async false
set_option linter.all false
set_option maxRecDepth 100000
set_option maxHeartbeats 1000000
/-! Lay29: defs that raise. -/
namespace Y
open PySem PySem.Spec PyProof.Rows L2
/-- what the __init__ of an own exception with one field, with two promises -/
def spX1 (C : Addr) (f : Str) : Sp := fun vs H Q _ => ∃ a v, vs = [.ref a, v] ∧ H a = some (exo a C none) ∧ ∀ d, H d = none → d ≠ a → Q .non (upd (upd H d (exd d [(f, v)])) a (exo a C (some d)))
def spX2 (C : Addr) (f g : Str) : Sp := fun vs H Q _ => ∃ a v u, vs = [.ref a, v, u] ∧ H a = some (exo a C none) ∧ ∀ d, H d = none → d ≠ a → Q .non (upd (upd (upd H d (exd d [(f, v)])) a (exo a C (some d))) d (exd d [(g, u), (f, v)]))
section
variable {P : Program} {w : World} {K : PySem.W.Frag} {mg : Str → Option Value} {base : Heap}
theorem x_bad (T : Txt K mg) : ∃ fd, FnOk P w K mg base C8.CX0 1 f_BadBook_init fd ["self", "part"] (spX1 89 "part") ∧ Binds K fd ["self", "part"] [] := by
  obtain ⟨fd, F⟩ := T.def_ 86 rfl
  have k := T.exk (show ((89 : Addr), (86 : Addr)) ∈ exL by decide)
  refine ⟨fd, C8.fn0 (x := "__init__") (qual := "BadBook.__init__") (st := s_BadBook_init) (N := n_BadBook_init) (toFun F) (C8.fnScope_by (by decide +kernel)) (fun vs H Q E h => ?_) (fun cdv A outer s H vs Q E hr h => ?_), FunD.bindsN F fun _ _ _ _ _ _ us hl => match us, hl with | [_, _], _ => rfl⟩
  · obtain ⟨a, v, rfl, _⟩ := h
    rfl
  · obtain ⟨a, v, rfl, ha, q⟩ := h
    refine ⟨_, pss_one (ps_ost (pe_var (i := 0) rfl (.inl rfl)) (pe_var (i := 1) rfl (.inl rfl))), ?_⟩
    exact ⟨v, rfl, .ref a, rfl, a, 89, rfl, k.oex, eqO_ok (T.fact 15 rfl), .inl ⟨ha, fun dx h1 h2 => q dx h1 h2⟩⟩
theorem x_many (T : Txt K mg) : ∃ fd, FnOk P w K mg base C8.CX0 1 f_TooMany_init fd ["self", "what", "most"] (spX2 246 "what" "most") ∧ Binds K fd ["self", "what", "most"] [] := by
  obtain ⟨fd, F⟩ := T.def_ 87 rfl
  have k := T.exk (show ((246 : Addr), (243 : Addr)) ∈ exL by decide)
  refine ⟨fd, C8.fn0 (x := "__init__") (qual := "TooMany.__init__") (st := s_TooMany_init) (N := n_TooMany_init) (toFun F) (C8.fnScope_by (by decide +kernel)) (fun vs H Q E h => ?_) (fun cdv A outer s H vs Q E hr h => ?_), FunD.bindsN F fun _ _ _ _ _ _ us hl => match us, hl with | [_, _, _], _ => rfl⟩
  · obtain ⟨a, v, u, rfl, _⟩ := h
    rfl
  · obtain ⟨a, v, u, rfl, ha, q⟩ := h
    refine ⟨_, pss_cons (ps_ost (pe_var (i := 0) rfl (.inl rfl)) (pe_var (i := 1) rfl (.inl rfl))) (pss_one (ps_ost (pe_var (i := 0) rfl (.inl rfl)) (pe_var (i := 2) rfl (.inl rfl)))), ?_⟩
    refine ⟨v, rfl, .ref a, rfl, a, 246, rfl, k.oex, eqO_ok (T.fact 16 rfl), .inl ⟨ha, fun dx h1 h2 => ?_⟩⟩
    exact ⟨u, rfl, .ref a, rfl, a, 246, rfl, k.oex, eqO_ok (T.fact 17 rfl), .inr ⟨dx, [("what", v)], upd_same, by rw [upd_ne h2, upd_same], by show 1 ≤ 900; decide, q dx h1 h2⟩⟩
end
/-- the fields of what is raised -/
def badF : List (Str × V) := [("part", .str "book")]
def manyF : List (Str × V) := [("most", .int 400), ("what", .str "choices")]
section
variable {X : Cx} {σ : L2.St} {G H : Hp} {e : Expr} {es : List Expr} {p pos p2 : Pos} {rest : List Stmt} {D : Ends} {E : XK} {j : Nat}
theorem ex_mk {H1 : Hp} {a d C : Addr} {fs : List (Str × V)} {o : HO} {H2 : Hp} (h1 : H1 a = none) (h2 : H1 d = none) (hs : ∀ b, b ≠ a → b ≠ d → H2 b = H1 b) : Ex H1 (upd (del H2 a) d (.xd fs)) := fun b o h => by
  have n1 : b ≠ a := ne_of_none h h1
  have n2 : b ≠ d := ne_of_none h h2
  rw [upd_ne n2, del_ne n1, hs b n1 n2]
  exact h
theorem rs_bad (T : Txt X.K X.mg) (hc : X.calm = true) (tk : Takes X (fun cls d _ H' => E cls d H')) (hr : Room j X.A) (hk : 2 ≤ j) (hg : Gl X "BadBook") (ha : RnA X (e :: es) σ G H [.str "book"]) (q : ∀ d H2, Ex H H2 → H2 d = some (.xd badF) → E (.ref 89) (some d) H2)
    (he : starEach (e :: es) X.env = (false, eval e X.env) :: starEach es X.env := by rfl) (hpl : (backTo pos (starEach es X.env)).any (·.1) = false := by rfl) : wpB X (.Raise (some (.Call (.Name "BadBook" p) (e :: es) [] pos)) none p2 :: rest) D σ H := by
  obtain ⟨fd, F, b⟩ := x_bad (P := X.prog) (w := X.w) (base := X.base) T
  have k := T.exk (show ((89 : Addr), (86 : Addr)) ∈ exL by decide)
  refine wb_cons (wpS_of (ps_raise hc tk (pmk_oex (dvs := []) (ds := []) (x := "BadBook") k.oex k.ini (beq_iff_eq.mp k.fn) F (hr.mono hk) b .nil C8.pass0 hg (T.glo (show (("BadBook" : Str), (89 : Addr)) ∈ gloL by decide +kernel)) pa_wp (by decide) he hpl)) ?_)
  refine ha H (Ex.refl H) _ fun vs G2 H2 s2 r => ?_
  obtain ⟨v, rfl, rv⟩ := reps1 r
  have ev : v = .str "book" := rv
  subst ev
  refine ⟨by show 1 ≤ 1000; decide, fun a na => ⟨a, .str "book", rfl, upd_same, fun d nd nda => ⟨rfl, d, badF, upd_same, by rw [upd_ne nda, upd_same] <;> rfl, ?_, ?_⟩⟩⟩
  · rw [upd_ne nda] at nd
    exact nd
  · rw [upd_ne nda] at nd
    refine q d _ (s2.h.trans (ex_mk (o := .lst []) (C := 89) na nd fun b n1 n2 => ?_)) upd_same
    rw [upd_ne n1, upd_ne n2, upd_ne n1]
theorem rs_many (T : Txt X.K X.mg) (hc : X.calm = true) (tk : Takes X (fun cls d _ H' => E cls d H')) (hr : Room j X.A) (hk : 2 ≤ j) (hg : Gl X "TooMany") (ha : RnA X (e :: es) σ G H [.str "choices", .int 400]) (q : ∀ d H2, Ex H H2 → H2 d = some (.xd manyF) → E (.ref 246) (some d) H2)
    (he : starEach (e :: es) X.env = (false, eval e X.env) :: starEach es X.env := by rfl) (hpl : (backTo pos (starEach es X.env)).any (·.1) = false := by rfl) : wpB X (.Raise (some (.Call (.Name "TooMany" p) (e :: es) [] pos)) none p2 :: rest) D σ H := by
  obtain ⟨fd, F, b⟩ := x_many (P := X.prog) (w := X.w) (base := X.base) T
  have k := T.exk (show ((246 : Addr), (243 : Addr)) ∈ exL by decide)
  refine wb_cons (wpS_of (ps_raise hc tk (pmk_oex (dvs := []) (ds := []) (x := "TooMany") k.oex k.ini (beq_iff_eq.mp k.fn) F (hr.mono hk) b .nil C8.pass0 hg (T.glo (show (("TooMany" : Str), (246 : Addr)) ∈ gloL by decide +kernel)) pa_wp (by decide) he hpl)) ?_)
  refine ha H (Ex.refl H) _ fun vs G2 H2 s2 r => ?_
  obtain ⟨v, u, rfl, rv, ru⟩ := reps2 r
  have ev : v = .str "choices" := rv
  have eu : u = .int 400 := ru
  subst ev eu
  refine ⟨by show 2 ≤ 1000; decide, fun a na => ⟨a, .str "choices", .int 400, rfl, upd_same, fun d nd nda => ⟨rfl, d, manyF, ?_, upd_same, ?_, ?_⟩⟩⟩
  · rw [upd_ne nda.symm, upd_same]
  · rw [upd_ne nda] at nd
    exact nd
  · rw [upd_ne nda] at nd
    refine q d _ (s2.h.trans (ex_mk (o := .lst []) (C := 246) na nd fun b n1 n2 => ?_)) upd_same
    rw [upd_ne n2, upd_ne n1, upd_ne n2, upd_ne n1]
end
/-- a def of the module that raises -/
structure CalX (P : Program) (w : World) (K : PySem.W.Frag) (mg : Str → Option Value) (base : Heap) (k : Nat) (x : Str) (sp : Sp) : Prop where
  ex : ∃ (f : Addr) (fd : FuncData) (ps : List Str), FnOk P w K mg base (L2.CX P w) k f fd ps sp ∧ mg x = some (.ref f) ∧ PySem.W.keepIn K (.ref f) = true ∧ Binds K fd ps []
/-- for these arguments C is raised, with these fields -/
def PuX (K : PySem.W.Frag) (C : Addr) (fs : List (Str × V)) (R : List Dt → Prop) : Sp := fun vs H _ E => ∃ G ds, Ex G H ∧ Reps K G vs ds ∧ R ds ∧ ∀ d H2, Ex H H2 → H2 d = some (.xd fs) → E (.ref C) (some d) H2
section
variable {P : Program} {w : World} {K : PySem.W.Frag} {mg : Str → Option Value} {base : Heap}
abbrev xx (P : Program) (w : World) (K : PySem.W.Frag) (mg : Str → Option Value) (base : Heap) (N : List Str) (q : Str) (st : Stmt) (f : Addr) (cdv : Value) (A : Around) (outer : List Env) (s : Shared) (H : Hp) (E : XK) : Cx := cxOf (L2.CX P w) P w K mg base N q (C8.fnScope st) f cdv A outer s H E
theorem takes_xx {N : List Str} {q : Str} {st : Stmt} {f : Addr} {cdv : Value} {A : Around} {outer : List Env} {s : Shared} {H : Hp} {E : XK} : Takes (xx P w K mg base N q st f cdv A outer s H E) (fun cls d _ H' => E cls d H') := takes_of rfl rfl rfl rfl
abbrev BodX (P : Program) (w : World) (K : PySem.W.Frag) (mg : Str → Option Value) (base : Heap) (k : Nat) (q : Str) (st : Stmt) (N : List Str) (C : Addr) (fs : List (Str × V)) (R : List Dt → Prop) : Prop :=
  ∀ (f : Addr) (cdv : Value) (A : Around) (outer : List Env) (s : Shared) (G H : Hp) (Q : VK) (E : XK) (σ : L2.St) (ds : List Dt), Room k (A.deeper (envOfC q (C8.fnScope st) s.heap.objs.size f cdv)) → R ds → Sta K G H (ini N ds) [] σ G H → (∀ d H2, Ex H H2 → H2 d = some (.xd fs) → E (.ref C) (some d) H2) →
    wpB (xx P w K mg base N q st f cdv A outer s H E) (C8.fnBody st) (dE Q) σ H
theorem cal_px {x : Str} {st : Stmt} {a C : Addr} {N ps : List Str} {k : Nat} {fs : List (Str × V)} {R : List Dt → Prop} (T : Txt K mg) (i : Nat) (hd : fnD[i]? = some ⟨fun _ => a, x, x, C8.fnArgs st, C8.fnBody st, C8.fnScope st, [], []⟩) (hg : (x, a) ∈ gloL) (S : C8.scC N ps (C8.fnScope st) = true)
    (hb : ∀ (kV doc pm : Value) (an : Option Addr) (cdv ct : Value) (us : List Value), us.length = ps.length → bindArgs (PySem.W.fnOf x x (C8.fnArgs st) (C8.fnBody st) (C8.fnScope st) .none kV doc pm an cdv ct) ⟨us, []⟩ = pure (ps.zip us))
    (len : ∀ ds, R ds → ds.length = ps.length) (body : BodX P w K mg base k x st N C fs R) : CalX P w K mg base (k + 1) x (PuX K C fs R) := by
  obtain ⟨fd, F⟩ := T.def_ i hd
  refine ⟨a, fd, ps, ?_, T.glo hg, F.kp, FunD.bindsN F hb⟩
  obtain ⟨oc, od, dV, kV, doc, pm, an, cdv, ct, osl, rfl, lk, hcd, _, _⟩ := F.ex
  refine fn_of lk hcd (C8.fnScope_by S) (fun vs H Q E h => ?_) fun A outer s H vs Q E hr h => ?_
  · obtain ⟨G, ds, _, r, hR, _⟩ := h
    rw [r.length]
    exact len ds hR
  · obtain ⟨G, ds, e, r, hR, q⟩ := h
    exact ⟨_, pb_wp, body a cdv A outer s G H Q E _ ds hr hR (sta_start e r) q⟩
end
section
variable {X : Cx} {σ : L2.St} {G H : Hp} {e : Expr} {es : List Expr} {p pos : Pos} {rest : List Stmt} {D : Ends} {E : XK} {j k : Nat} {x : Str} {C : Addr} {fs : List (Str × V)} {R : List Dt → Prop} {ds : List Dt}
/-- a call that raises: whatever is wished behind it -/
theorem rx_call (c : CalX X.prog X.w X.K X.mg X.base k x (PuX X.K C fs R)) (tk : Takes X (fun cls d _ H' => E cls d H')) (hr : Room j X.A) (hk : k ≤ j) (hg : Gl X x) (ha : RnA X (e :: es) σ G H ds) (hR : R ds) (q : ∀ d H2, Ex H H2 → H2 d = some (.xd fs) → E (.ref C) (some d) H2)
    (hdb : (x == ("__debug__" : Str)) = false := by decide) (he : starEach (e :: es) X.env = (false, eval e X.env) :: starEach es X.env := by rfl) (hpl : (backTo pos (starEach es X.env)).any (·.1) = false := by rfl) : ∀ Q : VK, wpE X (.Call (.Name x p) (e :: es) [] pos) σ H Q := fun Q => by
  obtain ⟨f, fd, ps, F, hm, kp, b⟩ := c.ex
  refine wpE_of (pe_call (E := E) (dvs := []) (ds := []) F (hr.mono hk) hg hm kp b .nil (passes_call tk fun _ _ _ _ h => h) pa_wp hdb he hpl) ?_
  refine ha H (Ex.refl H) _ fun vs G2 H2 s2 rs => ?_
  exact ⟨G2, ds, s2.gh, by rw [List.append_nil]; exact rs, hR, fun d H3 e3 h => q d H3 (s2.h.trans e3) h⟩
theorem rs_rx (h : ∀ Q : VK, wpE X e σ H Q) (hs : swapsWith e none pos.line X.env = pure false := by rfl) : wpB X (.Expr e pos :: rest) D σ H := wb_cons (wpS_of (ps_expr pe_wp hs) (h _))
theorem ra_rx (h : ∀ Q : VK, wpE X e σ H Q) (he : starEach [e] X.env = (false, eval e X.env) :: starEach [] X.env := by rfl) : ∀ Q : List V → Hp → Prop, wpA X [e] σ H Q := fun Q => wpA_of (pa_cons pe_wp pa_nil he) (h _)
end
end Y
set_option Elab.async false
set_option linter.all false
set_option maxRecDepth 100000
set_option maxHeartbeats 1000000
/-! D34: what is refused. -/
namespace Y
open PySem PySem.Spec PyProof.Rows L2
/-- what is no book of sayings -/
def Odd (d : Dt) : Prop := ∃ t, d.ky = some t ∧ kyB t (.cl .sbook) = false
theorem rx_arg {X : Cx} {σ : L2.St} {H : Hp} {e : Expr} {p pos : Pos} {k j : Nat} {x : Str} {sp : Sp} {dvs : List V} (c : C8.Cal X.prog X.w X.K X.mg X.base k x sp dvs) (hr : Room j X.A) (hk : k ≤ j) (hg : Gl X x) (h : ∀ Q : VK, wpE X e σ H Q)
    (hdb : (x == ("__debug__" : Str)) = false := by decide) (he : starEach [e] X.env = (false, eval e X.env) :: starEach [] X.env := by rfl) (hpl : (backTo pos (starEach [] X.env)).any (·.1) = false := by rfl) : ∀ Q : VK, wpE X (.Call (.Name x p) [e] [] pos) σ H Q := fun Q =>
  wpE_of (C8.pe_c c hr hk hg pa_wp hdb he hpl) (ra_rx h he _)
section
variable {P : Program} {w : World} {K : PySem.W.Frag} {mg : Str → Option Value} {base : Heap}
def R_need_bad : List Dt → Prop := fun ds => ∃ d, ds = [d] ∧ Odd d
theorem x_need_bad (T : Txt K mg) : CalX P w K mg base 3 "need_saying_book" (PuX K 89 badF R_need_bad) := by
  refine cal_px (st := s_need_saying_book) (N := n_need_saying_book) (ps := ["value"]) T 13 rfl (by decide +kernel) (by decide +kernel) (fun _ _ _ _ _ _ us hl => match us, hl with | [_], _ => rfl) (fun ds h => by obtain ⟨d, rfl, t, hk, hb⟩ := h; rfl) ?_
  rintro f cdv A outer s G H Q E σ ds hr ⟨d, rfl, t, hk, hb⟩ st q
  refine rs_ifT st (k := true) (rt_to (rt_not (k := false) (rt_to (rt_v (rn_isi (t := t) (cc := .cl .sbook) T.cls T.kit T.free (rn_var st 0) hk (rn_gcl (C := 1005) T st.ex))) hb)) rfl) (fun _ G2 H2 st => ?_) fun z => Bool.noConfusion z
  exact rs_bad T rfl takes_xx hr (by decide) rfl (ra_one (rn_str st.ex)) fun d H3 e h => q d H3 (st.st.h.trans e) h

def R_few_many : List Dt → Prop := fun ds => ∃ n : Int, ds = [.int n] ∧ 400 < n
theorem x_few_many (T : Txt K mg) : CalX P w K mg base 3 "need_few" (PuX K 246 manyF R_few_many) := by
  refine cal_px (st := s_need_few) (N := n_need_few) (ps := ["many"]) T 19 rfl (by decide +kernel) (by decide +kernel) (fun _ _ _ _ _ _ us hl => match us, hl with | [_], _ => rfl) (fun ds h => by obtain ⟨n, rfl, hn⟩ := h; rfl) ?_
  rintro f cdv A outer s G H Q E σ ds hr ⟨n, rfl, hn⟩ st q
  refine rs_ifT st (k := true) (rt_to (rc_t (rc_gt (rn_var st 0) (rn_gint (i := 400) T st.ex))) (decide_eq_true (by omega))) (fun _ G2 H2 st => ?_) fun z => Bool.noConfusion z
  exact rs_many T rfl takes_xx hr (by decide) rfl (ra_cons (rn_str st.ex) (ra_one (rn_gint (i := 400) T st.ex))) fun d H3 e h => q d H3 (st.st.h.trans e) h

def R_choices_bad : List Dt → Prop := R_need_bad
theorem x_choices_bad (T : Txt K mg) : CalX P w K mg base 4 "many_choices" (PuX K 89 badF R_choices_bad) := by
  refine cal_px (st := s_many_choices) (N := n_many_choices) (ps := ["book"]) T 28 rfl (by decide +kernel) (by decide +kernel) (fun _ _ _ _ _ _ us hl => match us, hl with | [_], _ => rfl) (fun ds h => by obtain ⟨d, rfl, hd⟩ := h; rfl) ?_
  rintro f cdv A outer s G H Q E σ ds hr ⟨d, rfl, hd⟩ st q
  exact rs_rx (rx_call (x_need_bad T) takes_xx hr (by decide) rfl (ra_one (rn_var st 0)) ⟨d, rfl, hd⟩ fun d H3 e h => q d H3 e h)

def R_row_bad : List Dt → Prop := R_need_bad
theorem x_row_bad (T : Txt K mg) : CalX P w K mg base 5 "some_row" (PuX K 89 badF R_row_bad) := by
  refine cal_px (st := s_some_row) (N := n_some_row) (ps := ["book"]) T 30 rfl (by decide +kernel) (by decide +kernel) (fun _ _ _ _ _ _ us hl => match us, hl with | [_], _ => rfl) (fun ds h => by obtain ⟨d, rfl, hd⟩ := h; rfl) ?_
  rintro f cdv A outer s G H Q E σ ds hr ⟨d, rfl, hd⟩ st q
  exact rs_rx (rx_arg (c_need_few T) hr (by decide) rfl (rx_call (x_choices_bad T) takes_xx hr (by decide) rfl (ra_one (rn_var st 0)) ⟨d, rfl, hd⟩ fun d H3 e h => q d H3 e h))

def R_row_many : List Dt → Prop := fun ds => ∃ k : Bk, ds = [eBk k] ∧ BkOk k ∧ 400 < manyC k
theorem x_row_many (T : Txt K mg) : CalX P w K mg base 5 "some_row" (PuX K 246 manyF R_row_many) := by
  refine cal_px (st := s_some_row) (N := n_some_row) (ps := ["book"]) T 30 rfl (by decide +kernel) (by decide +kernel) (fun _ _ _ _ _ _ us hl => match us, hl with | [_], _ => rfl) (fun ds h => by obtain ⟨k, rfl, hk, hm⟩ := h; rfl) ?_
  rintro f cdv A outer s G H Q E σ ds hr ⟨k, rfl, hk, hm⟩ st q
  exact rs_rx (rx_call (x_few_many T) takes_xx hr (by decide) rfl (ra_one (rn_c0 (d := .int (manyC k)) (c_many_choices T) hr (by decide) rfl (ra_one (rn_var st 0)) ⟨k, rfl, hk, rfl⟩)) ⟨_, rfl, hm⟩ fun d H3 e h => q d H3 e h)

def R_shows_bad : List Dt → Prop := fun ds => ∃ d v, ds = [d, v] ∧ Odd d
theorem x_shows_bad (T : Txt K mg) : CalX P w K mg base 5 "shows_some_row" (PuX K 89 badF R_shows_bad) := by
  refine cal_px (st := s_shows_some_row) (N := n_shows_some_row) (ps := ["book", "value"]) T 36 rfl (by decide +kernel) (by decide +kernel) (fun _ _ _ _ _ _ us hl => match us, hl with | [_, _], _ => rfl) (fun ds h => by obtain ⟨d, v, rfl, hd⟩ := h; rfl) ?_
  rintro f cdv A outer s G H Q E σ ds hr ⟨d, v, rfl, hd⟩ st q
  exact rs_rx (rx_arg (c_need_few T) hr (by decide) rfl (rx_call (x_choices_bad T) takes_xx hr (by decide) rfl (ra_one (rn_var st 0)) ⟨d, rfl, hd⟩ fun d H3 e h => q d H3 e h))

def R_shows_many : List Dt → Prop := fun ds => ∃ (k : Bk) (v : Dt), ds = [eBk k, v] ∧ BkOk k ∧ 400 < manyC k
theorem x_shows_many (T : Txt K mg) : CalX P w K mg base 5 "shows_some_row" (PuX K 246 manyF R_shows_many) := by
  refine cal_px (st := s_shows_some_row) (N := n_shows_some_row) (ps := ["book", "value"]) T 36 rfl (by decide +kernel) (by decide +kernel) (fun _ _ _ _ _ _ us hl => match us, hl with | [_, _], _ => rfl) (fun ds h => by obtain ⟨k, v, rfl, hk, hm⟩ := h; rfl) ?_
  rintro f cdv A outer s G H Q E σ ds hr ⟨k, v, rfl, hk, hm⟩ st q
  exact rs_rx (rx_call (x_few_many T) takes_xx hr (by decide) rfl (ra_one (rn_c0 (d := .int (manyC k)) (c_many_choices T) hr (by decide) rfl (ra_one (rn_var st 0)) ⟨k, rfl, hk, rfl⟩)) ⟨_, rfl, hm⟩ fun d H3 e h => q d H3 e h)
end
end Y
set_option Elab.async false
set_option linter.all false
set_option maxRecDepth 100000
set_option maxHeartbeats 1000000
/-! Lay30: an exception kept behind its clause. -/
namespace Y
open PySem PySem.Spec PyProof.Rows L2
section
variable {X : Cx} {σ : L2.St} {H : Hp} {s : Shared} {pins : List (Addr × Obj)}
theorem inv_pinned {a : Addr} {q : Addr × Obj} {pn' : List (Addr × Obj)} (I : Inv (X.suite a (q :: (X.pn ++ pins))) pn' σ H s) (ok : X.Ok) : Inv X (q :: pins) σ H s :=
  ⟨ok, I.os, I.bare, I.base, I.loc, I.cell, I.free, I.freeC, fun p hp => I.pin p (by
    refine List.mem_append_left _ ?_
    rcases List.mem_append.mp hp with z | z
    · exact List.mem_cons_of_mem _ (List.mem_append_left _ z)
    · rcases List.mem_cons.mp z with y | y
      · rw [y]
        exact List.mem_cons_self
      · exact List.mem_cons_of_mem _ (List.mem_append_right _ y)), I.hok, I.len⟩
theorem inv_adopt {a : Addr} {oe : Obj} {cls : Value} {d : Option Addr} (I : Inv X ((a, oe) :: pins) σ H s) (h0 : X.s_0.heap.get? a = none) (hp : ∀ p ∈ X.pn ++ pins, p.1 ≠ a) (hz : Zc cls d oe) (hf : ∃ vs, oe.data = .fields vs) : Inv X pins σ (upd H a (EO a cls d)) s := by
  obtain ⟨g1, g2, g3, g4, g5⟩ := I.pin (a, oe) (List.mem_append_right _ List.mem_cons_self)
  have na : H a = none := g2
  have ga : s.heap.get? a = some oe := g1
  have sub : ∀ p ∈ X.pn ++ pins, p ∈ X.pn ++ (a, oe) :: pins := fun p h => by
    rcases List.mem_append.mp h with z | z
    · exact List.mem_append_left _ z
    · exact List.mem_append_right _ (List.mem_cons_of_mem _ z)
  refine ⟨I.ok, I.os, I.bare, ⟨I.base.keep, I.base.slot, fun b o e n hx => ?_, I.base.there, fun b xs e => ?_, fun b o v e => ?_, fun b ps e => ?_⟩, I.loc, I.cell, ?_, fun x c e => ?_, fun p h => ?_, fun b u e => ?_, I.len⟩
  · have ne : b ≠ a := fun z => by rw [z, h0] at e; cases e
    rw [upd_ne ne]
    exact I.base.free b o e n hx
  · have t := I.base.tups b xs e
    rw [upd_ne (ne_of_none t na)]
    exact t
  · have t := I.base.frzs b o v e
    rw [upd_ne (ne_of_none t na)]
    exact t
  · obtain ⟨more, t⟩ := I.base.tbls b ps e
    exact ⟨more, by rw [upd_ne (ne_of_none t na)]; exact t⟩
  · rw [upd_ne (fun z => g3 z.symm)]
    exact I.free
  · have ne : c ≠ a := fun z => by
      obtain ⟨v, o, ho, hd⟩ := I.cell x c e
      rw [z, ga] at ho
      cases ho
      exact g5 v hd
    rw [upd_ne ne]
    exact I.freeC x c e
  · obtain ⟨p1, p2, p3, p4, p5⟩ := I.pin p (sub p h)
    exact ⟨p1, by rw [upd_ne (hp p h)]; exact p2, p3, p4, p5⟩
  · by_cases ba : b = a
    · subst ba
      rw [upd_same] at e
      cases e
      exact ⟨⟨oe, ga, hz, hf⟩, ⟨oe, ga⟩, fun h1 h2 ⟨o', q1, q2, q3⟩ k => ⟨o', k _ q1, q2, q3⟩⟩
    · rw [upd_ne ba] at e
      exact (I.hok b u e).stay (fun c v _ y => y) (fun c hc => by rw [upd_ne (ne_of_none hc na)]; exact hc) (fun c xs hc => by rw [upd_ne (ne_of_none hc na)]; exact hc)
end
/-- what 'except x as n' wishes, the exception kept: slot i is n's -/
def wKeep (K : PySem.W.Frag) (c : Value) (i : Nat) (ts : Addr → Value → Option Addr → TS) (Wout : WX) (D : Ends) : WX := fun cls d σ H =>
  ∃ b, PySem.W.exmOne K cls c = some b ∧ (b = true → ∀ a, H a = none → ts a cls d { nx := fun σ' H' => H' a = none → D.nx (σ'.set i none) (upd H' a (EO a cls d)), rt := fun _ _ => False, bk := fun _ _ => False, ct := fun _ _ => False } (σ.set i (some (.ref a))) H) ∧
    (b = false → Wout cls d σ H)
section
variable {X : Cx} {x n : Str} {c : Value} {i : Nat} {body suite : List Stmt} {b₀ : Stmt} {np pos pos' : Pos} {tb : WX → TS} {ts : Addr → Value → Option Addr → TS} {Wout : WX}
theorem ps_try_keep (hs : X.stack = X.env :: X.outer) (hf : X.env.frame = some X.env.locals) (hex : X.ex = []) (hN : X.N.Nodup) (hi : X.N[i]? = some n) (hln : X.env.kindOf n = some .local) (hc : Names X x c) (tk : Takes X Wout)
    (hb : ∀ (W : WX) (pn : List (Addr × Obj)) (xe : Value → Shared → Prop), Takes (X.tr pn xe) W → PassesOwn (model X.prog X.w) X.A X.env xe → PSs (X.tr pn xe) body (tb W))
    (hsu : ∀ (a : Addr) (oe : Obj) (cls : Value) (d : Option Addr) (pn : List (Addr × Obj)), Zc cls d oe → (∃ vs, oe.data = .fields vs) → PSs (X.suite a ((a, oe) :: pn)) (b₀ :: suite) (ts a cls d)) :
    PS X (.Try body [.ExceptHandler (some (.Name x np)) (some n) (b₀ :: suite) pos'] [] [] pos) (fun D σ H => tb (wKeep X.K c i ts Wout D) D σ H) := by
  refine ⟨fun pins s σ H D I goal => ?_⟩
  have ok0 := I.ok
  have frs0 : X.A.frames = some (X.env :: X.outer) := by
    rw [ok0.frames, hs]
  refine wpAny_Try_except ?_
  refine wpAny_mono ((hb (wKeep X.K c i ts Wout D) (X.pn ++ pins) (fun e s₁ => wpAny (model X.prog X.w) X.A (noteFrame e X.env) (fun _ s₂ => wpAny (model X.prog X.w) X.A (setFlight e none) (fun _ s₃ =>
    wpAny (model X.prog X.w) X.A (handleBy e X.env [.ExceptHandler (some (.Name x np)) (some n) (b₀ :: suite) pos']) (SP X pins D) X.xe s₃) X.xe s₂) X.xe s₁) (fun u s' xx => ?_) PassesOwn.looking).run [] s σ H D (I.toTry _) goal) (fun f s1 hsp => ?_) (fun e s1 he => he)
  · obtain ⟨a, B, sI, pins', σ', H', cls, d, rfl, J', nb, up, sky, na, os, ag, b, hb1, hyes, hno⟩ := xx
    have J0 : Inv X pins σ' H' sI := J'.ofTry ok0
    have sky2 : Sky B (X.env :: X.outer) a (Zc cls d) X.env.locals s'.heap := by
      rw [← hs]
      exact sky
    show wpAny (model X.prog X.w) X.A (noteFrame (.ref a) X.env) _ _ _
    refine Sky.land Zc.steady frs0 hf sky2 fun h3 fl up3 => ?_
    have J3 : Inv X pins σ' H' { s' with heap := h3 } := J0.landed nb fl.1 (up.trans up3) os ag
    obtain ⟨oe3, vs3, he3, hz3, hd3⟩ := fl.there
    have off : ∀ {h : Heap} {o : Obj} {vs : Array Value}, h.FunFrames B (X.env :: X.outer) → h.get? a = some o → o.data = .fields vs → a ∉ frs (X.env :: X.outer) := fun {h o vs} ff e dd hm => by
      obtain ⟨_, o', e', nd'⟩ := ff.mem hm
      rw [e] at e'
      cases e'
      exact nd' _ dd
    have nfr := off fl.2.2.1 he3 hd3
    have nL : a ≠ X.env.locals := fun z => nfr (List.mem_filterMap.mpr ⟨X.env, List.mem_cons_self, by rw [hf, z]⟩)
    have nF : a ∉ X.fs := fun hm => by
      obtain ⟨e, he, q⟩ := List.mem_filterMap.mp hm
      exact nfr (List.mem_filterMap.mpr ⟨e, List.mem_cons_of_mem _ he, q⟩)
    -- not there before
    have new : sI.heap.get? a = none := by
      cases z : sI.heap.get? a with
      | none => rfl
      | some o =>
        have := nb a o z (by rw [hs]; exact nfr)
        rw [fl.2.1] at this
        cases this
    have new0 : X.s_0.heap.get? a = none := by
      cases z : X.s_0.heap.get? a with
      | none => rfl
      | some o =>
        obtain ⟨o', t⟩ := J0.base.there a o z (by rw [hex]; simp)
        rw [new] at t
        cases t
    have newp : ∀ p ∈ X.pn ++ pins, p.1 ≠ a := fun p hp z => by
      have := (J0.pin p hp).1
      rw [z, new] at this
      cases this
    have S3 := J3.suite he3 hd3 na nL nF
    refine wpAny_handleBy_cons (codeAny_handlers_test ?_) (by intro q; cases q)
    have lt : PySem.W.Looks (model X.prog X.w) h3 (typeOf (.ref a)) cls := fun A Q E s k q => wpAny_typeOf_ref (k _ _ he3) (by rw [hz3.1]; exact q)
    have lm := PySem.W.exm_one (M := model X.prog X.w) (J3.kIn) lt hb1
    have ask_ : ∀ {Q : Value → Shared → Prop} {E : Value → Shared → Prop}, Q c { s' with heap := h3 } → wpAny (model X.prog X.w) (X.A.mark (some (.ref a))) (eval (.Name x np) X.env) Q E { s' with heap := h3 } := fun {Q E} q => by
      obtain ⟨hg, hdbg, hm | ⟨hm, hv, hnn⟩⟩ := hc
      · exact ld_glob (X := X.suite a ((a, oe3) :: (X.pn ++ pins))) S3 hg hm q hdbg
      · exact ld_blt (X := X.suite a ((a, oe3) :: (X.pn ++ pins))) S3 hg hm hv q hnn hdbg
    refine ask_ (lm.here ?_)
    cases b with
    | true =>
      refine codeAny_handlers_suite_as ?_
      refine HandSPX.lands_againZ fl fun h4 fl4 up4 => ?_
      have J4 : Inv X pins σ' H' { s' with heap := h4 } := J0.landed nb fl4.1 ((up.trans up3).trans up4) os ag
      obtain ⟨oe4, vs4, he4, hz4, hd4⟩ := fl4.there
      have S4 := J4.suite he4 hd4 na nL nF
      refine store_ok (X := X.suite a ((a, oe4) :: (X.pn ++ pins))) (v := .ref a) S4 hN hi (.inl hln) rfl (fun s5 S5 => ?_) (.inr hln)
      refine wpAny_mono ((hsu a oe4 cls d (X.pn ++ pins) hz4 ⟨_, hd4⟩).run [] s5 _ H' _ S5 (hyes rfl a na)) (fun f s6 hsp => ?_) (fun _ _ z => False.elim z)
      cases f with
      | next =>
        obtain ⟨σ6, H6, S6, q6⟩ := hsp
        have P6 := inv_pinned S6 ok0
        refine gone_ok P6 hN hi hln fun s7 J7 => ?_
        have n6 : H6 a = none := (P6.pin (a, oe4) (List.mem_append_right _ List.mem_cons_self)).2.1
        exact ⟨_, _, inv_adopt J7 new0 newp hz4 ⟨_, hd4⟩, q6 n6⟩
      | brk =>
        obtain ⟨_, _, _, q6⟩ := hsp
        exact q6.elim
      | cont =>
        obtain ⟨_, _, _, q6⟩ := hsp
        exact q6.elim
      | ret u =>
        obtain ⟨_, _, _, _, _, q6⟩ := hsp
        exact q6.elim
    | false =>
      show wpAny _ X.A (handleBy (.ref a) X.env []) _ _ _
      refine wpAny_handleBy_nil ?_
      obtain ⟨k1, k2, k3, oe, vs, T, oT, ts', he, hz, hd, h1, hr⟩ := id fl
      unfold PySem.passOn
      refine wpAny_bind (wpAny_field he hd h1 ?_)
      rw [if_neg (show ¬ ((Value.ref T == Value.none) = true) from by simp)]
      have go : wpAny (model X.prog X.w) X.A (setFlight (.ref a) X.env.frame) (fun _ s4 => wpAny (model X.prog X.w) X.A (throw (.ref a) : Sem Flow) (SP X pins D) X.xe s4) X.xe { s' with heap := h3 } := by
        rw [hf]
        refine HandSPX.setFlight_upZ fl fun h4 hh4 up4 => wpAny_throw (tk _ _ ?_)
        exact ⟨a, B, sI, pins, σ', H', cls, d, rfl, J0, nb, (up.trans up3).trans up4, .inr (.inr (by rw [hs]; exact hh4)), na, os, ag, hno rfl⟩
      first
        | exact wpAny_bind (wpAny_pure (wpAny_bind go))
        | exact wpAny_bind go
  · cases f with
    | next =>
      obtain ⟨σ', H', J', q⟩ := hsp
      exact wpAny_execs_nil ⟨σ', H', J'.ofTry ok0, q⟩
    | brk =>
      obtain ⟨σ', H', J', q⟩ := hsp
      exact ⟨σ', H', J'.ofTry ok0, q⟩
    | cont =>
      obtain ⟨σ', H', J', q⟩ := hsp
      exact ⟨σ', H', J'.ofTry ok0, q⟩
    | ret u =>
      obtain ⟨v, σ', H', J', r, q⟩ := hsp
      exact ⟨v, σ', H', J'.ofTry ok0, r, q⟩
end
end Y
set_option Elab.async false
set_option linter.all false
set_option maxRecDepth 100000
set_option maxHeartbeats 1000000
/-! Lay31: a kept exception asked; _law_heard. -/
namespace Y
open PySem PySem.Spec PyProof.Rows L2
/-- what is asked of its class -/
structure ExF (K : PySem.W.Frag) (C : Addr) : Prop where
  xf : XfC K C
  ca : PySem.W.findIn K (.ref C) "__class__" = some (some (.builtin "object.__class__"))
  ob : PySem.W.mroIn K C (.type "object") = some true
  hn : PySem.W.specialIn K (.builtin "object.__class__") "__get__" = some (some (.builtin "getset_descriptor.__get__"))
  ht : PySem.W.takesIn K (.builtin "object.__class__") = some true
theorem exf_of {K : PySem.W.Frag} {mg : Str → Option Value} {C fI : Addr} (T : Txt K mg) (h : (C, fI) ∈ exL) : ExF K C := ⟨(T.exk h).xf, (T.exk h).ca, (T.exk h).ob, T.kit.hn, T.kit.ht⟩
section
variable {X : Cx} {pins : List (Addr × Obj)} {σ : L2.St} {G H : Hp} {s : Shared} {a C d D : Addr} {fs : List (Str × V)} {te : TE} {e e1 e2 : Expr} {pos p : Pos} {n : Str} {b : Bool} {v : V} {dt : Dt}
theorem kept_at (I : Inv X pins σ H s) (ea : H a = some (EO a (.ref C) (some d))) (ed : H d = some (.xd fs)) : ∃ oe od, PySem.W.InstAt s.heap a oe C (some od) ∧ ∀ n v, fs.lookup n = some v → ∃ u, PySem.W.lookIn n od = some (some u) ∧ RelV v u := by
  obtain ⟨⟨oe, ga, hz, vs, hd⟩, _⟩ := I.hok a _ ea
  have hx : ObjOk X.prog X.w H s.heap d (.xd fs) := I.hok d _ ed
  obtain ⟨mA, hns, hr⟩ := hx
  obtain ⟨od, ho, hl⟩ := lookIn_ns hns
  refine ⟨oe, od, ⟨ga, hz.1, by unfold PySem.W.notCls; rw [hd] <;> rfl, by rw [hz.2]; exact ho⟩, fun n v l => ?_⟩
  obtain ⟨u, hu, ru⟩ := RelO.some_of (v := v) (o := mA n) (by rw [← l]; exact hr n)
  exact ⟨u, by rw [hl, hu], ru⟩
theorem call_isK : CallR X (.builtin "isinstance") (fun xs H Q => ∃ a C d fs D b, xs = [.ref a, .ref D] ∧ H a = some (EO a (.ref C) (some d)) ∧ H d = some (.xd fs) ∧ ExF X.K C ∧ PySem.W.kitOne X.K (.ref C) (.ref D) = some b ∧ Q (.bl b) H) := by
  rintro pins s σ H xs us Q I r ⟨a, C, d, fs, D, b, rfl, ea, ed, F, hk, q⟩
  obtain ⟨u1, u2, rfl, r1, r2⟩ := vals2 r
  cases r1
  cases r2
  obtain ⟨oe, od, J, _⟩ := kept_at I ea ed
  exact PySem.W.kia_one (kitx_excD F.xf F.ca F.hn F.ht F.ob) I.kIn J hk (fun z => nomatch z) fun tk => ⟨.bl b, H, I.kept (t' := tk) fun _ _ z => z, rfl, q⟩
theorem rn_isK (f : Free X "isinstance") (F : ExF X.K C) (h1 : Rn X e1 σ G H (.adr a)) (ea : H a = some (EO a (.ref C) (some d))) (ed : H d = some (.xd fs)) (h2 : Rn X e2 σ G H (.adr D)) (hk : PySem.W.kitOne X.K (.ref C) (.ref D) = some b)
    (he : starEach [e1, e2] X.env = (false, eval e1 X.env) :: starEach [e2] X.env := by rfl) (he2 : starEach [e2] X.env = (false, eval e2 X.env) :: starEach [] X.env := by rfl) (hpl : (backTo pos (starEach [e2] X.env)).any (·.1) = false := by rfl) : Rn X (.Call (.Name "isinstance" p) [e1, e2] [] pos) σ G H (.bl b) :=
  rn_cb call_isK f.g f.m (by decide +kernel) (ra_cons h1 (ra_one h2 he2) he) (fun vs G2 H2 s rs Q q => by
    obtain ⟨v, w, rfl, r1, r2⟩ := reps2 rs
    exact ⟨a, C, d, fs, D, b, by rw [show v = V.ref a from r1, show w = V.ref D from r2], s.h _ _ ea, s.h _ _ ed, F, hk, q _ _ _ (Stp.refl s.gh) rfl⟩) (by decide) (by decide) he hpl
theorem pe_xfK (he : PE X e te) (hb : attributeBase e n X.env (eval e X.env) = eval e X.env) : PE X (.Attribute e n pos) (fun σ H Q => te σ H fun x H1 => ∃ a C d fs v, x = .ref a ∧ H1 a = some (EO a (.ref C) (some d)) ∧ H1 d = some (.xd fs) ∧ XfC X.K C ∧ PySem.W.findIn X.K (.ref C) n = some none ∧ fs.lookup n = some v ∧ Q v H1) := by
  refine ⟨fun pins s σ H Q I h => ?_⟩
  refine attr_of hb (thn (he.run pins s σ H _ I h) fun u s1 ⟨x, H1, I1, rx, a, C, d, fs, v, ex, ea, ed, T, hno, l, q⟩ => ?_)
  subst ex
  obtain rfl : u = Value.ref a := rx
  obtain ⟨oe, od, J, hl⟩ := kept_at I1 ea ed
  obtain ⟨u, hu, ru⟩ := hl n v l
  exact HandSPX.exc_get I1.kIn J T.ga T.gg T.exC (PySem.W.findObj_own T.hdC hno rfl hu) (handed_of ru) ⟨v, H1, I1.tok _, ru, q⟩
theorem rn_xfK (F : ExF X.K C) (h1 : Rn X e σ G H (.adr a)) (ea : H a = some (EO a (.ref C) (some d))) (ed : H d = some (.xd fs)) (hno : PySem.W.findIn X.K (.ref C) n = some none) (l : fs.lookup n = some v) (rd : ∀ G, Rep X.K G v dt)
    (hb : attributeBase e n X.env (eval e X.env) = eval e X.env := by rfl) : Rn X (.Attribute e n pos) σ G H dt := fun H1 e0 Q q =>
  wpE_of (pe_xfK pe_wp hb) (h1 H1 e0 _ fun u G2 H2 s r => ⟨a, C, d, fs, v, r, s.h _ _ (e0 _ _ ea), s.h _ _ (e0 _ _ ed), F.xf, hno, l, q v G2 H2 s (rd G2)⟩)
end
theorem takes_len {X : Cx} {W : WX} (t : Takes X W) : Takes X (fun c d σ H => σ.length = X.N.length → W c d σ H) := fun u s' ⟨a, B, sI, pins, σ, H, cls, d, e, I, nb, up, sky, na, os, ag, w⟩ =>
  t u s' ⟨a, B, sI, pins, σ, H, cls, d, e, I, nb, up, sky, na, os, ag, w I.len⟩
/-- the answer is made of what is raised -/
def TTh (K : PySem.W.Frag) (C : Addr) (fs : List (Str × V)) (res : Dt) : (XK → Hp → VK → Prop) → Hp → VK → Prop := fun tl H Q =>
  ∀ Qn : VK, tl (fun cls d H' => cls = .ref C ∧ (∃ d0, d = some d0 ∧ H' d0 = some (.xd fs)) ∧ ∀ v G2 H2, Ex H' H2 → Ex G2 H2 → (∀ a, H' a ≠ none → G2 a = none) → Rep K G2 v res → Q v H2) H Qn
def hdE : Hp := fun _ => none
theorem heard_gives {X : Cx} {g : Addr} {cdg : Value} {q : Str} {C fI : Addr} {fs : List (Str × V)} {d1 d2 : Dt} (T : Txt X.K X.mg) (hx : (C, fI) ∈ exL)
    (hcase : (C = 89 ∧ fs = badF ∧ d1 = .str "book" ∧ d2 = .str "book") ∨ (C = 246 ∧ fs = manyF ∧ d1 = .str "choices" ∧ d2 = .int 400)) :
    LamX.GivesTo X n_Lheard "_law_heard" (C8.fnScope s_Lheard) g cdg (C8.fnBody s_Lheard) "_law_ask" q (TTh X.K C fs (.tup [d1, d2])) := by
  intro f c' s H Q tl act hc h
  have F := exf_of T hx
  let Z : Cx := (cxOf C8.CX0 X.prog X.w X.K X.mg X.base n_Lheard "_law_heard" (C8.fnScope s_Lheard) g cdg X.A X.stack s H C8.E0).nox
  refine ⟨_, (pb_wp : PSs Z _ _), ?_⟩
  refine wb_cons (wpS_of (ps_set (X := Z) (i := 1) (of_decide_eq_true (by kernel_rfl)) rfl (.inl rfl) pe_non rfl (.inr rfl)) ?_)
  show wpB Z _ _ ([some (.ref f), some .non, none] : L2.St) H
  refine wb_cons (wpS_of (ps_try_keep (X := Z) (x := "DayError") (c := .ref 31) (i := 2) (Wout := fun _ _ _ _ => False)
    (tb := fun W D σ H => σ[0]? = some (some (.ref f)) ∧ H c' = some (LamX.CodeO c' q) ∧ ∃ Ech : XK, (∀ cls d σ' H', Ech cls d H' → σ'.length = 3 → W cls d σ' H') ∧ ∀ Qn : VK, tl Ech H Qn)
    (ts := fun a cls d D σ H => ∃ v, σ[2]? = some (some v) ∧ D.nx (σ.set 1 (some v)) H)
    rfl rfl rfl (of_decide_eq_true (by kernel_rfl)) rfl rfl ⟨rfl, by decide, .inl (T.glo (show (("DayError" : Str), (31 : Addr)) ∈ gloL by decide +kernel))⟩ LamX.takes0 (fun W pn xe tk _ => ?_) fun a oe cls d pn _ _ => ?_) ?_)
  · refine ⟨fun pins s' σ H' D I ⟨h1, h2, Ech, hW, h3⟩ => ?_⟩
    exact (pss_one (ps_expr (act (fun c d σ H => σ.length = 3 → W c d σ H) pn xe Ech _ _ (takes_len tk) hW) (by rfl))).run pins s' σ H' D I ⟨h1, h2, h3 _⟩
  · exact pss_one (ps_set (i := 1) (of_decide_eq_true (by kernel_rfl)) rfl (.inl rfl) (pe_var (i := 2) rfl (.inl rfl)) rfl (.inr rfl))
  · refine ⟨rfl, hc, _, ?_, h⟩
    rintro cls d σ' H' ⟨rfl, ⟨d0, rfl, hd⟩, hq⟩ hl
    refine ⟨true, (T.exk hx).day, fun _ a na => ⟨.ref a, ?_, fun na' => ?_⟩, fun z => Bool.noConfusion z⟩
    · rw [List.getElem?_set, if_pos rfl, if_pos (by omega)]
    · have st : Sta Z.K hdE (upd H' a (EO a (.ref C) (some d0))) [none, some (.adr a), none] [] (((σ'.set 2 (some (.ref a))).set 1 (some (.ref a))).set 2 none) hdE (upd H' a (EO a (.ref C) (some d0))) := by
        refine ⟨⟨Ex.refl _, Ex.refl _, fun _ _ h => (by cases h), fun _ h _ => h⟩, ⟨by simp [hl], fun i d h => ?_⟩, (fun _ h => by cases h), List.nodup_nil⟩
        match i, h with
        | 1, h =>
          have e : Dt.adr a = d := Option.some.inj (Option.some.inj h)
          subst e
          refine ⟨.ref a, ?_, rfl⟩
          rw [List.getElem?_set_ne (by decide), List.getElem?_set, if_pos rfl, if_pos (by rw [List.length_set]; omega)]
        | 0, h => cases Option.some.inj h
        | 2, h => cases Option.some.inj h
        | i + 3, h => simp at h
      have ea : upd H' a (EO a (.ref C) (some d0)) a = some (EO a (.ref C) (some d0)) := upd_same
      have ed : upd H' a (EO a (.ref C) (some d0)) d0 = some (.xd fs) := by
        rw [upd_ne (ne_of_none hd na)]
        exact hd
      have fin : ∀ v G2 H2, Stp hdE (upd H' a (EO a (.ref C) (some d0))) G2 H2 → Rep X.K G2 v (.tup [d1, d2]) → Q v H2 := fun v G2 H2 t r => hq v G2 H2 ((Ex.new na).trans t.h) t.gh (fun b nb => t.new b rfl (by
        by_cases z : b = a
        · rw [z, upd_same]
          simp
        · rw [upd_ne z]
          exact nb)) r
      have TZ : Txt Z.K Z.mg := T
      obtain ⟨k1, k2⟩ := He.ba (T.fact 14 rfl)
      obtain ⟨k2, k3⟩ := He.ba k2
      generalize (((σ'.set 2 (some (.ref a))).set 1 (some (.ref a))).set 2 none) = σ3 at st ⊢
      generalize upd H' a (EO a (.ref C) (some d0)) = H3 at st ea ed fin ⊢
      rcases hcase with ⟨rfl, rfl, rfl, rfl⟩ | ⟨rfl, rfl, rfl, rfl⟩
      · refine rs_ifT (X := Z) (k := true) st (rt_v (rn_isK (C := 89) (D := 89) TZ.free F (rn_var st 1) (st.st.h _ _ ea) (st.st.h _ _ ed) (rn_gcl (C := 89) TZ st.ex) (of_decide_eq_true k1))) (fun _ G2 H2 st => ?_) fun z => Bool.noConfusion z
        exact rs_rq st fin (rn_tup (ra_cons (rn_str st.ex) (ra_one (rn_xfK F (rn_var st 1) (st.st.h _ _ ea) (st.st.h _ _ ed) (eqO_ok (T.fact 15 rfl)) rfl fun _ => rfl))) (Nat.le_of_ble_eq_true rfl))
      · refine rs_skip (X := Z) st (rt_v (rn_isK (C := 246) (D := 89) TZ.free F (rn_var st 1) (st.st.h _ _ ea) (st.st.h _ _ ed) (rn_gcl (C := 89) TZ st.ex) (of_decide_eq_true k2))) fun G2 H2 st => ?_
        refine rs_ifT (X := Z) (k := true) st (rt_v (rn_isK (C := 246) (D := 246) TZ.free F (rn_var st 1) (st.st.h _ _ ea) (st.st.h _ _ ed) (rn_gcl (C := 246) TZ st.ex) (of_decide_eq_true k3))) (fun _ G2 H2 st => ?_) fun z => Bool.noConfusion z
        exact rs_rq st fin (rn_tup (ra_cons (rn_xfK F (rn_var st 1) (st.st.h _ _ ea) (st.st.h _ _ ed) (eqO_ok (T.fact 16 rfl)) rfl fun _ => rfl) (ra_one (rn_xfK F (rn_var st 1) (st.st.h _ _ ea) (st.st.h _ _ ed) (eqO_ok (T.fact 17 rfl)) rfl fun _ => rfl))) (Nat.le_of_ble_eq_true rfl))
end Y
set_option Elab.async false
set_option linter.all false
set_option maxRecDepth 100000
set_option maxHeartbeats 2000000
/-! Lay32: a lambda made and handed on: all but its table stays. -/
namespace Y
open PySem PySem.Spec PyProof.Rows L2 LamX
def ButP (P : Addr) (H H' : Hp) : Prop := ∀ b o, b ≠ P → H b = some o → H' b = some o
def tLamP (T : List (Addr × Str)) (P : Addr) (TT : (XK → Hp → VK → Prop) → Hp → VK → Prop) (t : XK → TE) : TE := fun σ H Q => Tabs T H ∧ ∀ H1, ButP P H H1 → Tabs T H1 → TT (fun E H' Q' => t E σ H' Q') H1 Q
section
variable {X : Cx} {pins : List (Addr × Obj)} {σ : L2.St} {H : Hp} {s : Shared}
theorem lam_makeP {T : List (Addr × Str)} {c P : Addr} {prm : Arguments} {bdy : Expr} {scp : Scope} {po : Pos} {E : Value → Shared → Prop} {Q : Value → Shared → Prop} (I : Inv X pins σ H s) (B0 : TabB X.base X.mg c P) (kcode : X.env.code = .ref c)
    (km : (P, X.env.qual ++ "<lambda>") ∈ T) (ku : ∀ p ∈ T, p.1 = P → p.2 = X.env.qual ++ "<lambda>") (kT : Tabs T H) (kdef : defaultsOf prm X.env = ([], [])) (kfree : ∀ y ∈ scp.names, y.2 = .free → ∃ c, X.env.cells.lookup y.1 = some c)
    (h : ∀ (f c' : Addr) (pmo ctq : Value) (H1 : Hp) (s' : Shared), Inv X pins σ H1 s' → ButP P H H1 → Tabs T H1 →
      s'.heap.get? f = some (PySem.W.kla_obj "<lambda>" (X.env.qual ++ "<lambda>") prm bdy scp (cloFrom X.env.cells scp.names []) pmo c' ctq) → H1 f = none → f ∉ frs X.stack → H1 c' = some (CodeO c' (X.env.qual ++ "<lambda>")) → Q (.ref f) s') :
    wpAny (model X.prog X.w) X.A (eval (.Lambda prm bdy scp po) X.env) Q E s := by
  obtain ⟨qs, tP, ht, ka⟩ := kT _ km
  refine PySem.W.kla_eval kdef ?_
  have b0 : s.heap.BuiltinsAt X.mg P := B0.bm.keeps I.bk
  have hP' : s.heap.get? P = some { cls := .none, data := .fields qs } := I.hok P _ tP
  have offr : ∀ f, s.heap.objs.size ≤ f → f ∉ frs X.stack := fun f kf z => by
    rcases List.mem_cons.mp (I.stkSub _ z) with e | e
    · have h1 := I.lt
      rw [← e] at h1
      exact Nat.lt_irrefl _ (Nat.lt_of_lt_of_le h1 kf)
    · exact I.nofs kf e
  have atP : ∀ {b : Addr} {r : Str}, H b = some (CodeO b r) → b ≠ P := fun {b r} e z => by
    rw [z, tP] at e
    exact codeO_ne qs (Option.some.inj e).symm
  cases qc : codeAmong po qs.toList with
  | none =>
    refine PySem.W.kla_makeFunction (mg := X.mg) (c := c) (P := P) (ps := qs) (closure_ok kfree) I.ok.glob (I.mod.glob.keeps I.bk) kcode (B0.code.keeps I.bk) hP' ht qc B0.gP b0 fun c' ctq h' tq kx gge llt rrec ttb => ?_
    obtain ⟨c2, oc, vs, t, e2, ooc, kd, kv⟩ := rrec
    cases e2
    have zsz : s.heap.objs.size ≤ h'.objs.size := Nat.le_trans gge (Nat.le_of_lt llt)
    have mC : H c' = none := I.hok.fresh gge
    have J1 := inv_table (t' := tq) (more := #[rawInt po.line, rawInt po.col, .ref c']) (h' := h'.push (PySem.W.kla_obj "<lambda>" (X.env.qual ++ "<lambda>") prm bdy scp (cloFrom X.env.cells scp.names []) ((X.mg "__name__").getD .none) c' ctq)) I tP
      (fun b o kb e => Heap.get?_push_of_some _ (kx b o kb e)) (Heap.get?_push_of_some _ ttb) gge ⟨oc, vs, t, Heap.get?_push_of_some _ ooc, kd, kv⟩
    have kE : ButP P H (upd (upd H P (.tbl (qs ++ #[rawInt po.line, rawInt po.col, .ref c']))) c' (CodeO c' (X.env.qual ++ "<lambda>"))) := fun b o n e => by
      rw [upd_ne (ne_of_none e mC), upd_ne n]
      exact e
    have lE : (qs ++ #[rawInt po.line, rawInt po.col, .ref c']).toList = qs.toList ++ [rawInt po.line, rawInt po.col, .ref c'] := by simp
    refine h h'.objs.size c' ((X.mg "__name__").getD .none) ctq _ _ J1 kE (fun p hp => ?_) (Heap.get?_push_size _ rfl) ?_ (offr _ zsz) upd_same
    · by_cases kb : p.1 = P
      · rw [ku p hp kb, kb]
        refine ⟨_, by rw [upd_ne (ne_of_none tP mC), upd_same], by rw [lE]; exact PySem.TriplesOk_snoc _ _ _ _ ht, fun p' cv vcv => ?_⟩
        rw [lE] at vcv
        rcases among_app _ ht vcv with z | z
        · obtain ⟨c0, e1, e2⟩ := ka p' cv z
          exact ⟨c0, e1, kE _ _ (atP e2) e2⟩
        · exact ⟨c', z, upd_same⟩
      · obtain ⟨ps', a1, a2, a3⟩ := kT p hp
        refine ⟨ps', by rw [upd_ne (ne_of_none a1 mC), upd_ne kb]; exact a1, a2, fun p' cv vcv => ?_⟩
        obtain ⟨c0, e1, e2⟩ := a3 p' cv vcv
        exact ⟨c0, e1, kE _ _ (atP e2) e2⟩
    · have n1 : h'.objs.size ≠ c' := Nat.ne_of_gt llt
      have n2 : h'.objs.size ≠ P := Nat.ne_of_gt (Nat.lt_of_lt_of_le (Heap.lt_size hP') zsz)
      rw [upd_ne n1, upd_ne n2]
      exact I.hok.fresh zsz
  | some cv =>
    obtain ⟨c', e, kco⟩ := ka po cv qc
    subst e
    refine PySem.W.kla_makeFunctionHit (mg := X.mg) (c := c) (P := P) (ps := qs) (closure_ok kfree) I.ok.glob (I.mod.glob.keeps I.bk) kcode (B0.code.keeps I.bk) hP' ht qc b0 fun ctq h' tq kx zsz => ?_
    have J1 : Inv X pins σ H { s with heap := h'.push (PySem.W.kla_obj "<lambda>" (X.env.qual ++ "<lambda>") prm bdy scp (cloFrom X.env.cells scp.names []) ((X.mg "__name__").getD .none) c' ctq), toks := tq } := I.kept fun b o e => Heap.get?_push_of_some _ (kx b o e)
    exact h h'.objs.size c' ((X.mg "__name__").getD .none) ctq H _ J1 (fun _ _ _ e => e) kT (Heap.get?_push_size _ rfl) (I.hok.fresh zsz) (offr _ zsz) kco
theorem pe_lamP {T : List (Addr × Str)} {TT : (XK → Hp → VK → Prop) → Hp → VK → Prop} {x a : Str} {g c P : Addr} {k : Nat} {pg0 : Arguments} {bg0 : List Stmt} {sg0 : Scope} {dV0 kV0 doc pmo cdv ct oc : Value} {an od : Option Addr} {osl : Array (Option Value)} {Ng : List Str}
    {prm : Arguments} {bdy : Expr} {scp : Scope} {t : XK → TE} {p lpos po : Pos} (kg : Gl X x) (km : X.mg x = some (.ref g)) (kk0 : PySem.W.keepIn X.K (.ref g) = true)
    (l0 : X.K.lookup g = some ⟨oc, od, .func (PySem.W.fnOf x x pg0 bg0 sg0 dV0 kV0 doc pmo an cdv ct), osl⟩) (kcg : PySem.W.codeIn X.K cdv x = true) (kb : L2.Binds X.K (PySem.W.fnOf x x pg0 bg0 sg0 dV0 kV0 doc pmo an cdv ct) [a] []) (S0 : FnScope Ng [a] sg0) (kN : Ng[0]? = some a) (kva : Vis sg0 a)
    (kG : GivesTo X Ng x sg0 g cdv bg0 a (X.env.qual ++ "<lambda>") TT)
    (B0 : TabB X.base X.mg c P) (kcode : X.env.code = .ref c) (hmT : (P, X.env.qual ++ "<lambda>") ∈ T) (ku : ∀ p ∈ T, p.1 = P → p.2 = X.env.qual ++ "<lambda>") (kr : Room (k + 2) X.A) (L : LamS X.env.scope scp) (kdef : defaultsOf prm X.env = ([], []))
    (kbind : ∀ (q : Str) (cl : List (Str × Addr)) (pmo cv ctq : Value), bindArgs (PySem.W.kla_fn "<lambda>" q prm bdy scp cl pmo cv ctq) ⟨[], []⟩ = pure [])
    (kbody : ∀ (A : Around) (outer : List Env) (s : Shared) (H : Hp) (E : XK) (f c' : Addr), Room k (A.deeper (lamEnv X scp s.heap.objs.size f c')) → PE (lamCx X A outer s H E scp f c') bdy (t E))
    (kdb : (x == ("__debug__" : Str)) = false := by decide) (kd : (a == ("__debug__" : Str)) = false := by decide) (kcd0 : (a == ("__classdict__" : Str)) = false := by decide) :
    PE X (.Call (.Name x p) [.Lambda prm bdy scp lpos] [] po) (tLamP T P TT t) := by
  refine ⟨fun pins s σ H Q I h => ?_⟩
  obtain ⟨kT, h⟩ := h
  refine wpAny_Call_Name_kw (ld_glob I kg km ?_ kdb)
  refine PySem.W.callWith_K (h₀ := X.base) I.ok.mod.kin kk0 ?_ (by rfl) (by rfl)
  show wpAny _ _ (spliced ((false, eval (.Lambda prm bdy scp lpos) X.env) :: backTo po (starEach [] X.env))) _ _ s
  refine Calls.spliced_cons (lam_makeP I B0 kcode hmT ku kT kdef (L.has I.ok) fun f c' pm' ctq H1 s' J1 en T2 kf kfn kfr kco => ?_)
  refine Calls.spliced_nil ⟨J1.kIn, ?_⟩
  have r0 : codeAny (model X.prog X.w) X.A (.call (.ref g) ⟨[.ref f], []⟩) (CR C8.CX0 X.stack X.prog X.w H1 s' Q C8.E0) s' := by
    refine run_ofS (N := Ng) (ps := [a]) (us := [.ref f]) (vs := [.ref f]) l0 kcg S0 kr J1.env0 (kb s' [.ref f] J1.kIn rfl) (.cons rfl .nil) rfl fun kr' => ?_
    obtain ⟨t', ht', kq'⟩ := kG f c' s' H1 Q (fun E H' Q' => t E σ H' Q') (fun W pn xe E p1 p2 tq hW => pe_act (i := 0) J1 L kf kfn kfr (kbind _ _ _ _ _) tq hW kr' (fun A outer s H hr2 => kbody A outer s H E f c' hr2) kN kva kd kcd0) kco (h H1 en T2)
    exact ⟨t', ht'.nox, kq'⟩
  refine wpAny_call (codeAny_mono r0 fun r s2 kq => ?_)
  cases r with
  | error e => exact (show False from kq).elim
  | ok fl =>
    cases fl with
    | ret u => exact J1.after kq
    | next => exact False.elim kq
    | brk => exact False.elim kq
    | cont => exact False.elim kq
end
end Y
set_option Elab.async false
set_option linter.all false
set_option maxRecDepth 100000
set_option maxHeartbeats 2000000
/-! Lay33: tables among what is hidden; _law_heard of a lambda. -/
namespace Y
open PySem PySem.Spec PyProof.Rows L2 LamX
abbrev tabA (T : List (Addr × Str)) : List Addr := T.map (·.1)
/-- J0 and the tables -/
def JP (J0 : Nat → Hp → Hp → Prop) (T : List (Addr × Str)) (n : Nat) (G H : Hp) : Prop := J0 n G H ∧ (∀ p ∈ T, G p.1 = none) ∧ Tabs T H
def J1 : Nat → Hp → Hp → Prop := fun _ _ _ => True
theorem j1_ok : HidOk [] J1 := ⟨(fun _ _ h => by cases h), fun _ _ _ _ _ => True.intro, fun _ _ => True.intro⟩
theorem TabS.non {H H' : Hp} {P : Addr} {q : Str} (t : TabS H P q) (eP : H' P = H P) (e : ∀ b o, H b = some o → (∀ xs, o ≠ .lst xs) → (∀ ps, o ≠ .tbl ps) → H' b = some o) : TabS H' P q := by
  obtain ⟨ps, h1, h2, h3⟩ := t
  refine ⟨ps, by rw [eP]; exact h1, h2, fun pos cv hc => ?_⟩
  obtain ⟨c, e1, e2⟩ := h3 pos cv hc
  exact ⟨c, e1, e _ _ e2 (fun xs z => by unfold CodeO at z; cases z) fun ps z => by unfold CodeO at z; cases z⟩
theorem jp_ok {us0 : List Addr} {J0 : Nat → Hp → Hp → Prop} {T : List (Addr × Str)} (ok : HidOk us0 J0) : HidOk (us0 ++ tabA T) (JP J0 T) where
  at_ := fun ⟨h0, hg, ht⟩ a ha => by
    rcases List.mem_append.mp ha with z | z
    · exact ok.at_ h0 a z
    · obtain ⟨p, hp, e⟩ := List.mem_map.mp z
      obtain ⟨ps, h1, _⟩ := ht p hp
      rw [← e]
      exact ⟨hg p hp, by rw [h1]; simp⟩
  stp := fun ⟨h0, hg, ht⟩ e1 e2 e3 hn => ⟨ok.stp h0 (fun a ha => e1 a (List.mem_append_left _ ha)) e2 e3 (fun a ha => hn a (List.mem_append_left _ ha)), fun p hp => hn p.1 (List.mem_append_right _ (List.mem_map.mpr ⟨p, hp, rfl⟩)), fun p hp => TabS.non (ht p hp) (e1 p.1 (List.mem_append_right _ (List.mem_map.mpr ⟨p, hp, rfl⟩))) e2⟩
  mono := fun ⟨h0, hg, ht⟩ hn => ⟨ok.mono h0 hn, hg, ht⟩
/-- what works on the urn alone, where tables stand -/
theorem sub_urn {K : PySem.W.Frag} {u : Addr} {T : List (Addr × Str)} : SubJ [u] (Urn K u) ([u] ++ tabA T) (JP (Urn K u) T) where
  sub := fun a h => List.mem_append_left _ h
  h0 := fun h => h.1
  h1 := fun {n k G H G2 H2} ⟨h0, hg, ht⟩ hu hn e eg hz => ⟨hu, fun p hp => hz p.1 (List.mem_append_right _ (List.mem_map.mpr ⟨p, hp, rfl⟩)), fun p hp => by
    have keep : ∀ b o, H b = some o → (∀ xs, o ≠ .lst xs) → H2 b = some o := fun b o hb nl => by
      have ne : b ≠ u := fun z => by
        obtain ⟨_, vs, it, h, _⟩ := h0
        rw [z, h] at hb
        cases hb
        exact nl _ rfl
      have := e b o (by rw [hds_out (by simpa using ne)]; exact hb)
      exact hds_ex _ _ this
    obtain ⟨ps, h1, _⟩ := ht p hp
    exact TabS.non (ht p hp) (by rw [h1]; exact keep _ _ h1 fun xs z => by cases z) fun b o hb nl _ => keep b o hb nl⟩
/-- what works on some tables alone, where the urn and more tables stand -/
theorem sub_tab {K : PySem.W.Frag} {u : Addr} {T T' : List (Addr × Str)} (hT : ∀ p ∈ T, p ∈ T') (hU : ∀ p ∈ T', ∀ p' ∈ T', p.1 = p'.1 → p = p') : SubJ ([] ++ tabA T) (JP J1 T) ([u] ++ tabA T') (JP (Urn K u) T') where
  sub := fun a h => by
    obtain ⟨p, hp, e⟩ := List.mem_map.mp h
    exact List.mem_append_right _ (List.mem_map.mpr ⟨p, hT p hp, e⟩)
  h0 := fun ⟨_, hg, ht⟩ => ⟨True.intro, fun p hp => hg p (hT p hp), fun p hp => ht p (hT p hp)⟩
  h1 := fun {n k G H G2 H2} ⟨h0, hg, ht⟩ ⟨_, hg2, ht2⟩ hn e eg hz => by
    have keep : ∀ b o, b ∉ tabA T → H b = some o → H2 b = some o := fun b o nb hb => hds_ex _ _ (e b o (by rw [hds_out (by simpa using nb)]; exact hb))
    obtain ⟨g, vs, it, h, r, hd⟩ := h0
    have nu : u ∉ tabA T := fun z => by
      obtain ⟨p, hp, e1⟩ := List.mem_map.mp z
      obtain ⟨ps, h1, _⟩ := ht p (hT p hp)
      rw [e1, h] at h1
      cases h1
    refine ⟨⟨hz u (List.mem_append_left _ List.mem_cons_self), vs, it, keep _ _ nu h, r.ex eg, hd.mono hn⟩, fun p hp => hz p.1 (List.mem_append_right _ (List.mem_map.mpr ⟨p, hp, rfl⟩)), fun p hp => ?_⟩
    by_cases z : p.1 ∈ tabA T
    · obtain ⟨p', hp', e1⟩ := List.mem_map.mp z
      have ep := hU p hp p' (hT p' hp') e1.symm
      rw [ep]
      exact ht2 p' hp'
    · obtain ⟨ps, a1, a2, a3⟩ := ht p hp
      refine ⟨ps, keep _ _ z a1, a2, fun pos cv hc => ?_⟩
      obtain ⟨c, e1, e2⟩ := a3 pos cv hc
      refine ⟨c, e1, keep _ _ (fun y => ?_) e2⟩
      obtain ⟨p', hp', e3⟩ := List.mem_map.mp y
      obtain ⟨ps', h1, _⟩ := ht p' (hT p' hp')
      rw [e3, e2] at h1
      unfold CodeO at h1
      cases h1
/-- the same, the urn told by both -/
theorem sub_tabU {K : PySem.W.Frag} {u : Addr} {T T' : List (Addr × Str)} (hT : ∀ p ∈ T, p ∈ T') (hU : ∀ p ∈ T', ∀ p' ∈ T', p.1 = p'.1 → p = p') : SubJ ([u] ++ tabA T) (JP (Urn K u) T) ([u] ++ tabA T') (JP (Urn K u) T') where
  sub := fun a h => by
    rcases List.mem_append.mp h with z | z
    · exact List.mem_append_left _ z
    · obtain ⟨p, hp, e⟩ := List.mem_map.mp z
      exact List.mem_append_right _ (List.mem_map.mpr ⟨p, hT p hp, e⟩)
  h0 := fun ⟨hu, hg, ht⟩ => ⟨hu, fun p hp => hg p (hT p hp), fun p hp => ht p (hT p hp)⟩
  h1 := fun {n k G H G2 H2} ⟨h0, hg, ht⟩ ⟨hu2, hg2, ht2⟩ hn e eg hz => by
    have keep : ∀ b o, b ∉ [u] ++ tabA T → H b = some o → H2 b = some o := fun b o nb hb => hds_ex _ _ (e b o (by rw [hds_out nb]; exact hb))
    obtain ⟨g, vs, it, h, r, hd⟩ := h0
    refine ⟨hu2, fun p hp => hz p.1 (List.mem_append_right _ (List.mem_map.mpr ⟨p, hp, rfl⟩)), fun p hp => ?_⟩
    by_cases z : p.1 ∈ tabA T
    · obtain ⟨p', hp', e1⟩ := List.mem_map.mp z
      have ep := hU p hp p' (hT p' hp') e1.symm
      rw [ep]
      exact ht2 p' hp'
    · obtain ⟨ps, a1, a2, a3⟩ := ht p hp
      have np : p.1 ∉ [u] ++ tabA T := fun y => by
        rcases List.mem_append.mp y with y | y
        · rw [List.mem_singleton.mp y, h] at a1
          cases a1
        · exact z y
      refine ⟨ps, keep _ _ np a1, a2, fun pos cv hc => ?_⟩
      obtain ⟨c, e1, e2⟩ := a3 pos cv hc
      refine ⟨c, e1, keep _ _ (fun y => ?_) e2⟩
      rcases List.mem_append.mp y with y | y
      · rw [List.mem_singleton.mp y, h] at e2
        unfold CodeO at e2
        cases e2
      · obtain ⟨p', hp', e3⟩ := List.mem_map.mp y
        obtain ⟨ps', h1, _⟩ := ht p' (hT p' hp')
        rw [e3, e2] at h1
        unfold CodeO at h1
        cases h1
/-- what is read where all but tables stays -/
theorem rep_to {K : PySem.W.Frag} {G H : Hp} {vs : List V} {ds : List Dt} (e : Ex G H) (r : Reps K G vs ds) : Reps K H vs ds := r.ex e
section
variable {X : Cx} {us0 : List Addr} {J0 : Nat → Hp → Hp → Prop} {Tt : List (Addr × Str)} {σ : L2.St} {G Hh : Hp} {p pos lpos : Pos} {k j0 : Nat} {params : Arguments} {body : Expr} {scope : Scope} {C fI c Pt : Addr} {fs : List (Str × V)} {d1 d2 : Dt} {t : XK → TE}
/-- _law_heard(lambda: ..), where what is asked raises -/
theorem ru_heard (ok0 : HidOk us0 J0) (ht0 : ∀ {n : Nat} {G H : Hp}, J0 n G H → ∀ a ∈ us0, ∀ ps, H a ≠ some (.tbl ps)) (T : Txt X.K X.mg) (hx : (C, fI) ∈ exL) (hcase : (C = 89 ∧ fs = badF ∧ d1 = .str "book" ∧ d2 = .str "book") ∨ (C = 246 ∧ fs = manyF ∧ d1 = .str "choices" ∧ d2 = .int 400))
    (TB : TabB X.base X.mg c Pt) (hcode : X.env.code = .ref c) (hmT : (Pt, X.env.qual ++ "<lambda>") ∈ Tt) (hu : ∀ p ∈ Tt, p.1 = Pt → p.2 = X.env.qual ++ "<lambda>") (hr : Room j0 X.A) (hk : k + 2 ≤ j0) (hg : Gl X "_law_heard") (L : LamS X.env.scope scope) (hdef : defaultsOf params X.env = ([], []))
    (hbind : ∀ (q : Str) (cl : List (Str × Addr)) (pm cv ctv : Value), bindArgs (PySem.W.kla_fn "<lambda>" q params body scope cl pm cv ctv) ⟨[], []⟩ = pure [])
    (hbody : ∀ (A : Around) (outer : List Env) (s : Shared) (H : Hp) (E : XK) (f c' : Addr), Room k (A.deeper (lamEnv X scope s.heap.objs.size f c')) → PE (lamCx X A outer s H E scope f c') body (t E))
    (ht : ∀ (H1 : Hp) (E : XK) (Qn : VK), Ex G H1 → (∀ d H2, Ex H1 H2 → H2 d = some (.xd fs) → E (.ref C) (some d) H2) → t E σ H1 Qn) :
    RnU X (us0 ++ tabA Tt) (JP J0 Tt) (.Call (.Name "_law_heard" p) [.Lambda params body scope lpos] [] pos) σ G Hh 0 (· = .tup [d1, d2]) := fun G1 H1 n s hj hn Q q => by
  obtain ⟨fd, F⟩ := T.def_ 56 rfl
  obtain ⟨oc, od, dV, kV, doc, pm, an, cdv, ct, osl, rfl, lk, hcd, hD, _⟩ := F.ex
  have hb : Binds X.K _ ["_law_ask"] [] := FunD.bindsN F fun _ _ _ _ _ _ us hl => match us, hl with | [_], _ => rfl
  have ok := jp_ok (T := Tt) ok0
  have nPt : Pt ∈ us0 ++ tabA Tt := List.mem_append_right _ (List.mem_map.mpr ⟨_, hmT, rfl⟩)
  refine wpE_of (pe_lamP (T := Tt) (TT := TTh X.K C fs (.tup [d1, d2])) (t := t) (Ng := n_Lheard) (k := k) (a := "_law_ask") hg (T.glo (show (("_law_heard" : Str), f_Lheard) ∈ gloL by decide +kernel)) F.kp lk hcd hb (C8.fnScope_by (by decide +kernel)) rfl (.inl (by decide +kernel)) (heard_gives T hx hcase) TB hcode hmT hu (hr.mono hk) L hdef hbind hbody) ⟨hj.2.2, fun Ha eb Ta => ?_⟩
  intro Qn
  have e1 : Ex (hds (us0 ++ tabA Tt) H1) (hds (us0 ++ tabA Tt) Ha) := fun a o h => by
    have z := hds_some h
    rw [hds_out z] at h ⊢
    exact eb a o (fun y => z (by rw [y]; exact nPt)) h
  have eG : Ex G1 Ha := (s.gh.trans e1).trans hds_ex
  refine ht Ha _ Qn (s.g.trans eG) fun d H2 e2 hd => ⟨rfl, ⟨d, rfl, hd⟩, fun v G3 H3 e3 g3 n3 r3 => ?_⟩
  have hat := ok.at_ hj
  have e13 : ∀ a o, a ∉ us0 ++ tabA Tt → H1 a = some o → H3 a = some o := fun a o z h => e3 a o (e2 a o (eb a o (fun y => z (by rw [y]; exact nPt)) h))
  have eG3 : Ex G1 H3 := eG.trans (e2.trans e3)
  have hidn : ∀ a ∈ us0 ++ tabA Tt, H2 a ≠ none := fun a ha => by
    by_cases y : a = Pt
    · rw [y]
      obtain ⟨ps, h1, _⟩ := Ta _ hmT
      rw [e2 _ _ h1]
      simp
    · cases z : H1 a with
      | none => exact absurd z (hat a ha).2
      | some o =>
        rw [e2 _ _ (eb a o y z)]
        simp
  have nu : ∀ a ∈ us0 ++ tabA Tt, uni G1 G3 a = none := fun a ha => uni_none (hat a ha).1 (n3 a (hidn a ha))
  refine q v (.tup [d1, d2]) (uni G1 G3) H3 rfl ⟨fun a o h => ?_, uni_l _ _, fun a o h => ?_, fun a h hne => ?_⟩ ?_ (r3.ex (uni_r eG3 g3))
  · have z := hds_some h
    rw [hds_out z] at h ⊢
    exact e13 a o z h
  · have z : a ∉ us0 ++ tabA Tt := fun z => by
      rw [nu a z] at h
      cases h
    rw [hds_out z]
    exact uni_ex eG3 g3 a o h
  · refine uni_none h (n3 a ?_)
    have z : a ∉ us0 ++ tabA Tt := fun z => hne (hds_in z)
    rw [hds_out z] at hne
    cases y : H1 a with
    | none => exact absurd y hne
    | some o =>
      rw [e2 _ _ (eb a o (fun w => z (by rw [w]; exact nPt)) y)]
      simp
  · obtain ⟨hj0, hg0, hT0⟩ := hj
    have nP0 : Pt ∉ us0 := fun z => by
      obtain ⟨ps, h1, _⟩ := hT0 _ hmT
      exact ht0 hj0 _ z ps h1
    refine ⟨ok0.stp hj0 (fun a ha => ?_) (fun a o h _ nt => ?_) (uni_l _ _) fun a ha => nu a (List.mem_append_left _ ha), fun p hp => nu p.1 (List.mem_append_right _ (List.mem_map.mpr ⟨p, hp, rfl⟩)), fun p hp => ?_⟩
    · cases y : H1 a with
      | none => exact absurd y (hat a (List.mem_append_left _ ha)).2
      | some o => exact e3 _ _ (e2 _ _ (eb a o (fun w => nP0 (by rw [← w]; exact ha)) y))
    · refine e3 _ _ (e2 _ _ (eb a o (fun w => ?_) h))
      obtain ⟨ps, h1, _⟩ := hT0 _ hmT
      rw [w, h1] at h
      cases h
      exact nt ps rfl
    · exact TabS.ext (Ta p hp) fun b o h => e3 _ _ (e2 _ _ h)
end
end Y
set_option Elab.async false
set_option linter.all false
set_option maxRecDepth 100000
set_option maxHeartbeats 1000000
/-! Lay34: lists that are filled by what works on hidden things; defs with tables. -/
namespace Y
open PySem PySem.Spec PyProof.Rows L2 LamX
section
variable {X : Cx} {us : List Addr} {J : Nat → Hp → Hp → Prop} {σ : L2.St} {G0 H0 G Hh H G1 H1 : Hp} {d d1 d2 : Dt} {ds ds1 ds2 : List Dt} {dss : List (Option Dt)} {ow : List (Addr × List Dt)} {a b c e o : Expr} {es : List Expr} {pos p tp : Pos} {k : Bool} {D : Ends} {rest : List Stmt} {m n : Nat} {P : Dt → Prop} {PA : List Dt → Prop}
theorem ruo_lst (ok : HidOk us J) (h : RnUA X us J es σ G Hh m PA) (hl : ∀ ds, PA ds → ds.length ≤ 100000) : RnUO X us J (.List es pos) σ G Hh m PA := fun G1 H1 n s hj hn Q q =>
  wpE_of (pe_lst pa_wp) (h G1 H1 n s hj hn _ fun vs ds G2 H2 hpd t j r => ⟨by rw [r.length]; exact Nat.le_trans (hl ds hpd) (by decide), fun p np => by
    have lu : p ∉ us := fun z => (ok.at_ j p z).2 np
    have np' : hds us H2 p = none := by rw [hds_out lu]; exact np
    have e2 : Ex G2 H2 := t.gh.trans hds_ex
    have n1 : H1 p = none := by
      have := t.h.back np'
      rw [hds_out lu] at this
      exact this
    refine q p vs ds G2 _ hpd ⟨?_, t.g, ?_, t.new⟩ n1 (e2.back np) upd_same (ok.stp j (fun a h => upd_ne fun z => lu (by rw [← z]; exact h)) (fun a o h _ _ => by rw [upd_ne (ne_of_none h np)]; exact h) (Ex.refl _) fun a h => (ok.at_ j a h).1) r
    · rw [hds_set lu]
      exact t.h.trans (Ex.new np')
    · rw [hds_set lu]
      exact t.gh.trans (Ex.new np')⟩)
theorem own_out {K : PySem.W.Frag} {l : Addr} {items : List Dt} (s : StJ K us J n G0 H0 dss ow σ G H) (h : Own K H0 G (hds us H) l items) : l ∉ us ∧ ∃ vs, H l = some (.lst vs) ∧ Reps K G vs items := by
  obtain ⟨vs, h1, h2, _, _⟩ := h
  have := hds_some h1
  rw [hds_out this] at h1
  exact ⟨this, vs, h1, h2⟩
/-- xs.m(e, ..), xs a list of ours -/
theorem su_bm {j : Nat} {l : Addr} {mn : Str} {q1 q2 : Pos} {r : V → List V → Hp → VK → Prop} {f : List Dt → List Dt} (ok : HidOk us J) (s : StJ X.K us J n G0 H0 dss ow σ G H) (hv : Rn X o σ G (hds us H) (.adr l)) (hj : ow[j]? = some (l, ds)) (h : RnUA X us J (e :: es) σ G (hds us H) m PA) (hn : n + m ≤ 1000000)
    (pm : PE X (.Call (.Attribute o mn q1) (e :: es) [] q2) (tBM X.K "list" r (wpE X o) (wpA X (e :: es))))
    (hr : ∀ vs ws ds1 G2 H2, PA ds1 → Reps X.K G2 vs ds → Reps X.K G2 ws ds1 → H2 l = some (.lst vs) → ∀ Q : VK, (∀ us, Reps X.K G2 us (f ds1) → Q .non (upd H2 l (.lst us))) → r (.ref l) ws H2 Q)
    (q : ∀ ds1 G2 H2, PA ds1 → StJ X.K us J (n + m) G0 H0 dss (ow.set j (l, f ds1)) σ G2 H2 → wpB X rest D σ H2)
    (hs : swapsWith (.Call (.Attribute o mn q1) (e :: es) [] q2) none pos.line X.env = pure false := by rfl) :
    wpB X (.Expr (.Call (.Attribute o mn q1) (e :: es) [] q2) pos :: rest) D σ H := by
  obtain ⟨lu, ws, o1, o2⟩ := own_out s (s.b.own (l, ds) (List.mem_of_getElem? hj))
  refine wb_cons (wpS_of (ps_expr pe_wp hs) (wpE_of pm (ru_pure (P := (· = .adr l)) ok hv rfl G H n (Stp.refl s.b.ex) s.j (by omega) _ fun v d G2 H2 ed t j0 r2 => ?_)))
  subst ed
  have ev : v = .ref l := r2
  subst ev
  have hl2 : H2 l = some (.lst ws) := hds_ex _ _ (t.h _ _ (by rw [hds_out lu]; exact o1))
  refine ⟨.inl ⟨rfl, ws, SqL.of hl2⟩, h G2 H2 n t j0 hn _ fun us' ds1 G3 H3 hpd t3 j3 r3 => ?_⟩
  have s4 := t.trans t3
  have hl3 : H3 l = some (.lst ws) := hds_ex _ _ (s4.h _ _ (by rw [hds_out lu]; exact o1))
  refine hr ws us' ds1 G3 H3 hpd (o2.ex s4.g) r3 hl3 _ fun us2 r4 => ?_
  have st3 := s.stp s4 j3
  refine q ds1 G3 _ hpd ⟨?_, ok.stp j3 (fun a h => upd_ne fun z => lu (by rw [← z]; exact h)) (fun a o h nl _ => by rw [upd_ne (fun z => by rw [z, hl3] at h; cases h; exact nl _ rfl)]; exact h) (Ex.refl _) fun a h => (ok.at_ j3 a h).1⟩
  rw [hds_set lu]
  exact st3.b.put hj r4
theorem su_app {j : Nat} {l : Addr} {q1 q2 : Pos} (ok : HidOk us J) (s : StJ X.K us J n G0 H0 dss ow σ G H) (hv : Rn X o σ G (hds us H) (.adr l)) (hj : ow[j]? = some (l, ds)) (h : RnU X us J e σ G (hds us H) m P) (hn : n + m ≤ 1000000) (hl : ds.length < 100000) (q : ∀ d G2 H2, P d → StJ X.K us J (n + m) G0 H0 dss (ow.set j (l, ds ++ [d])) σ G2 H2 → wpB X rest D σ H2)
    (he : starEach [e] X.env = (false, eval e X.env) :: starEach [] X.env := by rfl)
    (pm : PE X (.Call (.Attribute o "append" q1) [e] [] q2) (tBM X.K "list" rAppend (wpE X o) (wpA X [e])) := by exact pe_bm PySem.F.plainAttrs_list PySem.F.slot_list_append PySem.F.type_list_append mt_append pe_wp pa_wp)
    (hs : swapsWith (.Call (.Attribute o "append" q1) [e] [] q2) none pos.line X.env = pure false := by rfl) :
    wpB X (.Expr (.Call (.Attribute o "append" q1) [e] [] q2) pos :: rest) D σ H :=
  su_bm (PA := fun ds1 => ∃ d, ds1 = [d] ∧ P d) (f := fun ds1 => ds ++ ds1) ok s hv hj (rua_one h (fun d hd => ⟨d, rfl, hd⟩) he) hn pm (fun vs ws ds1 G2 H2 ⟨d, ed, hd⟩ r1 r2 hH Q k => by
    subst ed
    obtain ⟨w, rfl, rw'⟩ := reps1 r2
    exact ⟨l, vs, w, rfl, rfl, hH, by rw [r1.length]; exact Nat.lt_of_lt_of_le hl (by decide), k _ (r1.append (Reps.one rw'))⟩) (fun ds1 G2 H2 ⟨d, ed, hd⟩ st => by
    subst ed
    exact q d G2 H2 hd st) hs
/-- a list of ours becomes data -/
theorem StJ.freeze {K : PySem.W.Frag} {i j : Nat} {l : Addr} (ok : HidOk us J) (s : StJ K us J n G0 H0 dss ow σ G H) (hj : ow[j]? = some (l, ds)) (hi : dss[i]? = some (some (.adr l))) : ∃ G2, StJ K us J n G0 H0 (dss.set i (some (.lst ds))) (ow.eraseIdx j) σ G2 H := by
  obtain ⟨lu, ws, o1, o2⟩ := own_out s (s.b.own (l, ds) (List.mem_of_getElem? hj))
  obtain ⟨G2, e2, st⟩ := s.b.freeze hj hi
  exact ⟨G2, st, ok.stp s.j (fun _ _ => rfl) (fun _ _ h _ _ => h) e2 fun a h => st.ex.back (hds_in h)⟩
end
section
variable {P : Program} {w : World} {K : PySem.W.Frag} {mg : Str → Option Value} {base : Heap}
/-- the body of a def that makes lambdas: its code object is known -/
abbrev BodT (P : Program) (w : World) (K : PySem.W.Frag) (mg : Str → Option Value) (base : Heap) (k : Nat) (q : Str) (st : Stmt) (N : List Str) (us : List Addr) (J : Nat → Hp → Hp → Prop) (m : Nat) (R : List Dt → (Dt → Prop) → Prop) : Prop :=
  ∀ (f : Addr) (cdv : Value) (A : Around) (outer : List Env) (s : Shared) (G H : Hp) (Q : VK) (E : XK) (σ : L2.St) (ds : List Dt) (Pd : Dt → Prop) (n : Nat), cdv = .ref (He.cT K (q, none)).1 → Room k (A.deeper (envOfC q (C8.fnScope st) s.heap.objs.size f cdv)) → R ds Pd → n + m ≤ 1000000 → StJ K us J n G (hds us H) (ini N ds) [] σ G H →
      (∀ v d G2 H2, Pd d → Stp G (hds us H) G2 (hds us H2) → J (n + m) G2 H2 → Rep K G2 v d → Q v H2) → wpB (bx P w K mg base N q st f cdv A outer s H E) (C8.fnBody st) (dE Q) σ H
theorem fad_eq {x : Str} {a : Addr} (T : Txt K mg) (hg : (x, a) ∈ gloL) : He.fAd K (x, none) = a := by
  have h := eqO_ok (List.all_eq_true.mp (T.fact 0 rfl) (x, a) hg)
  show He.ga K x = a
  unfold He.ga
  rw [show PySem.W.nsIn K mainGlobals x = _ from h]
theorem fok_tab {x : Str} {st : Stmt} {a : Addr} {N ps : List Str} {k m : Nat} {us : List Addr} {J : Nat → Hp → Hp → Prop} {R : List Dt → (Dt → Prop) → Prop} (T : Txt K mg) (i : Nat) (hd : fnD[i]? = some ⟨fun _ => a, x, x, C8.fnArgs st, C8.fnBody st, C8.fnScope st, [], []⟩) (hg : (x, a) ∈ gloL) (S : C8.scC N ps (C8.fnScope st) = true)
    (hb : ∀ (kV doc pm : Value) (an : Option Addr) (cdv ct : Value) (us : List Value), us.length = ps.length → bindArgs (PySem.W.fnOf x x (C8.fnArgs st) (C8.fnBody st) (C8.fnScope st) .none kV doc pm an cdv ct) ⟨us, []⟩ = pure (ps.zip us))
    (len : ∀ ds Pd, R ds Pd → ds.length = ps.length) (body : BodT P w K mg base k x st N us J m R) : ∃ fd, FnOk P w K mg base C8.CX0 (k + 1) a fd ps (PuJ K us J m R) ∧ mg x = some (.ref a) ∧ PySem.W.keepIn K (.ref a) = true ∧ Binds K fd ps [] ∧ (∀ (s : Shared) (us : List Value), us.length = ps.length → BindsTo s fd ⟨us, []⟩ (ps.zip us)) := by
  obtain ⟨fd, F⟩ := T.def_ i hd
  have hB := FunD.bindsN F hb
  have hA := FunD.bindsA F hb
  have hkp := F.kp
  obtain ⟨oc, od, dV, kV, doc, pm, an, cdv, ct, osl, rfl, lk, hcd, _, _⟩ := F.ex
  obtain ⟨c0, rfl⟩ := He.codeIn_ref hcd
  refine ⟨_, ?_, T.glo hg, hkp, hB, hA⟩
  refine fn_of lk hcd (C8.fnScope_by S) (fun vs H Q E h => ?_) fun A outer s H vs Q E hr h => ?_
  · obtain ⟨G, ds, Pd, n, _, _, _, r, hR, _⟩ := h
    rw [r.length]
    exact len ds Pd hR
  · obtain ⟨G, ds, Pd, n, e, j, hn, r, hR, q⟩ := h
    have ec : c0 = (He.cT K (x, none)).1 := (He.codeOf_eq (K := K) (p := (x, none)) (by rw [fad_eq T hg]; exact lk) rfl).symm
    exact ⟨_, (pb_wp : PSs (bx P w K mg base N x st a (.ref c0) A outer s H E) _ _).nox, body a (.ref c0) A outer s G H Q E _ ds Pd n (by rw [ec]) hr hR hn ⟨sta_start e r, j⟩ q⟩
end
end Y
set_option Elab.async false
set_option linter.all false
set_option maxRecDepth 100000
set_option maxHeartbeats 1000000
/-! D35: whether a row of some, or none with rings, is found. -/
namespace Y
open PySem PySem.Spec PyProof.Rows L2 LamX
def qFr : Str := (envOfC "_law_found_right" (C8.fnScope s_Lfound_right) 0 0 .none).qual ++ "<lambda>"
abbrev cFr (K : PySem.W.Frag) : Addr × Addr := He.cT K ((("_law_found_right" : Str), (none : Option Str)))
abbrev TFr (K : PySem.W.Frag) : List (Addr × Str) := [((cFr K).2, qFr)]
abbrev eKs (ss : List Sg) : Dt := .lst (ss.map eT)
section
variable {P : Program} {w : World} {K : PySem.W.Frag} {mg : Str → Option Value} {base : Heap}
theorem plL_ints {n : Nat} {g : List Int} : (eL g).pl (n + 1) = true := by
  show (g.map Dt.int).all (Dt.pl n) = true
  rw [List.all_map, List.all_eq_true]
  intro x _
  cases n <;> rfl
theorem plJ_parts {n : Nat} {rs : List Ring} : (Dt.tup [eRings rs]).pl (n + 4) = true := by
  show [eRings rs].all (Dt.pl (n + 3)) = true
  rw [List.all_cons, plJ_rings]
  rfl
def R_Lfr : List Dt → (Dt → Prop) → Prop := fun ds Pd => ∃ (k : Bk) (kept : List (List Int)), ds = [.int k.1, eKs k.2, .lst (kept.map eL)] ∧ BkOk k ∧ kept.length ≤ 100000 ∧ (∀ g : List Int, g ∈ kept ↔ (g.length : Int) = k.1 ∧ KpAll k g) ∧ Pd (.bl true)
theorem b_Lfound_right (T : Txt K mg) (hP : ProOk P) (TB : TabB base mg (cFr K).1 (cFr K).2) : BodT P w K mg base 11 "_law_found_right" s_Lfound_right n_Lfound_right ([] ++ tabA (TFr K)) (JP J1 (TFr K)) 0 R_Lfr := by
  rintro f cdv A outer s G H Q E σ ds Pd n hcd hr ⟨k, kept, rfl, hk, hkl, hkept, hPd⟩ hn st q
  have ok : HidOk ([] ++ tabA (TFr K)) (JP J1 (TFr K)) := jp_ok j1_ok
  have hd := hk.d
  have hnn := hk.n
  have el : ∀ l : List Sg, (l.map fun s => Dt.int (manyOwn k.1 s)) = (l.map (manyOwn k.1)).map .int := fun l => by rw [List.map_map] <;> rfl
  have len_ok : ∀ s ∈ k.2, 1 ≤ s.len ∧ s.len ≤ 48 := fun s hs => sg_len (hk.ok s hs)
  refine su_tg (m := 0) (P := (· = .tup [eBk k, .int (manyC k)])) (up := up2 3 4) (is := [3, 4]) st (ru_pure ok (rn_tup (ra_cons (rn_c0 (d := eBk k) (c_Lbook T) hr (by decide) rfl (ra_cons (rn_var st.b 0) (ra_one (rn_var st.b 1))) ⟨k, rfl, hk, rfl⟩) (ra_one (rn_c0 (d := .int (manyC k)) (c_Ltimes T) hr (by decide) rfl (ra_one (rn_to (rn_map (xs := k.2) (enc := eT) (i := 5) (f := fun s => .int (manyOwn k.1 s)) st.b (wk_list (rn_var st.b 1)) (by omega) fun s1 HH C cl fp y hy σ' G' H' st => ?_) (show Dt.lst (k.2.map fun s => .int (manyOwn k.1 s)) = .lst ((k.2.map (manyOwn k.1)).map .int) by rw [el]))) ?_))) (Nat.le_of_ble_eq_true rfl)) rfl) hn (fun d ed => by subst ed; exact tg2C (i1 := 3) (i2 := 4)) fun d σ2 G2 H2 ed st => ?_
  · have := len_ok y hy
    refine (rn_c0 (c_Lmany T) hr (by decide) rfl (ra_cons (rn_var st 0) (ra_one (rn_var st 5))) ?_)
    exact ⟨k.1, y, rfl, by omega, by omega, rfl⟩
  · refine ⟨_, rfl, fun i hi => ?_, rfl⟩
    obtain ⟨s, hs, rfl⟩ := List.mem_map.mp hi
    have := many_bound (D := k.1) (by omega) (hk.ok s hs)
    omega
  subst ed
  obtain ⟨f1, fd1, ps1, F1, hm1, kp1, b1⟩ := (x_row_many (P := P) (w := w) (base := base) T).ex
  obtain ⟨f2, fd2, ps2, F2, hm2, kp2, b2⟩ := (x_shows_many (P := P) (w := w) (base := base) T).ex
  refine su_ifP (k := decide (400 < manyC k)) ok st (rc_t (rc_gt (rn_var st.b 4) (rn_int st.b.ex))) (by omega) (fun hm G2 H2 st => ?_) fun hm G2 H2 st => wb_nil ?_
  · have hm : 400 < manyC k := of_decide_eq_true hm
    refine su_letO (i := 6) (m := 0) (PA := (· = [.tup [.str "choices", .int 400]])) ok st (ruo_lst ok (rua_one (ru_heard (k := 5) (C := 246) (c := (cFr K).1) (Pt := (cFr K).2) (t := fun E => tCall (PuX K 246 manyF R_row_many) [] E (tCons (tVar 3) tNil)) j1_ok (fun _ a ha => by cases ha) T (show ((246 : Addr), (243 : Addr)) ∈ exL by decide) (.inr ⟨rfl, rfl, rfl, rfl⟩) TB hcd (List.mem_singleton.mpr rfl) (fun p hp _ => by rw [List.mem_singleton.mp hp]; rfl) hr (by decide) rfl (lamS_by (sc := C8.fnScope s_Lfound_right) (by decide +kernel)) rfl (fun _ _ _ _ _ => rfl)
      (fun A outer s H E f c' hr2 => pe_call (E := E) (dvs := []) (ds := []) F1 (hr2.mono (by decide)) rfl hm1 kp1 b1 .nil (passes_call (takes_of rfl rfl rfl rfl) fun _ _ _ _ h => h) (pa_cons (pe_var (i := 3) rfl (.inr (.inr rfl))) pa_nil)) (fun H1 E Qn eG hq => by
        obtain ⟨v, e1, rv⟩ := st.b.env.at_ 3 _ rfl
        exact ⟨v, e1, H1, [eBk k], Ex.refl _, ⟨rv.ex eG, True.intro⟩, ⟨k, rfl, hk, hm⟩, hq⟩)) fun d hd => by rw [hd]) fun ds e => by rw [e]; exact Nat.le_of_ble_eq_true rfl) (by omega) fun l ds σ2 G2 H2 ed st => ?_
    subst ed
    refine su_app (j := 0) (m := 0) ok st (rn_var st.b 6) rfl (ru_heard (k := 5) (C := 246) (c := (cFr K).1) (Pt := (cFr K).2) (t := fun E => tCall (PuX K 246 manyF R_shows_many) [] E (tCons (tVar 3) (tCons (tC .non) tNil))) j1_ok (fun _ a ha => by cases ha) T (show ((246 : Addr), (243 : Addr)) ∈ exL by decide) (.inr ⟨rfl, rfl, rfl, rfl⟩) TB hcd (List.mem_singleton.mpr rfl) (fun p hp _ => by rw [List.mem_singleton.mp hp]; rfl) hr (by decide) rfl (lamS_by (sc := C8.fnScope s_Lfound_right) (by decide +kernel)) rfl (fun _ _ _ _ _ => rfl)
      (fun A outer s H E f c' hr2 => pe_call (E := E) (dvs := []) (ds := []) F2 (hr2.mono (by decide)) rfl hm2 kp2 b2 .nil (passes_call (takes_of rfl rfl rfl rfl) fun _ _ _ _ h => h) (pa_cons (pe_var (i := 3) rfl (.inr (.inr rfl))) (pa_cons pe_non pa_nil))) (fun H1 E Qn eG hq => by
        obtain ⟨v, e1, rv⟩ := st.b.env.at_ 3 _ rfl
        exact ⟨v, e1, H1, [eBk k, .non], Ex.refl _, ⟨rv.ex eG, rfl, True.intro⟩, ⟨k, .non, rfl, hk, hm⟩, hq⟩)) (by omega) (by show 1 < 100000; decide) fun d G2 H2 ed st => ?_
    subst ed
    obtain ⟨G3, st⟩ := st.freeze ok (i := 6) (j := 0) rfl rfl
    refine su_ret (m := 0) (P := (· = .bl true)) st (ru_pure ok (rc_v (rc_eqSame hr (rn_var st.b 6) (rn_ro (ro_rep (p2 := ⟨0, 0, 0, 0⟩) (n := 2) (ra_one (rn_tup (ra_cons (rn_str st.b.ex) (ra_one (rn_int st.b.ex))) (Nat.le_of_ble_eq_true rfl))) (rn_int st.b.ex) (by decide))) (by decide +kernel))) rfl) (by omega) fun v d G2 H2 ed t j r => q v d G2 H2 (by rw [ed]; exact hPd) t (ok.mono j (by omega)) r
  have hm : manyC k ≤ 400 := by
    have := of_decide_eq_false hm
    omega
  refine su_ifP (k := decide (150 < manyC k)) ok st (rc_t (rc_gt (rn_var st.b 4) (rn_int st.b.ex))) (by omega) (fun _ G2 H2 st => ?_) fun _ G2 H2 st => wb_nil ?_
  · exact su_ret (m := 0) (P := (· = .bl true)) st (ru_pure ok (rn_bl st.b.ex) rfl) (by omega) fun v d G2 H2 ed t j r => q v d G2 H2 (by rw [ed]; exact hPd) t (ok.mono j (by omega)) r
  refine su_let (i := 7) (m := 0) (P := (· = eSR (srF k))) st (ru_pure ok (rn_kw1 T hP hr (by decide) rfl st.b.ex (rn_var st.b 3) hk hm) rfl) (by omega) fun d σ2 G2 H2 ed st => ?_
  subst ed
  refine su_skip ok st (rt_w (rw_go' (rt_to (rc_t (rc_neP T (sr_ppr _) (hr.mono (by decide)) (rn_c0 (d := eSR (srF k)) (c_some_row T hP) hr (by decide) rfl (ra_one (rn_c0 (d := eBk k) (c_Lbook T) hr (by decide) rfl (ra_cons (rn_var st.b 0) (ra_one (rn_var st.b 1))) ⟨k, rfl, hk, rfl⟩)) ⟨k, rfl, hk, hm, rfl⟩) (rn_var st.b 7))) rfl) (rw_or1 (rt_to (rc_t (rc_notTrue st.b.ex (rn_kw2 T hr (by decide) rfl st.b.ex (rn_var st.b 7) (rn_var st.b 3) hk hm))) rfl)))) (by omega) fun G2 H2 st => ?_
  have plk : (Dt.lst (kept.map eL)).pl 60 = true := by
    show (kept.map eL).all (Dt.pl 59) = true
    rw [List.all_map, List.all_eq_true]
    exact fun g _ => plL_ints
  cases e : srF k with
  | found g =>
    obtain ⟨h1, h2⟩ := sr_found hk e
    have hmem : g ∈ kept := (hkept g).mpr ⟨h1, h2⟩
    have hne : (kept.map eL).isEmpty = false := by
      cases kept with
      | nil => cases hmem
      | cons a b => rfl
    rw [e] at st
    refine su_ifP (k := true) ok st (rt_to (rc_t (rc_neNil hr st.b.ex (rn_var st.b 2) plk)) (by rw [hne]; rfl)) (by omega) (fun _ G2 H2 st => ?_) fun z => Bool.noConfusion z
    refine su_skip ok st (rt_w (rw_go' (rt_to (rt_not (k := true) (rt_to (rt_v (rn_isi (t := .cl .found) (cc := .cl .found) T.cls T.kit T.free (rn_var st.b 7) rfl (rn_gcl (C := 1166) T st.b.ex))) rfl)) rfl) (rw_go' (rt_to (rt_not (k := true) (rt_to (rt_ppr T (.found g) (hr.mono (by decide)) (rn_var st.b 7)) rfl)) rfl) (rw_go' (rt_to (rc_t (rc_neT (rn_fld T.cls (rn_var st.b 7) (i := 0) rfl rfl) (rn_str st.b.ex))) rfl) (rw_go' (rc_t (rc_neTg (p := fun d => ∃ g, d = eRow g) (eq_rows T) (hr.mono (by decide)) (fun e he => ⟨g, List.mem_singleton.mp he⟩) (rn_fld T.cls (rn_var st.b 7) (i := 1) rfl rfl) (rn_tup (ra_one (rn_fld T.cls (rn_var st.b 7) (i := 2) rfl rfl)) (Nat.le_of_ble_eq_true rfl)))) (rw_or1 (rt_to (rt_not (k := true) (rt_to (rt_v (rn_isi (t := .cl .row) (cc := .cl .row) T.cls T.kit T.free (rn_fld T.cls (rn_var st.b 7) (i := 2) rfl rfl) rfl (rn_gcl (C := 525) T st.b.ex))) rfl)) rfl))))))) (by omega) fun G2 H2 st => ?_
    refine su_ret (m := 0) (P := (· = .bl true)) st (ru_pure ok (rn_to (rc_v (rc_inI (xss := kept) hr (rn_listT T.free (rn_fld T.cls (rn_fld T.cls (rn_var st.b 7) (i := 2) rfl rfl) (i := 0) rfl rfl)) (rn_var st.b 2))) (by rw [decide_eq_true hmem])) rfl) (by omega) fun v d G2 H2 ed t j r => q v d G2 H2 (by rw [ed]; exact hPd) t (ok.mono j (by omega)) r
  | barred rs =>
    obtain ⟨h0, _, h3, h4⟩ := sr_barred hk e
    have hnil : kept = [] := List.eq_nil_iff_forall_not_mem.mpr fun g hg => by
      have := (hkept g).mp hg
      exact absurd this.2 (h4 g this.1)
    rw [e] at st
    refine su_skip ok st (rt_to (rc_t (rc_neNil hr st.b.ex (rn_var st.b 2) plk)) (by rw [hnil]; rfl)) (by omega) fun G2 H2 st => ?_
    refine su_skip ok st (rt_w (rw_go' (rt_to (rt_not (k := true) (rt_to (rt_v (rn_isi (t := .cl .barred) (cc := .cl .barred) T.cls T.kit T.free (rn_var st.b 7) rfl (rn_gcl (C := 1187) T st.b.ex))) rfl)) rfl) (rw_go' (rt_to (rt_not (k := true) (rt_to (rt_v (rn_isi (t := .cl .barred) (cc := .denial) T.cls T.kit T.free (rn_var st.b 7) rfl (rn_gcl (C := 1145) T st.b.ex))) rfl)) rfl) (rw_go' (rt_to (rt_ppr T (.barred rs) (hr.mono (by decide)) (rn_var st.b 7)) rfl) (rw_go' (rt_to (rc_t (rc_neT (rn_fld T.cls (rn_var st.b 7) (i := 0) rfl rfl) (rn_str st.b.ex))) rfl) (rw_or1 (rc_t (rc_neSame hr (rn_fld T.cls (rn_var st.b 7) (i := 1) rfl rfl) (rn_tup (ra_one (rn_fld T.cls (rn_var st.b 7) (i := 2) rfl rfl)) (Nat.le_of_ble_eq_true rfl)) plJ_parts)))))))) (by omega) fun G2 H2 st => ?_
    have hl : (rs.length : Int) = manyC k := by rw [h0, tog_len]
    refine su_ret (m := 0) (P := (· = .bl true)) st (ru_pure ok (rn_to (rn_andB (rc_v (rc_eqI (rn_lenT T.free (rn_fld T.cls (rn_var st.b 7) (i := 2) rfl rfl)) (rn_var st.b 4))) fun _ => rn_one (d := .bl (areR (lists k) rs)) (rn_c0 (ds := [eLsL (lists k), eRings rs]) (c_Lare_rings T) hr (by decide) rfl (ra_cons (rn_to (rn_map (xs := k.2) (enc := eT) (i := 5) (f := fun s => eOwnL (ownCh k.1 s)) st.b (wk_list (rn_var st.b 1)) (by omega) fun s1 HH C cl fp y hy σ' G' H' st => ?_) ?_) (ra_one (rn_fld T.cls (rn_var st.b 7) (i := 2) rfl rfl))) ?_)) ?_) rfl) (by omega) fun v d G2 H2 ed t j r => q v d G2 H2 (by rw [ed]; exact hPd) t (ok.mono j (by omega)) r
    · have := len_ok y hy
      refine (rn_c0 (c_Lchoices T) hr (by decide) rfl (ra_cons (rn_var st 0) (ra_one (rn_var st 5))) ?_)
      exact ⟨k.1, y, rfl, by omega, by omega, rfl⟩
    · show Dt.lst _ = eLsL (k.2.map (ownCh k.1))
      unfold eLsL
      rw [List.map_map]
      rfl
    · exact ⟨lists k, rs, rfl, ls_w hk hm, h3, rfl⟩
    · rw [areR_ok hk e]
      simp [eRings, hl]
end
end Y
set_option Elab.async false
set_option linter.all false
set_option maxRecDepth 100000
set_option maxHeartbeats 1000000
/-! Lay35: ifs that leave more than one state; insert, sum where hidden things stand. -/
namespace Y
open PySem PySem.Spec PyProof.Rows L2 LamX
section
variable {X : Cx} {us : List Addr} {J : Nat → Hp → Hp → Prop} {σ : L2.St} {G0 H0 G Hh H G1 H1 : Hp} {d d1 d2 : Dt} {ds ds1 ds2 : List Dt} {dss : List (Option Dt)} {ow : List (Addr × List Dt)} {a b c e o e2 : Expr} {es : List Expr} {pos p tp : Pos} {k : Bool} {D : Ends} {rest body : List Stmt} {m m2 n : Nat} {P : Dt → Prop} {PA : List Dt → Prop}
theorem su_ifG {PB : Bool → Prop} (W : List (Option Dt) → List (Addr × List Dt) → Prop) (ok : HidOk us J) (s : StJ X.K us J n G0 H0 dss ow σ G H) (h : RtU X us J c σ G (hds us H) m PB) (hn : n + m ≤ 1000000) (h1 : PB true → ∀ G2 H2, StJ X.K us J (n + m) G0 H0 dss ow σ G2 H2 → wpB X body { D with nx := fun σ3 H3 => ∃ dss3 ow3 G3, W dss3 ow3 ∧ StJ X.K us J (n + m + m2) G0 H0 dss3 ow3 σ3 G3 H3 } σ H2) (h2 : PB false → W dss ow)
    (q : ∀ dss3 ow3 σ2 G2 H2, W dss3 ow3 → StJ X.K us J (n + m + m2) G0 H0 dss3 ow3 σ2 G2 H2 → wpB X rest D σ2 H2) : wpB X (.If c body [] pos :: rest) D σ H :=
  su_if s h hn (fun hk G2 H2 st => wpB_mono (h1 hk G2 H2 st) (fun σ3 H3 ⟨dss3, ow3, G3, hw, hs⟩ => q dss3 ow3 σ3 G3 H3 hw hs) (fun _ _ h => h) (fun _ _ h => h) fun _ _ h => h) fun hk G2 H2 st => wb_nil (q dss ow σ G2 H2 (h2 hk) ⟨st.b, ok.mono st.j (Nat.le_add_right _ _)⟩)
theorem su_ins {j : Nat} {l : Addr} {q1 q2 : Pos} (ok : HidOk us J) (s : StJ X.K us J n G0 H0 dss ow σ G H) (hv : Rn X o σ G (hds us H) (.adr l)) (hj : ow[j]? = some (l, ds)) (h : RnUA X us J [e, e2] σ G (hds us H) m (fun ds1 => ∃ i : Int, ds1 = [.int i, d] ∧ 0 ≤ i ∧ i ≤ 100000)) (hn : n + m ≤ 1000000) (hl : ds.length < 100000)
    (q : ∀ (i : Nat) G2 H2, StJ X.K us J (n + m) G0 H0 dss (ow.set j (l, ds.take i ++ [d] ++ ds.drop i)) σ G2 H2 → wpB X rest D σ H2)
    (pm : PE X (.Call (.Attribute o "insert" q1) [e, e2] [] q2) (tBM X.K "list" (fun x vs H Q => ∃ (l : Addr) (xs : List V) (i : Int) (y : V), x = .ref l ∧ vs = [.int i, y] ∧ H l = some (.lst xs) ∧ xs.length < sizeLine ∧ 0 ≤ i ∧ i < 2 ^ 63 ∧ Q .non (upd H l (.lst (xs.take i.toNat ++ [y] ++ xs.drop i.toNat)))) (wpE X o) (wpA X [e, e2])) := by exact pe_bm PySem.F.plainAttrs_list PySem.F.slot_list_insert PySem.F.type_list_insert mt_insert pe_wp pa_wp)
    (hs : swapsWith (.Call (.Attribute o "insert" q1) [e, e2] [] q2) none pos.line X.env = pure false := by rfl) :
    wpB X (.Expr (.Call (.Attribute o "insert" q1) [e, e2] [] q2) pos :: rest) D σ H :=
  su_bm (f := fun ds1 => match ds1 with
    | [.int i, y] => ds.take i.toNat ++ [y] ++ ds.drop i.toNat
    | _ => []) ok s hv hj h hn pm (fun vs ws ds1 G2 H2 ⟨i, ed, h0, h1⟩ r1 r2 hl2 Q hq => by
    subst ed
    obtain ⟨v1, v2, rfl, r3, r4⟩ := reps2 r2
    have e1 : v1 = V.int i := r3
    subst e1
    have hlen : vs.length = ds.length := r1.length
    exact ⟨l, vs, i, v2, rfl, rfl, hl2, by rw [hlen]; exact Nat.lt_of_lt_of_le hl (by decide), h0, Int.lt_of_le_of_lt h1 (by decide), hq _ (((r1.take _).append (Reps.one r4)).append (r1.drop _))⟩) (fun ds1 G2 H2 ⟨i, ed, h0, h1⟩ st => by
    subst ed
    exact q i.toNat G2 H2 st) hs
theorem su_letF {α : Type} {elt iter : Expr} {ifs : List Expr} {scope : Scope} {i j : Nat} {x y : Str} {py spos : Pos} {enc : α → Dt} {xs : List α} {cd : α → Bool} {f : α → Dt} (ok : HidOk us J) (s : StJ X.K us J n G0 H0 dss ow σ G H) (hw : Wk X (.Name x tp) iter σ G (hds us H) (xs.map enc)) (hl : xs.length ≤ 100000)
    (hif : ∀ (s1 : Shared) (HH : Hp) (C : Addr) (cl : List (Str × Addr)) (fp : List Addr), ∀ y ∈ xs, ∀ σ' G' H', Sta (X.blk s1 HH scope (compEnvC scope cl C X.env) fp).K G0 H0 (dss.set i (some (enc y))) ow σ' G' H' → RnTs (X.blk s1 HH scope (compEnvC scope cl C X.env) fp) ifs σ' G' H' (cd y))
    (he : ∀ (s1 : Shared) (HH : Hp) (C : Addr) (cl : List (Str × Addr)) (fp : List Addr), ∀ y ∈ xs, cd y = true → ∀ σ' G' H', Sta (X.blk s1 HH scope (compEnvC scope cl C X.env) fp).K G0 H0 (dss.set i (some (enc y))) ow σ' G' H' → Rn (X.blk s1 HH scope (compEnvC scope cl C X.env) fp) elt σ' G' H' (f y))
    (q : ∀ σ2 G2 H2, StJ X.K us J n G0 H0 (dss.set j (some (.lst ((xs.filter cd).map f)))) ow σ2 G2 H2 → wpB X rest D σ2 H2) (hjd : j < dss.length := by (first | decide | exact Nat.le_of_ble_eq_true rfl))
    (okb : blkC X.N X.env.scope scope [(x, i)] = true := by kernel_rfl) (hc : X.calm = true := by rfl) (hN : X.N.Nodup := by exact of_decide_eq_true (by kernel_rfl)) (hi : X.N[i]? = some x := by rfl) (hj : X.N[j]? = some y := by rfl) (hjl : X.env.scope.names.lookup y = some .local := by rfl)
    (hx : ∀ (s1 : Shared) (HH : Hp) (C : Addr) (cl : List (Str × Addr)) (fp : List Addr), Loc (X.blk s1 HH scope (compEnvC scope cl C X.env) fp).env.scope x := by intro _ _ _ _ _; first | exact .inl rfl | exact .inr rfl)
    (hxf : ∀ (s1 : Shared) (HH : Hp) (C : Addr) (cl : List (Str × Addr)) (fp : List Addr), (X.blk s1 HH scope (compEnvC scope cl C X.env) fp).fn x = true ∨ (X.blk s1 HH scope (compEnvC scope cl C X.env) fp).env.scope.names.lookup x = some .local := by intro _ _ _ _ _; first | exact .inr rfl | exact .inl rfl)
    (hsw : swapsWith (.ListComp elt [⟨.Name x tp, iter, ifs, 0⟩] scope pos) (some (.Name y py)) spos.line X.env = pure true := by rfl)
    (hfs : ∀ x, foldedSetIterable iter X.env x = pure x := by intro _; rfl) :
    wpB X (.Assign [.Name y py] (.ListComp elt [⟨.Name x tp, iter, ifs, 0⟩] scope pos) spos :: rest) D σ H := by
  obtain ⟨wi, hpi, h⟩ := lc_t (enc := enc) (up := fun y ds => ds.set i (some (enc y))) (is := [i]) (own := [(x, i)]) s.b hc hN hw (blkOk_by okb) hl (by simp)
    (fun s1 HH C cl fp y hy => tg_name (X := X.blk s1 HH scope (compEnvC scope cl C X.env) fp) hN hi (hx s1 HH C cl fp) (hxf s1 HH C cl fp))
    (fun s1 HH C cl fp y hy σ' G' H' st => hif s1 HH C cl fp y hy σ' G' H' (by
      have e : (wipeD dss [i]).set i (some (enc y)) = dss.set i (some (enc y)) := set_wipe
      rw [← e]
      exact st))
    (fun s1 HH C cl fp y hy hcd σ' G' H' st => he s1 HH C cl fp y hy hcd σ' G' H' (by
      have e : (wipeD dss [i]).set i (some (enc y)) = dss.set i (some (enc y)) := set_wipe
      rw [← e]
      exact st))
  refine wb_cons (wpS_of (ps_setLc (own := [(x, i)]) hc hN hj hjl hsw hpi (blkOk_by okb) (fun s1 HH C cl fp => ⟨fun pins s σ H v u Q I r h => h s1 HH C cl fp pins s u I r⟩) (fun s1 HH C cl fp => ⟨fun pins s σ H Q I h => h s1 HH C cl fp pins s I⟩) (fun s1 HH C cl fp => ⟨fun pins s σ H Q I h => h s1 HH C cl fp pins s I⟩) hfs) (h H hds_ex _ fun l vs G2 H2 s2 n1 n2 hl r => ?_))
  obtain ⟨t, u, j2⟩ := pure_stp ok (Stp.refl s.b.ex) s.j s2
  have hl1 : H l = none := n1
  have hG1 : G l = none := by
    cases z : G l with
    | none => rfl
    | some o =>
      have := s.ex l o z
      rw [hl1] at this
      cases this
  have n2' : uni G G2 l = none := uni_none hG1 n2
  have lu : l ∉ us := fun z => (ok.at_ s.j l z).2 hl1
  have n1' : hds us H l = none := by rw [hds_out lu]; exact hl1
  have hl' : hds us H2 l = some (.lst vs) := by rw [hds_out lu]; exact hl
  have st2 : StJ X.K us J n G0 H0 (dss.set j (some (.adr l))) (ow ++ [(l, (xs.filter cd).map f)]) (σ.set j (some (.ref l))) (uni G G2) H2 := ⟨s.b.fresho t n1' n2' hl' (r.ex u), j2⟩
  obtain ⟨G3, st3⟩ := st2.freeze ok (i := j) (j := ow.length) (by rw [List.getElem?_append_right (Nat.le_refl _), Nat.sub_self] <;> rfl) (List.getElem?_set_self hjd)
  have e1 : (ow ++ [(l, (xs.filter cd).map f)]).eraseIdx ow.length = ow := by
    rw [List.eraseIdx_append_of_length_le (Nat.le_refl _), Nat.sub_self]
    exact List.append_nil _
  rw [List.set_set, e1] at st3
  exact q _ G3 H2 st3
theorem ru_sum (f : Free X "sum") (hc : X.calm = true) (ha : RnU X us J a σ G Hh m (fun d => ∃ g : List Int, d = .lst (g.map .int))) (he : starEach [a] X.env = (false, eval a X.env) :: starEach [] X.env := by rfl) (hpl : (backTo pos (starEach [] X.env)).any (·.1) = false := by rfl) : RnU X us J (.Call (.Name "sum" p) [a] [] pos) σ G Hh m (IntP fun _ => True) :=
  ru_cb (PA := fun ds => ∃ g : List Int, ds = [.lst (g.map .int)]) (cr_sum hc) f (by decide +kernel) (rua_one ha (fun d ⟨g, e⟩ => ⟨g, by rw [e]⟩) he) (fun ds ⟨g, e⟩ => ⟨.int g.sum, ⟨_, rfl, True.intro⟩, fun vs G2 H2 s rs Q q => by
    subst e
    obtain ⟨v, rfl, l, xs, rfl, hx, rs⟩ := reps1 rs
    have e := rs.ints
    subst e
    exact ⟨l, g, rfl, sqL_ex s hx, q _ rfl⟩⟩) (by decide) (by decide) he hpl
end
end Y
set_option Elab.async false
set_option linter.all false
set_option maxRecDepth 100000
set_option maxHeartbeats 1000000
/-! D36: whether drawn books in a small world are answered right. -/
namespace Y
open PySem PySem.Spec PyProof.Rows L2 LamX
theorem rows_bound : ∀ p ∈ worldsL, ∀ n, n ≤ p.1.toNat → (rowsF p.2 n).length ≤ 100000 := by
  have h : ∀ p ∈ worldsL, ∀ n : Fin 8, n.val ≤ p.1.toNat → (rowsF p.2 n.val).length ≤ 100000 := by decide +kernel
  intro p hp n hn
  have := wd_bound p hp
  exact h p hp ⟨n, by omega⟩ hn
def up3 (i j k : Nat) (d : Dt) (ds : List (Option Dt)) : List (Option Dt) := match d with
  | .tup [a, b, c] => ((ds.set i (some a)).set j (some b)).set k (some c)
  | _ => ds
theorem flt_empty {α : Type} (p : α → Bool) : ∀ l : List α, ((l.filter fun s => !p s).map fun _ => Dt.int 1).isEmpty = l.all p
  | [] => rfl
  | a :: b => by
    rw [List.all_cons, ← flt_empty p b, List.filter_cons]
    cases z : p a with
    | true => rfl
    | false => rfl
theorem wd_bound2 : ∀ p ∈ worldsL, 0 ≤ p.1 * p.2 ∧ 2 * p.1 * p.2 + 3 ≤ 1000000 ∧ 1 ≤ 2 * p.1 * p.2 + 3 := by decide
/-- sayings' texts, each that fits -/
def SyL (D : Int) (ds : List Dt) : Prop := ∃ ss : List Sg, ds = ss.map eT ∧ ∀ s ∈ ss, SgOk s ∧ fitS D s = true
theorem syl_lcd {D : Int} {pk : Int → Prop} {ds : List Dt} (h : Lcd pk (fun d => ∃ s, d = eT s ∧ SgOk s ∧ fitS D s = true) ds) : SyL D ds ∧ pk ds.length := by
  obtain ⟨h1, h2⟩ := h
  refine ⟨?_, h1⟩
  clear h1
  induction ds with
  | nil => exact ⟨[], rfl, fun _ h => by cases h⟩
  | cons d ds ih =>
    obtain ⟨ss, e, h3⟩ := ih fun d hd => h2 d (List.mem_cons_of_mem _ hd)
    obtain ⟨s, e2, h4⟩ := h2 d List.mem_cons_self
    exact ⟨s :: ss, by rw [e, e2] <;> rfl, fun s' hs => by
      rcases List.mem_cons.mp hs with rfl | hs
      · exact h4
      · exact h3 s' hs⟩
section
variable {P : Program} {w : World} {K : PySem.W.Frag} {mg : Str → Option Value} {base : Heap}
theorem c_Lfound_right (T : Txt K mg) (hP : ProOk P) (TB : TabB base mg (cFr K).1 (cFr K).2) : C8.Cal P w K mg base 12 "_law_found_right" (PuJ K ([] ++ tabA (TFr K)) (JP J1 (TFr K)) 0 R_Lfr) [] := by
  obtain ⟨fd, F, hm, hk, hB, _⟩ := fok_tab (st := s_Lfound_right) (N := n_Lfound_right) (ps := ["_law_days", "_law_sayings", "_law_kept"]) T 57 rfl (show (("_law_found_right" : Str), f_Lfound_right) ∈ gloL by decide +kernel) (by decide +kernel) (fun _ _ _ _ _ _ us hl => match us, hl with | [_, _, _], _ => rfl) (fun ds Pd h => by obtain ⟨_, _, rfl, _⟩ := h; rfl) (b_Lfound_right (w := w) T hP TB)
  exact ⟨_, fd, _, [], F, hm, hk, hB, .nil⟩
end
section
variable {X : Cx} {u : Addr} {us : List Addr} {J : Nat → Hp → Hp → Prop} {σ : L2.St} {G Hh : Hp} {a b c : Expr} {p pos : Pos} {j0 m : Nat}
theorem ru_fr {k : Bk} {kept : List (List Int)} (T : Txt X.K X.mg) (hP : ProOk X.prog) (TB : TabB X.base X.mg (cFr X.K).1 (cFr X.K).2) (ok : HidOk us J) (sb : SubJ ([] ++ tabA (TFr X.K)) (JP J1 (TFr X.K)) us J) (hr : Room j0 X.A) (hk : 12 ≤ j0) (hg : Gl X "_law_found_right") (ha : RnA X [a, b, c] σ G Hh [.int k.1, eKs k.2, .lst (kept.map eL)])
    (hb : BkOk k) (hl : kept.length ≤ 100000) (hkp : ∀ g : List Int, g ∈ kept ↔ (g.length : Int) = k.1 ∧ KpAll k g)
    (he : starEach [a, b, c] X.env = (false, eval a X.env) :: starEach [b, c] X.env := by rfl) (hpl : (backTo pos (starEach [b, c] X.env)).any (·.1) = false := by rfl) : RnU X us J (.Call (.Name "_law_found_right" p) [a, b, c] [] pos) σ G Hh 0 (· = .bl true) :=
  ru_callS (m1 := 0) (m := 0) ok sb (c_Lfound_right T hP TB) hr hk hg (rua_pure (PA := (· = [.int k.1, eKs k.2, .lst (kept.map eL)])) ok ha rfl) (fun ds e => ⟨k, kept, e, hb, hl, hkp, rfl⟩) (by decide) he hpl
end
section
variable {P : Program} {w : World} {K : PySem.W.Frag} {mg : Str → Option Value} {base : Heap} (hP : ProOk P) (TB : TabB base mg (cFr K).1 (cFr K).2)
def R_Lworld_right (u : Addr) : List Dt → (Dt → Prop) → Prop := fun ds Pd => ∃ z : Unit, ds = [.adr u] ∧ Pd (.bl true)
include hP TB
theorem c_Lworld_right (T : Txt K mg) (u : Addr) : C8.Cal P w K mg base 13 "_law_world_right" (PuJ K ([u] ++ tabA (TFr K)) (JP (Urn K u) (TFr K)) 2000 (R_Lworld_right u)) [] := by
  refine cal_pj (st := s_Lworld_right) (N := n_Lworld_right) (ps := ["_law_urn_here"]) T 58 rfl (by decide +kernel) (by decide +kernel) (fun _ _ _ _ _ _ us hl => match us, hl with | [_], _ => rfl) (fun ds Pd h => by obtain ⟨z, rfl, hPd⟩ := h; rfl) ?_
  rintro f cdv A outer s G H Q E σ ds Pd n hr ⟨z, rfl, hPd⟩ hn st q
  have ok : HidOk ([u] ++ tabA (TFr K)) (JP (Urn K u) (TFr K)) := jp_ok urn_ok
  have sb : SubJ [u] (Urn K u) ([u] ++ tabA (TFr K)) (JP (Urn K u) (TFr K)) := sub_urn
  have sf : SubJ ([] ++ tabA (TFr K)) (JP J1 (TFr K)) ([u] ++ tabA (TFr K)) (JP (Urn K u) (TFr K)) := sub_tab (fun _ h => h) fun p hp p' hp' _ => by rw [List.mem_singleton.mp hp, List.mem_singleton.mp hp']
  refine su_tg (m := 7) (P := fun d => ∃ p ∈ worldsL, ∃ g : List Int, (g.length : Int) = p.1 ∧ d = .tup [.int p.1, .int p.2, eL g]) (up := up3 1 2 3) (is := [1, 2, 3]) st (ru_callS (m1 := 0) (m := 7) ok sb (c_Lworld T u) hr (by decide) rfl (rua_pure (PA := (· = [.adr u])) ok (ra_one (rn_var st.b 0)) rfl) (fun ds e => ⟨(), e, fun p hp g hg => ⟨p, hp, g, hg, rfl⟩⟩) (by decide) rfl rfl) (by omega) (fun d ⟨p, _, g, _, ed⟩ => by subst ed; exact tg_tup rfl (tgs_cons (tg_name (by exact of_decide_eq_true (by kernel_rfl)) (i := 1) rfl (by first | exact .inl rfl | exact .inr rfl) (by first | exact .inl rfl | exact .inr rfl)) (tgs_cons (tg_name (by exact of_decide_eq_true (by kernel_rfl)) (i := 2) rfl (by first | exact .inl rfl | exact .inr rfl) (by first | exact .inl rfl | exact .inr rfl)) (tgs_cons (tg_name (by exact of_decide_eq_true (by kernel_rfl)) (i := 3) rfl (by first | exact .inl rfl | exact .inr rfl) (by first | exact .inl rfl | exact .inr rfl)) tgs_nil)))) fun d σ2 G2 H2 ⟨p, hp, g, hg, ed⟩ st => ?_
  subst ed
  obtain ⟨⟨hD1, hD2⟩, hM1, hM2⟩ := wd_bound p hp
  obtain ⟨D, M⟩ := p
  dsimp only at hD1 hD2 hM1 hM2 hg
  replace st : StJ K ([u] ++ tabA (TFr K)) (JP (Urn K u) (TFr K)) (n + 7) G (hds ([u] ++ tabA (TFr K)) H) [some (.adr u), some (.int D), some (.int M), some (eL g), none, none, none, none, none, none, none] [] σ2 G2 H2 := st
  have sg1 : ∀ (kk : List Str), (1 ≤ kk.length ∧ kk.length ≤ 100) → (∀ k ∈ kk, KindOk k) → R_Lsaying u [.adr u, eL g, .lst (kk.map Dt.str)] (fun d => ∃ s, d = eT s ∧ SgOk s ∧ fitS D s = true) := fun kk h1 h2 => ⟨g, kk, rfl, by omega, h1, h2, fun s h3 h4 => ⟨s, rfl, h3, by rw [← hg]; exact h4⟩⟩
  have kk1 : ∀ k ∈ (["any", "some", "just", "told", "some"] : List Str), KindOk k := by
    intro k hk
    simp only [List.mem_cons, List.not_mem_nil, or_false] at hk
    rcases hk with rfl | rfl | rfl | rfl | rfl <;> first | exact .inl rfl | exact .inr (.inl rfl) | exact .inr (.inr (.inl rfl)) | exact .inr (.inr (.inr rfl))
  have kk2 : ∀ k ∈ (["any", "told", "told"] : List Str), KindOk k := by
    intro k hk
    simp only [List.mem_cons, List.not_mem_nil, or_false] at hk
    rcases hk with rfl | rfl | rfl <;> first | exact .inl rfl | exact .inr (.inl rfl) | exact .inr (.inr (.inl rfl)) | exact .inr (.inr (.inr rfl))
  refine su_letO (i := 4) (m := 101) (PA := Lcd (fun k => 1 ≤ k ∧ k ≤ 4) (fun d => ∃ s, d = eT s ∧ SgOk s ∧ fitS D s = true)) ok st (ruo_lc (mi := 1) (m := 20) (B := 5) (i0 := 5) (pk := fun k => 1 ≤ k ∧ k ≤ 4) ok st.b T.free (ru_opI (m1 := 0) (m2 := 1) (p1 := (· = 1)) (g := fun i j => i + j) op_add (ru_pure ok (rn_int st.b.ex) ⟨1, rfl, rfl⟩) (ru_take (m := 4) T ok sb hr (by decide) rfl (ra_cons (rn_var st.b 0) (ra_one (rn_int st.b.ex))) (by omega)) fun i j h1 h2 => by omega) (fun k hk => by omega) (by decide) fun s1 HH C cl fp y σ' G' H' st => ?_) (by omega) fun l ds σ2 G2 H2 hds st => ?_
  · exact ru_callS (m1 := 0) (m := 20) ok sb (c_Lsaying T u) hr (by decide) rfl (rua_pure (PA := (· = [.adr u, eL g, .lst ((["any", "some", "just", "told", "some"] : List Str).map Dt.str)])) ok (ra_cons (rn_var st 0) (ra_cons (rn_var st 3) (ra_one (rn_lst (ra_cons (rn_str st.ex) (ra_cons (rn_str st.ex) (ra_cons (rn_str st.ex) (ra_cons (rn_str st.ex) (ra_one (rn_str st.ex)))))) (Nat.le_of_ble_eq_true rfl))))) rfl) (fun ds e => by subst e; exact sg1 _ (by decide) kk1) (by decide) rfl rfl
  obtain ⟨hy1, hy2⟩ := syl_lcd hds
  refine su_ifG (m := 1) (m2 := 120) (PB := fun _ => True) (W := fun dss3 ow3 => ∃ l ds j, dss3 = [some (.adr u), some (.int D), some (.int M), some (eL g), some (.adr l), none, none, none, none, none, none] ∧ ow3[j]? = some (l, ds) ∧ SyL D ds ∧ 1 ≤ ds.length ∧ ds.length ≤ 6) ok st (rtu_eqI (i0 := 0) ok (ru_take (m := 3) T ok sb hr (by decide) rfl (ra_cons (rn_var st.b 0) (ra_one (rn_int st.b.ex))) (by omega)) (rn_int st.b.ex)) (by omega) (fun _ G2 H2 st => ?_) (fun _ => ⟨l, ds, 0, rfl, rfl, hy1, by omega, by omega⟩) fun dss3 ow3 σ2 G2 H2 ⟨l, ds, j, ed, hj, hy, hd1, hd2⟩ st => ?_
  · refine su_letO (i := 4) (m := 120) (PA := Lcd (fun k => k = 6) (fun d => ∃ s, d = eT s ∧ SgOk s ∧ fitS D s = true)) ok st (ruo_lc (mi := 0) (m := 20) (B := 6) (i0 := 5) (pk := fun k => k = 6) ok st.b T.free (ru_pure ok (rn_int st.b.ex) ⟨6, rfl, rfl⟩) (fun k hk => by omega) (by decide) fun s1 HH C cl fp y σ' G' H' st => ?_) (by omega) fun l2 ds2 σ2 G2 H2 hds st => ?_
    · exact ru_callS (m1 := 0) (m := 20) ok sb (c_Lsaying T u) hr (by decide) rfl (rua_pure (PA := (· = [.adr u, eL g, .lst ((["any", "told", "told"] : List Str).map Dt.str)])) ok (ra_cons (rn_var st 0) (ra_cons (rn_var st 3) (ra_one (rn_lst (ra_cons (rn_str st.ex) (ra_cons (rn_str st.ex) (ra_one (rn_str st.ex)))) (Nat.le_of_ble_eq_true rfl))))) rfl) (fun ds e => by subst e; exact sg1 _ (by decide) kk2) (by decide) rfl rfl
    obtain ⟨hz1, hz2⟩ := syl_lcd hds
    exact wb_nil ⟨_, _, G2, ⟨l2, ds2, 1, rfl, rfl, hz1, by omega, by omega⟩, st⟩
  subst ed
  obtain ⟨ss, eds, hss⟩ := hy
  subst eds
  rw [List.length_map] at hd1 hd2
  have hml : (ss.map eT).length = ss.length := List.length_map _
  refine su_ins (j := j) (d := eT (.rule 1 (some (-M)) (some M))) (m := 1) ok st (rn_var st.b 4) hj (rua_cons (m1 := 1) (m2 := 0) (P1 := IntP fun i => 0 ≤ i ∧ i < ((ss.map eT).length : Int) + 1) (PB := (· = [eT (.rule 1 (some (-M)) (some M))])) (ru_take (m := (ss.map eT).length + 1) T ok sb hr (by decide) rfl (ra_cons (rn_var st.b 0) (ra_one (rn_add (rn_lenO T.free (st.b.frz hj) (rn_var st.b 4)) (rn_int st.b.ex)))) (by omega)) (rua_one (ru_pure (P := (· = eT (.rule 1 (some (-M)) (some M)))) ok (rn_tup (ra_cons (rn_str st.b.ex) (ra_cons (rn_int st.b.ex) (ra_cons (rn_neg (rn_var st.b 2)) (ra_one (rn_var st.b 2))))) (Nat.le_of_ble_eq_true rfl)) rfl) fun d h => by rw [h]) fun d ds ⟨i, e, h⟩ e2 => ⟨i, by rw [e, e2], h.1, by omega⟩) (by omega) (by omega) fun i G2 H2 st => ?_
  have e1 : (ss.map eT).take i ++ [eT (.rule 1 (some (-M)) (some M))] ++ (ss.map eT).drop i = (ss.take i ++ [Sg.rule 1 (some (-M)) (some M)] ++ ss.drop i).map eT := by
    rw [List.map_append, List.map_append, List.map_take, List.map_drop]
    rfl
  rw [e1] at st
  obtain ⟨G3, st⟩ := st.freeze ok (i := 4) (j := j) (l := l) (List.getElem?_set_self (List.getElem?_eq_some_iff.mp hj).1) rfl
  obtain ⟨s2, es2⟩ : ∃ s2, s2 = ss.take i ++ [Sg.rule 1 (some (-M)) (some M)] ++ ss.drop i := ⟨_, rfl⟩
  rw [← es2] at st
  have hmem : Sg.rule 1 (some (-M)) (some M) ∈ s2 := by
    rw [es2]
    exact List.mem_append_left _ (List.mem_append_right _ List.mem_cons_self)
  have hlen : s2.length = ss.length + 1 := by
    rw [es2, List.length_append, List.length_append, List.length_take, List.length_drop, List.length_singleton]
    omega
  have hok : ∀ s ∈ s2, SgOk s ∧ fitS D s = true := by
    intro s hs
    rw [es2] at hs
    rcases List.mem_append.mp hs with hs | hs
    · rcases List.mem_append.mp hs with hs | hs
      · exact hss s (List.mem_of_mem_take hs)
      · rw [List.mem_singleton.mp hs]
        exact ⟨⟨⟨by omega, by omega⟩, decide_eq_true (by omega)⟩, rfl⟩
    · exact hss s (List.mem_of_mem_drop hs)
  have hb : BkOk (D, s2) := ⟨⟨hD1, by show D ≤ 12; omega⟩, by show s2.length ≤ 8; omega, fun s h => (hok s h).1, fun s h => (hok s h).2⟩
  have hrb := rows_bound (D, M) hp
  refine su_letF (i := 7) (j := 6) (xs := rowsF M D.toNat) (enc := eL) (cd := fun r => kpB s2 r) (f := eL) ok st (wk_list (rn_c0 (d := .lst ((rowsF M D.toNat).map eL)) (c_Lrows T) hr (by decide) rfl (ra_cons (rn_var st.b 1) (ra_one (rn_var st.b 2))) ⟨D.toNat, M, by rw [Int.toNat_of_nonneg (by omega)], ⟨by omega, by omega, by omega⟩, hrb, rfl⟩)) (hrb _ (Nat.le_refl _)) (fun s1 HH C cl fp y hy σ' G' H' st => ?_) (fun s1 HH C cl fp y hy _ σ' G' H' st => (rn_var st 7)) fun σ2 G2 H2 st => ?_
  · have hyl : (y.length : Int) = D := by
      have := (mem_rowsF.mp hy).1
      omega
    refine rts_one (rt_to (rc_t (rc_eqNil hr st.ex (rn_ro (ro_flt (i := 8) (xs := s2) (enc := eT) (cd := fun s => !kpL y s) (f := fun _ => .int 1) st (wk_list (ds := s2.map eT) (rn_var st 4)) (by omega) (fun s1 HH C cl fp s hs σ' G' H' st => rts_one (rt_not (rt_v (rn_c0 (d := .bl (kpL y s)) (c_Lkeeps T) hr (by decide) rfl (ra_cons (rn_var st 7) (ra_one (rn_var st 8))) ?_)))) fun s1 HH C cl fp s hs _ σ' G' H' st => (rn_int st.ex))) ?_)) ?_)
    · obtain ⟨h1, h2⟩ := hok s hs
      have h3 := sg_len h1
      exact ⟨y, s, rfl, by omega, ⟨by omega, by omega⟩, fun b l lo hi e => by
        subst e
        have h4 : b + l ≤ D := of_decide_eq_true h2
        obtain ⟨⟨h5, h6, h7, h8⟩, _⟩ := h1
        exact ⟨h5, by omega, by omega⟩, rfl⟩
    · show ((s2.filter _).map fun _ => Dt.int 1).all (Dt.pl 59) = true
      rw [List.all_map, List.all_eq_true]
      exact fun _ _ => rfl
    · show ((s2.filter fun s => !kpL y s).map fun _ => Dt.int 1).isEmpty = s2.all (kpL y)
      exact flt_empty (kpL y) s2
  replace st : StJ K ([u] ++ tabA (TFr K)) (JP (Urn K u) (TFr K)) (n + 7 + 101 + 1 + 120 + 1) G (Y.hds ([u] ++ tabA (TFr K)) H) [some (.adr u), some (.int D), some (.int M), some (eL g), some (eKs s2), none, some (.lst ((keptF (D, s2) M).map eL)), none, none, none, none] _ σ2 G2 H2 := st
  have hkept : ∀ {g : List Int}, g ∈ (keptF (D, s2) M) ↔ (g.length : Int) = D ∧ KpAll (D, s2) g := mem_kept (k := (D, s2)) (most := M) (by omega) hmem
  have hkl : (keptF (D, s2) M).length ≤ 100000 := Nat.le_trans (List.length_filter_le _ _) (hrb _ (Nat.le_refl _))
  have plk : (Dt.lst ((keptF (D, s2) M).map eL)).pl 60 = true := by
    show ((keptF (D, s2) M).map eL).all (Dt.pl 59) = true
    rw [List.all_map, List.all_eq_true]
    exact fun g _ => plL_ints
  have eF : (srF (D, s2)).isF = !(((keptF (D, s2) M).map eL).isEmpty) := by
    rw [Bool.eq_iff_iff, sr_iff hb]
    constructor
    · rintro ⟨g, h1, h2⟩
      have := hkept.mpr ⟨h1, h2⟩
      cases z : (keptF (D, s2) M) with
      | nil => rw [z] at this; cases this
      | cons a b => rfl
    · intro h
      cases z : (keptF (D, s2) M) with
      | nil => rw [z] at h; cases h
      | cons a b => exact ⟨a, hkept.mp (by rw [z]; exact List.mem_cons_self)⟩
  refine su_if (m := 0) (PB := fun b => b = false) st (rtu_not (PC := fun b => b = true) (rtu_v (ru_imp (ru_fr (k := (D, s2)) (kept := (keptF (D, s2) M)) T hP TB ok sf hr (by decide) rfl (ra_cons (rn_var st.b 1) (ra_cons (rn_var st.b 4) (ra_one (rn_var st.b 6)))) hb hkl (fun g => hkept)) fun d h => ⟨true, h, rfl⟩)) fun k' h => by rw [h] <;> rfl) (by omega) (fun h => Bool.noConfusion h) fun _ G2 H2 st => wb_nil ?_
  refine su_ifG (m := 0) (m2 := 0) (PB := fun b => b = decide (manyC (D, s2) ≤ 40)) (W := fun dss3 ow3 => ∃ o, dss3 = [some (.adr u), some (.int D), some (.int M), some (eL g), some (eKs s2), none, some (.lst ((keptF (D, s2) M).map eL)), none, none, o, none]) ok st (rtu_pure ok (rc_t (rc_le (rn_c0 (d := .int (manyC (D, s2))) (c_Ltimes T) hr (by decide) rfl (ra_one (rn_to (rn_map (xs := s2) (enc := eT) (i := 8) (f := fun s => .int (manyOwn D s)) st.b (wk_list (ds := s2.map eT) (rn_var st.b 4)) (by omega) fun s1 HH C cl fp y hy σ' G' H' st => ?_) (show Dt.lst (s2.map fun s => .int (manyOwn D s)) = .lst ((s2.map (manyOwn D)).map .int) by rw [List.map_map] <;> rfl))) ?_) (rn_int st.b.ex))) rfl) (by omega) (fun h G2 H2 st => ?_) (fun _ => ⟨none, rfl⟩) fun dss3 ow3 σ2 G2 H2 ⟨o, ed⟩ st => ?_
  · have h1 := (hok y hy).1
    have h3 := sg_len h1
    refine (rn_c0 (c_Lmany T) hr (by decide) rfl (ra_cons (rn_var st 1) (ra_one (rn_var st 8))) ?_)
    exact ⟨D, y, rfl, by omega, by omega, rfl⟩
  · refine ⟨_, rfl, fun i hi => ?_, rfl⟩
    obtain ⟨s, hs, rfl⟩ := List.mem_map.mp hi
    have := many_bound (D := D) (by omega) (hok s hs).1
    omega
  · have h40 : manyC (D, s2) ≤ 40 := of_decide_eq_true h.symm
    refine su_let (i := 9) (m := 0) (P := (· = eBk (D, s2))) st (ru_pure ok (rn_c0 (d := eBk (D, s2)) (c_Lbook T) hr (by decide) rfl (ra_cons (rn_var st.b 1) (ra_one (rn_var st.b 4))) ⟨(D, s2), rfl, hb, rfl⟩) rfl) (by omega) fun d σ2 G2 H2 ed st => ?_
    subst ed
    have y1 : yes (eSR (srF (turnK (D, s2)))) = !(((keptF (D, s2) M).map eL).isEmpty) := by rw [sr_yes, sr_turn hb, eF]
    have y2 : yes (eSR (srF (backK (D, s2)))) = !(((keptF (D, s2) M).map eL).isEmpty) := by rw [sr_yes, sr_back hb, eF]
    refine su_skip ok st (rt_w (rw_go' (rt_to (rc_t (rc_neS (rn_boolP T (sr_ppr _) rfl (hr.mono (by decide)) (rn_c0 (d := eSR (srF (turnK (D, s2)))) (c_some_row T hP) hr (by decide) rfl (ra_one (rn_me0 (cl := .sbook) (d := eBk (turnK (D, s2))) (t_SayingBook_turned T) hr (by decide) (rn_var st.b 9) (by decide) ⟨_, rfl, hb, rfl⟩)) ⟨_, rfl, bk_turn hb, by rw [many_turn]; omega, rfl⟩)) (rc_v (rc_neNil hr st.b.ex (rn_var st.b 6) plk)))) (by rw [y1]; simp)) (rw_or1 (rt_to (rc_t (rc_neS (rn_boolP T (sr_ppr _) rfl (hr.mono (by decide)) (rn_c0 (d := eSR (srF (backK (D, s2)))) (c_some_row T hP) hr (by decide) rfl (ra_one (rn_me0 (cl := .sbook) (d := eBk (backK (D, s2))) (t_SayingBook_backwards T) hr (by decide) (rn_var st.b 9) (by decide) ⟨_, rfl, hb, rfl⟩)) ⟨_, rfl, bk_back hb, by rw [many_back]; omega, rfl⟩)) (rc_v (rc_neNil hr st.b.ex (rn_var st.b 6) plk)))) (by rw [y2]; simp))))) (by omega) fun G2 H2 st => ?_
    exact wb_nil ⟨_, _, G2, ⟨_, rfl⟩, st⟩
  subst ed
  obtain ⟨b1, b2, b3⟩ := wd_bound2 (D, M) hp
  refine su_let (i := 10) (m := 1) (P := IntP fun _ => True) st (ru_opI (m1 := 1) (m2 := 0) (p1 := fun _ => True) (p2 := fun _ => True) (g := fun i j => i - j) op_sub (ru_opI (m1 := 1) (m2 := 0) (p1 := fun i => 0 ≤ i ∧ i < 2 * D * M + 3) (p2 := fun _ => True) (g := fun i j => i - j) op_sub (ru_take (m := 2 * D * M + 3) T ok sb hr (by decide) rfl (ra_cons (rn_var st.b 0) (ra_one (rn_add (rn_mul (rn_mul (rn_int st.b.ex) (rn_var st.b 1) ?_) (rn_var st.b 2) ?_) (rn_int st.b.ex)))) ⟨b3, b2⟩) (ru_pure ok (rn_mul (rn_var st.b 1) (rn_var st.b 2) ?_) ⟨_, rfl, True.intro⟩) fun _ _ _ _ => True.intro) (ru_pure ok (rn_int st.b.ex) ⟨1, rfl, True.intro⟩) fun _ _ _ _ => True.intro) (by omega) fun d σ2 G2 H2 ⟨t0, ed, _⟩ st => ?_
  · exact .inl ⟨by omega, by omega⟩
  · exact .inr ⟨by omega, by omega⟩
  · exact .inl ⟨by omega, by omega⟩
  subst ed
  refine su_ifE (m := 1) (m2 := 1) (PB := fun b => b = true → (keptF (D, s2) M).map eL ≠ []) (W := fun t : Int => True) (fun t => [some (.adr u), some (.int D), some (.int M), some (eL g), some (eKs s2), none, some (.lst ((keptF (D, s2) M).map eL)), none, none, o, some (.int t)]) ok st (rtu_and ok (rtu_eqI (i0 := 0) ok (ru_take (m := 2) T ok sb hr (by decide) rfl (ra_cons (rn_var st.b 0) (ra_one (rn_int st.b.ex))) (by omega)) (rn_int st.b.ex)) (rc_t (rc_neNil hr st.b.ex (rn_var st.b 6) plk)) fun k' hk => ?_) (by omega) (fun hb' G2 H2 st => ?_) (fun _ => ⟨t0, True.intro, rfl⟩) fun t σ2 G2 H2 _ st => ?_
  · intro z
    rw [z] at hk
    simp at hk
  · have hne := hb' rfl
    have hl1 : 1 ≤ ((keptF (D, s2) M).map eL).length := by
      cases z : (keptF (D, s2) M).map eL with
      | nil => exact absurd z hne
      | cons a b => rw [List.length_cons]; omega
    refine su_let (i := 10) (m := 1) (P := IntP fun _ => True) st (ru_sum T.free rfl (ru_imp (ru_pick (xs := (keptF (D, s2) M).map eL) T ok sb hr (by decide) rfl (ra_cons (rn_var st.b 0) (ra_one (rn_var st.b 6))) ⟨hl1, by rw [List.length_map]; omega⟩) fun d h => ?_)) (by omega) fun d σ2 G2 H2 ⟨t1, ed, _⟩ st => ?_
    · obtain ⟨g, _, rfl⟩ := List.mem_map.mp h
      exact ⟨g, rfl⟩
    subst ed
    exact wb_nil ⟨t1, G2, True.intro, st⟩
  have hb2 : BkOk (D, s2 ++ [.told 0 D (some t) (some t)]) := by
    refine ⟨⟨hD1, by show D ≤ 12; omega⟩, by show (s2 ++ [_]).length ≤ 8; rw [List.length_append, List.length_singleton]; omega, fun s h => ?_, fun s h => ?_⟩
    · rcases List.mem_append.mp h with h | h
      · exact (hok s h).1
      · rw [List.mem_singleton.mp h]
        exact ⟨⟨by omega, by omega, by omega, by omega⟩, decide_eq_true (Int.le_refl _)⟩
    · rcases List.mem_append.mp h with h | h
      · exact (hok s h).2
      · rw [List.mem_singleton.mp h]
        exact decide_eq_true (show (0 : Int) + D ≤ D by omega)
  have hk2 : ∀ g : List Int, g ∈ ((keptF (D, s2) M).filter fun g => decide (g.sum = t)) ↔ (g.length : Int) = D ∧ KpAll (D, s2 ++ [.told 0 D (some t) (some t)]) g := fun g => by
    rw [← kept_told (k := (D, s2)) (most := M) (t := t) (by show 0 ≤ D; omega)]
    exact mem_kept (k := (D, s2 ++ [.told 0 D (some t) (some t)])) (most := M) (by show 0 ≤ D; omega) (List.mem_append_left _ hmem)
  refine su_ret (m := 0) (P := (· = .bl true)) st (ru_fr (k := (D, s2 ++ [.told 0 D (some t) (some t)])) (kept := (keptF (D, s2) M).filter fun g => decide (g.sum = t)) T hP TB ok sf hr (by decide) rfl (ra_cons (rn_var st.b 1) (ra_cons (rn_to (rn_cat (ds1 := s2.map eT) (rn_var st.b 4) (rn_lst (ra_one (rn_tup (ra_cons (rn_str st.b.ex) (ra_cons (rn_int st.b.ex) (ra_cons (rn_var st.b 1) (ra_cons (rn_var st.b 10) (ra_one (rn_var st.b 10)))))) (Nat.le_of_ble_eq_true rfl))) (Nat.le_of_ble_eq_true rfl)) ?_) ?_) (ra_one (rn_ro (ro_flt (i := 7) (xs := (keptF (D, s2) M)) (enc := eL) (cd := fun g => decide (g.sum = t)) (f := eL) st.b (wk_list (ds := (keptF (D, s2) M).map eL) (rn_var st.b 6)) hkl (fun s1 HH C cl fp y hy σ' G' H' st => rts_one (rc_t (rc_eqI (rn_sum T.free rfl (rn_var st 7)) (rn_var st 10)))) fun s1 HH C cl fp y hy _ σ' G' H' st => (rn_var st 7)))))) hb2 (Nat.le_trans (List.length_filter_le _ _) hkl) hk2) (by omega) fun v d G2 H2 ed t j r => q v d G2 H2 (by rw [ed]; exact hPd) t (ok.mono j (by omega)) r
  · rw [List.length_map]
    show s2.length + 1 ≤ 100000
    omega
  · show Dt.lst _ = Dt.lst ((s2 ++ [_]).map eT)
    rw [List.map_append]
    rfl
end
end Y
set_option Elab.async false
set_option linter.all false
set_option maxRecDepth 100000
set_option maxHeartbeats 1000000
/-! Lay36: for over a range where hidden things stand; a list of ours becomes an urn. -/
namespace Y
open PySem PySem.Spec PyProof.Rows L2 LamX
section
variable {X : Cx} {us : List Addr} {J : Nat → Hp → Hp → Prop} {σ : L2.St} {G0 H0 G Hh H G1 H1 : Hp} {dss : List (Option Dt)} {ow : List (Addr × List Dt)} {iter : Expr} {pos p tp : Pos} {D : Ends} {rest body : List Stmt} {m n k : Nat}
theorem su_for {i : Nat} {x : Str} (dsf : Nat → List (Option Dt)) (ok : HidOk us J) (s : StJ X.K us J n G0 H0 (dsf 0) ow σ G H) (hw : Wk X (.Name x tp) iter σ G (hds us H) (rgD 0 k))
    (hs : ∀ y : Nat, y < k → ∀ G1 σ2 G2 H2, StJ X.K us J (n + y * m) G1 H0 ((dsf y).set i (some (.int y))) ow σ2 G2 H2 →
      wpB X body { D with nx := fun σ3 H3 => ∃ G3, StJ X.K us J (n + (y + 1) * m) G1 H0 (dsf (y + 1)) ow σ3 G3 H3, ct := fun σ3 H3 => ∃ G3, StJ X.K us J (n + (y + 1) * m) G1 H0 (dsf (y + 1)) ow σ3 G3 H3, bk := wpB X rest D } σ2 H2)
    (hd : ∀ σ2 G2 H2, StJ X.K us J (n + k * m) G0 H0 (dsf k) ow σ2 G2 H2 → wpB X rest D σ2 H2)
    (hp : PassesOwn (model X.prog X.w) X.A X.env X.xe := by exact PassesOwn.never) (hc : X.calm = true := by rfl) (hN : X.N.Nodup := by exact of_decide_eq_true (by kernel_rfl)) (hi : X.N[i]? = some x := by rfl) (hx : Loc X.env.scope x := by first | exact .inl rfl | exact .inr rfl) (hf : X.fn x = true ∨ X.env.scope.names.lookup x = some .local := by first | exact .inl rfl | exact .inr rfl) (hfs : ∀ x, foldedSetIterable iter X.env x = pure x := by intro _; rfl) : wpB X (.For (.Name x tp) iter body [] pos :: rest) D σ H := by
  obtain ⟨wi, hpi, hwi⟩ := hw
  refine wb_cons (wpS_of (ps_for hp hc hpi pg_wp pb_wp (hs := hfs)) (hwi H hds_ex _ fun Jt G1 H1 s1 w => ?_))
  obtain ⟨t, u, j1⟩ := pure_stp ok (Stp.refl s.b.ex) s.j s1
  have st1 := s.stp t j1
  have h00 : n + 0 * m = n := by rw [Nat.zero_mul, Nat.add_zero]
  refine ⟨fun i m' σ' H' => m' = k - i ∧ i ≤ k ∧ ∃ G', StJ X.K us J (n + i * m) (uni G G1) H0 (dsf i) ow σ' G' H', ⟨_, rfl, Nat.zero_le _, uni G G1, ⟨st1.b.inn, by rw [h00]; exact st1.j⟩⟩, ?_⟩
  rintro i m' σ' H' ⟨rfl, hi', G', hW⟩
  have e1 : Ex G1 G' := u.trans hW.b.st.g
  by_cases lt : i < k
  · have hm : (rgD 0 k)[i]? = some (.int (0 + (i : Int))) := by
      unfold rgD
      rw [List.getElem?_map, List.getElem?_range lt]
      rfl
    have e0 : (0 : Int) + (i : Int) = i := by omega
    rw [e0] at hm
    refine .inr ⟨w.go i _ G' H' hm e1 hW.ex, fun σ3 H3 => ∃ G3, StJ X.K us J (n + (i + 1) * m) (uni G G1) H0 (dsf (i + 1)) ow σ3 G3 H3, fun σ3 H3 h3 => ⟨k - (i + 1), by omega, rfl, by omega, h3⟩, fun x0 H2 y => ?_⟩
    obtain ⟨G2, s2, r2⟩ := w.yld i _ G' H' x0 H2 hm e1 hW.ex y
    obtain ⟨t2, u2, j2⟩ := pure_stp ok (Stp.refl hW.b.ex) hW.j s2
    have st2 := hW.stp t2 j2
    refine tg_name (d := .int i) hN hi hx hf σ' (uni G' G2) H2 x0 st2.ex (r2.ex u2) _ fun σ2 _ _ k2 => ?_
    exact hs i lt (uni G G1) σ2 (uni G' G2) H2 ⟨⟨st2.b.st, k2 _ st2.b.env, st2.b.own, st2.b.nd⟩, st2.j⟩
  · have ei : i = k := by omega
    subst ei
    refine .inl ⟨?_, ?_⟩
    · have := w.stop G' H' e1 hW.ex
      unfold rgD at this
      rw [List.length_map, List.length_range] at this
      exact this
    · exact hd σ' G' H' ⟨hW.b.out st1.b.st, hW.j⟩
end
section
variable {K : PySem.W.Frag} {u : Addr} {n : Nat} {G0 H0 G H : Hp} {dss : List (Option Dt)} {ow : List (Addr × List Dt)} {σ : L2.St} {it : List Dt} {T : List (Addr × Str)}
theorem StJ.urn (s : StJ K ([] ++ tabA T) (JP J1 T) n G0 H0 dss ((u, it) :: ow) σ G H) (hd : UrnD n it) : StJ K ([u] ++ tabA T) (JP (Urn K u) T) n G0 H0 dss ow σ G H := by
  obtain ⟨b, _, hg, ht⟩ := s
  have b : Sta K G0 H0 dss ((u, it) :: ow) σ G (hds (tabA T) H) := b
  obtain ⟨b2, g, vs, it2, h, r, hd2⟩ := b.close hd
  have e : hds [u] (hds (tabA T) H) = hds ([u] ++ tabA T) H := funext fun a => by
    by_cases h1 : a ∈ [u]
    · rw [hds_in h1, hds_in (List.mem_append_left _ h1)]
    · by_cases h2 : a ∈ tabA T
      · rw [hds_out h1, hds_in h2, hds_in (List.mem_append_right _ h2)]
      · rw [hds_out h1, hds_out h2, hds_out (by rw [List.mem_append]; exact fun z => z.elim h1 h2)]
  rw [e] at b2
  exact ⟨b2, ⟨g, vs, it2, hds_ex _ _ h, r, hd2⟩, hg, ht⟩
end
end Y
set_option Elab.async false
set_option linter.all false
set_option maxRecDepth 100000
set_option maxHeartbeats 1000000
/-! Lay37: more tests where hidden things stand; classes with one default. -/
namespace Y
open PySem PySem.Spec PyProof.Rows L2 LamX
section
variable {X : Cx} {us : List Addr} {J : Nat → Hp → Hp → Prop} {σ : L2.St} {G0 H0 G Hh H G1 H1 : Hp} {d d1 d2 : Dt} {ds : List Dt} {a b c e : Expr} {es : List Expr} {pos p : Pos} {m n j : Nat}
theorem rtu_neSame (ok : HidOk us J) (hr : Room j X.A) (ha : RnU X us J a σ G Hh m (· = d)) (hb : Rn X b σ G Hh d) (h1 : d.pl 60 = true) (hm : behindInMarks .NotEq b = false := by rfl) : RtU X us J (.Compare a [.NotEq] [b] pos) σ G Hh m (· = false) := fun G1 H1 n s hj hn Q q => by
  have hb := ru_pure (us := us) (J := J) (P := (· = d)) ok hb rfl
  exact wpT_of (pt_cmpR (op_neD hr.units) pe_wp pe_wp hm) (ha G1 H1 n s hj hn _ fun v d1 G2 H2 e1 t j r => hb G2 H2 (n + m) (s.trans t) j hn _ fun v2 d2 G3 H3 e2 t3 j3 r3 => by
    subst e1 e2
    refine ⟨_, _, (py_ok 60 d2 h1).1 v ((r.ex t3.g).ex (t3.gh.trans hds_ex)), (py_ok 60 d2 h1).1 v2 (r3.ex (t3.gh.trans hds_ex)), py_shaped h1 (by decide), py_shaped h1 (by decide), ?_⟩
    have e0 : (!PyData.eqv (d2.py 60) (d2.py 60)) = false := by rw [eqv_same h1] <;> rfl
    exact ⟨_, rfl, by rw [e0]; exact q _ G3 H3 rfl (t.trans t3) j3⟩)
theorem rtu_orF {PB : Bool → Prop} (ok : HidOk us J) (ha : RnT X a σ G Hh false) (hb : RtU X us J b σ G Hh m PB) : RtU X us J (.BoolOp .Or [a, b] pos) σ G Hh m PB := fun G1 H1 n s hj hn Q q => by
  have hw : wpW X (.BoolOp .Or [a, b] pos) σ H1 Q := wpW_of (pw_or pt_wp (pw_or1 pt_wp)) (rtu_pure (PB := (· = false)) ok ha rfl G1 H1 n s hj (by omega) _ fun k1 G2 H2 e2 t j => by
    subst e2
    exact iteF (hb G2 H2 n (s.trans t) j hn _ fun k2 G3 H3 h3 t3 j3 => q k2 G3 H3 h3 (t.trans t3) j3))
  exact fun pins s1 I => hw _ pins s1 I
theorem rn_m1 {x : Str} {cl : Cl} {fs : List Dt} {j k : Nat} {R : List Dt → List Dt → Prop} (c : C8.Mak X.prog X.w X.K X.mg X.base k x (cl.ad X.K) (Ini X.K cl R) [.non]) (hr : Room j X.A) (hk : k + 1 ≤ j) (hg : Gl X x) (ha : RnA X (e :: es) σ G H ds) (hR : R (ds ++ [.non]) fs)
    (hdb : (x == ("__debug__" : Str)) = false := by decide) (he : starEach (e :: es) X.env = (false, eval e X.env) :: starEach es X.env := by rfl) (hpl : (backTo pos (starEach es X.env)).any (·.1) = false := by rfl) : Rn X (.Call (.Name x p) (e :: es) [] pos) σ G H (.obj cl fs) :=
  rn_make (dds := [.non]) c hr hk hg ha (fun _ => ⟨rfl, True.intro⟩) hR hdb he hpl
theorem Stp.uph {G0 H0 G H H' : Hp} (s : Stp G0 H0 G H) (e : Ex H H') : Stp G0 H0 G H' := ⟨s.h.trans e, s.g, s.gh.trans e, s.new⟩
end
end Y
set_option Elab.async false
set_option linter.all false
set_option maxRecDepth 100000
set_option maxHeartbeats 1000000
/-! Lay38: the script, cut; the urn made of it. -/
namespace Y
open PySem PySem.Spec PyProof.Rows L2 LamX
theorem reps_scr {K : PySem.W.Frag} {G : Hp} : ∀ ns : List Int, Reps K G (ns.map V.int) (ns.map Dt.int)
  | [] => True.intro
  | _ :: ns => ⟨rfl, reps_scr ns⟩
section
variable {X : Cx} {σ : L2.St} {G H : Hp} {a : Expr} {pos : Pos}
theorem rn_slS {lo hi : Option Expr} {p2 : Pos} {tl th : TO} {l u : Option Int} {ns : List Int} (h : Rn X a σ G H (.scr (ns.map V.int))) (hl : PO X lo tl) (hu : PO X hi th)
    (ql : ∀ H1, Ex H H1 → ∀ Q : Option Int → Hp → Prop, (∀ G2 H2, Stp G H1 G2 H2 → Q l H2) → tl σ H1 Q) (qu : ∀ H1, Ex H H1 → ∀ Q : Option Int → Hp → Prop, (∀ G2 H2, Stp G H1 G2 H2 → Q u H2) → th σ H1 Q) :
    Rn X (.Subscript a (.Slice lo hi none p2) pos) σ G H (.lst (((ns.map Dt.int).drop (HT.sIx (ns.map Dt.int).length 0 l)).take (HT.sIx (ns.map Dt.int).length (ns.map Dt.int).length u - HT.sIx (ns.map Dt.int).length 0 l))) := fun H1 e Q q =>
  wpE_of (pe_slice sl_list pe_wp hl hu) (h H1 e _ fun x G2 H2 s r => ql H2 (e.trans s.h) _ fun G3 H3 s3 => qu H3 ((e.trans s.h).trans s3.h) _ fun G4 H4 s4 => by
    obtain ⟨z, rfl, hx⟩ := r
    have s5 := s.trans (Stp.up s.gh (s3.h.trans s4.h))
    refine ⟨z, ns.map V.int, rfl, sqS_ex s5.gh hx, fun p n => q _ _ _ (s5.trans (Stp.new1 s5.gh n)) ?_⟩
    have rs : Reps X.K G2 (ns.map V.int) (ns.map Dt.int) := reps_scr ns
    have hl := rs.length
    unfold cutV
    rw [hl]
    exact rep_new_lst s5.gh ((rs.drop _).take _) n)
end
section
variable {P : Program} {w : World} {K : PySem.W.Frag} {mg : Str → Option Value} {base : Heap}
def R_LurnS : List Dt → List Dt → Prop := fun ds ds2 => ∃ cs : List Int, ds = [.scr (cs.map V.int)] ∧ ds2 = [eL (cs.take 60), .int 0, .int 0]
theorem c_LurnS (T : Txt K mg) : C8.Cal P w K mg base 1 "_law_urn" (PuO K R_LurnS) [] := by
  obtain ⟨fd, F⟩ := T.def_ 37 rfl
  refine ⟨f_Lurn, fd, ["_law_script"], [], C8.fn0 (x := "_law_urn") (qual := "_law_urn") (st := s_Lurn) (N := n_Lurn) (toFun F) (C8.fnScope_by (by decide +kernel)) (fun vs H Q E h => ?_) (fun cdv A outer s H vs Q E hr h => ?_), T.glo (show (("_law_urn" : Str), f_Lurn) ∈ gloL by decide +kernel), F.kp, FunD.bindsN F fun _ _ _ _ _ _ us hl => match us, hl with | [_], _ => rfl, .nil⟩
  · obtain ⟨G, ds, ds', _, r, ⟨_, rfl, _⟩, _⟩ := h
    exact r.length
  · obtain ⟨G, ds, ds', e, r, ⟨cs, rfl, rfl⟩, q⟩ := h
    have st := sta_start (K := K) (N := n_Lurn) e r
    refine ⟨_, pb_wp, ?_⟩
    refine wb_cons (wpS_of (ps_ret pe_wp) ((ro_lst (ra_cons (rn_to (rn_map (X := bx P w K mg base n_Lurn "_law_urn" s_Lurn f_Lurn cdv A outer s H E) (xs := cs.take 60) (enc := .int) (i := 1) (f := Dt.int) st (wk_list (rn_to (rn_slS (rn_var st 0) po_none (po_some pe_wp) (po_n st.ex) (po_i (rn_int st.ex))) ?_)) ?_ fun s1 HH C cl fp y hy σ' G' H' st => rn_intI T.free (rn_var st 1)) (show Dt.lst ((cs.take 60).map .int) = eL (cs.take 60) from rfl)) (ra_cons (rn_int st.ex) (ra_one (rn_int st.ex)))) (Nat.le_of_ble_eq_true rfl)) H (Ex.refl H) _ fun l us G2 H2 s2 n1 n2 hl r2 => q l us G2 H2 s2 n1 n2 hl r2))
    · have e60 : ∀ n : Nat, HT.sIx n n (some 60) = min 60 n := fun n => HT.sIx_nat n n 60
      rw [HT.sIx_none, e60, List.drop_zero, Nat.sub_zero, List.map_take, List.length_map]
      congr 1
      rcases Nat.le_total 60 cs.length with h | h
      · rw [Nat.min_eq_left h]
      · rw [Nat.min_eq_right h, List.take_of_length_le (by rw [List.length_map]; exact Nat.le_refl _), List.take_of_length_le (by rw [List.length_map]; exact h)]
    · rw [List.length_take]
      omega
end
end Y
set_option Elab.async false
set_option linter.all false
set_option maxRecDepth 100000
set_option maxHeartbeats 1000000
/-! D37: law. -/
namespace Y
open PySem PySem.Spec PyProof.Rows L2 LamX
def qLw : Str := (envOfC "law" (C8.fnScope s_law) 0 0 .none).qual ++ "<lambda>"
abbrev cLw (K : PySem.W.Frag) : Addr × Addr := He.cT K ((("law" : Str), (none : Option Str)))
abbrev TLw (K : PySem.W.Frag) : List (Addr × Str) := [((cFr K).2, qFr), ((cLw K).2, qLw)]
def wideK : Bk := (12, [.some 1 (some 0) none, .just 2 0, .told 0 12 (some 0) none])
theorem wide_ok : BkOk wideK := by
  refine ⟨⟨by decide, by decide⟩, by decide, fun s hs => ?_, fun s hs => ?_⟩
  · simp only [wideK, List.mem_cons, List.not_mem_nil, or_false] at hs
    rcases hs with rfl | rfl | rfl
    · exact ⟨⟨by decide, by decide⟩, rfl⟩
    · exact ⟨by decide, by decide⟩
    · exact ⟨⟨by decide, by decide, by decide, by decide⟩, rfl⟩
  · simp only [wideK, List.mem_cons, List.not_mem_nil, or_false] at hs
    rcases hs with rfl | rfl | rfl <;> rfl
theorem wide_many : 400 < manyC wideK := by decide +kernel
theorem free_ok {D : Int} (h : 1 ≤ D ∧ D ≤ 12) : BkOk (D, []) := ⟨h, Nat.zero_le 8, (fun s hs => by cases hs), fun s hs => by cases hs⟩
theorem free_many (D : Int) : manyC (D, []) = 1 := rfl
theorem free_found {D : Int} (h : 1 ≤ D ∧ D ≤ 12) : ∃ g, srF (D, []) = .found g := by
  have h1 : (srF (D, [])).isF = true := (sr_iff (free_ok h)).mpr ⟨List.replicate D.toNat 0, by rw [List.length_replicate]; exact Int.toNat_of_nonneg (by omega), fun s hs => by cases hs⟩
  cases e : srF (D, []) with
  | found g => exact ⟨g, rfl⟩
  | barred rs =>
    rw [e] at h1
    cases h1
def eBook3 : Dt := .obj .book [.int 3, .tup []]
def odds : List Dt := [.non, .int 5, .str "3 : -", .lst [eSg (.some 1 (some 1) none)], eSg (.some 1 (some 1) none), eRow [1], eBook3]
theorem odds_odd {d : Dt} (h : d ∈ odds) : Odd d := by
  simp only [odds, List.mem_cons, List.not_mem_nil, or_false] at h
  rcases h with rfl | rfl | rfl | rfl | rfl | rfl | rfl <;> exact ⟨_, rfl, rfl⟩
theorem hds_sub {us0 us : List Addr} {H : Hp} (h : ∀ a ∈ us0, a ∈ us) : Ex (hds us H) (hds us0 H) := fun a o e => by
  have z := hds_some e
  rw [hds_out z] at e
  rw [hds_out fun y => z (h a y)]
  exact e
section
variable {P : Program} {w : World} {K : PySem.W.Frag} {mg : Str → Option Value} {base : Heap}
def R_law : List Dt → (Dt → Prop) → Prop := fun ds Pd => ∃ cs : List Int, ds = [.scr (cs.map V.int)] ∧ Pd (.bl true)
theorem b_law (T : Txt K mg) (hP : ProOk P) (TB : TabB base mg (cFr K).1 (cFr K).2) (TB2 : TabB base mg (cLw K).1 (cLw K).2) : BodT P w K mg base 13 "law" s_law n_law ([] ++ tabA (TLw K)) (JP J1 (TLw K)) 5000 R_law := by
  rintro f cdv A outer s G H Q E σ ds Pd n hcd hr ⟨cs, rfl, hPd⟩ hn st q
  have ne : (cFr K).2 ≠ (cLw K).2 := of_decide_eq_true (T.fact 35 rfl)
  have hU : ∀ p ∈ TLw K, ∀ p' ∈ TLw K, p.1 = p'.1 → p = p' := by
    intro p hp p' hp' e
    simp only [List.mem_cons, List.not_mem_nil, or_false] at hp hp'
    rcases hp with rfl | rfl <;> rcases hp' with rfl | rfl
    · rfl
    · exact absurd e ne
    · exact absurd e.symm ne
    · rfl
  have hT : ∀ p ∈ TFr K, p ∈ TLw K := fun p hp => by rw [List.mem_singleton.mp hp]; exact List.mem_cons_self
  have hmT : ((cLw K).2, qLw) ∈ TLw K := List.mem_cons_of_mem _ List.mem_cons_self
  have hu1 : ∀ p ∈ TLw K, p.1 = (cLw K).2 → p.2 = qLw := fun p hp e => by rw [hU p hp _ hmT e]
  have ok0 : HidOk ([] ++ tabA (TLw K)) (JP J1 (TLw K)) := jp_ok j1_ok
  refine su_letO (i := 1) (m := 0) (PA := (· = [eL (cs.take 60), .int 0, .int 0])) ok0 st (ruo_pure ok0 (ro_call (c_LurnS T) hr (by decide) rfl (ra_one (rn_var st.b 0)) ⟨cs, rfl, rfl⟩) rfl) (by omega) fun u ds σ2 G2 H2 ed st => ?_
  subst ed
  have st := StJ.urn st ⟨cs.take 60, 0, 0, rfl, by rw [List.length_take]; omega, by decide, by omega, by decide⟩
  have ok : HidOk ([u] ++ tabA (TLw K)) (JP (Urn K u) (TLw K)) := jp_ok urn_ok
  have sb : SubJ [u] (Urn K u) ([u] ++ tabA (TLw K)) (JP (Urn K u) (TLw K)) := sub_urn
  have sw : SubJ ([u] ++ tabA (TFr K)) (JP (Urn K u) (TFr K)) ([u] ++ tabA (TLw K)) (JP (Urn K u) (TLw K)) := sub_tabU hT hU
  refine su_for (i := 2) (k := 2) (m := 2000) (fun y => [some (.scr (cs.map V.int)), some (.adr u), (match y with | 0 => none | y + 1 => some (.int (y : Nat))), none, none, none, none]) ok st (wk_rg1 (n := 2) T.free (rn_int st.b.ex) (by decide)) (fun y hy G1 σ2 G2 H2 st => ?_) fun σ2 G2 H2 st => ?_
  · refine su_if (m := 2000) (PB := fun b => b = false) st (rtu_not (PC := fun b => b = true) (rtu_v (ru_imp (P1 := (· = .bl true)) (ru_callS (m1 := 0) (m := 2000) ok sw (c_Lworld_right hP TB T u) hr (by decide) rfl (rua_pure (PA := (· = [.adr u])) ok (ra_one (rn_var st.b 1)) rfl) (fun ds e => ⟨(), e, rfl⟩) (by decide) rfl rfl) fun d h => ⟨true, h, rfl⟩)) fun k' h => by rw [h] <;> rfl) (by omega) (fun h => Bool.noConfusion h) fun _ G2 H2 st => wb_nil (wb_nil ⟨G2, st.b, ok.mono st.j (by omega)⟩)
  replace st : StJ K ([u] ++ tabA (TLw K)) (JP (Urn K u) (TLw K)) (n + 0 + 2 * 2000) G (Y.hds ([] ++ tabA (TLw K)) H) [some (.scr (cs.map V.int)), some (.adr u), some (.int 1), none, none, none, none] [] σ2 G2 H2 := st
  refine su_tg (m := 1) (P := fun d => ∃ D : Int, (1 ≤ D ∧ D ≤ 12) ∧ d = .tup [eSR (srF (D, [])), eBk wideK]) (up := up2 3 4) (is := [3, 4]) st (ru_imp (ru_tup ok (rua_cons (m1 := 1) (m2 := 0) (P1 := fun d => ∃ D : Int, (1 ≤ D ∧ D ≤ 12) ∧ d = eSR (srF (D, []))) (PB := (· = [eBk wideK])) (PA := fun ds => ∃ D : Int, (1 ≤ D ∧ D ≤ 12) ∧ ds = [eSR (srF (D, [])), eBk wideK])
     (ru_c0 ok (c_some_row T hP) hr (by decide) rfl (rua_one (PA := fun ds => ∃ D : Int, (1 ≤ D ∧ D ≤ 12) ∧ ds = [eBk (D, [])]) (ru_m0 (P := fun d => ∃ D : Int, (1 ≤ D ∧ D ≤ 12) ∧ d = eBk (D, [])) (PA := fun ds => ∃ D : Int, (1 ≤ D ∧ D ≤ 12) ∧ ds = [.int D, .lst []]) ok (m_sbook T) hr (by decide) rfl (rua_cons (m1 := 1) (m2 := 0) (P1 := IntP fun D => 1 ≤ D ∧ D ≤ 12) (PB := (· = [.lst []])) (ru_opI (m1 := 0) (m2 := 1) (p1 := (· = 1)) (g := fun i j => i + j) op_add (ru_pure ok (rn_int st.b.ex) ⟨1, rfl, rfl⟩) (ru_take (m := 12) T ok sb hr (by decide) rfl (ra_cons (rn_var st.b 1) (ra_one (rn_int st.b.ex))) (by omega)) fun i j h1 h2 => by omega) (rua_one (ru_pure (P := (· = .lst [])) ok (rn_lst (ra_nil st.b.ex) (Nat.le_of_ble_eq_true rfl)) rfl) fun d h => by rw [h]) fun d ds ⟨D, e, h⟩ e2 => ⟨D, h, by rw [e, e2]⟩) fun ds ⟨D, h, e⟩ => ⟨[.int D, .tup []], by subst e; exact ⟨D, [], rfl, h, by decide, (fun s hs => by cases hs), rfl⟩, ⟨D, h, rfl⟩⟩) fun d ⟨D, h, e⟩ => ⟨D, h, by rw [e]⟩) fun ds ⟨D, h, e⟩ => ⟨eSR (srF (D, [])), by subst e; exact ⟨(D, []), rfl, free_ok h, by rw [free_many]; decide, rfl⟩, D, h, rfl⟩)
     (rua_one (ru_pure (P := (· = eBk wideK)) ok (rn_m0 (cl := .sbook) (fs := [.int 12, .tup (wideK.2.map eSg)]) (m_sbook T) hr (by decide) rfl (ra_cons (rn_int st.b.ex) (ra_one (rn_lst (ra_cons (rn_m1 (cl := .some) (fs := [.int 1, .int 0, .non]) (m_some2 T) hr (by decide) rfl (ra_cons (rn_int st.b.ex) (ra_one (rn_int st.b.ex))) ⟨1, some 0, none, rfl, by decide, rfl, rfl⟩) (ra_cons (rn_m0 (cl := .just) (fs := [.int 2, .int 0]) (m_just T) hr (by decide) rfl (ra_cons (rn_int st.b.ex) (ra_one (rn_int st.b.ex))) ⟨2, 0, rfl, by decide, rfl⟩) (ra_one (rn_m1 (cl := .told) (fs := [.int 0, .int 12, .int 0, .non]) (m_told3 T) hr (by decide) rfl (ra_cons (rn_int st.b.ex) (ra_cons (rn_int st.b.ex) (ra_one (rn_int st.b.ex)))) ⟨0, 12, some 0, none, rfl, by decide, rfl, rfl⟩)))) (Nat.le_of_ble_eq_true rfl)))) ⟨12, wideK.2, rfl, by decide, by decide, wide_ok.fit, rfl⟩) rfl) fun d h => by rw [h]) fun d ds ⟨D, h, e⟩ e2 => ⟨D, h, by rw [e, e2]⟩) fun ds ⟨D, h, e⟩ => by rw [e]; exact Nat.le_of_ble_eq_true rfl) fun d ⟨ds, e, D, h, e2⟩ => ⟨D, h, by rw [e, e2]⟩) (by omega) (fun d ⟨D, h, ed⟩ => by subst ed; exact tg2C (i1 := 3) (i2 := 4)) fun d σ2 G2 H2 ⟨D, hD, ed⟩ st => ?_
  subst ed
  obtain ⟨g, eg⟩ := free_found hD
  rw [eg] at st
  replace st : StJ K ([u] ++ tabA (TLw K)) (JP (Urn K u) (TLw K)) (n + 0 + 2 * 2000 + 1) G (Y.hds ([] ++ tabA (TLw K)) H) [some (.scr (cs.map V.int)), some (.adr u), some (.int 1), some (eFound g), some (eBk wideK), none, none] [] σ2 G2 H2 := st
  have ht0 : ∀ {n : Nat} {G H : Hp}, Urn K u n G H → ∀ a ∈ [u], ∀ ps, H a ≠ some (.tbl ps) := fun ⟨_, vs, it, h, _⟩ a ha ps z => by
    rw [List.mem_singleton.mp ha, h] at z
    cases z
  obtain ⟨f1, fd1, ps1, F1, hm1, kp1, b1⟩ := (x_row_many (P := P) (w := w) (base := base) T).ex
  obtain ⟨f2, fd2, ps2, F2, hm2, kp2, b2⟩ := (x_row_bad (P := P) (w := w) (base := base) T).ex
  obtain ⟨f3, fd3, ps3, F3, hm3, kp3, b3⟩ := (x_shows_bad (P := P) (w := w) (base := base) T).ex
  refine su_if (m := 0) (PB := (· = false)) st (rtu_orF ok (rt_to (rt_not (k := true) (rt_to (rt_v (rn_isi (t := .cl .found) (cc := .cl .found) T.cls T.kit T.free (rn_var st.b 3) rfl (rn_gcl (C := 1166) T st.b.ex))) rfl)) rfl) (rtu_neSame (d := .tup [.str "choices", .int 400]) ok hr (ru_heard (k := 5) (C := 246) (c := (cLw K).1) (Pt := (cLw K).2) (t := fun E => tCall (PuX K 246 manyF R_row_many) [] E (tCons (tVar 4) tNil)) urn_ok ht0 T (show ((246 : Addr), (243 : Addr)) ∈ exL by decide) (.inr ⟨rfl, rfl, rfl, rfl⟩) TB2 hcd hmT hu1 hr (by decide) rfl (lamS_by (sc := C8.fnScope s_law) (by decide +kernel)) rfl (fun _ _ _ _ _ => rfl)
      (fun A outer s H E f c' hr2 => pe_call (E := E) (dvs := []) (ds := []) F1 (hr2.mono (by decide)) rfl hm1 kp1 b1 .nil (passes_call (takes_of rfl rfl rfl rfl) fun _ _ _ _ h => h) (pa_cons (pe_var (i := 4) rfl (.inr (.inr rfl))) pa_nil)) (fun H1 E Qn eG hq => by
        obtain ⟨v4, e4, r4⟩ := st.b.env.at_ 4 _ rfl
        exact ⟨v4, e4, H1, [eBk wideK], Ex.refl _, ⟨r4.ex eG, True.intro⟩, ⟨wideK, rfl, wide_ok, wide_many⟩, hq⟩)) (rn_tup (ra_cons (rn_str st.b.ex) (ra_one (rn_int st.b.ex))) (Nat.le_of_ble_eq_true rfl)) (by decide +kernel))) (by omega) (fun h => Bool.noConfusion h) fun _ G2 H2 st => wb_nil ?_
  refine su_let (i := 5) (m := 1) (P := (· ∈ odds)) st (ru_pick (xs := odds) T ok sb hr (by decide) rfl (ra_cons (rn_var st.b 1) (ra_one (rn_lst (ds := odds) (ra_cons (rn_non st.b.ex) (ra_cons (rn_int st.b.ex) (ra_cons (rn_str st.b.ex) (ra_cons (rn_lst (ra_one (rn_m1 (cl := .some) (fs := [.int 1, .int 1, .non]) (m_some2 T) hr (by decide) rfl (ra_cons (rn_int st.b.ex) (ra_one (rn_int st.b.ex))) ⟨1, some 1, none, rfl, by decide, rfl, rfl⟩)) (Nat.le_of_ble_eq_true rfl)) (ra_cons (rn_m1 (cl := .some) (fs := [.int 1, .int 1, .non]) (m_some2 T) hr (by decide) rfl (ra_cons (rn_int st.b.ex) (ra_one (rn_int st.b.ex))) ⟨1, some 1, none, rfl, by decide, rfl, rfl⟩) (ra_cons (rn_m0 (cl := .row) (m_row T) hr (by decide) rfl (ra_one (rn_lst (ra_one (rn_int st.b.ex)) (Nat.le_of_ble_eq_true rfl))) ⟨[1], rfl, by decide, rfl⟩) (ra_one (rn_m0 (cl := .book) (m_book T) hr (by decide) rfl (ra_cons (rn_int st.b.ex) (ra_one (rn_lst (ra_nil st.b.ex) (Nat.le_of_ble_eq_true rfl)))) ⟨3, rfl, by decide, rfl⟩)))))))) (Nat.le_of_ble_eq_true rfl)))) (by decide)) (by omega) fun d σ2 G2 H2 hd st => ?_
  have hO := odds_odd hd
  refine su_letO (i := 6) (m := 0) (PA := (· = [.tup [.str "book", .str "book"]])) ok st (ruo_lst ok (rua_one (ru_heard (k := 5) (C := 89) (c := (cLw K).1) (Pt := (cLw K).2) (t := fun E => tCall (PuX K 89 badF R_row_bad) [] E (tCons (tVar 5) tNil)) urn_ok ht0 T (show ((89 : Addr), (86 : Addr)) ∈ exL by decide) (.inl ⟨rfl, rfl, rfl, rfl⟩) TB2 hcd hmT hu1 hr (by decide) rfl (lamS_by (sc := C8.fnScope s_law) (by decide +kernel)) rfl (fun _ _ _ _ _ => rfl)
      (fun A outer s H E f c' hr2 => pe_call (E := E) (dvs := []) (ds := []) F2 (hr2.mono (by decide)) rfl hm2 kp2 b2 .nil (passes_call (takes_of rfl rfl rfl rfl) fun _ _ _ _ h => h) (pa_cons (pe_var (i := 5) rfl (.inr (.inr rfl))) pa_nil)) (fun H1 E Qn eG hq => by
        obtain ⟨v5, e5, r5⟩ := st.b.env.at_ 5 _ rfl
        exact ⟨v5, e5, H1, [d], Ex.refl _, ⟨r5.ex eG, True.intro⟩, ⟨d, rfl, hO⟩, hq⟩)) fun d hd => by rw [hd]) fun ds e => by rw [e]; exact Nat.le_of_ble_eq_true rfl) (by omega) fun l ds σ2 G2 H2 ed st => ?_
  subst ed
  refine su_app (j := 0) (m := 0) ok st (rn_var st.b 6) rfl (ru_heard (k := 5) (C := 89) (c := (cLw K).1) (Pt := (cLw K).2) (t := fun E => tCall (PuX K 89 badF R_shows_bad) [] E (tCons (tVar 5) (tCons (tVar 3) tNil))) urn_ok ht0 T (show ((89 : Addr), (86 : Addr)) ∈ exL by decide) (.inl ⟨rfl, rfl, rfl, rfl⟩) TB2 hcd hmT hu1 hr (by decide) rfl (lamS_by (sc := C8.fnScope s_law) (by decide +kernel)) rfl (fun _ _ _ _ _ => rfl)
      (fun A outer s H E f c' hr2 => pe_call (E := E) (dvs := []) (ds := []) F3 (hr2.mono (by decide)) rfl hm3 kp3 b3 .nil (passes_call (takes_of rfl rfl rfl rfl) fun _ _ _ _ h => h) (pa_cons (pe_var (i := 5) rfl (.inr (.inr rfl))) (pa_cons (pe_var (i := 3) rfl (.inr (.inr rfl))) pa_nil))) (fun H1 E Qn eG hq => by
        obtain ⟨v5, e5, r5⟩ := st.b.env.at_ 5 _ rfl
        obtain ⟨v3, e3, r3⟩ := st.b.env.at_ 3 _ rfl
        exact ⟨v5, e5, v3, e3, H1, [d, eFound g], Ex.refl _, ⟨r5.ex eG, r3.ex eG, True.intro⟩, ⟨d, eFound g, rfl, hO⟩, hq⟩)) (by omega) (by show 1 < 100000; decide) fun d2 G2 H2 ed st => ?_
  subst ed
  obtain ⟨G3, st⟩ := st.freeze ok (i := 6) (j := 0) rfl rfl
  refine su_ret (m := 0) (P := (· = .bl true)) st (ru_pure ok (rc_v (rc_eqSame hr (rn_var st.b 6) (rn_ro (ro_rep (p2 := ⟨0, 0, 0, 0⟩) (n := 2) (ra_one (rn_tup (ra_cons (rn_str st.b.ex) (ra_one (rn_str st.b.ex))) (Nat.le_of_ble_eq_true rfl))) (rn_int st.b.ex) (by decide))) (by decide +kernel))) rfl) (by omega) fun v d G2 H2 ed t j r => q v d G2 H2 (by rw [ed]; exact hPd) (t.uph (hds_sub fun a h => List.mem_append_right _ (by simpa using h))) (jp_ok (us0 := []) (J0 := J1) j1_ok |>.mono (n := 0) ⟨True.intro, j.2⟩ (Nat.zero_le _)) r
end
end Y
set_option Elab.async false
set_option linter.all false
set_option maxRecDepth 100000
set_option maxHeartbeats 1000000
/-! Fin1: law's promise at every base; the walk from the caller. -/
namespace Y
open PySem PySem.Spec PyProof.Rows L2 LamX
theorem fok_all {K : PySem.W.Frag} {mg : Str → Option Value} {x : Str} {st : Stmt} {a : Addr} {N ps : List Str} {k m : Nat} {us : List Addr} {J : Nat → Hp → Hp → Prop} {R : List Dt → (Dt → Prop) → Prop} (T : Txt K mg) (i : Nat) (hd : fnD[i]? = some ⟨fun _ => a, x, x, C8.fnArgs st, C8.fnBody st, C8.fnScope st, [], []⟩) (hg : (x, a) ∈ gloL) (S : C8.scC N ps (C8.fnScope st) = true)
    (hb : ∀ (kV doc pm : Value) (an : Option Addr) (cdv ct : Value) (us : List Value), us.length = ps.length → bindArgs (PySem.W.fnOf x x (C8.fnArgs st) (C8.fnBody st) (C8.fnScope st) .none kV doc pm an cdv ct) ⟨us, []⟩ = pure (ps.zip us))
    (len : ∀ ds Pd, R ds Pd → ds.length = ps.length) : ∃ fd, (∀ (s : Shared) (us : List Value), us.length = ps.length → BindsTo s fd ⟨us, []⟩ (ps.zip us)) ∧ ∀ (P : Program) (w : World) (base : Heap), BodT P w K mg base k x st N us J m R → FnOk P w K mg base C8.CX0 (k + 1) a fd ps (PuJ K us J m R) := by
  obtain ⟨fd, F⟩ := T.def_ i hd
  have hA := FunD.bindsA F hb
  obtain ⟨oc, od, dV, kV, doc, pm, an, cdv, ct, osl, rfl, lk, hcd, _, _⟩ := F.ex
  obtain ⟨c0, rfl⟩ := He.codeIn_ref hcd
  refine ⟨_, hA, fun P w base body => ?_⟩
  refine fn_of lk hcd (C8.fnScope_by S) (fun vs H Q E h => ?_) fun A outer s H vs Q E hr h => ?_
  · obtain ⟨G, ds, Pd, n, _, _, _, r, hR, _⟩ := h
    rw [r.length]
    exact len ds Pd hR
  · obtain ⟨G, ds, Pd, n, e, j, hn, r, hR, q⟩ := h
    have ec : c0 = (He.cT K (x, none)).1 := (He.codeOf_eq (K := K) (p := (x, none)) (by rw [fad_eq T hg]; exact lk) rfl).symm
    exact ⟨_, (pb_wp : PSs (bx P w K mg base N x st a (.ref c0) A outer s H E) _ _).nox, body a (.ref c0) A outer s G H Q E _ ds Pd n (by rw [ec]) hr hR hn ⟨sta_start e r, j⟩ q⟩
theorem walkY {q : Program} {loose : List Str} {XP : (Str → Option Value) → Heap → Prop} {d : DefRec} (hdn : d.name = ("law" : Str)) (hdf : d.params.defaults = []) (hP : ProOk PySem.Challenge.rw_anyseven_k88_whole_some_row_or_none.prog) (hr : Room 14 callerA) :
    PySem.W.WalkO q loose XP hkY.says PySem.Challenge.rw_anyseven_k88_whole_some_row_or_none.row.toRowW d [] (fun f vs => PySem.call f vs) := by
  refine Att.attach_callB (n := 63) rfl hdf fun w s0 s1 mg mb fa o pm cd doc a vs ns G Y ho hd hcd hmg hobj hints hlen hbits hg => ?_
  obtain ⟨K, KX, c⟩ := Y
  have T : Txt K mg := ⟨c.t, _, KX, G.T.g⟩
  have hgl : (("law" : Str), f_law) ∈ gloL := by decide +kernel
  rw [hdn] at hmg
  have efa : fa = f_law := by
    have e := hmg.symm.trans (T.glo hgl)
    cases e
    rfl
  subst efa
  obtain ⟨fd, hB, hF⟩ := fok_all (st := s_law) (N := n_law) (ps := ["_law_script"]) (k := 13) (m := 5000) (us := [] ++ tabA (TLw K)) (J := JP J1 (TLw K)) (R := R_law) T 59 rfl hgl (by decide +kernel) (fun _ _ _ _ _ _ us hl => match us, hl with | [_], _ => rfl) (fun ds Pd h => by obtain ⟨_, rfl, _⟩ := h; rfl)
  have mem : ∀ p ∈ tf.map (He.cT K), ∃ x ∈ tf, He.cT K x = p := fun p hp => by
    obtain ⟨x, hx, e⟩ := List.mem_map.mp hp
    exact ⟨x, hx, e⟩
  have in1 : cFr K ∈ tf.map (He.cT K) := List.mem_map.mpr ⟨_, List.mem_cons_self, rfl⟩
  have in2 : cLw K ∈ tf.map (He.cT K) := List.mem_map.mpr ⟨_, List.mem_cons_of_mem _ List.mem_cons_self, rfl⟩
  refine law_callTs (cs := tf.map (He.cT K)) (fd := fd) KX G.T.g G.T.b G.T.builtins G.T.nolimit hg (fun p hp => ?_) (fun p hp => ?_) (fun p hp => ?_) G.T.bmain hobj hints (Nat.le_trans hlen (by decide)) hr (fun base h1 h2 h3 => hF _ _ _ (b_law T hP (h3 _ in1) (h3 _ in2))) (fun s u => hB s [u] rfl) (fun H hH hS => ?_) (fun _ _ _ z => z)
  · obtain ⟨x, hx, rfl⟩ := mem p hp
    exact c.empty x hx
  · obtain ⟨x, hx, rfl⟩ := mem p hp
    exact c.out x hx
  · obtain ⟨x, hx, rfl⟩ := mem p hp
    exact PySem.W.codeHd_of_K KX (c.hd x hx)
  · have hTb : ∀ p ∈ TLw K, H p.1 = some (.tbl #[]) := fun p hp => by
      simp only [List.mem_cons, List.not_mem_nil, or_false] at hp
      rcases hp with rfl | rfl
      · exact hH _ in1
      · exact hH _ in2
    have na : H a ≠ some (.tbl #[]) → a ∉ [] ++ tabA (TLw K) := fun h z => by
      obtain ⟨p, hp, e⟩ := List.mem_map.mp (show a ∈ tabA (TLw K) from z)
      have e2 := hTb p hp
      have e3 : p.1 = a := e
      rw [e3] at e2
      exact h e2
    have hS2 : SqL K (hds ([] ++ tabA (TLw K)) H) a (ns.map V.int) := by
      rcases hS with h | h
      · refine .inl ?_
        rcases h with h | ⟨o, h⟩
        · exact .inl (by rw [hds_out (na (by rw [h]; intro z; cases z))]; exact h)
        · exact .inr ⟨o, by rw [hds_out (na (by rw [h]; intro z; cases z))]; exact h⟩
      · exact .inr h
    refine ⟨hds ([] ++ tabA (TLw K)) H, [.scr (ns.map V.int)], (· = .bl true), 0, Ex.refl _, ⟨True.intro, fun p hp => hds_in (List.mem_map.mpr ⟨p, hp, rfl⟩), fun p hp => ?_⟩, by decide, ⟨⟨a, rfl, hS2⟩, True.intro⟩, ⟨ns, rfl, rfl⟩, fun v d G2 H2 ed _ _ r => by subst ed; exact r⟩
    exact ⟨#[], hTb p hp, True.intro, fun pos cv hc => by cases hc⟩
end Y
set_option Elab.async false
set_option linter.all false
set_option maxRecDepth 100000
set_option maxHeartbeats 0
/-! Fin2: the run, told whole; the statement. -/
namespace Y
open PySem PySem.Spec PyProof.Rows L2
theorem opt5 {α A B C D E F : Type} {o : Option α} {f1 : α → A} {f2 : α → B} {f3 : α → C} {f4 : α → D} {f5 : α → E} {g : α → F} {x : A} {y : B} {z : C} {u : D} {v : E} {t : F} (h1 : o.map f1 = some x) (h2 : o.map f2 = some y) (h3 : o.map f3 = some z) (h4 : o.map f4 = some u) (h5 : o.map f5 = some v) (h : ∀ s, f1 s = x → f2 s = y → f3 s = z → f4 s = u → f5 s = v → g s = t) : o.map g = some t := by
  cases o with
  | none => cases h1
  | some s => exact congrArg some (h s (Option.some.inj h1) (Option.some.inj h2) (Option.some.inj h3) (Option.some.inj h4) (Option.some.inj h5))
theorem all_td {l : List Bool} {n : Nat} (h1 : (l.take n).all id = true) (h2 : (l.drop n).all id = true) : l.all id = true := by
  rw [← List.take_append_drop n l, List.all_append, h1, h2]
  rfl
theorem pair4 {A B : Type} {a a' : A} {b b' : B} {p q : Bool} {l l' : List He5.FnW} {t : Bool} (h1 : a = a') (h2 : b = b') (h3 : p = true) (h4 : q = true) (h5 : l = l') (h6 : t = true) : (a, b, ((p && q, l), t)) = (a', b', ((true, l'), true)) := by
  subst h1 h2 h3 h4 h5 h6
  rfl
theorem runs (w : World) : HandSHeadRun.RunEq RR (PySem.W.view RR.prog [142]) hkY obY 20000 names w := fun os =>
  opt5 (runA1 w os) (runA2 w os) (runB w os) (runC w os) (runD w os) fun s a b c d e =>
    pair4 a b (all_td c (congrArg (fun z => z.1) d)) e (congrArg (fun z => z.2.2) d) (congrArg (fun z => z.2.1) d)
end Y
open PySem PySem.W PySem.Calls PyProof.Rows
theorem PySem.Challenge.cw_anyseven_k88_whole_some_row_or_none_holds : PySem.Challenge.rw_anyseven_k88_whole_some_row_or_none.Holds := by
  w_on; o_law
  refine HandSHeadRun.head_any (r := Y.RR) (q := view Y.RR.prog [142]) (H := Y.hkY) (ob := Y.obY) (M := 20000) (loose := Y.names) (d := HandSHeadRun.topDef Y.RR.prog 142) (kwd := []) Y.obY_eq
    (by kernel_rfl) (fun s => by kernel_rfl) Y.runs (by kernel_rfl) (by kernel_rfl) (by kernel_rfl) (by rfl) (by first | assumption | decide +kernel) (by decide +kernel) ⟨rfl, rfl, rfl, rfl, rfl, by decide +kernel⟩ ?hw ?hc
  case hw => w_witness2
  case hc => exact Y.walkY (by kernel_rfl) (by kernel_rfl) ⟨rfl, by kernel_rfl⟩ ⟨rfl, by decide, by decide⟩
