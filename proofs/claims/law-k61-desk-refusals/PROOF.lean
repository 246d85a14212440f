import PyProof.Rows.All
import Wide.All
import OpenK.AllK
import Wide.FinOn
import PyProof.EqAt
import PyProof.EqKinds
import PyProof.TupleCall
import KE.KExcIs
import KE.GoesComp
import KE.GoesRaise
import HandS.ForMost
import HandS.ForExc
import HandS.ExcInit
import HandS.ExcIs
import HandS.ExcField
import HandS.IsInst
import HandS.ListItems
import HandS.ClsMeth
import HandS.FStr
import HandS.Defaults
import HandS.Walk
import HandS.Codes
import HandS.HeadHook2
import HandS.HeadHook4
import KE.KStateDown
import HandS.Head0
import HandS.Head1
import HandS.Head2
import HandS.HeadEnd
import HandS.HeadHook1
import PySem.Challenge.RW_chancehall_k61_desk_refusals
set_option Elab.async false
set_option linter.all false
set_option maxRecDepth 100000
set_option maxHeartbeats 0
/-! the text by places, the facts asked of the ground, the top's run -/
namespace Dk
open PySem PySem.Spec PyProof.Rows L2
def top (i : Nat) : Stmt := PySem.Challenge.pw_chancehall_k61_desk_refusals.main.body.getD i (.Pass ⟨0, 0, 0, 0⟩)
abbrev s_is_whole : Stmt := top 13
abbrev s_divisor : Stmt := top 14
abbrev s_ratio : Stmt := top 16
abbrev s_is_ratio : Stmt := top 17
abbrev s_plus : Stmt := top 18
abbrev s_minus : Stmt := top 19
abbrev s_under : Stmt := top 22
abbrev s_level : Stmt := top 25
abbrev s_total : Stmt := top 26
abbrev Wd := List Nat
def lw (s : String) : Wd := s.toList.map Char.toNat
def inClass (c : Stmt) (j : Nat) : Stmt := (C8.clsBody c).getD j (.Pass ⟨0, 0, 0, 0⟩)
abbrev s_NoRow___init__ : Stmt := inClass (top 8) 0
abbrev s_NoRoom___init__ : Stmt := inClass (top 9) 0
abbrev s_NoDoor___init__ : Stmt := inClass (top 10) 0
abbrev s_NoPlan___init__ : Stmt := inClass (top 11) 0
def letters : Wd := lw "abcdefghijklmnopqrstuvwxyz"
def figures : Wd := lw "0123456789"
def ones : List Wd := ["share", "room", "goal", "plain", "most", "least"].map lw
def nones : List Wd := ["best", "lots", "show"].map lw
abbrev s_is_word : Stmt := top 90
abbrev s_whole_of : Stmt := top 91
abbrev s_number_of : Stmt := top 92
abbrev s_number_text : Stmt := top 93
abbrev s_word_of : Stmt := top 122
abbrev s_is_chance : Stmt := top 95
abbrev s_is_share : Stmt := top 103
abbrev s_check_head : Stmt := top 96
abbrev s_Door___init__ : Stmt := inClass (top 97) 0
abbrev s_Sure___init__ : Stmt := inClass (top 98) 0
abbrev s_Mixed___init__ : Stmt := inClass (top 99) 0
abbrev s_Mixed_ways : Stmt := inClass (top 99) 1
abbrev s_Toss___init__ : Stmt := inClass (top 100) 0
abbrev s_Hall___init__ : Stmt := inClass (top 104) 0
abbrev s_Hall_taken : Stmt := inClass (top 104) 1
abbrev s_Hall_size : Stmt := inClass (top 104) 2
abbrev s_Hall_names : Stmt := inClass (top 104) 3
abbrev s_Hall_place : Stmt := inClass (top 104) 4
abbrev s_Hall_check_room : Stmt := inClass (top 104) 5
abbrev s_Hall_door_at : Stmt := inClass (top 104) 6
abbrev s_Hall_offers : Stmt := inClass (top 104) 7
abbrev s_told_plan : Stmt := top 114
abbrev s_worth_answer : Stmt := top 116
abbrev s_chance_answer : Stmt := top 117
abbrev s_bounds_answer : Stmt := top 119
abbrev s_run_answer : Stmt := top 120
abbrev s_door_fits : Stmt := top 123
abbrev s_door_of : Stmt := top 124
abbrev s_ways_text : Stmt := top 125
abbrev s_show : Stmt := top 126
abbrev s_row_fits : Stmt := top 130
abbrev s_Desk___init__ : Stmt := inClass (top 131) 0
abbrev s_Desk_hall_now : Stmt := inClass (top 131) 1
abbrev s_Desk_say : Stmt := inClass (top 131) 2
abbrev s_Desk_done : Stmt := inClass (top 131) 3
abbrev s_Desk_told : Stmt := inClass (top 131) 4
abbrev s_Desk_check_name : Stmt := inClass (top 131) 5
abbrev s_Desk_set_share : Stmt := inClass (top 131) 6
abbrev s_Desk_add_room : Stmt := inClass (top 131) 7
abbrev s_Desk_add_door : Stmt := inClass (top 131) 8
abbrev s_Desk_shut_door : Stmt := inClass (top 131) 9
abbrev s__law_cell : Stmt := top 133
abbrev s__law_stream : Stmt := top 134
abbrev s__law_gcd : Stmt := top 135
abbrev s__law_lowest : Stmt := top 136
abbrev s__law_number : Stmt := top 137
abbrev s__law_words : Stmt := top 139
abbrev s__law_doors : Stmt := top 140
abbrev s__law_drawn : Stmt := top 141
abbrev s__law_chances : Stmt := top 142
abbrev s__law_rows : Stmt := top 143
abbrev s__law_no_rows : Stmt := top 144
abbrev s__law_no_doors : Stmt := top 145
abbrev s__law_others : Stmt := top 146
abbrev s__law_plans : Stmt := top 147
abbrev s__law_only : Stmt := top 138
abbrev s__law_refused : Stmt := top 148
abbrev s_law : Stmt := top 149
def oexB (K : PySem.W.Frag) (C : Addr) : Bool := (match K.lookup C with
  | some ⟨.type "type", _, .cls cd, sl⟩ => (match cd.mro, sl.toList with
    | .ref C' :: bm, [_, _, _, _, some (.builtin n), _] => C' == C && n == "ValueError.__new__" && !cd.hasDel && cd.hasDict && PySem.HandSPX.refsVE bm
    | _, _ => false)
  | _ => false) && (decide (PySem.W.findIn K (.ref C) "__setattr__" = some (some (.builtin "object.__setattr__"))) && (decide (PySem.W.subIn K (.ref C) (.type "BaseException") = some true) && (decide (PySem.W.typeIn K (.ref C) = some (.type "type")) && PySem.W.keepIn K (.ref C))))
def excCB (K : PySem.W.Frag) (D : Addr) : Bool := decide (PySem.W.findIn K (.ref D) "__getattribute__" = some (some (.builtin "BaseException.__getattribute__"))) && (decide (PySem.W.findIn K (.ref D) "__getattr__" = some none) && (decide (PySem.W.subIn K (.ref D) (.type "BaseException") = some true) && (PySem.W.hasDictIn K D && (decide (PySem.W.findIn K (.ref D) "__class__" = some (some (.builtin "object.__class__"))) &&
  (decide (PySem.W.specialIn K (.builtin "object.__class__") "__get__" = some (some (.builtin "getset_descriptor.__get__"))) && (decide (PySem.W.takesIn K (.builtin "object.__class__") = some true) && decide (PySem.W.mroIn K D (.type "object") = some true)))))))
def creadB (K : PySem.W.Frag) (C : Addr) : Bool := PySem.W.readsIn K C (.type "type") && decide (PySem.W.specialIn K (.ref C) "__getattribute__" = some (some (.builtin "type.__getattribute__")))
def clsBltB (K : PySem.W.Frag) (C : Addr) (n : String) : Bool := match PySem.W.findCls K (.ref C) (.type "type") "__init__" with
  | some (.val (.builtin m)) => decide (m = n)
  | _ => false
def clsRefB (K : PySem.W.Frag) (C f : Addr) : Bool := match PySem.W.findCls K (.ref C) (.type "type") "__init__" with
  | some (.val (.ref g)) => decide (g = f)
  | _ => false
def fa : List He.Fa := [.free "isinstance",
  .free "int",
  .free "bool",
  .free "str",
  .free "tuple",
  .free "list",
  .free "len",
  .free "abs",
  .free "all",
  .free "sum",
  .free "sorted",
  .free "range",
  .free "ValueError",
  .glo "NoNumber",
  .exc "NoNumber",
  .glo "NoName",
  .exc "NoName",
  .glo "NoChance",
  .exc "NoChance",
  .glo "NoShare",
  .exc "NoShare",
  .glo "HallError",
  .glo "NoRow",
  .noat "NoRow" "row",
  .meth "NoRow" "__init__",
  .glo "NoRoom",
  .noat "NoRoom" "room",
  .meth "NoRoom" "__init__",
  .glo "NoDoor",
  .noat "NoDoor" "door",
  .meth "NoDoor" "__init__",
  .glo "NoPlan",
  .noat "NoPlan" "room",
  .meth "NoPlan" "__init__",
  .str "LETTERS" (SX.S letters),
  .str "FIGURES" (SX.S figures),
  .glo "ONE",
  .glo "NONE",
  .cls "Sure",
  .noat "Sure" "name",
  .noat "Sure" "pay",
  .noat "Sure" "room",
  .cls "Mixed",
  .noat "Mixed" "name",
  .noat "Mixed" "pay",
  .noat "Mixed" "pairs",
  .cls "Toss",
  .noat "Toss" "name",
  .noat "Toss" "pay",
  .noat "Toss" "pairs",
  .cls "Hall",
  .noat "Hall" "share",
  .noat "Hall" "titles",
  .noat "Hall" "given",
  .cls "Desk",
  .noat "Desk" "share",
  .noat "Desk" "rooms",
  .noat "Desk" "marks",
  .glo "NoText",
  .exm "NoNumber" "HallError" true,
  .exm "NoName" "HallError" true,
  .exm "NoChance" "HallError" true,
  .exm "NoShare" "HallError" true,
  .exm "NoRow" "HallError" true,
  .exm "NoRoom" "HallError" true,
  .exm "NoDoor" "HallError" true,
  .exm "NoPlan" "HallError" true,
  .mkr "Mixed",
  .glo "is_whole",
  .glo "divisor",
  .glo "ratio",
  .glo "plus",
  .glo "minus",
  .glo "under",
  .glo "is_ratio",
  .glo "level",
  .glo "total",
  .glo "is_word",
  .glo "whole_of",
  .glo "number_of",
  .glo "number_text",
  .glo "word_of",
  .glo "is_chance",
  .glo "is_share",
  .glo "check_head",
  .glo "Door",
  .glo "Sure",
  .mkr "Sure",
  .glo "Mixed",
  .meth "Mixed" "ways",
  .meth "Toss" "ways",
  .glo "Toss",
  .mkr "Toss",
  .meth "Hall" "size",
  .meth "Hall" "names",
  .meth "Hall" "place",
  .meth "Hall" "check_room",
  .meth "Hall" "door_at",
  .meth "Hall" "offers",
  .meth "Hall" "taken",
  .glo "Hall",
  .mkr "Hall",
  .glo "told_plan",
  .glo "worth_answer",
  .glo "worths_of",
  .keep "worths_of",
  .glo "chance_answer",
  .glo "bounds_answer",
  .glo "run_answer",
  .glo "door_fits",
  .glo "row_fits",
  .glo "ways_text",
  .glo "show",
  .glo "door_of",
  .glo "Even",
  .keep "Even",
  .glo "Desk",
  .mkr "Desk",
  .meth "Desk" "hall_now",
  .meth "Desk" "check_name",
  .meth "Desk" "set_share",
  .meth "Desk" "add_room",
  .meth "Desk" "add_door",
  .meth "Desk" "shut_door",
  .meth "Desk" "done",
  .meth "Desk" "told",
  .meth "Desk" "say",
  .glo "_law_cell",
  .glo "_law_stream",
  .glo "_law_gcd",
  .glo "_law_lowest",
  .glo "_law_number",
  .glo "_law_words",
  .glo "_law_doors",
  .glo "_law_drawn",
  .glo "_law_chances",
  .glo "_law_rows",
  .glo "_law_no_doors",
  .glo "_law_others",
  .glo "_law_no_rows",
  .glo "_law_plans",
  .glo "_law_only",
  .glo "_law_refused",
  .glo "law"]
def fn : List He.DefD := [⟨("NoRow", some "__init__"), "__init__", "NoRow.__init__", defArgs s_NoRow___init__, defBody s_NoRow___init__, defScope s_NoRow___init__, [], []⟩,
  ⟨("NoRoom", some "__init__"), "__init__", "NoRoom.__init__", defArgs s_NoRoom___init__, defBody s_NoRoom___init__, defScope s_NoRoom___init__, [], []⟩,
  ⟨("NoDoor", some "__init__"), "__init__", "NoDoor.__init__", defArgs s_NoDoor___init__, defBody s_NoDoor___init__, defScope s_NoDoor___init__, [], []⟩,
  ⟨("NoPlan", some "__init__"), "__init__", "NoPlan.__init__", defArgs s_NoPlan___init__, defBody s_NoPlan___init__, defScope s_NoPlan___init__, [], []⟩,
  ⟨("is_whole", none), "is_whole", "is_whole", defArgs s_is_whole, defBody s_is_whole, defScope s_is_whole, [], []⟩,
  ⟨("divisor", none), "divisor", "divisor", defArgs s_divisor, defBody s_divisor, defScope s_divisor, [], []⟩,
  ⟨("ratio", none), "ratio", "ratio", defArgs s_ratio, defBody s_ratio, defScope s_ratio, [], []⟩,
  ⟨("plus", none), "plus", "plus", defArgs s_plus, defBody s_plus, defScope s_plus, [], []⟩,
  ⟨("minus", none), "minus", "minus", defArgs s_minus, defBody s_minus, defScope s_minus, [], []⟩,
  ⟨("under", none), "under", "under", defArgs s_under, defBody s_under, defScope s_under, [], []⟩,
  ⟨("is_ratio", none), "is_ratio", "is_ratio", defArgs s_is_ratio, defBody s_is_ratio, defScope s_is_ratio, [], []⟩,
  ⟨("level", none), "level", "level", defArgs s_level, defBody s_level, defScope s_level, [], []⟩,
  ⟨("total", none), "total", "total", defArgs s_total, defBody s_total, defScope s_total, [], []⟩,
  ⟨("is_word", none), "is_word", "is_word", defArgs s_is_word, defBody s_is_word, defScope s_is_word, [], []⟩,
  ⟨("whole_of", none), "whole_of", "whole_of", defArgs s_whole_of, defBody s_whole_of, defScope s_whole_of, [], []⟩,
  ⟨("number_of", none), "number_of", "number_of", defArgs s_number_of, defBody s_number_of, defScope s_number_of, [], []⟩,
  ⟨("number_text", none), "number_text", "number_text", defArgs s_number_text, defBody s_number_text, defScope s_number_text, [], []⟩,
  ⟨("word_of", none), "word_of", "word_of", defArgs s_word_of, defBody s_word_of, defScope s_word_of, [], []⟩,
  ⟨("is_chance", none), "is_chance", "is_chance", defArgs s_is_chance, defBody s_is_chance, defScope s_is_chance, [], []⟩,
  ⟨("is_share", none), "is_share", "is_share", defArgs s_is_share, defBody s_is_share, defScope s_is_share, [], []⟩,
  ⟨("check_head", none), "check_head", "check_head", defArgs s_check_head, defBody s_check_head, defScope s_check_head, [], []⟩,
  ⟨("Door", some "__init__"), "__init__", "Door.__init__", defArgs s_Door___init__, defBody s_Door___init__, defScope s_Door___init__, [], []⟩,
  ⟨("Sure", some "__init__"), "__init__", "Sure.__init__", defArgs s_Sure___init__, defBody s_Sure___init__, defScope s_Sure___init__, [], []⟩,
  ⟨("Mixed", some "__init__"), "__init__", "Mixed.__init__", defArgs s_Mixed___init__, defBody s_Mixed___init__, defScope s_Mixed___init__, [], []⟩,
  ⟨("Mixed", some "ways"), "ways", "Mixed.ways", defArgs s_Mixed_ways, defBody s_Mixed_ways, defScope s_Mixed_ways, [], []⟩,
  ⟨("Toss", some "ways"), "ways", "Mixed.ways", defArgs s_Mixed_ways, defBody s_Mixed_ways, defScope s_Mixed_ways, [], []⟩,
  ⟨("Toss", some "__init__"), "__init__", "Toss.__init__", defArgs s_Toss___init__, defBody s_Toss___init__, defScope s_Toss___init__, [], []⟩,
  ⟨("Hall", some "size"), "size", "Hall.size", defArgs s_Hall_size, defBody s_Hall_size, defScope s_Hall_size, [], []⟩,
  ⟨("Hall", some "names"), "names", "Hall.names", defArgs s_Hall_names, defBody s_Hall_names, defScope s_Hall_names, [], []⟩,
  ⟨("Hall", some "place"), "place", "Hall.place", defArgs s_Hall_place, defBody s_Hall_place, defScope s_Hall_place, [], []⟩,
  ⟨("Hall", some "check_room"), "check_room", "Hall.check_room", defArgs s_Hall_check_room, defBody s_Hall_check_room, defScope s_Hall_check_room, [], []⟩,
  ⟨("Hall", some "door_at"), "door_at", "Hall.door_at", defArgs s_Hall_door_at, defBody s_Hall_door_at, defScope s_Hall_door_at, [], []⟩,
  ⟨("Hall", some "offers"), "offers", "Hall.offers", defArgs s_Hall_offers, defBody s_Hall_offers, defScope s_Hall_offers, [], []⟩,
  ⟨("Hall", some "taken"), "taken", "Hall.taken", defArgs s_Hall_taken, defBody s_Hall_taken, defScope s_Hall_taken, [], []⟩,
  ⟨("Hall", some "__init__"), "__init__", "Hall.__init__", defArgs s_Hall___init__, defBody s_Hall___init__, defScope s_Hall___init__, [], []⟩,
  ⟨("told_plan", none), "told_plan", "told_plan", defArgs s_told_plan, defBody s_told_plan, defScope s_told_plan, [], []⟩,
  ⟨("worth_answer", none), "worth_answer", "worth_answer", defArgs s_worth_answer, defBody s_worth_answer, defScope s_worth_answer, [], []⟩,
  ⟨("chance_answer", none), "chance_answer", "chance_answer", defArgs s_chance_answer, defBody s_chance_answer, defScope s_chance_answer, [], []⟩,
  ⟨("bounds_answer", none), "bounds_answer", "bounds_answer", defArgs s_bounds_answer, defBody s_bounds_answer, defScope s_bounds_answer, [], []⟩,
  ⟨("run_answer", none), "run_answer", "run_answer", defArgs s_run_answer, defBody s_run_answer, defScope s_run_answer, [], []⟩,
  ⟨("door_fits", none), "door_fits", "door_fits", defArgs s_door_fits, defBody s_door_fits, defScope s_door_fits, [], []⟩,
  ⟨("row_fits", none), "row_fits", "row_fits", defArgs s_row_fits, defBody s_row_fits, defScope s_row_fits, [], []⟩,
  ⟨("ways_text", none), "ways_text", "ways_text", defArgs s_ways_text, defBody s_ways_text, defScope s_ways_text, [], []⟩,
  ⟨("show", none), "show", "show", defArgs s_show, defBody s_show, defScope s_show, [], []⟩,
  ⟨("door_of", none), "door_of", "door_of", defArgs s_door_of, defBody s_door_of, defScope s_door_of, [], []⟩,
  ⟨("Desk", some "__init__"), "__init__", "Desk.__init__", defArgs s_Desk___init__, defBody s_Desk___init__, defScope s_Desk___init__, [], []⟩,
  ⟨("Desk", some "hall_now"), "hall_now", "Desk.hall_now", defArgs s_Desk_hall_now, defBody s_Desk_hall_now, defScope s_Desk_hall_now, [], []⟩,
  ⟨("Desk", some "check_name"), "check_name", "Desk.check_name", defArgs s_Desk_check_name, defBody s_Desk_check_name, defScope s_Desk_check_name, [], []⟩,
  ⟨("Desk", some "set_share"), "set_share", "Desk.set_share", defArgs s_Desk_set_share, defBody s_Desk_set_share, defScope s_Desk_set_share, [], []⟩,
  ⟨("Desk", some "add_room"), "add_room", "Desk.add_room", defArgs s_Desk_add_room, defBody s_Desk_add_room, defScope s_Desk_add_room, [], []⟩,
  ⟨("Desk", some "add_door"), "add_door", "Desk.add_door", defArgs s_Desk_add_door, defBody s_Desk_add_door, defScope s_Desk_add_door, [], []⟩,
  ⟨("Desk", some "shut_door"), "shut_door", "Desk.shut_door", defArgs s_Desk_shut_door, defBody s_Desk_shut_door, defScope s_Desk_shut_door, [], []⟩,
  ⟨("Desk", some "done"), "done", "Desk.done", defArgs s_Desk_done, defBody s_Desk_done, defScope s_Desk_done, [], []⟩,
  ⟨("Desk", some "told"), "told", "Desk.told", defArgs s_Desk_told, defBody s_Desk_told, defScope s_Desk_told, [], []⟩,
  ⟨("Desk", some "say"), "say", "Desk.say", defArgs s_Desk_say, defBody s_Desk_say, defScope s_Desk_say, [], []⟩,
  ⟨("_law_cell", none), "_law_cell", "_law_cell", defArgs s__law_cell, defBody s__law_cell, defScope s__law_cell, [], []⟩,
  ⟨("_law_stream", none), "_law_stream", "_law_stream", defArgs s__law_stream, defBody s__law_stream, defScope s__law_stream, [], []⟩,
  ⟨("_law_gcd", none), "_law_gcd", "_law_gcd", defArgs s__law_gcd, defBody s__law_gcd, defScope s__law_gcd, [], []⟩,
  ⟨("_law_lowest", none), "_law_lowest", "_law_lowest", defArgs s__law_lowest, defBody s__law_lowest, defScope s__law_lowest, [], []⟩,
  ⟨("_law_number", none), "_law_number", "_law_number", defArgs s__law_number, defBody s__law_number, defScope s__law_number, [], []⟩,
  ⟨("_law_words", none), "_law_words", "_law_words", defArgs s__law_words, defBody s__law_words, defScope s__law_words, [], []⟩,
  ⟨("_law_doors", none), "_law_doors", "_law_doors", defArgs s__law_doors, defBody s__law_doors, defScope s__law_doors, [], []⟩,
  ⟨("_law_drawn", none), "_law_drawn", "_law_drawn", defArgs s__law_drawn, defBody s__law_drawn, defScope s__law_drawn, [], []⟩,
  ⟨("_law_chances", none), "_law_chances", "_law_chances", defArgs s__law_chances, defBody s__law_chances, defScope s__law_chances, [], []⟩,
  ⟨("_law_rows", none), "_law_rows", "_law_rows", defArgs s__law_rows, defBody s__law_rows, defScope s__law_rows, [], []⟩,
  ⟨("_law_no_doors", none), "_law_no_doors", "_law_no_doors", defArgs s__law_no_doors, defBody s__law_no_doors, defScope s__law_no_doors, [], []⟩,
  ⟨("_law_others", none), "_law_others", "_law_others", defArgs s__law_others, defBody s__law_others, defScope s__law_others, [], []⟩,
  ⟨("_law_no_rows", none), "_law_no_rows", "_law_no_rows", defArgs s__law_no_rows, defBody s__law_no_rows, defScope s__law_no_rows, [], []⟩,
  ⟨("_law_plans", none), "_law_plans", "_law_plans", defArgs s__law_plans, defBody s__law_plans, defScope s__law_plans, [], []⟩,
  ⟨("_law_only", none), "_law_only", "_law_only", defArgs s__law_only, defBody s__law_only, defScope s__law_only, [], []⟩,
  ⟨("_law_refused", none), "_law_refused", "_law_refused", defArgs s__law_refused, defBody s__law_refused, defScope s__law_refused, [], []⟩,
  ⟨("law", none), "law", "law", defArgs s_law, defBody s_law, defScope s_law, [], []⟩]
def exs : List (PySem.W.Frag → Bool) := [fun K => creadB K (He.ga K "HallError"),
  fun K => clsBltB K (He.ga K "HallError") "ValueError.__init__",
  fun K => oexB K (He.ga K "NoRow"),
  fun K => xfB K (He.ga K "NoRow"),
  fun K => decide (PySem.W.typeIn K (.ref (He.ma K (He.ga K "NoRow") "__init__")) = some (.type "function")),
  fun K => oexB K (He.ga K "NoRoom"),
  fun K => xfB K (He.ga K "NoRoom"),
  fun K => decide (PySem.W.typeIn K (.ref (He.ma K (He.ga K "NoRoom") "__init__")) = some (.type "function")),
  fun K => oexB K (He.ga K "NoDoor"),
  fun K => xfB K (He.ga K "NoDoor"),
  fun K => decide (PySem.W.typeIn K (.ref (He.ma K (He.ga K "NoDoor") "__init__")) = some (.type "function")),
  fun K => oexB K (He.ga K "NoPlan"),
  fun K => xfB K (He.ga K "NoPlan"),
  fun K => decide (PySem.W.typeIn K (.ref (He.ma K (He.ga K "NoPlan") "__init__")) = some (.type "function")),
  fun K => He.lstB K "ONE" (ones.map fun w => He.Dv.str (SX.S w)),
  fun K => He.lstB K "NONE" (nones.map fun w => He.Dv.str (SX.S w)),
  fun K => excCB K (He.ga K "NoNumber"),
  fun K => excCB K (He.ga K "NoName"),
  fun K => excCB K (He.ga K "NoChance"),
  fun K => excCB K (He.ga K "NoShare"),
  fun K => excCB K (He.ga K "NoRow"),
  fun K => excCB K (He.ga K "NoRoom"),
  fun K => excCB K (He.ga K "NoDoor"),
  fun K => excCB K (He.ga K "NoPlan"),
  fun K => decide (PySem.W.kitOne K (.ref (He.ga K "NoNumber")) (.type "ValueError") = some true),
  fun K => decide (PySem.W.kitOne K (.ref (He.ga K "NoName")) (.type "ValueError") = some true),
  fun K => decide (PySem.W.kitOne K (.ref (He.ga K "NoChance")) (.type "ValueError") = some true),
  fun K => decide (PySem.W.kitOne K (.ref (He.ga K "NoShare")) (.type "ValueError") = some true),
  fun K => decide (PySem.W.kitOne K (.ref (He.ga K "NoRow")) (.type "ValueError") = some true),
  fun K => decide (PySem.W.kitOne K (.ref (He.ga K "NoRoom")) (.type "ValueError") = some true),
  fun K => decide (PySem.W.kitOne K (.ref (He.ga K "NoDoor")) (.type "ValueError") = some true),
  fun K => decide (PySem.W.kitOne K (.ref (He.ga K "NoPlan")) (.type "ValueError") = some true),
  fun K => decide (PySem.W.kitOne K (.ref (He.ga K "NoNumber")) (.ref (He.ga K "NoNumber")) = some true),
  fun K => decide (PySem.W.kitOne K (.ref (He.ga K "NoName")) (.ref (He.ga K "NoNumber")) = some false),
  fun K => decide (PySem.W.kitOne K (.ref (He.ga K "NoChance")) (.ref (He.ga K "NoNumber")) = some false),
  fun K => decide (PySem.W.kitOne K (.ref (He.ga K "NoShare")) (.ref (He.ga K "NoNumber")) = some false),
  fun K => decide (PySem.W.kitOne K (.ref (He.ga K "NoRow")) (.ref (He.ga K "NoNumber")) = some false),
  fun K => decide (PySem.W.kitOne K (.ref (He.ga K "NoRoom")) (.ref (He.ga K "NoNumber")) = some false),
  fun K => decide (PySem.W.kitOne K (.ref (He.ga K "NoDoor")) (.ref (He.ga K "NoNumber")) = some false),
  fun K => decide (PySem.W.kitOne K (.ref (He.ga K "NoPlan")) (.ref (He.ga K "NoNumber")) = some false),
  fun K => decide (PySem.W.kitOne K (.ref (He.ga K "NoNumber")) (.ref (He.ga K "NoName")) = some false),
  fun K => decide (PySem.W.kitOne K (.ref (He.ga K "NoName")) (.ref (He.ga K "NoName")) = some true),
  fun K => decide (PySem.W.kitOne K (.ref (He.ga K "NoChance")) (.ref (He.ga K "NoName")) = some false),
  fun K => decide (PySem.W.kitOne K (.ref (He.ga K "NoShare")) (.ref (He.ga K "NoName")) = some false),
  fun K => decide (PySem.W.kitOne K (.ref (He.ga K "NoRow")) (.ref (He.ga K "NoName")) = some false),
  fun K => decide (PySem.W.kitOne K (.ref (He.ga K "NoRoom")) (.ref (He.ga K "NoName")) = some false),
  fun K => decide (PySem.W.kitOne K (.ref (He.ga K "NoDoor")) (.ref (He.ga K "NoName")) = some false),
  fun K => decide (PySem.W.kitOne K (.ref (He.ga K "NoPlan")) (.ref (He.ga K "NoName")) = some false),
  fun K => decide (PySem.W.kitOne K (.ref (He.ga K "NoNumber")) (.ref (He.ga K "NoChance")) = some false),
  fun K => decide (PySem.W.kitOne K (.ref (He.ga K "NoName")) (.ref (He.ga K "NoChance")) = some false),
  fun K => decide (PySem.W.kitOne K (.ref (He.ga K "NoChance")) (.ref (He.ga K "NoChance")) = some true),
  fun K => decide (PySem.W.kitOne K (.ref (He.ga K "NoShare")) (.ref (He.ga K "NoChance")) = some false),
  fun K => decide (PySem.W.kitOne K (.ref (He.ga K "NoRow")) (.ref (He.ga K "NoChance")) = some false),
  fun K => decide (PySem.W.kitOne K (.ref (He.ga K "NoRoom")) (.ref (He.ga K "NoChance")) = some false),
  fun K => decide (PySem.W.kitOne K (.ref (He.ga K "NoDoor")) (.ref (He.ga K "NoChance")) = some false),
  fun K => decide (PySem.W.kitOne K (.ref (He.ga K "NoPlan")) (.ref (He.ga K "NoChance")) = some false),
  fun K => decide (PySem.W.kitOne K (.ref (He.ga K "NoNumber")) (.ref (He.ga K "NoShare")) = some false),
  fun K => decide (PySem.W.kitOne K (.ref (He.ga K "NoName")) (.ref (He.ga K "NoShare")) = some false),
  fun K => decide (PySem.W.kitOne K (.ref (He.ga K "NoChance")) (.ref (He.ga K "NoShare")) = some false),
  fun K => decide (PySem.W.kitOne K (.ref (He.ga K "NoShare")) (.ref (He.ga K "NoShare")) = some true),
  fun K => decide (PySem.W.kitOne K (.ref (He.ga K "NoRow")) (.ref (He.ga K "NoShare")) = some false),
  fun K => decide (PySem.W.kitOne K (.ref (He.ga K "NoRoom")) (.ref (He.ga K "NoShare")) = some false),
  fun K => decide (PySem.W.kitOne K (.ref (He.ga K "NoDoor")) (.ref (He.ga K "NoShare")) = some false),
  fun K => decide (PySem.W.kitOne K (.ref (He.ga K "NoPlan")) (.ref (He.ga K "NoShare")) = some false),
  fun K => decide (PySem.W.kitOne K (.ref (He.ga K "NoNumber")) (.ref (He.ga K "NoText")) = some false),
  fun K => decide (PySem.W.kitOne K (.ref (He.ga K "NoName")) (.ref (He.ga K "NoText")) = some false),
  fun K => decide (PySem.W.kitOne K (.ref (He.ga K "NoChance")) (.ref (He.ga K "NoText")) = some false),
  fun K => decide (PySem.W.kitOne K (.ref (He.ga K "NoShare")) (.ref (He.ga K "NoText")) = some false),
  fun K => decide (PySem.W.kitOne K (.ref (He.ga K "NoRow")) (.ref (He.ga K "NoText")) = some false),
  fun K => decide (PySem.W.kitOne K (.ref (He.ga K "NoRoom")) (.ref (He.ga K "NoText")) = some false),
  fun K => decide (PySem.W.kitOne K (.ref (He.ga K "NoDoor")) (.ref (He.ga K "NoText")) = some false),
  fun K => decide (PySem.W.kitOne K (.ref (He.ga K "NoPlan")) (.ref (He.ga K "NoText")) = some false),
  fun K => decide (PySem.W.kitOne K (.ref (He.ga K "NoNumber")) (.ref (He.ga K "NoRow")) = some false),
  fun K => decide (PySem.W.kitOne K (.ref (He.ga K "NoName")) (.ref (He.ga K "NoRow")) = some false),
  fun K => decide (PySem.W.kitOne K (.ref (He.ga K "NoChance")) (.ref (He.ga K "NoRow")) = some false),
  fun K => decide (PySem.W.kitOne K (.ref (He.ga K "NoShare")) (.ref (He.ga K "NoRow")) = some false),
  fun K => decide (PySem.W.kitOne K (.ref (He.ga K "NoRow")) (.ref (He.ga K "NoRow")) = some true),
  fun K => decide (PySem.W.kitOne K (.ref (He.ga K "NoRoom")) (.ref (He.ga K "NoRow")) = some false),
  fun K => decide (PySem.W.kitOne K (.ref (He.ga K "NoDoor")) (.ref (He.ga K "NoRow")) = some false),
  fun K => decide (PySem.W.kitOne K (.ref (He.ga K "NoPlan")) (.ref (He.ga K "NoRow")) = some false),
  fun K => decide (PySem.W.kitOne K (.ref (He.ga K "NoNumber")) (.ref (He.ga K "NoRoom")) = some false),
  fun K => decide (PySem.W.kitOne K (.ref (He.ga K "NoName")) (.ref (He.ga K "NoRoom")) = some false),
  fun K => decide (PySem.W.kitOne K (.ref (He.ga K "NoChance")) (.ref (He.ga K "NoRoom")) = some false),
  fun K => decide (PySem.W.kitOne K (.ref (He.ga K "NoShare")) (.ref (He.ga K "NoRoom")) = some false),
  fun K => decide (PySem.W.kitOne K (.ref (He.ga K "NoRow")) (.ref (He.ga K "NoRoom")) = some false),
  fun K => decide (PySem.W.kitOne K (.ref (He.ga K "NoRoom")) (.ref (He.ga K "NoRoom")) = some true),
  fun K => decide (PySem.W.kitOne K (.ref (He.ga K "NoDoor")) (.ref (He.ga K "NoRoom")) = some false),
  fun K => decide (PySem.W.kitOne K (.ref (He.ga K "NoPlan")) (.ref (He.ga K "NoRoom")) = some false),
  fun K => decide (PySem.W.kitOne K (.ref (He.ga K "NoNumber")) (.ref (He.ga K "NoDoor")) = some false),
  fun K => decide (PySem.W.kitOne K (.ref (He.ga K "NoName")) (.ref (He.ga K "NoDoor")) = some false),
  fun K => decide (PySem.W.kitOne K (.ref (He.ga K "NoChance")) (.ref (He.ga K "NoDoor")) = some false),
  fun K => decide (PySem.W.kitOne K (.ref (He.ga K "NoShare")) (.ref (He.ga K "NoDoor")) = some false),
  fun K => decide (PySem.W.kitOne K (.ref (He.ga K "NoRow")) (.ref (He.ga K "NoDoor")) = some false),
  fun K => decide (PySem.W.kitOne K (.ref (He.ga K "NoRoom")) (.ref (He.ga K "NoDoor")) = some false),
  fun K => decide (PySem.W.kitOne K (.ref (He.ga K "NoDoor")) (.ref (He.ga K "NoDoor")) = some true),
  fun K => decide (PySem.W.kitOne K (.ref (He.ga K "NoPlan")) (.ref (He.ga K "NoDoor")) = some false),
  fun K => decide (PySem.W.kitOne K (.ref (He.ga K "NoNumber")) (.ref (He.ga K "NoPlan")) = some false),
  fun K => decide (PySem.W.kitOne K (.ref (He.ga K "NoName")) (.ref (He.ga K "NoPlan")) = some false),
  fun K => decide (PySem.W.kitOne K (.ref (He.ga K "NoChance")) (.ref (He.ga K "NoPlan")) = some false),
  fun K => decide (PySem.W.kitOne K (.ref (He.ga K "NoShare")) (.ref (He.ga K "NoPlan")) = some false),
  fun K => decide (PySem.W.kitOne K (.ref (He.ga K "NoRow")) (.ref (He.ga K "NoPlan")) = some false),
  fun K => decide (PySem.W.kitOne K (.ref (He.ga K "NoRoom")) (.ref (He.ga K "NoPlan")) = some false),
  fun K => decide (PySem.W.kitOne K (.ref (He.ga K "NoDoor")) (.ref (He.ga K "NoPlan")) = some false),
  fun K => decide (PySem.W.kitOne K (.ref (He.ga K "NoPlan")) (.ref (He.ga K "NoPlan")) = some true),
  fun K => creadB K (He.ga K "Mixed"),
  fun K => clsRefB K (He.ga K "Mixed") (He.ma K (He.ga K "Mixed") "__init__"),
  fun K => PySem.W.keepIn K (.ref (He.ma K (He.ga K "Mixed") "__init__")),
  fun K => creadB K (He.ga K "Door"),
  fun K => clsRefB K (He.ga K "Door") (He.ma K (He.ga K "Door") "__init__"),
  fun K => PySem.W.keepIn K (.ref (He.ma K (He.ga K "Door") "__init__"))]
def nm0 : List Str := ["NoNumber", "NoName", "NoChance", "NoShare", "HallError", "NoRow", "NoRoom", "NoDoor", "NoPlan", "ONE", "NONE", "Sure", "Mixed", "Toss", "Hall", "Desk", "NoText", "is_whole", "divisor", "ratio", "plus", "minus", "under", "is_ratio", "level", "total", "is_word", "whole_of", "number_of", "number_text"]
def nm1 : List Str := ["word_of", "is_chance", "is_share", "check_head", "Door", "told_plan", "worth_answer", "worths_of", "chance_answer", "bounds_answer", "run_answer", "door_fits", "row_fits", "ways_text", "show", "door_of", "Even", "_law_cell", "_law_stream", "_law_gcd", "_law_lowest", "_law_number", "_law_words", "_law_doors", "_law_drawn", "_law_chances", "_law_rows", "_law_no_doors", "_law_others", "_law_no_rows"]
def nm2 : List Str := ["_law_plans", "_law_only", "_law_refused", "law"]
/-- the names whose objects the facts speak of -/
def nms : List Str := nm0 ++ nm1 ++ nm2
def refsM (g : Addr → Option Obj) (a : Addr) : List Addr := match g a with
  | some o => (match o.data with
    | .dict es _ => es.toList.flatMap fun e => He.refV e.val
    | .func fd => He.refV fd.code
    | .cls cd => [cd.ns]
    | _ => [])
  | none => []
def as1 (g : Addr → Option Obj) : List Addr := nms.map (He.ga (He.frG g [mainGlobals]))
def as2 (g : Addr → Option Obj) : List Addr := (as1 g).flatMap (refsM g)
def as3 (g : Addr → Option Obj) : List Addr := (as2 g).flatMap (refsM g)
def as4 (g : Addr → Option Obj) : List Addr := (as3 g).flatMap (refsM g)
def asN (g : Addr → Option Obj) : List Addr := mainGlobals :: PySem.cStatics :: (as1 g ++ (as2 g ++ (as3 g ++ as4 g)))
def frN (g : Addr → Option Obj) : PySem.W.Frag := He.frG g (asN g)
def obK (g : Addr → Option Obj) : He.AlD × Bool := (He.obsD fa fn (frN g), exs.all fun f => f (frN g))
abbrev R : PySem.W.OpenRow := PySem.W.OpenLaw.row PySem.Challenge.rw_chancehall_k61_desk_refusals
def l0 : List PySem.Str := ["_wall", "__name__", "HallError", "NoNumber", "NoName", "NoChance", "NoShare", "NoText", "NoRow", "NoRoom", "NoDoor", "NoPlan", "is_whole", "divisor", "ratio", "is_ratio", "plus", "minus", "times", "over", "under", "parted", "level", "total", "greatest", "least", "first_plan", "is_choice", "check_plan", "mean"]
def l1 : List PySem.Str := ["looks", "added", "stepped", "walked", "first_row", "column_steps", "reduced", "heads_of", "broken_row", "only_answer", "pay_and_ways", "row_of", "worths_of", "first_greatest", "mended", "mendings", "best_of", "check_many", "noughts", "best_rounds", "bounds_by", "bounds_of", "goal_marks", "doors_of", "all_doors", "comes_near", "steps_by", "forced_steps", "plan_ways", "with_ways"]
def l2 : List PySem.Str := ["chance_row", "chances_of", "means_of", "better_door", "turned_plan", "by_turns", "greatest_chances", "least_chances", "card_of", "cards_of", "once", "numbered", "next_blocks", "splits_of", "LETTERS", "FIGURES", "is_word", "whole_of", "number_of", "number_text", "is_chance", "check_head", "Door", "Sure", "Mixed", "Toss", "Even", "is_share", "Hall", "first_rooms"]
def l3 : List PySem.Str := ["first_doors", "doors_together", "put_together", "way_by", "run_of", "told_plan", "best_answer", "worth_answer", "chance_answer", "lots_answer", "bounds_answer", "run_answer", "word_of", "door_fits", "door_of", "ways_text", "show", "ONE", "NONE", "row_fits", "Desk", "_law_cell", "_law_stream", "_law_gcd", "_law_lowest", "_law_number", "_law_only", "_law_words", "_law_doors", "_law_drawn"]
def l4 : List PySem.Str := ["_law_chances", "_law_rows", "_law_no_rows", "_law_no_doors", "_law_others", "_law_plans", "_law_refused"]
def names : List PySem.Str := l0 ++ l1 ++ l2 ++ l3 ++ l4
theorem map2 {α β γ : Type} {o : Option α} {f : α → β} {g : α → γ} {x : β} {y : γ} (b : o.map f = some x) (c : o.map g = some y) : o.map (fun s => (f s, g s)) = some (x, y) := by
  cases o with
  | none => cases b
  | some s =>
    have b1 : f s = x := Option.some.inj b
    have c1 : g s = y := Option.some.inj c
    show some (f s, g s) = some (x, y)
    rw [b1, c1]
theorem map3 {α β γ δ : Type} {o : Option α} {f : α → β} {g : α → γ} {h : α → δ} {x : β} {y : γ} {z : δ} (b : o.map f = some x) (c : o.map g = some y) (d : o.map h = some z) : o.map (fun s => (f s, g s, h s)) = some (x, y, z) := by
  cases o with
  | none => cases b
  | some s =>
    have b1 : f s = x := Option.some.inj b
    have c1 : g s = y := Option.some.inj c
    have d1 : h s = z := Option.some.inj d
    show some (f s, g s, h s) = some (x, y, z)
    rw [b1, c1, d1]
/-- the state behind the top -/
noncomputable abbrev topEnd (w : World) (os : OsState) : Option PySem.W.SharedT := HandSHeadRun.endF (HandSHeadRun.stepQ (HandSHeadRun.denQ HandSHeadRun.tabQ) R.prog w) 12000 R.prog w os
theorem runB (w : World) (os : OsState) : (topEnd w os).map (fun s => HandSHeadRun.looksF R.prog (PySem.W.boot_heap w.params) s.abs) = some true := by
  kernel_rfl
theorem runC (w : World) (os : OsState) : (topEnd w os).map (fun s => HandSHeadRun.seenQ (PySem.W.view R.prog [149]) names (importedModules R.prog.main.body) (fun s => PySem.W.xlAt (PySem.W.view R.prog [149]) [] s && PySem.W.recOk R.toRowW.records s) s.abs) = some (PySem.W.openGood (PySem.W.view R.prog [149]) names) := by
  kernel_rfl
theorem runD (w : World) (os : OsState) : (topEnd w os).map (fun s => He.obsD fa fn (frN (HandSHeadRun.getT s))) = some (He.valD fn) := by
  kernel_rfl
theorem runE (w : World) (os : OsState) : (topEnd w os).map (fun s => exs.all fun f => f (frN (HandSHeadRun.getT s))) = some true := by
  kernel_rfl
end Dk
/-! rules of this claim's own, over the hand layer -/
namespace Dk
open PySem PySem.Spec PyProof.Rows L2

/-! ### small ones -/
section
variable {X : Cx} {e : Expr}
theorem pe_never : PE X e (fun _ _ _ => False) := ⟨fun _ _ _ _ _ _ h => h.elim⟩
theorem pt_never : PT X e (fun _ _ _ => False) := ⟨fun _ _ _ _ _ _ h => h.elim⟩
theorem pe_or2 {t u : TE} (h1 : PE X e t) (h2 : PE X e u) : PE X e (fun σ H Q => t σ H Q ∨ u σ H Q) :=
  ⟨fun pins s σ H Q I h => h.elim (h1.run pins s σ H Q I) (h2.run pins s σ H Q I)⟩
end

/-! ### callees by name -/
structure CalX (P : Program) (w : World) (K : PySem.W.Frag) (mg : Str → Option Value) (base : Heap) (k : Nat) (x : Str) (sp : Sp) : Prop where
  ex : ∃ (f : Addr) (fd : FuncData) (ps : List Str), mg x = some (.ref f) ∧ PySem.W.keepIn K (.ref f) = true ∧ Binds K fd ps [] ∧ FnOk P w K mg base (L2.CX P w) k f fd ps sp
structure MetX (P : Program) (w : World) (K : PySem.W.Frag) (mg : Str → Option Value) (base : Heap) (k : Nat) (C : Addr) (m : Str) (sp : Sp) : Prop where
  cls : Cls K C
  ex : ∃ (f : Addr) (fd : FuncData) (ps : List Str), Meth K C m f ∧ Binds K fd ps [] ∧ FnOk P w K mg base (L2.CX P w) k f fd ps sp
structure MakX (P : Program) (w : World) (K : PySem.W.Frag) (mg : Str → Option Value) (base : Heap) (k : Nat) (x : Str) (C : Addr) (sp : Sp) : Prop where
  gl : mg x = some (.ref C)
  ex : ∃ (f : Addr) (fd : FuncData) (ps : List Str), Mk K C f ∧ Binds K fd ps [] ∧ FnOk P w K mg base (L2.CX P w) k f fd ps sp
/-- a def of the class x, called through the class -/
structure CfnX (P : Program) (w : World) (K : PySem.W.Frag) (mg : Str → Option Value) (base : Heap) (k : Nat) (x m : Str) (sp : Sp) : Prop where
  ex : ∃ (C : Addr) (mc : Value) (f : Addr) (fd : FuncData) (ps : List Str), mg x = some (.ref C) ∧ ClX.CRead K C mc ∧ PySem.W.findCls K (.ref C) mc m = some (.val (.ref f)) ∧ PySem.W.keepIn K (.ref f) = true ∧
    Binds K fd ps [] ∧ FnOk P w K mg base (L2.CX P w) k f fd ps sp

def tCallX (sp : Sp) (E : XK) (t : TA) : TE := fun σ H Q => t σ H fun vs H1 => sp vs H1 Q E
def tMethX (C : Addr) (m : Str) (sp : Sp) (E : XK) (ta : TE) (t : TA) : TE := fun σ H Q => ta σ H fun x H1 => ∃ a dx fs, x = .ref a ∧ H1 a = some (.ins C dx fs) ∧ fs.lookup m = none ∧
  t σ H1 fun vs H2 => sp (x :: vs) H2 Q E
def tMakeX (C : Addr) (sp : Sp) (E : XK) (t : TA) : TE := fun σ H Q => t σ H fun vs H1 => ∀ x dx, H1 x = none → H1 dx = none → dx ≠ x →
  sp (.ref x :: vs) (upd (upd H1 dx (.own x)) x (.ins C dx [])) (fun v H2 => v = .non ∧ Q (.ref x) H2) E

section
variable {X : Cx} {j k : Nat} {f C : Addr} {fd : FuncData} {ps : List Str} {sp : Sp} {E : XK} {x m : Str} {p pos apos p1 : Pos} {e o : Expr} {es : List Expr} {ta : TE} {t : TA}
theorem run_x {pins : List (Addr × Obj)} {σ : L2.St} {H : Hp} {s : Shared} {Q : VK} {us : List Value} {vs : List V} (F : FnOk X.prog X.w X.K X.mg X.base (L2.CX X.prog X.w) k f fd ps sp) (hr : Room k X.A) (hb : Binds X.K fd ps []) (hx : Passes (L2.CX X.prog X.w) X E)
    (I : Inv X pins σ H s) (r : Vals vs us) (h : sp vs H Q E) : wpAny (model X.prog X.w) X.A (call (.ref f) us) (EP X pins σ Q) X.xe s :=
  run_fn F hr hb .nil hx I r (by rw [List.append_nil]; exact h)
theorem pe_cx (c : CalX X.prog X.w X.K X.mg X.base k x sp) (hr : Room j X.A) (hk : k ≤ j) (hg : Gl X x) (hx : Passes (L2.CX X.prog X.w) X E) (ha : PA X (e :: es) t)
    (hdb : (x == ("__debug__" : Str)) = false := by decide) (he : starEach (e :: es) X.env = (false, eval e X.env) :: starEach es X.env := by rfl) (hpl : (backTo pos (starEach es X.env)).any (·.1) = false := by rfl) :
    PE X (.Call (.Name x p) (e :: es) [] pos) (tCallX sp E t) := by
  obtain ⟨f, fd, ps, hm, kp, hb, F⟩ := c.ex
  refine ⟨fun pins s σ H Q I h => ?_⟩
  refine wpAny_Call_Name_kw (ld_glob I hg hm ?_ hdb)
  refine PySem.W.callWith_K (h₀ := X.base) I.ok.mod.kin kp (thn (ha.run pos pins s σ H _ I h) fun us s1 ⟨vs, H1, I1, r, q⟩ => ⟨I1.kIn, ?_⟩) he hpl
  exact run_x F (hr.mono hk) hb hx I1 r q
/-- o.m(e, ..) -/
theorem pe_mx {pl : Sem Bool} (he : PE X o ta) (c : MetX X.prog X.w X.K X.mg X.base k C m sp) (hr : Room j X.A) (hk : k ≤ j) (hx : Passes (L2.CX X.prog X.w) X E) (ha : PA X (e :: es) t)
    (hst : starEach (e :: es) X.env = (false, eval e X.env) :: starEach es X.env := by rfl) (hpl : (backTo pos (starEach es X.env)).any (·.1) = false := by rfl)
    (ht : eval (.Call (.Attribute o m apos) (e :: es) [] pos) X.env = (do
      let ov ← eval o X.env
      standAt apos.atName
      let (f, first) ← holding [ov] (getMethod ov m pl)
      callWith pos f first (backTo pos (starEach (e :: es) X.env)) (backToKw pos (keywordEach [] X.env))) := by rfl) :
    PE X (.Call (.Attribute o m apos) (e :: es) [] pos) (tMethX C m sp E ta t) := by
  obtain ⟨f, fd, ps, hm, hb, F⟩ := c.ex
  refine ⟨fun pins s σ H Q I h => ?_⟩
  refine PySem.W.methodCall_KW (pl := pl) (thn (he.run pins s σ H _ I h) fun u s1 ⟨x, H1, I1, rx, a, dx, fs, ex, ea, l, q⟩ => ?_) ht
  subst ex
  obtain rfl : u = Value.ref a := rx
  refine getmeth_ok I1 ea c.cls hm l ?_
  refine PySem.W.callWith_K (first := [.ref a]) (h₀ := X.base) I.ok.mod.kin hm.kp (thn (ha.run pos pins s1 σ H1 _ I1 q) fun us s2 ⟨vs, H2, I2, r, q2⟩ => ⟨I2.kIn, ?_⟩) hst hpl
  exact run_x (us := .ref a :: us) (vs := .ref a :: vs) F (hr.mono hk) hb hx I2 (.cons rfl r) q2
/-- o.m() -/
theorem pe_mx0 {pl : Sem Bool} (he : PE X o ta) (c : MetX X.prog X.w X.K X.mg X.base k C m sp) (hr : Room j X.A) (hk : k ≤ j) (hx : Passes (L2.CX X.prog X.w) X E)
    (ht : eval (.Call (.Attribute o m apos) [] [] pos) X.env = (do
      let ov ← eval o X.env
      standAt apos.atName
      let (f, first) ← holding [ov] (getMethod ov m pl)
      callWith pos f first (backTo pos (starEach [] X.env)) (backToKw pos (keywordEach [] X.env))) := by rfl) :
    PE X (.Call (.Attribute o m apos) [] [] pos) (tMethX C m sp E ta tNil) := by
  obtain ⟨f, fd, ps, hm, hb, F⟩ := c.ex
  refine ⟨fun pins s σ H Q I h => ?_⟩
  refine PySem.W.methodCall_KW (pl := pl) (thn (he.run pins s σ H _ I h) fun u s1 ⟨x, H1, I1, rx, a, dx, fs, ex, ea, l, q⟩ => ?_) ht
  subst ex
  obtain rfl : u = Value.ref a := rx
  refine getmeth_ok I1 ea c.cls hm l ?_
  exact PySem.W.callWith_K0 (first := [.ref a]) I1.kIn hm.kp (run_x (us := [.ref a]) (vs := [.ref a]) F (hr.mono hk) hb hx I1 (.cons rfl .nil) q)
/-- C(e, ..) -/
theorem pe_kx (c : MakX X.prog X.w X.K X.mg X.base k x C sp) (hr : Room j X.A) (hk : k + 1 ≤ j) (hg : Gl X x) (hx : Passes (L2.CX X.prog X.w) X E) (ha : PA X (e :: es) t)
    (hdb : (x == ("__debug__" : Str)) = false := by decide) (he : starEach (e :: es) X.env = (false, eval e X.env) :: starEach es X.env := by rfl) (hpl : (backTo pos (starEach es X.env)).any (·.1) = false := by rfl) :
    PE X (.Call (.Name x p) (e :: es) [] pos) (tMakeX C sp E t) := by
  obtain ⟨f, fd, ps, M, hb, F⟩ := c.ex
  have hm := c.gl
  refine ⟨fun pins s σ H Q I h => ?_⟩
  refine wpAny_Call_Name_kw (ld_glob I hg hm ?_ hdb)
  refine PySem.W.callWith_K (h₀ := X.base) I.ok.mod.kin M.kp (thn (ha.run pos pins s σ H _ I h) fun us s1 ⟨vs, H1, I1, r, q⟩ => ⟨I1.kIn, ?_⟩) he hpl
  exact run_make M F (hr.mono hk) hb .nil hx I1 r fun x dx n1 n2 n3 => by
    rw [List.append_nil]
    exact q x dx n1 n2 n3
/-- C() -/
theorem pe_kx0 (c : MakX X.prog X.w X.K X.mg X.base k x C sp) (hr : Room j X.A) (hk : k + 1 ≤ j) (hg : Gl X x) (hx : Passes (L2.CX X.prog X.w) X E) (hdb : (x == ("__debug__" : Str)) = false := by decide) :
    PE X (.Call (.Name x p) [] [] pos) (tMakeX C sp E tNil) := by
  obtain ⟨f, fd, ps, M, hb, F⟩ := c.ex
  have hm := c.gl
  refine ⟨fun pins s σ H Q I h => ?_⟩
  refine wpAny_Call_Name_kw (ld_glob I hg hm ?_ hdb)
  exact PySem.W.callWith_K0 I.kIn M.kp (run_make (us := []) M F (hr.mono hk) hb .nil hx I .nil fun x dx n1 n2 n3 => h x dx n1 n2 n3)
/-- C.m(e, ..), m a def of the class -/
theorem pe_cfx {pl : Sem Bool} (c : CfnX X.prog X.w X.K X.mg X.base k x m sp) (hr : Room j X.A) (hk : k ≤ j) (hg : Gl X x) (hx : Passes (L2.CX X.prog X.w) X E) (ha : PA X (e :: es) t)
    (hdb : (x == ("__debug__" : Str)) = false := by decide)
    (hst : starEach (e :: es) X.env = (false, eval e X.env) :: starEach es X.env := by rfl) (hpl : (backTo pos (starEach es X.env)).any (·.1) = false := by rfl)
    (ht : eval (.Call (.Attribute (.Name x p1) m apos) (e :: es) [] pos) X.env = (do
      let ov ← eval (.Name x p1) X.env
      standAt apos.atName
      let (f, first) ← holding [ov] (getMethod ov m pl)
      callWith pos f first (backTo pos (starEach (e :: es) X.env)) (backToKw pos (keywordEach [] X.env))) := by rfl) :
    PE X (.Call (.Attribute (.Name x p1) m apos) (e :: es) [] pos) (tCallX sp E t) := by
  obtain ⟨C, mc, f, fd, ps, hm, rd, fc, kp, hb, F⟩ := c.ex
  refine ⟨fun pins s σ H Q I h => ?_⟩
  refine PySem.W.methodCall_KW (pl := pl) (ld_glob I hg hm ?_ hdb) ht
  refine PySem.W.method_cls I.kIn rd.ga (PySem.W.cls_value I.kIn rd.rd fc rfl ?_)
  refine PySem.W.callWith_K (first := []) (h₀ := X.base) I.ok.mod.kin kp (thn (ha.run pos pins _ σ H _ (I.tok _) h) fun us s2 ⟨vs, H2, I2, r, q2⟩ => ⟨I2.kIn, ?_⟩) hst hpl
  exact run_x F (hr.mono hk) hb hx I2 r q2
/-- C.__init__(self, ..), the class at C over ValueError, without an own __init__ -/
theorem pe_xinit {pl : Sem Bool} {mc : Value} (hg : Gl X x) (hm : X.mg x = some (.ref C)) (rd : ClX.CRead X.K C mc) (fc : PySem.W.findCls X.K (.ref C) mc "__init__" = some (.val (.builtin "ValueError.__init__"))) (ha : PA X (e :: es) t)
    (hdb : (x == ("__debug__" : Str)) = false := by decide)
    (ht : eval (.Call (.Attribute (.Name x p1) "__init__" apos) (e :: es) [] pos) X.env = (do
      let ov ← eval (.Name x p1) X.env
      standAt apos.atName
      let (f, first) ← holding [ov] (getMethod ov "__init__" pl)
      callWith pos f first (backTo pos (starEach (e :: es) X.env)) (backToKw pos (keywordEach [] X.env))) := by rfl)
    (he : starEach (e :: es) X.env = (false, eval e X.env) :: starEach es X.env := by rfl) (hpl : (backTo pos (starEach es X.env)).any (·.1) = false := by rfl) :
    PE X (.Call (.Attribute (.Name x p1) "__init__" apos) (e :: es) [] pos) (tVeI X.K t) := by
  refine ⟨fun pins s σ H Q I h => ?_⟩
  refine PySem.W.methodCall_KW (pl := pl) (ld_glob I hg hm ?_ hdb) ht
  refine PySem.W.method_cls I.kIn rd.ga (PySem.W.cls_value I.kIn rd.rd fc rfl ?_)
  show wpAny _ _ (callWith pos (Value.builtin "ValueError.__init__") [] (backTo pos (starEach (e :: es) X.env)) []) _ _ _
  refine PyProof.Rows.callWith_method1 (thn (ha.run pos pins _ σ H _ (I.tok _) h) fun us s1 ⟨vs, H1, I1, r1, a, C, ws, ev, hl, T, ea, q⟩ => ?_) he hpl
  subst ev
  cases r1 with
  | @cons _ u0 _ ur ra rw' =>
    obtain rfl : u0 = Value.ref a := ra
    have hlen : ur.length ≤ sizeLine := by
      rw [← Paired.length rw', sizeLine_eq]
      omega
    exact oinit_ok T I1 ea hlen fun s' J => ⟨.non, H1, J, rfl, q⟩
/-- a call whose arguments never come to an end -/
theorem pe_callNo {u : Value} (hg : Gl X x) (hm : X.mg x = some u) (hk : PySem.W.keepIn X.K u = true) (ha : PA X (e :: es) t)
    (hdb : (x == ("__debug__" : Str)) = false := by decide) (he : starEach (e :: es) X.env = (false, eval e X.env) :: starEach es X.env := by rfl) (hpl : (backTo pos (starEach es X.env)).any (·.1) = false := by rfl) :
    PE X (.Call (.Name x p) (e :: es) [] pos) (fun σ H _ => t σ H fun _ _ => False) := by
  refine ⟨fun pins s σ H Q I h => ?_⟩
  refine wpAny_Call_Name_kw (ld_glob I hg hm ?_ hdb)
  exact PySem.W.callWith_K (h₀ := X.base) I.ok.mod.kin hk (thn (ha.run pos pins s σ H _ I h) fun us s1 ⟨vs, H1, I1, r, q⟩ => q.elim) he hpl
end

/-! ### text * int -/
def repS (z : Str) (n : Int) : Str := if n < 1 then Str.empty else if (n == 1 || z.length == 0) = true then z else ⟨(List.replicate n.toNat z.cps).foldl (· ++ ·) #[]⟩
theorem op_mul_str {X : Cx} : OpR X (binaryOp .Mult) (fun x y H Q => ∃ z i, x = .str z ∧ y = .int i ∧ (0 ≤ i ∧ i ≤ 1000 ∧ z.length ≤ 1000) ∧ Q (.str (repS z i)) H) := by
  intro pins s σ H x y v u Q I rx ry h
  obtain ⟨z, i, rfl, rfl, ⟨h0, h1, h2⟩, q⟩ := h
  obtain ⟨t, rfl⟩ := rx
  obtain ⟨t', rfl⟩ := ry
  have hs : sizeLine = 16777216 := sizeLine_eq
  have hm : z.length * i.toNat ≤ 1000 * 1000 := Nat.mul_le_mul h2 (by omega)
  refine PySem.P.mul_str ?_ (fun hi _ => ?_) (fun _ _ => ?_) ?_
  · rw [decide_eq_false (by omega), decide_eq_false (by omega)]; rfl
  · have : (2 ^ 63 - 1) / i ≥ (2 ^ 63 - 1) / 1000 := by
      refine (Int.le_ediv_iff_mul_le (by omega)).mpr ?_
      have : (2 ^ 63 - 1 : Int) / 1000 * i ≤ (2 ^ 63 - 1) / 1000 * 1000 := Int.mul_le_mul_of_nonneg_left h1 (by decide)
      omega
    omega
  · unfold Builtin.Str.tooLong
    exact decide_eq_false (by omega)
  · unfold repS at q
    by_cases hi : i < 1
    · rw [if_pos hi] at q ⊢
      exact ⟨by decide, .str _, H, I.tok _, ⟨_, rfl⟩, q⟩
    · rw [if_neg hi] at q ⊢
      by_cases hj : (i == 1 || z.length == 0) = true
      · rw [if_pos hj] at q ⊢
        exact ⟨.str _, H, I, ⟨_, rfl⟩, q⟩
      · rw [if_neg hj] at q ⊢
        refine ⟨?_, .str _, H, I.tok _, ⟨_, rfl⟩, q⟩
        have key : ∀ (n : Nat) (a acc : Array Nat), ((List.replicate n a).foldl (· ++ ·) acc).size = acc.size + n * a.size := by
          intro n a
          induction n with
          | zero => intro acc; simp
          | succ n ih => intro acc; rw [List.replicate_succ, List.foldl_cons, ih, Array.size_append, Nat.succ_mul]; omega
        show ((List.replicate i.toNat z.cps).foldl (· ++ ·) #[]).size ≤ sizeLine
        rw [key]
        have hm2 : i.toNat * z.cps.size ≤ 1000 * 1000 := by rw [Nat.mul_comm]; exact hm
        simp only [List.size_toArray, List.length_nil]
        omega
end Dk
/-! rules of this claim's own: an exception kept behind its suite; an exception out of a comprehension's element -/
namespace Dk
open PySem PySem.Spec PyProof.Rows L2

/-! ### an exception that is kept -/
/-- at a: an exception of the class cls, its own dict at d -/
def ExK (cls : Value) (d : Option Addr) (a : Addr) : HO := .ext fun h => ∃ (oe : Obj) (vs : Array Value), h.get? a = some oe ∧ Zc cls d oe ∧ oe.data = .fields vs
theorem exK_ok {P : Program} {w : World} {H : Hp} {h : Heap} {a : Addr} {cls : Value} {d : Option Addr} {oe : Obj} {vs : Array Value} (e : h.get? a = some oe) (z : Zc cls d oe) (f : oe.data = .fields vs) : ObjOk P w H h a (ExK cls d a) :=
  ⟨⟨oe, vs, e, z, f⟩, ⟨oe, e⟩, fun _ _ ⟨o, v, q, r⟩ k => ⟨o, v, k o q, r⟩⟩
theorem exK_at {P : Program} {w : World} {H : Hp} {h : Heap} {a : Addr} {cls : Value} {d : Option Addr} (hok : HOk P w H h) (e : H a = some (ExK cls d a)) : ∃ (oe : Obj) (vs : Array Value), h.get? a = some oe ∧ Zc cls d oe ∧ oe.data = .fields vs := by
  have x : ObjOk P w H h a (.ext fun h => ∃ (oe : Obj) (vs : Array Value), h.get? a = some oe ∧ Zc cls d oe ∧ oe.data = .fields vs) := hok a _ e
  exact x.1

section
variable {X : Cx} {pins : List (Addr × Obj)} {σ : L2.St} {H : Hp} {s : Shared}
/-- an object of ours that was made behind the entry is tracked from now on -/
theorem inv_track {a : Addr} {oe : Obj} {o : HO} (I : Inv X pins σ H s) (ha : s.heap.get? a = some oe) (n0 : X.s_0.heap.get? a = none) (na : H a = none) (nL : a ≠ X.env.locals) (nc : ∀ v, oe.data ≠ .cell v) (np : ∀ p ∈ X.pn ++ pins, p.1 ≠ a)
    (ok : ObjOk X.prog X.w (upd H a o) s.heap a o) : Inv X pins σ (upd H a o) s := by
  have ne0 : ∀ b u, X.s_0.heap.get? b = some u → b ≠ a := fun b u e z => by
    rw [z, n0] at e
    cases e
  have neS : ∀ b u, H b = some u → b ≠ a := fun b u e z => by
    rw [z, na] at e
    cases e
  refine ⟨I.ok, I.os, I.bare, ⟨fun b u e n hb hx => I.base.keep b u e n hb hx, fun b u e n hb hx => I.base.slot b u e n hb hx, fun b u e n hx => ?_, fun b u e hx => I.base.there b u e hx, fun b xs e => ?_, fun b u xs e => ?_, fun b ps e => ?_⟩,
    I.loc, I.cell, ?_, fun x c e => ?_, fun p hp => ?_, fun b u e => ?_, I.len⟩
  · rw [upd_ne (ne0 b u e)]
    exact I.base.free b u e n hx
  · have q := I.base.tups b xs e
    rw [upd_ne (neS b _ q)]
    exact q
  · have q := I.base.frzs b u xs e
    rw [upd_ne (neS b _ q)]
    exact q
  · obtain ⟨m, q⟩ := I.base.tbls b ps e
    exact ⟨m, by rw [upd_ne (neS b _ q)]; exact q⟩
  · rw [upd_ne (Ne.symm nL)]
    exact I.free
  · obtain ⟨v, oc, ho, hd⟩ := I.cell x c e
    have hc : c ≠ a := fun z => by
      rw [z, ha] at ho
      cases ho
      exact nc v hd
    rw [upd_ne hc]
    exact I.freeC x c e
  · obtain ⟨e1, e2, e3, e4, e5⟩ := I.pin p hp
    exact ⟨e1, by rw [upd_ne (np p hp)]; exact e2, e3, e4, e5⟩
  · by_cases hb : b = a
    · subst hb
      rw [upd_same] at e
      cases e
      exact ok
    · rw [upd_ne hb] at e
      exact (I.hok b u e).stay (fun c v _ q => q) (fun c q => by rw [upd_ne (neS c _ q)]; exact q) fun c xs q => by rw [upd_ne (neS c _ q)]; exact q
end

/-- what the clause 'except x as n' wishes, where the exception is kept behind it -/
def wKeep (K : PySem.W.Frag) (c : Value) (i : Nat) (ts : Addr → Value → Option Addr → TS) (Wout : WX) (D : Ends) : WX := fun cls d σ H =>
  ∃ b, PySem.W.exmOne K cls c = some b ∧ (b = true → ∀ a, H a = none → ts a cls d { nx := fun σ' H' => H' a = none → D.nx (σ'.set i none) (upd H' a (ExK cls d a)), rt := fun _ _ => False } (σ.set i (some (.ref a))) H) ∧
    (b = false → Wout cls d σ H)
section
variable {X : Cx} {x n : Str} {c : Value} {i : Nat} {body suite : List Stmt} {b₀ : Stmt} {np pos pos' : Pos} {tb : WX → TS} {ts : Addr → Value → Option Addr → TS} {Wout : WX}
theorem ps_try_keep (hs : X.stack = X.env :: X.outer) (hf : X.env.frame = some X.env.locals) (hex : X.ex = []) (hN : X.N.Nodup) (hi : X.N[i]? = some n) (hln : X.env.kindOf n = some .local) (hc : Names X x c) (tk : Takes X Wout)
    (hb : ∀ (W : WX) (pn : List (Addr × Obj)) (xe : Value → Shared → Prop), Takes (X.tr pn xe) W → PassesOwn (model X.prog X.w) X.A X.env xe → PSs (X.tr pn xe) body (tb W))
    (hsu : ∀ (a : Addr) (oe : Obj) (cls : Value) (d : Option Addr) (pn : List (Addr × Obj)), Zc cls d oe → (∃ vs, oe.data = .fields vs) → PSs (X.suite a ((a, oe) :: pn)) (b₀ :: suite) (ts a cls d)) :
    PS X (.Try body [.ExceptHandler (some (.Name x np)) (some n) (b₀ :: suite) pos'] [] [] pos) (fun D σ H => tb (wKeep X.K c i ts Wout D) D σ H) := by
  refine ⟨fun pins s σ H D I h => ?_⟩
  have ok := I.ok
  have hfr : X.A.frames = some (X.env :: X.outer) := by rw [ok.frames, hs]
  have hloc : Loc X.env.scope n := .inl hln
  refine wpAny_Try_except ?_
  refine wpAny_mono ((hb (wKeep X.K c i ts Wout D) (X.pn ++ pins) (fun e s₁ => wpAny (model X.prog X.w) X.A (noteFrame e X.env) (fun _ s₂ => wpAny (model X.prog X.w) X.A (setFlight e none) (fun _ s₃ =>
    wpAny (model X.prog X.w) X.A (handleBy e X.env [.ExceptHandler (some (.Name x np)) (some n) (b₀ :: suite) pos']) (SP X pins D) X.xe s₃) X.xe s₂) X.xe s₁) (fun u s' xx => ?_) PassesOwn.looking).run [] s σ H D (I.toTry _) h) (fun f s1 hsp => ?_) (fun e s1 he => he)
  · -- the catch
    obtain ⟨a, B, sI, pins', σ', H', cls, d, rfl, J', nb, up, sky, na, os, ag, b, hb1, hyes, hno⟩ := xx
    have J : Inv X pins σ' H' sI := J'.ofTry ok
    have sky' : Sky B (X.env :: X.outer) a (Zc cls d) X.env.locals s'.heap := by rw [← hs]; exact sky
    show wpAny (model X.prog X.w) X.A (noteFrame (.ref a) X.env) _ _ _
    refine Sky.land Zc.steady hfr hf sky' fun h3 fl3 up3 => ?_
    have J3 : Inv X pins σ' H' { s' with heap := h3 } := J.landed nb fl3.1 (up.trans up3) os ag
    obtain ⟨oe3, vs3, he3, hz3, hd3⟩ := fl3.there
    have notFr : ∀ {h : Heap} {o : Obj} {vs : Array Value}, h.FunFrames B (X.env :: X.outer) → h.get? a = some o → o.data = .fields vs → a ∉ frs (X.env :: X.outer) := fun {h o vs} ff e dd hm => by
      obtain ⟨_, o', e', hnf⟩ := ff.mem hm
      rw [e] at e'; cases e'
      exact hnf _ dd
    have nfr := notFr fl3.2.2.1 he3 hd3
    have nL : a ≠ X.env.locals := fun z => nfr (List.mem_filterMap.mpr ⟨X.env, List.mem_cons_self, by rw [hf, z]⟩)
    have nF : a ∉ X.fs := fun hm => by
      obtain ⟨e, he, q⟩ := List.mem_filterMap.mp hm
      exact nfr (List.mem_filterMap.mpr ⟨e, List.mem_cons_of_mem _ he, q⟩)
    have nSI : sI.heap.get? a = none := by
      cases q : sI.heap.get? a with
      | none => rfl
      | some o =>
        have z := nb a o q (by rw [hs]; exact nfr)
        rw [fl3.2.1] at z
        cases z
    have n0 : X.s_0.heap.get? a = none := by
      cases q : X.s_0.heap.get? a with
      | none => rfl
      | some o =>
        obtain ⟨o', z⟩ := J.base.there a o q (by rw [hex]; exact fun z => nomatch z)
        rw [nSI] at z
        cases z
    have npn : ∀ p ∈ X.pn ++ pins, p.1 ≠ a := fun p hp z => by
      obtain ⟨e1, _⟩ := J.pin p hp
      rw [z, nSI] at e1
      cases e1
    have S3 := J3.suite he3 hd3 na nL nF
    refine wpAny_handleBy_cons (codeAny_handlers_test ?_) (by intro q; cases q)
    have LT : PySem.W.Looks (model X.prog X.w) h3 (typeOf (.ref a)) cls := fun A Q E s k q => wpAny_typeOf_ref (k _ _ he3) (by rw [hz3.1]; exact q)
    have LM := PySem.W.exm_one (M := model X.prog X.w) (J3.kIn) LT hb1
    have test : ∀ {Q : Value → Shared → Prop} {E : Value → Shared → Prop}, Q c { s' with heap := h3 } → wpAny (model X.prog X.w) (X.A.mark (some (.ref a))) (eval (.Name x np) X.env) Q E { s' with heap := h3 } := fun {Q E} q => by
      obtain ⟨hg, hdbg, hm | ⟨hm, hv, hnn⟩⟩ := hc
      · exact ld_glob (X := X.suite a ((a, oe3) :: (X.pn ++ pins))) S3 hg hm q hdbg
      · exact ld_blt (X := X.suite a ((a, oe3) :: (X.pn ++ pins))) S3 hg hm hv q hnn hdbg
    refine test (LM.here ?_)
    cases b with
    | true =>
      refine codeAny_handlers_suite_as ?_
      refine HandSPX.lands_againZ fl3 fun h4 fl4 up4 => ?_
      have J4 : Inv X pins σ' H' { s' with heap := h4 } := J.landed nb fl4.1 ((up.trans up3).trans up4) os ag
      obtain ⟨oe4, vs4, he4, hz4, hd4⟩ := fl4.there
      have S4 := J4.suite he4 hd4 na nL nF
      refine store_ok (X := X.suite a ((a, oe4) :: (X.pn ++ pins))) (v := .ref a) S4 hN hi hloc rfl (fun s5 S5 => ?_) (.inr hln)
      refine wpAny_mono ((hsu a oe4 cls d (X.pn ++ pins) hz4 ⟨_, hd4⟩).run [] s5 _ H' _ S5 (hyes rfl a na)) (fun f s6 hsp => ?_) (fun _ _ z => False.elim z)
      cases f with
      | next =>
        obtain ⟨σ6, H6, S6, q6⟩ := hsp
        have pa := S6.pin (a, oe4) (List.mem_append_left _ List.mem_cons_self)
        have J6 : Inv X ((a, oe4) :: pins) σ6 H6 s6 := (S6.unsuite ok).pins_of fun p hp => by
          rcases List.mem_cons.mp hp with e | hp
          · rw [e]
            exact pa
          · exact (S6.unsuite ok).pin p (List.mem_append_right _ hp)
        refine gone_ok J6 hN hi hln fun s7 J7 => ?_
        obtain ⟨e7, n7, _⟩ := J7.pin (a, oe4) (List.mem_append_right _ List.mem_cons_self)
        have J8 : Inv X pins (σ6.set i none) H6 s7 := J7.pins_of fun p hp => J7.pin p (List.mem_append_right _ (List.mem_cons_of_mem _ hp))
        exact ⟨_, _, inv_track J8 e7 n0 n7 nL (fun v z => by rw [hd4] at z; cases z) npn (exK_ok e7 hz4 hd4), q6 n7⟩
      | brk =>
        obtain ⟨σ6, H6, S6, q6⟩ := hsp
        exact q6.elim
      | cont =>
        obtain ⟨σ6, H6, S6, q6⟩ := hsp
        exact q6.elim
      | ret u =>
        obtain ⟨v6, σ6, H6, S6, r6, q6⟩ := hsp
        exact q6.elim
    | false =>
      show wpAny _ X.A (handleBy (.ref a) X.env []) _ _ _
      refine wpAny_handleBy_nil ?_
      obtain ⟨k1, k2, k3, oe, vs, T, oT, ts', he, hz, hd, h1, hr⟩ := id fl3
      unfold PySem.passOn
      refine wpAny_bind (wpAny_field he hd h1 ?_)
      rw [if_neg (show ¬ ((Value.ref T == Value.none) = true) from by simp)]
      have fin : wpAny (model X.prog X.w) X.A (setFlight (.ref a) X.env.frame) (fun _ s4 => wpAny (model X.prog X.w) X.A (throw (.ref a) : Sem Flow) (SP X pins D) X.xe s4) X.xe { s' with heap := h3 } := by
        rw [hf]
        refine HandSPX.setFlight_upZ fl3 fun h4 hh4 up4 => wpAny_throw (tk _ _ ?_)
        exact ⟨a, B, sI, pins, σ', H', cls, d, rfl, J, nb, (up.trans up3).trans up4, .inr (.inr (by rw [hs]; exact hh4)), na, os, ag, hno rfl⟩
      first
        | exact wpAny_bind (wpAny_pure (wpAny_bind fin))
        | exact wpAny_bind fin
  · cases f with
    | next =>
      obtain ⟨σ', H', J', q⟩ := hsp
      exact wpAny_execs_nil ⟨σ', H', J'.ofTry ok, q⟩
    | brk =>
      obtain ⟨σ', H', J', q⟩ := hsp
      exact ⟨σ', H', J'.ofTry ok, q⟩
    | cont =>
      obtain ⟨σ', H', J', q⟩ := hsp
      exact ⟨σ', H', J'.ofTry ok, q⟩
    | ret u =>
      obtain ⟨v, σ', H', J', r, q⟩ := hsp
      exact ⟨v, σ', H', J'.ofTry ok, r, q⟩
end

/-! ### isinstance and fields of a kept exception -/
/-- its own dict, where it has one, stands -/
def DictAt (H : Hp) (d : Option Addr) : Prop := d = none ∨ ∃ dd fs, d = some dd ∧ H dd = some (.xd fs)
def rIsK (K : PySem.W.Frag) : List V → Hp → VK → Prop := fun xs H Q => ∃ (a D : Addr) (d : Option Addr) (c : V) (cv : Value) (b : Bool), xs = [.ref a, c] ∧ H a = some (ExK (.ref D) d a) ∧ DictAt H d ∧ ExcC K D ∧ ClsV c cv ∧
  PySem.W.kitOne K (.ref D) cv = some b ∧ Q (.bl b) H
section
variable {X : Cx} {pins : List (Addr × Obj)} {σ : L2.St} {H : Hp} {s : Shared} {a D : Addr} {d : Option Addr}
theorem exK_inst (I : Inv X pins σ H s) (e : H a = some (ExK (.ref D) d a)) (hd : DictAt H d) : ∃ oe od, PySem.W.InstAt s.heap a oe D od := by
  obtain ⟨oe, vs, ho, hz, hv⟩ := exK_at I.hok e
  obtain ⟨oc, odd, oda, osl⟩ := oe
  obtain ⟨h1, h2⟩ := hz
  dsimp only at h1 h2 hv
  subst h1 h2 hv
  rcases hd with rfl | ⟨dd, fs, rfl, hx⟩
  · exact ⟨_, none, ho, rfl, rfl, trivial⟩
  · obtain ⟨mA, hns, hr⟩ := (show ObjOk X.prog X.w H s.heap dd (.xd fs) from I.hok dd _ hx)
    obtain ⟨od, h3, _⟩ := lookIn_ns hns
    exact ⟨_, some od, ho, rfl, rfl, h3⟩
theorem call_isK : CallR X (.builtin "isinstance") (rIsK X.K) := by
  intro pins s σ H xs us Q I r h
  obtain ⟨a, D, d, c, cv, b, rfl, e, hd, C, hcv, ek, q⟩ := h
  obtain ⟨u1, u2, rfl, r1, r2⟩ := vals2 r
  cases (show u1 = Value.ref a from r1)
  have ec := hcv.eq r2
  subst ec
  obtain ⟨oe, od, J⟩ := exK_inst I e hd
  have hcl : (PySem.W.clsIn X.K D).isSome = true := by
    obtain ⟨cd, hc, _⟩ := PySem.W.any_some C.hd
    rw [hc]; rfl
  exact PySem.W.kia_one (PySem.W.kitx_exc hcl C.hg C.hk C.hs C.ha C.hn C.ht C.hm) I.kIn J ek (fun z => nomatch z) fun tk => ⟨.bl b, H, I.tok tk, rfl, q⟩
/-- e.f, e a kept exception -/
def tXk (K : PySem.W.Frag) (f : Str) (te : TE) : TE := fun σ H Q => te σ H fun x H1 => ∃ (a C dd : Addr) (fs : List (Str × V)) (v : V), x = .ref a ∧ H1 a = some (ExK (.ref C) (some dd) a) ∧ H1 dd = some (.xd fs) ∧ XfC K C ∧
  PySem.W.findIn K (.ref C) f = some none ∧ fs.lookup f = some v ∧ Q v H1
theorem pe_xk {e : Expr} {te : TE} {pos : Pos} {n : Str} (he : PE X e te) (hb : attributeBase e n X.env (eval e X.env) = eval e X.env := by rfl) : PE X (.Attribute e n pos) (tXk X.K n te) := by
  refine ⟨fun pins s σ H Q I h => ?_⟩
  refine attr_of hb (thn (he.run pins s σ H _ I h) fun u s1 hh => ?_)
  obtain ⟨x, H1, I1, rx, a, C, dd, fs, v, rfl, ea, ed, T, hno, l, q⟩ := hh
  obtain rfl : u = Value.ref a := rx
  obtain ⟨oe, vs, ho, hz, hv⟩ := exK_at I1.hok ea
  obtain ⟨mA, hns, hr⟩ := (show ObjOk X.prog X.w H1 s1.heap dd (.xd fs) from I1.hok dd _ ed)
  obtain ⟨od, h3, hl⟩ := lookIn_ns hns
  obtain ⟨u, hu, ru⟩ := RelO.some_of (v := v) (o := mA n) (by rw [← l]; exact hr n)
  have J : PySem.W.InstAt s1.heap a oe C (some od) := ⟨ho, hz.1, by unfold PySem.W.notCls; rw [hv] <;> rfl, by rw [hz.2]; exact h3⟩
  exact HandSPX.exc_get I1.kIn J T.ga T.gg T.exC (PySem.W.findObj_own T.hdC hno rfl (by rw [hl, hu])) (handed_of ru) ⟨v, H1, I1.tok _, ru, q⟩
end
end Dk
/-! rules of this claim's own: a list comprehension whose element may raise out of a call -/
namespace Dk
open PySem PySem.Spec PyProof.Rows L2


section
variable {X : Cx} {pins : List (Addr × Obj)} {σ : L2.St} {H : Hp} {s s' : Shared} {E : XK}

/-- a call's exception, as the block meets it: the state without it, the ground, still flying -/
theorem air_of_call (I : Inv X pins σ H s) {u : Value} (c : L2.CX X.prog X.w X.stack H s E u s') : ∃ (a : Addr) (B : Heap) (sI : Shared) (H' : Hp) (cls : Value) (d : Option Addr),
    u = .ref a ∧ Inv X pins σ H' sI ∧ (∀ b o, sI.heap.get? b = some o → b ∉ frs X.stack → B.get? b = some o) ∧ sI.heap.UpToSlots s'.heap ∧ HandSPX.FlyingZ B X.stack a (Zc cls d) s'.heap ∧ H' a = none ∧ s'.os = sI.os ∧ AllBare s'.gens ∧ E cls d H' := by
  obtain ⟨a, B, H', cls, d, rfl, fl, hok, ub, na, os, ag, hE⟩ := c
  obtain ⟨G, g1, g2⟩ := restrict s'.heap fun b => (B.get? b).isSome || decide (b ∈ frs X.stack)
  have st : B.StaysIn s'.heap := fl.1
  have gB : ∀ b o, B.get? b = some o → G.get? b = some o := fun b o e => by
    rw [g1 b (by simp [e])]
    exact st b o e
  have gF : ∀ b, b ∈ frs X.stack → G.get? b = s'.heap.get? b := fun b hb => g1 b (by simp [hb])
  have og : ∀ b o, G.get? b = some o → s'.heap.get? b = some o ∧ ((B.get? b).isSome = true ∨ b ∈ frs X.stack) := fun b o e => by
    cases q : ((B.get? b).isSome || decide (b ∈ frs X.stack)) with
    | false => rw [g2 b q] at e; cases e
    | true =>
      rw [g1 b q] at e
      exact ⟨e, by simpa [Bool.or_eq_true] using q⟩
  refine ⟨a, B, { s with heap := G, gens := s'.gens, drawn := s'.drawn, toks := s'.toks }, H', cls, d, rfl, ?_, fun b o e hb => ?_, Heap.UpToSlots.of_keeps fun b o e => (og b o e).1, fl, na, os, ag, hE⟩
  · refine I.call (ch := []) ⟨fun b o e n hb _ => gB b o (ub.keep b o e n hb), fun b o e n hb _ => ?_, fun b o e n _ => ub.free b o e n, fun b o e _ => ?_, ub.tups, ub.frzs, ub.tbls⟩ (hok.kept gB) ag (fun _ z => nomatch z)
    · obtain ⟨sl, q⟩ := ub.slot b o e hb
      exact ⟨sl, by rw [gF b hb]; exact q⟩
    · by_cases hb : b ∈ frs X.stack
      · obtain ⟨sl, q⟩ := ub.slot b o e hb
        exact ⟨_, by rw [gF b hb]; exact q⟩
      · obtain ⟨o', q⟩ := ub.there b o e hb
        exact ⟨o', gB b o' q⟩
  · obtain ⟨e', h⟩ := og b o e
    rcases h with h | h
    · obtain ⟨o', q⟩ := Option.isSome_iff_exists.mp h
      have z := st b o' q
      rw [e'] at z; cases z
      exact q
    · exact absurd h hb
end

section
variable {X : Cx}
/-- the context of a block whose exceptions are wished for -/
abbrev blkX (X : Cx) (s : Shared) (H : Hp) (scope : Scope) (cenv : Env) (fp : List Addr) (xe : Value → Shared → Prop) : Cx := (X.blk s H scope cenv fp).wish xe

/-- out of the block, on in the def's own frame -/
theorem block_fails {pins : List (Addr × Obj)} {σ σ' : L2.St} {H3 H : Hp} {s3 s s' : Shared} {scope : Scope} {ce : Env} {fp : List Addr} {E : XK} {xe : Value → Shared → Prop} {pins' : List (Addr × Obj)} {u : Value}
    (hs : X.stack = X.env :: X.outer) (hf : X.env.frame = some X.env.locals) (tk : Takes X (fun cls d _ H => E cls d H))
    (I3 : Inv X pins σ H3 s3) (f3 : ∀ b ∈ fp, FpOk X pins H3 b) (cL : ce.locals = s3.heap.objs.size) (cF : ce.frame = X.env.frame)
    (I : Inv (blkX X s3 H3 scope ce fp xe) pins' σ' H s) (c : L2.CX X.prog X.w X.stack H s E u s') :
    notedBy (model X.prog X.w) X.A ce (CompFails (model X.prog X.w) X.A X.xe ce) u s' := by
  obtain ⟨a, B, sI, H', cls, d, rfl, J, nb, up, fl, na, os, ag, hE⟩ := air_of_call I c
  have nb : ∀ b o, sI.heap.get? b = some o → b ∉ frs X.stack → B.get? b = some o := nb
  have fl : HandSPX.FlyingZ B X.stack a (Zc cls d) s'.heap := fl
  have hfr : X.A.frames = some (X.env :: X.outer) := by rw [I3.ok.frames, hs]
  rw [hs] at fl
  show wpAny (model X.prog X.w) X.A (noteFrame (.ref a) ce) _ _ s'
  rw [noteFrame_env _ cF]
  refine HandSPX.looks_onZ Zc.steady hfr hf fl fun h1 hh1 up1 => ?_
  obtain ⟨k1, k2, k3, k4⟩ := id hh1
  -- the block's names still stand
  have L1 : Inv (blkX X s3 H3 scope ce fp xe) pins' σ' H' { s' with heap := h1 } := J.landed nb k1 (up.trans up1) os ag
  obtain ⟨m, hn, _⟩ := L1.loc
  have hn : h1.Ns ce.locals m := hn
  have nfC : ∀ b ∈ frs X.stack, b ≠ ce.locals := fun b hb z => by
    obtain ⟨_, o, ho, _⟩ := I3.stack.mem hb
    have q := Heap.lt_size ho
    rw [z, cL] at q
    exact absurd q (Nat.lt_irrefl _)
  -- the ground without the block's names
  obtain ⟨B', b1, b2⟩ := restrict B fun b => decide (b ≠ ce.locals)
  have bk : ∀ b, b ≠ ce.locals → B'.get? b = B.get? b := fun b hb => b1 b (decide_eq_true hb)
  have bn : B'.get? ce.locals = none := b2 _ (by simp)
  have bof : ∀ b o, B'.get? b = some o → B.get? b = some o ∧ b ≠ ce.locals := fun b o e => by
    by_cases hb : b = ce.locals
    · rw [hb, bn] at e; cases e
    · exact ⟨(bk b hb).symm.trans e, hb⟩
  have bnone : ∀ b, B.get? b = none → B'.get? b = none := fun b e => by
    cases q : B'.get? b with
    | none => rfl
    | some o =>
      rw [(bof b o q).1] at e
      cases e
  refine ⟨m, hn, fun h2 m2 hn2 sb => ?_⟩
  obtain ⟨oe, vs, T, oT, ts, he, hz, hd, h1', hnT, hTe, hT, hdT, h3'⟩ := id k4
  have notC : ∀ {b : Addr} {o : Obj} {vs : Array Value}, h1.get? b = some o → o.data = .fields vs → b ≠ ce.locals := fun {b o vs} e dd z => by
    obtain ⟨o', es, ep, e', dd', _⟩ := hn
    rw [z, e'] at e
    cases e
    rw [dd'] at dd
    cases dd
  have aC := notC he hd
  have TC := notC hT hdT
  have g2 : ∀ b o, b ≠ ce.locals → h1.get? b = some o → h2.get? b = some o := fun b o hb e => (sb.2 b hb).trans e
  have hh2 : HandSPX.HeldZ B' (X.env :: X.outer) a (Zc cls d) X.env.locals h2 := by
    refine ⟨fun b o e => ?_, bnone a k2, ?_, oe, vs, T, oT, ts, g2 _ _ aC he, hz, hd, h1', bnone T hnT, hTe, g2 _ _ TC hT, hdT, h3'⟩
    · obtain ⟨e', hb⟩ := bof b o e
      exact g2 b o hb (k1 b o e')
    · refine funFrames_none (Heap.FunFrames.sameBut sb hn2 k3) fun L hL => bnone L ?_
      exact (k3.mem hL).1
  unfold PySem.passOn
  refine wpAny_bind (wpAny_field (g2 _ _ aC he) hd h1' ?_)
  rw [if_neg (show ¬ ((Value.ref T == Value.none) = true) from by simp)]
  rw [cF, hf]
  refine wpAny_bind (HandSPX.setFlight_onZ hh2 fun h3 hh3 up3 => wpAny_throw (tk _ _ ?_))
  -- the state of the def without the exception, without the block's names
  obtain ⟨G, q1, q2⟩ := restrict sI.heap fun b => decide (b ≠ ce.locals)
  have gk : ∀ b, b ≠ ce.locals → G.get? b = sI.heap.get? b := fun b hb => q1 b (decide_eq_true hb)
  have gn : G.get? ce.locals = none := q2 _ (by simp)
  have gof : ∀ b o, G.get? b = some o → sI.heap.get? b = some o ∧ b ≠ ce.locals := fun b o e => by
    by_cases hb : b = ce.locals
    · rw [hb, gn] at e; cases e
    · exact ⟨(gk b hb).symm.trans e, hb⟩
  have JL : H' ce.locals = none := J.free
  have n3 : ∀ b o, s3.heap.get? b = some o → b ≠ ce.locals := fun b o e z => by
    have q := Heap.lt_size e
    rw [z, cL] at q
    exact absurd q (Nat.lt_irrefl _)
  have JB : Un (frs X.stack) fp H3 H' s3.heap sI.heap := J.base
  have JG : Inv X pins σ H' { sI with heap := G } := by
    refine I3.call' (ch := fp) J.os ⟨fun b o e n hb hx => ?_, fun b o e n hb hx => ?_, JB.free, fun b o e hx => ?_, JB.tups, JB.frzs, JB.tbls⟩ (fun b o e => ?_) J.bare fun b hb => ⟨(f3 b hb).2.2.2.1, (f3 b hb).2.1, (f3 b hb).2.2.2.2.1, (f3 b hb).2.2.2.2.2⟩
    · rw [gk b (n3 b o e)]
      exact JB.keep b o e n hb hx
    · rw [gk b (n3 b o e)]
      exact JB.slot b o e n hb hx
    · rw [gk b (n3 b o e)]
      exact JB.there b o e hx
    · refine (J.hok b o e).stay (fun c v hc q => ?_) (fun _ q => q) fun _ _ q => q
      have hcl : c ≠ ce.locals := fun z => by
        rcases hc with hc | hc
        · rw [← hc, z, JL] at e; cases e
        · rw [z, JL] at hc; cases hc
      rw [gk c hcl]
      exact q
  refine ⟨a, B', { sI with heap := G }, pins, σ, H', cls, d, rfl, JG, fun b o e hb => ?_, fun b o e hd' => ?_, .inr (.inr (by rw [hs]; exact hh3)), na, os, ag, hE⟩
  · obtain ⟨e', hbc⟩ := gof b o e
    rw [bk b hbc]
    exact nb b o e' hb
  · obtain ⟨e', hbc⟩ := gof b o e
    obtain ⟨sl, z1⟩ := (up.trans up1) b o e' hd'
    obtain ⟨sl2, z2⟩ := up3 b _ (g2 b _ hbc z1) hd'
    exact ⟨sl2, z2⟩
end

/-- the block's loop with elements that may raise; te's exceptions are E's -/
theorem lcX_core {X : Cx} {E : XK} {pins : List (Addr × Obj)} {s : Shared} {σ : L2.St} {H : Hp} {Q : VK} {elt tg iter : Expr} {ifs : List Expr} {scope : Scope} {own : List (Str × Nat)} {pos pos' : Pos} {wi : TI} {g : TG} {tt : TT} {te : TE} {use : Option (Value → Sem Unit)} {Qf : Value → Shared → Prop}
    (hs0 : X.stack = X.env :: X.outer) (hf : X.env.frame = some X.env.locals) (tk : Takes X (fun cls d _ H => E cls d H))
    (hc : X.calm = true) (hN : X.N.Nodup) (I : Inv X pins σ H s) (hi : PI X tg iter wi) (ok : BlkOk X.N X.env.scope scope own)
    (hg : ∀ (s : Shared) (H : Hp) (C : Addr) (cl : List (Str × Addr)) (fp : List Addr), PG (X.blk s H scope (compEnvC scope cl C X.env) fp) tg g) (ht : ∀ (s : Shared) (H : Hp) (C : Addr) (cl : List (Str × Addr)) (fp : List Addr), PTs (X.blk s H scope (compEnvC scope cl C X.env) fp) ifs tt)
    (he : ∀ (s : Shared) (H : Hp) (C : Addr) (cl : List (Str × Addr)) (fp : List Addr) (xe : Value → Shared → Prop), Passes (L2.CX X.prog X.w) (blkX X s H scope (compEnvC scope cl C X.env) fp xe) E → PE (blkX X s H scope (compEnvC scope cl C X.env) fp xe) elt te) (hs : ∀ x, foldedSetIterable iter X.env x = pure x)
    (h : tLc wi g tt te (own.map (·.2)) σ H Q)
    (hRR : ∀ D C cl s' m H', Inv X pins σ H' s' → Q (.ref D) H' → s'.heap.Ns C m → FpOk X pins H' C → compEnds (model X.prog X.w) X.A X.xe use Qf (.ref D) (compEnvC scope cl C X.env) (.ok .next) s') :
    wpAny (model X.prog X.w) X.A (comprehension (.ListComp elt [⟨tg, iter, ifs, 0⟩] scope pos) scope X.env pos' (newList []) false (eval iter X.env) use) Qf X.xe s := by
  have hfree : ∀ y ∈ scope.names, y.2 = .free → ∃ c, X.env.cells.lookup y.1 = some c := fun y hy e => by
    rcases ok.free y hy e with k | k
    · exact I.ok.has _ (.inl k)
    · exact I.ok.has _ (.inr k)
  refine comprehension_at (use := use) rfl hs (closure_ok hfree) ok.kind (fun y hy e => by rw [ok.uniq y hy, e])
    (thn (hi.run pins s σ H _ I h) fun xv s1 hx => thn hx fun itv s2 h2 => ?_)
  obtain ⟨it, fp, tn, J, H2, e, I2, T, st2, f2, q⟩ := h2
  subst e
  refine wpAny_newObj_type (newEnv_comp ?_) (by show 0 ≤ sizeLine; decide)
  generalize hD : s2.heap.objs.size = D
  have hDn : H2 D = none := I2.hok.fresh (Nat.le_of_eq hD)
  obtain ⟨W, ⟨m0, w0⟩, turn⟩ := q D hDn
  generalize hs3 : ({ s2 with heap := s2.heap.push { cls := .type "list", data := .seq ([] : List Value).toArray } } : Shared) = s3
  have I3 : Inv X pins σ (upd H2 D (.lst [])) s3 := by
    rw [← hs3]
    refine I2.laid (t' := s2.toks) (fun b o e => Heap.get?_push_of_some _ e) (Nat.le_of_eq hD) ⟨Nat.zero_le _, [], 0, .nil, ?_⟩
    rw [← hD]
    exact Heap.get?_push_size _ rfl
  have h3 : s3.heap = s2.heap.push { cls := .type "list", data := .seq ([] : List Value).toArray } := by rw [← hs3]
  have sz : ∀ b ∈ fp, b < s2.heap.objs.size := fun b hb => by
    obtain ⟨o, e, _⟩ := T.obj _ _ st2 b hb
    exact Heap.lt_size e
  have f3 : ∀ b ∈ fp, FpOk X pins (upd H2 D (.lst [])) b ∧ b < s3.heap.objs.size := fun b hb => by
    have hlt := sz b hb
    refine ⟨⟨?_, (f2 b hb).2⟩, by rw [h3, Heap.size_push]; exact Nat.lt_succ_of_lt hlt⟩
    rw [upd_ne (by rw [← hD]; exact Nat.ne_of_lt hlt)]
    exact (f2 b hb).1
  have st3 : tn 0 s3.heap := T.keep _ _ _ st2 fun b _ o e => by rw [h3]; exact Heap.get?_push_of_some _ e
  have I4 := block_start I3 ok hN f3
  have pg := hg s3 (upd H2 D (.lst [])) s3.heap.objs.size (cellsFrom (s3.heap.objs.size + 1) scope.names (cloFrom X.env.cells scope.names [])) fp
  have pt := ht s3 (upd H2 D (.lst [])) s3.heap.objs.size (cellsFrom (s3.heap.objs.size + 1) scope.names (cloFrom X.env.cells scope.names [])) fp
  have pe := he s3 (upd H2 D (.lst [])) s3.heap.objs.size (cellsFrom (s3.heap.objs.size + 1) scope.names (cloFrom X.env.cells scope.names [])) fp
  show codeAny _ _ (.compStart (.ListComp elt [⟨tg, iter, ifs, 0⟩] scope pos) 0 (.ref it) (.ref D) (compEnvC scope (cellsFrom (s3.heap.objs.size + 1) scope.names (cloFrom X.env.cells scope.names [])) s3.heap.objs.size X.env)) (compEnds (model X.prog X.w) X.A X.xe use Qf (.ref D) (compEnvC scope (cellsFrom (s3.heap.objs.size + 1) scope.names (cloFrom X.env.cells scope.names [])) s3.heap.objs.size X.env)) { s3 with heap := pushCells (s3.heap.push { cls := .type "dict", data := .dict #[] }) scope.names }
  have nfp : ∀ b ∈ fp, (upd H2 D (.lst [])) b = none := fun b hb => (f3 b hb).1.1
  have hRR' : ∀ s' m H', Inv X pins σ H' s' → Q (.ref D) H' → s'.heap.Ns s3.heap.objs.size m → FpOk X pins H' s3.heap.objs.size → compEnds (model X.prog X.w) X.A X.xe use Qf (.ref D) (compEnvC scope (cellsFrom (s3.heap.objs.size + 1) scope.names (cloFrom X.env.cells scope.names [])) s3.heap.objs.size X.env) (.ok .next) s' :=
    fun s' m H' a b c d => hRR D s3.heap.objs.size _ s' m H' a b c d
  have cF : (compEnvC scope (cellsFrom (s3.heap.objs.size + 1) scope.names (cloFrom X.env.cells scope.names [])) s3.heap.objs.size X.env).frame = X.env.frame := rfl
  generalize hce : compEnvC scope (cellsFrom (s3.heap.objs.size + 1) scope.names (cloFrom X.env.cells scope.names [])) s3.heap.objs.size X.env = ce at I4 pg pt pe hRR' cF ⊢
  have cL : ce.locals = s3.heap.objs.size := by subst hce; rfl
  generalize hH3 : upd H2 D (.lst []) = H3 at I3 I4 pg pt pe w0 nfp f3
  generalize hs4 : ({ s3 with heap := pushCells (s3.heap.push { cls := .type "dict", data := .dict #[] }) scope.names } : Shared) = s4 at I4 ⊢
  have st4 : tn 0 s4.heap := T.keep _ _ _ st3 fun b _ o e => by rw [← hs4]; exact pushCells_keeps _ _ _ _ (Heap.get?_push_of_some _ e)
  have stat : ∀ {σ' : L2.St} {H' : Hp} {s' : Shared}, Inv (X.blk s3 H3 scope ce fp) [] σ' H' s' → (∀ b ∈ fp, H' b = none) → ∀ b ∈ fp, FpOk (X.blk s3 H3 scope ce fp) [] H' b := fun {σ' H' s'} I' hn b hb =>
    ⟨hn b hb, (I'.ok.exf b hb).1, I'.ok.exfs b hb, .inl hb, fun x c e => (I'.ok.exf b hb).2 x c e, fun p hp => absurd (show p ∈ ([] : List (Addr × Obj)) ++ [] from hp) (by simp)⟩
  -- what the block lets out
  have pass : Passes (L2.CX X.prog X.w) (blkX X s3 H3 scope ce fp (notedBy (model X.prog X.w) X.A ce (CompFails (model X.prog X.w) X.A X.xe ce))) E := fun pins' σ' H' sx u s' IX c =>
    block_fails hs0 hf tk I3 (fun b hb => (f3 b hb).1) cL cF IX c
  have pex := pe _ pass
  have loop : codeAny (model X.prog X.w) X.A (.compLoop (.ListComp elt [⟨tg, iter, ifs, 0⟩] scope pos) 0 (.ref it) (.ref D) ce) (compEnds (model X.prog X.w) X.A X.xe use Qf (.ref D) ce) s4 := by
    have eE : (fun e s' => compEnds (model X.prog X.w) X.A X.xe use Qf (.ref D) ce (.error e) s') = CompFails (model X.prog X.w) X.A X.xe ce := by
      funext e s'
      cases use <;> rfl
    refine compLoop_any (fun n s' => ∃ i H', Inv (X.blk s3 H3 scope ce fp) [] (wipe σ (own.map (·.2))) H' s' ∧ tn i s'.heap ∧ (∀ b ∈ fp, H' b = none) ∧ W i n H') ?_ m0 ⟨0, H3, I4, st4, nfp, w0⟩
    rw [eE]
    rintro n s5 ⟨i, H5, I5, st5, n5, w5⟩
    rcases turn i n H5 w5 with ⟨stop, qq⟩ | ⟨go, Nx, hNx, step⟩
    · have td := T.done (X.blk s3 H3 scope ce fp) rfl rfl rfl hc i [] s5 _ H5 (fun _ _ => False) I5 (stat I5 n5) st5 stop
      refine thnF td fun r s6 ⟨hr, I6⟩ => ?_
      subst hr
      have I7 : Inv X pins σ H5 s6 := I3.call' (ch := fp) I6.os I6.base I6.hok I6.bare fun b hb => ⟨(f3 b hb).1.2.2.2.1, (f3 b hb).1.2.1, (f3 b hb).1.2.2.2.2.1, (f3 b hb).1.2.2.2.2.2⟩
      have nC : H5 s3.heap.objs.size = none := by
        have z : H5 ce.locals = none := I6.free
        rw [cL] at z
        exact z
      obtain ⟨m, hn, _⟩ := I6.loc
      have hn : s6.heap.Ns ce.locals m := hn
      rw [cL] at hn
      exact hRR' s6 m H5 I7 qq hn (I3.fpOk (Nat.le_refl _) nC)
    · have ti := T.item (X.blk s3 H3 scope ce fp) rfl rfl rfl hc i [] s5 _ H5 (fun _ _ => False) I5 (stat I5 n5) st5 go
      refine thnF ti fun r s6 ⟨u, hr, h6⟩ => ?_
      subst hr
      refine thnF h6 fun _ s7 ⟨x, H7, I7, r7, y7, st7, n7⟩ => ?_
      have I7' := I7.pinned (stat I7 n7) (T.obj _ _ st7)
      refine thnF (pg.run _ s7 _ H7 x u _ I7' r7 (step x H7 y7)) fun _ s8 ⟨σ8, H8, I8, hw8, q8⟩ => ?_
      refine thnF (pt.run _ s8 σ8 H8 _ I8 q8) fun b s9 ⟨H9, I9, q9⟩ => ?_
      have fin : ∀ {s' : Shared} {H' : Hp}, Inv (X.blk s3 H3 scope ce fp) ([] ++ pinsAt fp s7.heap) σ8 H' s' → Nx H' → ∃ m, m < n ∧ ∃ i H', Inv (X.blk s3 H3 scope ce fp) [] (wipe σ (own.map (·.2))) H' s' ∧ tn i s'.heap ∧ (∀ b ∈ fp, H' b = none) ∧ W i m H' := fun {s' H'} I' nx => by
        obtain ⟨m', hm, w'⟩ := hNx H' nx
        have pin' : ∀ b ∈ fp, ∀ o, s7.heap.get? b = some o → s'.heap.get? b = some o ∧ H' b = none := fun b hb o e =>
          let z := I'.pin (b, o) (List.mem_append_right _ (List.mem_append_right _ (mem_pinsAt hb e)))
          ⟨z.1, z.2.1⟩
        have hl : (wipe σ (own.map (·.2))).length = σ8.length := by rw [← hw8, wipe_length]
        refine ⟨m', hm, i + 1, H', (I'.unpinned (pins := [])).weak hl (fun j v e => ?_), T.keep _ _ _ st7 fun b hb o e => (pin' b hb o e).1, fun b hb => ?_, w'⟩
        · rw [← hw8] at e
          exact (wipe_some e).1
        · obtain ⟨o, e, _⟩ := T.obj _ _ st7 b hb
          exact (pin' b hb o e).2
      cases b with
      | false =>
        simp only [Bool.false_eq_true, if_false] at q9 ⊢
        exact fin I9 q9
      | true =>
        simp only [if_true] at q9 ⊢
        refine thn (pex.run _ s9 σ8 H9 _ (I9.wish _) q9) fun z s10 ⟨yv, H10, I10, r10, acc, hD10, hz10, nx⟩ => ?_
        exact app_ok (X := X.blk s3 H3 scope ce fp) I10.unwish hD10 hz10 r10 fun s11 I11 => fin I11 nx
  exact codeAny_compStart_list loop (T.self X.A 0 _ _ _ st4 loop)
/-- as a value -/
theorem pe_lcX {X : Cx} {E : XK} {elt tg iter : Expr} {ifs : List Expr} {scope : Scope} {own : List (Str × Nat)} {pos : Pos} {wi : TI} {g : TG} {tt : TT} {te : TE} (hs0 : X.stack = X.env :: X.outer) (hf : X.env.frame = some X.env.locals) (tk : Takes X (fun cls d _ H => E cls d H))
    (hc : X.calm = true) (hN : X.N.Nodup) (hi : PI X tg iter wi) (ok : BlkOk X.N X.env.scope scope own)
    (hg : ∀ (s : Shared) (H : Hp) (C : Addr) (cl : List (Str × Addr)) (fp : List Addr), PG (X.blk s H scope (compEnvC scope cl C X.env) fp) tg g) (ht : ∀ (s : Shared) (H : Hp) (C : Addr) (cl : List (Str × Addr)) (fp : List Addr), PTs (X.blk s H scope (compEnvC scope cl C X.env) fp) ifs tt)
    (he : ∀ (s : Shared) (H : Hp) (C : Addr) (cl : List (Str × Addr)) (fp : List Addr) (xe : Value → Shared → Prop), Passes (L2.CX X.prog X.w) (blkX X s H scope (compEnvC scope cl C X.env) fp xe) E → PE (blkX X s H scope (compEnvC scope cl C X.env) fp xe) elt te) (hs : ∀ x, foldedSetIterable iter X.env x = pure x := by intro _; rfl) :
    PE X (.ListComp elt [⟨tg, iter, ifs, 0⟩] scope pos) (tLc wi g tt te (own.map (·.2))) := by
  refine ⟨fun pins s σ H Q I h => ?_⟩
  rw [eval_ListComp]
  refine lcX_core hs0 hf tk hc hN I hi ok hg ht he hs h fun D C cl s' m H' I' q hn f => ⟨m, hn, fun h'' sb => ?_⟩
  obtain ⟨f0, f1, f2, f3, f4, f5⟩ := f
  exact ⟨.ref D, H', I'.turned (t' := s'.toks) (fun b o hb e => (sb.2 b hb).trans e) f0 f1 f3 f4 f5, rfl, q⟩
/-- name = [..] on one line, where the list never comes to its end -/
theorem ps_setLcX {X : Cx} {E : XK} {i : Nat} {y : Str} {py : Pos} {elt tg iter : Expr} {ifs : List Expr} {scope : Scope} {own : List (Str × Nat)} {pos spos : Pos} {wi : TI} {g : TG} {tt : TT} {te : TE} (hs0 : X.stack = X.env :: X.outer) (hf : X.env.frame = some X.env.locals) (tk : Takes X (fun cls d _ H => E cls d H))
    (hc : X.calm = true) (hN : X.N.Nodup)
    (hsw : swapsWith (.ListComp elt [⟨tg, iter, ifs, 0⟩] scope pos) (some (.Name y py)) spos.line X.env = pure true) (hi : PI X tg iter wi) (ok : BlkOk X.N X.env.scope scope own)
    (hg : ∀ (s : Shared) (H : Hp) (C : Addr) (cl : List (Str × Addr)) (fp : List Addr), PG (X.blk s H scope (compEnvC scope cl C X.env) fp) tg g) (ht : ∀ (s : Shared) (H : Hp) (C : Addr) (cl : List (Str × Addr)) (fp : List Addr), PTs (X.blk s H scope (compEnvC scope cl C X.env) fp) ifs tt)
    (he : ∀ (s : Shared) (H : Hp) (C : Addr) (cl : List (Str × Addr)) (fp : List Addr) (xe : Value → Shared → Prop), Passes (L2.CX X.prog X.w) (blkX X s H scope (compEnvC scope cl C X.env) fp xe) E → PE (blkX X s H scope (compEnvC scope cl C X.env) fp xe) elt te) (hs : ∀ x, foldedSetIterable iter X.env x = pure x := by intro _; rfl) :
    PS X (.Assign [.Name y py] (.ListComp elt [⟨tg, iter, ifs, 0⟩] scope pos) spos) (fun D σ H => tLc wi g tt te (own.map (·.2)) σ H fun _ _ => False) := by
  refine ⟨fun pins s σ H D I h => ?_⟩
  rw [exec_Assign_Name_used _ _ _ _ hsw]
  refine wpAny_bind (wpAny_standAt (wpAny_bind ?_))
  show wpAny _ X.A (do let _ ← comprehension (.ListComp elt [⟨tg, iter, ifs, 0⟩] scope pos) scope X.env (firstIterPos [⟨tg, iter, ifs, 0⟩] pos) (newList []) false (eval iter X.env) (some (assign (.Name y py) X.env))) _ _ s
  exact wpAny_bind (thn (lcX_core (Qf := fun _ s' => False) hs0 hf tk hc hN I hi ok hg ht he hs h fun L C cl s' m H' I' q hn f => q.elim) fun _ s' hq => hq.elim)
end Dk
/-! the text by places; how a def stands behind the top -/
namespace Dk
open PySem PySem.Spec PyProof.Rows L2

theorem ifT {b : Bool} {A B : Prop} (h : b = true) (a : A) : if b = true then A else B := by rw [if_pos h]; exact a
theorem ifF {b : Bool} {A B : Prop} (h : b = false) (a : B) : if b = true then A else B := by rw [if_neg (by simp [h])]; exact a
theorem lenT {K : PySem.W.Frag} {H : Hp} {p : Addr} {xs : List V} (h : H p = some (.tup xs)) : LenV K (.ref p) H xs.length := .inr ⟨xs, SqT.of h, rfl⟩
theorem lenL {K : PySem.W.Frag} {H : Hp} {p : Addr} {xs : List V} (h : H p = some (.lst xs)) : LenV K (.ref p) H xs.length := .inl ⟨xs, SqL.of h, rfl⟩
theorem lenS {K : PySem.W.Frag} {H : Hp} {z : Str} (h : z.length ≤ sizeLine) : LenV K (.str z) H z.length := ⟨h, rfl⟩
/-- built-in names are built-in -/
structure Blt (mg : Str → Option Value) : Prop where
  isinstance : mg "isinstance" = none
  int : mg "int" = none
  bool : mg "bool" = none
  str : mg "str" = none
  tuple : mg "tuple" = none
  list : mg "list" = none
  len : mg "len" = none
  abs : mg "abs" = none
  all : mg "all" = none
  sum : mg "sum" = none
  sorted : mg "sorted" = none
  range : mg "range" = none
  ValueError : mg "ValueError" = none

/-- a def of the top, by its text -/
def Fn (K : PySem.W.Frag) (mg : Str → Option Value) (x : Str) (st : Stmt) : Prop := ∃ (f : Addr) (fd : FuncData), FunD K x x (defArgs st) (defBody st) (defScope st) [] [] f fd ∧ mg x = some (.ref f)
/-- a method's def, by its text -/
def Mth (K : PySem.W.Frag) (C : Addr) (m qual : Str) (st : Stmt) : Prop := Cls K C ∧ ∃ (f : Addr) (fd : FuncData), FunD K m qual (defArgs st) (defBody st) (defScope st) [] [] f fd ∧ Meth K C m f

abbrev cxD (P : Program) (w : World) (K : PySem.W.Frag) (mg : Str → Option Value) (base : Heap) (N : List Str) (qual : Str) (st : Stmt) (f : Addr) (cdv : Value) (A : Around) (outer : List Env) (s : Shared) (H : Hp) (E : XK) : Cx :=
  cxOf (L2.CX P w) P w K mg base N qual (defScope st) f cdv A outer s H E
section
variable {P : Program} {w : World} {K : PySem.W.Frag} {mg : Str → Option Value} {base : Heap}
/-- what a def's body is to be shown -/
def BodyOk (P : Program) (w : World) (K : PySem.W.Frag) (mg : Str → Option Value) (base : Heap) (k : Nat) (N : List Str) (qual : Str) (st : Stmt) (sp : Sp) : Prop :=
  ∀ (f : Addr) (cdv : Value) (A : Around) (outer : List Env) (s : Shared) (H : Hp) (vs : List V) (Q : VK) (E : XK), Room k (cxD P w K mg base N qual st f cdv A outer s H E).A →
    Takes (cxD P w K mg base N qual st f cdv A outer s H E) (fun cls d _ H => E cls d H) → Passes (L2.CX P w) (cxD P w K mg base N qual st f cdv A outer s H E) E → (cxD P w K mg base N qual st f cdv A outer s H E).A.units + 1 < cLine → sp vs H Q E →
      ∃ t, PSs (cxD P w K mg base N qual st f cdv A outer s H E) (defBody st) t ∧ t { nx := fun _ H' => Q .non H', rt := Q } (start N vs) H
theorem fn_ok {x qual : Str} {st : Stmt} {f : Addr} {fd : FuncData} {N ps : List Str} {k : Nat} {sp : Sp} (F : FunD K x qual (defArgs st) (defBody st) (defScope st) [] [] f fd) (S : FnScope N ps (defScope st)) (len : ∀ vs H Q E, sp vs H Q E → vs.length = ps.length)
    (h : BodyOk P w K mg base k N qual st sp) : FnOk P w K mg base (L2.CX P w) (k + 1) f fd ps sp :=
  F.ok S len fun cdv A outer s H vs Q E hr hsp => by
    have hT : Takes (cxD P w K mg base N qual st f cdv A outer s H E) (fun cls d _ H => E cls d H) := takes_of rfl rfl rfl rfl
    exact h f cdv A outer s H vs Q E hr hT (passes_call hT fun _ _ _ _ h => h) (hu_of hr) hsp
theorem calx {x : Str} {st : Stmt} {N ps : List Str} {k : Nat} {sp : Sp} (F : Fn K mg x st) (S : FnScope N ps (defScope st))
    (hb : ∀ (kV doc pm : Value) (an : Option Addr) (cdv ct : Value) (us : List Value), us.length = ps.length → bindArgs (PySem.W.fnOf x x (defArgs st) (defBody st) (defScope st) .none kV doc pm an cdv ct) ⟨us, []⟩ = pure (ps.zip us))
    (len : ∀ vs H Q E, sp vs H Q E → vs.length = ps.length) (h : BodyOk P w K mg base k N x st sp) : CalX P w K mg base (k + 1) x sp := by
  obtain ⟨f, fd, F, g⟩ := F
  exact ⟨f, fd, ps, g, F.kp, F.bindsN hb, fn_ok F S len h⟩
theorem metx {m qual : Str} {C : Addr} {st : Stmt} {N ps : List Str} {k : Nat} {sp : Sp} (F : Mth K C m qual st) (S : FnScope N ps (defScope st))
    (hb : ∀ (kV doc pm : Value) (an : Option Addr) (cdv ct : Value) (us : List Value), us.length = ps.length → bindArgs (PySem.W.fnOf m qual (defArgs st) (defBody st) (defScope st) .none kV doc pm an cdv ct) ⟨us, []⟩ = pure (ps.zip us))
    (len : ∀ vs H Q E, sp vs H Q E → vs.length = ps.length) (h : BodyOk P w K mg base k N qual st sp) : MetX P w K mg base (k + 1) C m sp := by
  obtain ⟨c, f, fd, F, g⟩ := F
  exact ⟨c, f, fd, ps, g, F.bindsN hb, fn_ok F S len h⟩
end

/-! ### fractions -/
abbrev Frac := Int × Int
/-- v stands for the fraction f -/
def IsF (H : Hp) (v : V) (f : Frac) : Prop := ∃ p, v = .ref p ∧ H p = some (.tup [.int f.1, .int f.2])
theorem IsF.mono {H H' : Hp} {v : V} {f : Frac} (s : Same H H') (h : IsF H v f) : IsF H' v f := let ⟨p, e, q⟩ := h; ⟨p, e, s _ _ q⟩
def mkF (t b : Int) : Frac := (t / (Int.gcd t b : Int), b / (Int.gcd t b : Int))
def plusF (a b : Frac) : Frac := mkF (a.1 * b.2 + b.1 * a.2) (a.2 * b.2)
def minusF (a b : Frac) : Frac := mkF (a.1 * b.2 - b.1 * a.2) (a.2 * b.2)
def underF (a b : Frac) : Bool := decide (a.1 * b.2 < b.1 * a.2)
def isFracF (a : Frac) : Bool := decide (0 < a.2) && decide (Int.gcd a.1 a.2 = 1)
def isChanceF (a : Frac) : Bool := isFracF a && (!underF a (0, 1) && !underF (1, 1) a)
def isShareF (a : Frac) : Bool := isFracF a && (!underF a (0, 1) && underF a (1, 1))
/-- small enough to be reckoned with -/
def Sm (f : Frac) : Prop := 0 < f.2 ∧ f.2 < 32768 ∧ f.1.natAbs < 2 ^ 200
theorem same_upd {H : Hp} {p : Addr} {o : HO} (h : H p = none) : Same H (upd H p o) := fun b u e => by rw [upd_ne (ne_of_none e h)]; exact e

/-! ### is_whole, divisor, ratio -/
def spIsWhole : Sp := fun vs H Q _ => ∃ i : Int, vs = [.int i] ∧ Q (.bl true) H
def spDivisor : Sp := fun vs H Q _ => ∃ a b : Int, vs = [.int a, .int b] ∧ Q (.int (Int.gcd a b : Int)) H
def spRatio : Sp := fun vs H Q _ => ∃ t b : Int, vs = [.int t, .int b] ∧ (0 < b ∧ b < 2 ^ 30) ∧ ∀ v H', Same H H' → IsF H' v (mkF t b) → Q v H'
theorem sc_is_whole : FnScope ["thing"] ["thing"] (defScope s_is_whole) := ⟨rfl, rfl, rfl, by decide +kernel, rfl, by decide +kernel, by decide +kernel⟩
theorem sc_divisor : FnScope ["one", "other"] ["one", "other"] (defScope s_divisor) := ⟨rfl, rfl, rfl, by decide +kernel, rfl, by decide +kernel, by decide +kernel⟩
theorem sc_ratio : FnScope ["top", "bottom", "common"] ["top", "bottom"] (defScope s_ratio) := ⟨rfl, rfl, rfl, by decide +kernel, rfl, by decide +kernel, by decide +kernel⟩
section
variable {P : Program} {w : World} {K : PySem.W.Frag} {mg : Str → Option Value} {base : Heap}
theorem cal_is_whole (F : Fn K mg "is_whole" s_is_whole) (B : Blt mg) : CalX P w K mg base 1 "is_whole" spIsWhole := by
  refine calx F sc_is_whole (fun _ _ _ _ _ _ us hl => match us, hl with | [_], _ => rfl) (fun vs H Q E h => by obtain ⟨i, rfl, _⟩ := h; rfl) ?_
  intro f cdv A outer s H vs Q E hr hT hx hu h
  refine ⟨_, (pss_one (ps_ret (pe_and (pe_callB call_isi (by rfl) B.isinstance (by decide +kernel) (pa_cons (pv 0) (pa_cons (pe_bltn (v := .ty "int") (u := .type "int") rfl B.int (by decide +kernel) rfl) pa_nil))) (pe_one (pe_not (pe_callB call_isi (by rfl) B.isinstance (by decide +kernel) (pa_cons (pv 0) (pa_cons (pe_bltn (v := .ty "bool") (u := .type "bool") rfl B.bool (by decide +kernel) rfl) pa_nil)))))))), ?_⟩
  obtain ⟨i, rfl, q⟩ := h
  refine ⟨_, rfl, .int i, _, _, _, _, rfl, .ty _, .base (.int i), kit_ty (r := true) (by decide +kernel), true, rfl, ?_⟩
  refine ⟨_, rfl, .int i, _, _, _, _, rfl, .ty _, .base (.int i), kit_ty (r := false) (by decide +kernel), false, rfl, ?_⟩
  exact q
theorem gcd_step (a b : Int) : Int.gcd b (a.fmod b) = Int.gcd a b := by
  rw [Int.fmod_def, Int.gcd_sub_mul_left_right, Int.gcd_comm]
theorem fmod_small (a b : Int) (hb : b ≠ 0) : (a.fmod b).natAbs < b.natAbs := by
  rcases Int.lt_or_lt_of_ne hb with h | h
  · have h1 : 0 ≤ (-a).fmod (-b) := Int.fmod_nonneg_of_pos _ (by omega)
    have h2 : (-a).fmod (-b) < -b := Int.fmod_lt_of_pos _ (by omega)
    rw [Int.neg_fmod_neg] at h1 h2
    omega
  · have h1 : 0 ≤ a.fmod b := Int.fmod_nonneg_of_pos _ h
    have h2 : a.fmod b < b := Int.fmod_lt_of_pos _ h
    omega
theorem cal_divisor (F : Fn K mg "divisor" s_divisor) (B : Blt mg) : CalX P w K mg base 1 "divisor" spDivisor := by
  refine calx F sc_divisor (fun _ _ _ _ _ _ us hl => match us, hl with | [_, _], _ => rfl) (fun vs H Q E h => by obtain ⟨a, b, rfl, _⟩ := h; rfl) ?_
  intro f cdv A outer s H vs Q E hr hT hx hu h
  refine ⟨_, (pss_cons (ps_while (passes_of rfl) (pt_cmpR op_ne (pv 1) pe_int (nomark _)) (pss_one (ps_par (i := 0) (j := 1) rfl sc_divisor.nd rfl rfl (by decide) rfl rfl (pa_cons (pv 1) (pa_cons (pe_op op_modN (pv 0) (pv 1)) pa_nil)) (by rfl))))
      (pss_one (ps_ret (pe_callB call_abs (by rfl) B.abs (by decide +kernel) (pa_cons (pv 0) pa_nil))))), ?_⟩
  obtain ⟨a, b, rfl, q⟩ := h
  refine ⟨fun m σ H' => ∃ x y : Int, σ = [some (.int x), some (.int y)] ∧ H' = H ∧ Int.gcd x y = Int.gcd a b ∧ m = y.natAbs, ⟨_, a, b, rfl, rfl, rfl, rfl⟩, ?_⟩
  rintro m σ H' ⟨x, y, rfl, rfl, hg, rfl⟩
  refine ⟨_, rfl, rfl, _, rfl, ?_⟩
  by_cases hy : y = 0
  · subst hy
    refine iteF ?_
    refine ⟨_, rfl, _, rfl, ?_⟩
    have e : (if x < 0 then -x else x) = (Int.gcd a b : Int) := by
      rw [← hg, Int.gcd_zero_right]
      split <;> omega
    rw [e]
    exact q
  · refine ifT (by simp [hy]) ?_
    refine ⟨fun σ' H'' => ∃ m', m' < y.natAbs ∧ ∃ x y : Int, σ' = [some (.int x), some (.int y)] ∧ H'' = H' ∧ Int.gcd x y = Int.gcd a b ∧ m' = y.natAbs, fun _ _ h => h, ?_⟩
    refine ⟨_, rfl, _, rfl, _, rfl, _, _, rfl, rfl, hy, ?_⟩
    exact ⟨_, _, rfl, _, fmod_small x y hy, y, _, rfl, rfl, by rw [gcd_step, hg], rfl⟩
end
end Dk
/-! the fractions' defs -/
namespace Dk
open PySem PySem.Spec PyProof.Rows L2
local macro_rules | `(tactic| walk_at "rd") => `(tactic| repeat (first | refine ⟨_, rfl, ?_⟩ | refine ⟨_, _, rfl, rfl, ?_⟩ | refine iteT ?_ | refine iteF ?_ | refine ⟨_, _, _, _, rfl, rfl, SqT.of (by assumption), rfl, ?_⟩ | refine ⟨rfl, ?_⟩ | refine ⟨_, _, rfl, lenT (by assumption), ?_⟩ | refine ⟨_, _, rfl, lenL (by assumption), ?_⟩ | refine ⟨⟨_, SqL.of (by assumption)⟩, ?_⟩ | refine ⟨_, _, rfl, ?_⟩))
theorem sc_is_ratio : FnScope ["thing"] ["thing"] (defScope s_is_ratio) := ⟨rfl, rfl, rfl, by decide +kernel, rfl, by decide +kernel, by decide +kernel⟩
theorem sc_plus : FnScope ["one", "other"] ["one", "other"] (defScope s_plus) := ⟨rfl, rfl, rfl, by decide +kernel, rfl, by decide +kernel, by decide +kernel⟩
theorem sc_minus : FnScope ["one", "other"] ["one", "other"] (defScope s_minus) := ⟨rfl, rfl, rfl, by decide +kernel, rfl, by decide +kernel, by decide +kernel⟩
theorem sc_under : FnScope ["one", "other"] ["one", "other"] (defScope s_under) := ⟨rfl, rfl, rfl, by decide +kernel, rfl, by decide +kernel, by decide +kernel⟩
theorem sc_level : FnScope ["fractions", "bottom", "one"] ["fractions"] (defScope s_level) := ⟨rfl, rfl, rfl, by decide +kernel, rfl, by decide +kernel, by decide +kernel⟩
theorem sc_total : FnScope ["fractions", "tops", "bottom"] ["fractions"] (defScope s_total) := ⟨rfl, rfl, rfl, by decide +kernel, rfl, by decide +kernel, by decide +kernel⟩
section
variable {P : Program} {w : World} {K : PySem.W.Frag} {mg : Str → Option Value} {base : Heap}
theorem gcd_pos {t b : Int} (hb : 0 < b) : 0 < (Int.gcd t b : Int) := by
  have : Int.gcd t b ≠ 0 := fun h => by rw [Int.gcd_eq_zero_iff] at h; omega
  omega
theorem gcd_le {t b : Int} (hb : 0 < b) : (Int.gcd t b : Int) ≤ b := Int.le_of_dvd hb (Int.gcd_dvd_right t b)
theorem cal_ratio (F : Fn K mg "ratio" s_ratio) (B : Blt mg) (c_is_whole : CalX P w K mg base 1 "is_whole" spIsWhole) (c_divisor : CalX P w K mg base 1 "divisor" spDivisor) : CalX P w K mg base 2 "ratio" spRatio := by
  refine calx F sc_ratio (fun _ _ _ _ _ _ us hl => match us, hl with | [_, _], _ => rfl) (fun vs H Q E h => by obtain ⟨t, b, rfl, _⟩ := h; rfl) ?_
  intro f cdv A outer s H vs Q E hr hT hx hu h
  refine ⟨_, (pss_cons (ps_if (PW.pt (pw_or (pt_not (pt_val (pe_cx c_is_whole hr (by decide) rfl hx (pa_cons (pv 0) pa_nil)))) (pw_or (pt_not (pt_val (pe_cx c_is_whole hr (by decide) rfl hx (pa_cons (pv 1) pa_nil)))) (pw_or1 (pt_cmpR op_eq (pv 1) pe_int (nomark _)))))) pss_never pss_nil)
      (pss_cons (ps_set (i := 2) sc_ratio.nd rfl (Or.inl rfl) (pe_cx c_divisor hr (by decide) rfl hx (pa_cons (pv 0) (pa_cons (pv 1) pa_nil))))
      (pss_cons (ps_if (pt_cmpR op_lt (pv 1) pe_int (nomark _)) pss_never pss_nil)
      (pss_one (ps_ret (pe_tup (pa_cons (pe_op op_fdiv (pv 0) (pv 2)) (pa_cons (pe_op op_fdiv (pv 1) (pv 2)) pa_nil)))))))), ?_⟩
  obtain ⟨t, b, rfl, hb, q⟩ := h
  have g1 := gcd_pos (t := t) hb.1
  have g2 := gcd_le (t := t) hb.1
  refine ⟨_, rfl, _, rfl, _, rfl, ?_⟩
  refine iteF ⟨_, rfl, _, rfl, _, rfl, ?_⟩
  refine iteF ⟨_, rfl, rfl, _, rfl, ?_⟩
  refine ifF (by simp; omega) ?_
  refine ⟨_, rfl, _, rfl, _, _, rfl, ?_⟩
  refine ⟨_, rfl, _, _, rfl, rfl, _, rfl, ?_⟩
  refine ifF (by simp; omega) ?_
  refine ⟨_, rfl, _, rfl, _, _, rfl, rfl, ⟨g1, by omega⟩, _, rfl, _, rfl, _, _, rfl, rfl, ⟨g1, by omega⟩, by show 2 ≤ sizeLine; decide, fun p hp => ?_⟩
  exact q _ _ (same_upd hp) ⟨p, rfl, upd_same⟩
def spIsRatio : Sp := fun vs H Q _ => ∃ x a, vs = [x] ∧ IsF H x a ∧ Q (.bl (isFracF a)) H
def spBin (g : Frac → Frac → Frac) : Sp := fun vs H Q _ => ∃ x y a b, vs = [x, y] ∧ IsF H x a ∧ IsF H y b ∧ Sm a ∧ Sm b ∧ ∀ v H', Same H H' → IsF H' v (g a b) → Q v H'
def spUnder : Sp := fun vs H Q _ => ∃ x y a b, vs = [x, y] ∧ IsF H x a ∧ IsF H y b ∧ Sm a ∧ Sm b ∧ Q (.bl (underF a b)) H
theorem sm_mul {a b : Int} (h1 : 0 < a) (h2 : a < 32768) (h3 : 0 < b) (h4 : b < 32768) : 0 < a * b ∧ a * b < 2 ^ 30 := by
  refine ⟨Int.mul_pos h1 h3, ?_⟩
  have : a * b ≤ 32767 * 32767 := Int.mul_le_mul (by omega) (by omega) (by omega) (by omega)
  omega
theorem cal_plus (F : Fn K mg "plus" s_plus) (B : Blt mg) (c_ratio : CalX P w K mg base 2 "ratio" spRatio) : CalX P w K mg base 3 "plus" (spBin plusF) := by
  refine calx F sc_plus (fun _ _ _ _ _ _ us hl => match us, hl with | [_, _], _ => rfl) (fun vs H Q E h => by obtain ⟨x, y, a, b, rfl, _⟩ := h; rfl) ?_
  intro f cdv A outer s H vs Q E hr hT hx hu h
  refine ⟨_, (pss_one (ps_ret (pe_cx c_ratio hr (by decide) rfl hx (pa_cons (pe_op op_add (pe_op op_mul (pe_ix ix_tup (pv 0) pe_int (fun _ _ => rfl)) (pe_ix ix_tup (pv 1) pe_int (fun _ _ => rfl))) (pe_op op_mul (pe_ix ix_tup (pv 1) pe_int (fun _ _ => rfl)) (pe_ix ix_tup (pv 0) pe_int (fun _ _ => rfl)))) (pa_cons (pe_op op_mul (pe_ix ix_tup (pv 0) pe_int (fun _ _ => rfl)) (pe_ix ix_tup (pv 1) pe_int (fun _ _ => rfl))) pa_nil))))), ?_⟩
  obtain ⟨_, _, a, b, rfl, ⟨p, rfl, hp⟩, ⟨r, rfl, hq⟩, sa, sb, q⟩ := h
  walk_at "rd"
  refine ⟨.inr ⟨by have := sb.1; omega, by have := sb.2.1; omega⟩, ?_⟩
  walk_at "rd"
  refine ⟨.inr ⟨by have := sa.1; omega, by have := sa.2.1; omega⟩, ?_⟩
  walk_at "rd"
  refine ⟨.inr ⟨by have := sb.1; omega, by have := sb.2.1; omega⟩, ?_⟩
  exact ⟨_, _, rfl, sm_mul sa.1 sa.2.1 sb.1 sb.2.1, q⟩
theorem cal_minus (F : Fn K mg "minus" s_minus) (B : Blt mg) (c_ratio : CalX P w K mg base 2 "ratio" spRatio) : CalX P w K mg base 3 "minus" (spBin minusF) := by
  refine calx F sc_minus (fun _ _ _ _ _ _ us hl => match us, hl with | [_, _], _ => rfl) (fun vs H Q E h => by obtain ⟨x, y, a, b, rfl, _⟩ := h; rfl) ?_
  intro f cdv A outer s H vs Q E hr hT hx hu h
  refine ⟨_, (pss_one (ps_ret (pe_cx c_ratio hr (by decide) rfl hx (pa_cons (pe_op op_sub (pe_op op_mul (pe_ix ix_tup (pv 0) pe_int (fun _ _ => rfl)) (pe_ix ix_tup (pv 1) pe_int (fun _ _ => rfl))) (pe_op op_mul (pe_ix ix_tup (pv 1) pe_int (fun _ _ => rfl)) (pe_ix ix_tup (pv 0) pe_int (fun _ _ => rfl)))) (pa_cons (pe_op op_mul (pe_ix ix_tup (pv 0) pe_int (fun _ _ => rfl)) (pe_ix ix_tup (pv 1) pe_int (fun _ _ => rfl))) pa_nil))))), ?_⟩
  obtain ⟨_, _, a, b, rfl, ⟨p, rfl, hp⟩, ⟨r, rfl, hq⟩, sa, sb, q⟩ := h
  walk_at "rd"
  refine ⟨.inr ⟨by have := sb.1; omega, by have := sb.2.1; omega⟩, ?_⟩
  walk_at "rd"
  refine ⟨.inr ⟨by have := sa.1; omega, by have := sa.2.1; omega⟩, ?_⟩
  walk_at "rd"
  refine ⟨.inr ⟨by have := sb.1; omega, by have := sb.2.1; omega⟩, ?_⟩
  exact ⟨_, _, rfl, sm_mul sa.1 sa.2.1 sb.1 sb.2.1, q⟩
theorem cal_under (F : Fn K mg "under" s_under) (B : Blt mg) : CalX P w K mg base 1 "under" spUnder := by
  refine calx F sc_under (fun _ _ _ _ _ _ us hl => match us, hl with | [_, _], _ => rfl) (fun vs H Q E h => by obtain ⟨x, y, a, b, rfl, _⟩ := h; rfl) ?_
  intro f cdv A outer s H vs Q E hr hT hx hu h
  refine ⟨_, (pss_one (ps_ret (pe_cmpR op_lt (pe_op op_mul (pe_ix ix_tup (pv 0) pe_int (fun _ _ => rfl)) (pe_ix ix_tup (pv 1) pe_int (fun _ _ => rfl))) (pe_op op_mul (pe_ix ix_tup (pv 1) pe_int (fun _ _ => rfl)) (pe_ix ix_tup (pv 0) pe_int (fun _ _ => rfl))) (nomark _)))), ?_⟩
  obtain ⟨_, _, a, b, rfl, ⟨p, rfl, hp⟩, ⟨r, rfl, hq⟩, sa, sb, q⟩ := h
  walk_at "rd"
  refine ⟨.inr ⟨by have := sb.1; omega, by have := sb.2.1; omega⟩, ?_⟩
  walk_at "rd"
  refine ⟨.inr ⟨by have := sa.1; omega, by have := sa.2.1; omega⟩, ?_⟩
  walk_at "rd"
  exact q
theorem cal_is_ratio (F : Fn K mg "is_ratio" s_is_ratio) (B : Blt mg) (c_is_whole : CalX P w K mg base 1 "is_whole" spIsWhole) (c_divisor : CalX P w K mg base 1 "divisor" spDivisor) : CalX P w K mg base 2 "is_ratio" spIsRatio := by
  refine calx F sc_is_ratio (fun _ _ _ _ _ _ us hl => match us, hl with | [_], _ => rfl) (fun vs H Q E h => by obtain ⟨x, a, rfl, _⟩ := h; rfl) ?_
  intro f cdv A outer s H vs Q E hr hT hx hu h
  refine ⟨_, (pss_cons (ps_if (PW.pt (pw_or (pt_not (pt_val (pe_callB call_isi (by rfl) B.isinstance (by decide +kernel) (pa_cons (pv 0) (pa_cons (pe_bltn (v := .ty "tuple") (u := .type "tuple") rfl B.tuple (by decide +kernel) rfl) pa_nil))))) (pw_or1 (pt_cmpR op_ne (pe_callB call_len (by rfl) B.len (by decide +kernel) (pa_cons (pv 0) pa_nil)) pe_int (nomark _))))) pss_never pss_nil)
      (pss_cons (ps_if (PW.pt (pw_or (pt_not (pt_val (pe_cx c_is_whole hr (by decide) rfl hx (pa_cons (pe_ix ix_tup (pv 0) pe_int (fun _ _ => rfl)) pa_nil)))) (pw_or1 (pt_not (pt_val (pe_cx c_is_whole hr (by decide) rfl hx (pa_cons (pe_ix ix_tup (pv 0) pe_int (fun _ _ => rfl)) pa_nil))))))) pss_never pss_nil)
      (pss_one (ps_ret (pe_and (pe_cmpR op_gt (pe_ix ix_tup (pv 0) pe_int (fun _ _ => rfl)) pe_int (nomark _)) (pe_one (pe_cmpR op_eq (pe_cx c_divisor hr (by decide) rfl hx (pa_cons (pe_ix ix_tup (pv 0) pe_int (fun _ _ => rfl)) (pa_cons (pe_ix ix_tup (pv 0) pe_int (fun _ _ => rfl)) pa_nil))) pe_int (nomark _)))))))), ?_⟩
  obtain ⟨_, a, rfl, ⟨p, rfl, hp⟩, q⟩ := h
  walk_at "rd"
  refine ⟨_, _, _, _, _, rfl, .ty _, .base (.tup hp), kit_ty (r := true) (by decide +kernel), true, rfl, ?_⟩
  walk_at "rd"
  refine ite2 (fun h1 => ?_) (fun h1 => ?_)
  · walk_at "rd"
    have e : isFracF a = decide (V.int (Int.gcd a.1 a.2 : Int) = V.int 1) := by
      unfold isFracF
      rw [h1]
      simp
      omega
    rw [← e]
    exact q
  · have e : isFracF a = false := by unfold isFracF; simp at h1; simp; omega
    rw [e] at q
    exact q
/-- the least common multiple, reckoned from the left -/
def lcmF (b : Int) : List Frac → Int
  | [] => b
  | f :: fs => lcmF (b * f.2 / (Int.gcd b f.2 : Int)) fs
def topsF (M : Int) (fs : List Frac) : List Int := fs.map fun f => f.1 * (M / f.2)
def totalF (fs : List Frac) : Frac := mkF (topsF (lcmF 1 fs) fs).sum (lcmF 1 fs)
/-- all bottoms go into L -/
def Und (L : Int) (fs : List Frac) : Prop := (0 < L ∧ L < 16384 ∧ fs.length ≤ 1000) ∧ ∀ f ∈ fs, 0 < f.2 ∧ f.2 ∣ L
theorem lcm_step {L b c : Int} (hL : 0 < L) (hb : 0 < b) (hc : 0 < c) (h1 : b ∣ L) (h2 : c ∣ L) : 0 < b * c / (Int.gcd b c : Int) ∧ b * c / (Int.gcd b c : Int) ∣ L ∧ b ∣ b * c / (Int.gcd b c : Int) ∧ c ∣ b * c / (Int.gcd b c : Int) := by
  have e : b * c / (Int.gcd b c : Int) = (Int.lcm b c : Int) := by
    have h := Int.gcd_mul_lcm b c
    have g := gcd_pos (t := b) hc
    have : (b * c : Int) = (Int.gcd b c : Int) * (Int.lcm b c : Int) := by
      rw [← Int.natCast_mul, h, Int.natCast_mul, Int.natAbs_of_nonneg (by omega), Int.natAbs_of_nonneg (by omega)]
    rw [this, Int.mul_ediv_cancel_left _ (by omega)]
  rw [e]
  refine ⟨?_, Int.coe_lcm_dvd h1 h2, Int.dvd_lcm_left b c, Int.dvd_lcm_right b c⟩
  have : Int.lcm b c ≠ 0 := fun h => by
    rcases Int.lcm_eq_zero_iff.mp h with h | h <;> omega
  omega
theorem lcmF_ok {L : Int} : ∀ {fs : List Frac} {b : Int}, 0 < L → 0 < b → b ∣ L → (∀ f ∈ fs, 0 < f.2 ∧ f.2 ∣ L) → 0 < lcmF b fs ∧ lcmF b fs ∣ L ∧ b ∣ lcmF b fs ∧ ∀ f ∈ fs, f.2 ∣ lcmF b fs
  | [], b, _, hb, h, _ => ⟨hb, h, Int.dvd_refl _, fun _ h => nomatch h⟩
  | f :: fs, b, hL, hb, h, hf => by
    obtain ⟨h0, h1⟩ := hf f (by simp)
    obtain ⟨a1, a2, a3, a4⟩ := lcm_step hL hb h0 h h1
    obtain ⟨b1, b2, b3, b4⟩ := lcmF_ok hL a1 a2 (fun g hg => hf g (List.mem_cons_of_mem _ hg))
    refine ⟨b1, b2, Int.dvd_trans a3 b3, fun g hg => ?_⟩
    rcases List.mem_cons.mp hg with rfl | hg
    · exact Int.dvd_trans a4 b3
    · exact b4 g hg
theorem paired_get {α β : Type} {R : α → β → Prop} : ∀ {xs : List α} {ys : List β} {i : Nat} {x : α}, Paired R xs ys → xs[i]? = some x → ∃ y, ys[i]? = some y ∧ R x y
  | _, _, _, _, .nil, h => by simp at h
  | _, _, 0, _, .cons r _, h => by
    simp at h
    subst h
    exact ⟨_, rfl, r⟩
  | _, _, i + 1, _, .cons _ t, h => by
    simp at h
    obtain ⟨y, e, r⟩ := paired_get t h
    exact ⟨y, by simp [e], r⟩
theorem take_snoc {α : Type} {xs : List α} {i : Nat} {x : α} (h : xs[i]? = some x) : xs.take (i + 1) = xs.take i ++ [x] := by
  rw [List.take_add_one, h]; rfl
theorem mem_at {α : Type} {xs : List α} {i : Nat} {x : α} (h : xs[i]? = some x) : x ∈ xs := List.mem_of_getElem? h
theorem lcmF_snoc (f : Frac) : ∀ (fs : List Frac) (b : Int), lcmF b (fs ++ [f]) = lcmF b fs * f.2 / (Int.gcd (lcmF b fs) f.2 : Int)
  | [], _ => rfl
  | g :: fs, b => by
    show lcmF _ (fs ++ [f]) = _
    rw [lcmF_snoc f fs]
    rfl
/-- a list of fractions at v -/
def IsFs (H : Hp) (v : V) (fs : List Frac) : Prop := ∃ p vs, v = .ref p ∧ H p = some (.lst vs) ∧ Paired (IsF H) vs fs
def spLevel : Sp := fun vs H Q _ => ∃ x fs L, vs = [x] ∧ IsFs H x fs ∧ Und L fs ∧ ∀ p tl H', Same H H' → H' p = some (.tup [.ref tl, .int (lcmF 1 fs)]) → H' tl = some (.lst ((topsF (lcmF 1 fs) fs).map V.int)) → Q (.ref p) H'
def spTotal : Sp := fun vs H Q _ => ∃ x fs L, vs = [x] ∧ IsFs H x fs ∧ Und L fs ∧ ∀ v H', Same H H' → IsF H' v (totalF fs) → Q v H'
theorem cal_level (F : Fn K mg "level" s_level) (B : Blt mg) (c_divisor : CalX P w K mg base 1 "divisor" spDivisor) : CalX P w K mg base 2 "level" spLevel := by
  refine calx F sc_level (fun _ _ _ _ _ _ us hl => match us, hl with | [_], _ => rfl) (fun vs H Q E h => by obtain ⟨x, a, _, rfl, _⟩ := h; rfl) ?_
  intro f cdv A outer s H vs Q E hr hT hx hu h
  refine ⟨_, (pss_cons (ps_set (i := 1) sc_level.nd rfl (Or.inr rfl) pe_int)
      (pss_cons (ps_for (passes_of rfl) rfl (pi_list (pv 0)) (pg_name (i := 2) sc_level.nd rfl (Or.inl rfl))
        (pss_one (ps_set (i := 1) sc_level.nd rfl (Or.inr rfl) (pe_op op_fdiv (pe_op op_mul (pv 1) (pe_ix ix_tup (pv 2) pe_int (fun _ _ => rfl))) (pe_cx c_divisor hr (by decide) rfl hx (pa_cons (pv 1) (pa_cons (pe_ix ix_tup (pv 2) pe_int (fun _ _ => rfl)) pa_nil)))))))
      (pss_one (ps_ret (pe_tup (pa_cons (pe_lc (own := [("one", 2)]) rfl sc_level.nd (pi_list (pv 0)) (blkOk_by (own := [("one", 2)]) (N := ["fractions", "bottom", "one"]) (sc := defScope s_level) (by decide +kernel)) (fun _ _ _ _ _ => (pg_name (i := 2) sc_level.nd rfl (Or.inl rfl))) (fun _ _ _ _ _ => pts_nil) (fun _ _ _ _ _ => (pe_op op_mul (pe_ix (show IxR _ (rIxT K) from ix_tup) (pv 2) pe_int (fun _ _ => rfl)) (pe_op op_fdiv (pv 1) (pe_ix (show IxR _ (rIxT K) from ix_tup) (pv 2) pe_int (fun _ _ => rfl)))))) (pa_cons (pv 1) pa_nil))))))), ?_⟩
  obtain ⟨_, fs, L, rfl, ⟨p, xs, rfl, hp, hfs⟩, ⟨hL, hU⟩, q⟩ := h
  have hlen := hfs.length
  walk_at "rd"
  refine for_list (xs := xs) (fun i σ H' => H = H' ∧ ∃ o, σ = [some (.ref p), some (.int (lcmF 1 (fs.take i))), o]) ⟨rfl, _, rfl⟩ (fun i σ H' _ h => by rw [← h.1]; exact SqL.of hp) ?_ ?_
  · rintro i x σ H' hi ⟨rfl, o, rfl⟩
    obtain ⟨fr, hfr, t, rfl, ht⟩ := paired_get hfs hi
    have hm := hU fr (mem_at hfr)
    have hk := lcmF_ok (fs := fs.take i) hL.1 (by decide) (Int.one_dvd L) (fun g hg => hU g (List.mem_of_mem_take hg))
    have h1 := Int.le_of_dvd hL.1 hk.2.1
    have h2 := Int.le_of_dvd hL.1 hm.2
    walk_at "rd"
    refine ⟨.inr ⟨by omega, by omega⟩, ?_⟩
    walk_at "rd"
    refine ⟨⟨gcd_pos hm.1, by have := gcd_le (t := lcmF 1 (fs.take i)) hm.1; omega⟩, ?_⟩
    refine ⟨rfl, some (.ref t), ?_⟩
    rw [take_snoc hfr, lcmF_snoc]
    rfl
  · rintro σ H' ⟨rfl, o, rfl⟩
    rw [hlen, List.take_length]
    have hk := lcmF_ok (fs := fs) hL.1 (by decide) (Int.one_dvd L) hU
    have h1 := Int.le_of_dvd hL.1 hk.2.1
    walk_at "rd"
    refine fun D hD => lc_list (xs := xs) (fun i H' => ∃ Hs, Same H Hs ∧ H' = upd Hs D (.lst ((topsF (lcmF 1 fs) (fs.take i)).map V.int)) ∧ Hs D = none) ⟨H, Same.refl _, rfl, hD⟩ ?_ ?_ ?_
    · rintro i H' _ ⟨Hs, hs, rfl, hn⟩
      exact SqL.of (by rw [upd_ne (ne_of_none hp hD)]; exact hs _ _ hp)
    · rintro i x H' hi ⟨Hs, hs, rfl, hn⟩
      obtain ⟨fr, hfr, t, rfl, ht⟩ := paired_get hfs hi
      have hm := hU fr (mem_at hfr)
      have h2 := Int.le_of_dvd hL.1 hm.2
      have ht' : (upd Hs D (.lst ((topsF (lcmF 1 fs) (fs.take i)).map V.int))) t = some (.tup [.int fr.1, .int fr.2]) := by rw [upd_ne (ne_of_none ht hD)]; exact hs _ _ ht
      have h3 : lcmF 1 fs / fr.2 ≤ lcmF 1 fs := Int.ediv_le_self _ (by omega)
      have h4 : 0 ≤ lcmF 1 fs / fr.2 := Int.ediv_nonneg (by omega) (by omega)
      walk_at "rd"
      refine ⟨⟨hm.1, by omega⟩, ?_⟩
      walk_at "rd"
      refine ⟨.inr ⟨by omega, by omega⟩, ?_⟩
      refine ⟨_, upd_same, by simp only [List.length_map, topsF, List.length_take]; rw [sizeLine_eq]; omega, Hs, hs, ?_, hn⟩
      rw [upd_upd, take_snoc hfr]
      simp [topsF]
    · rintro H' ⟨Hs, hs, rfl, hn⟩
      rw [hlen, List.take_length]
      have s1 : Same H (upd Hs D (.lst ((topsF (lcmF 1 fs) fs).map V.int))) := hs.trans (same_upd hn)
      walk_at "rd"
      refine ⟨by show 2 ≤ sizeLine; decide, fun t ht => ?_⟩
      exact q t D _ (s1.trans (same_upd ht)) upd_same (by rw [upd_ne (ne_of_none upd_same ht)]; exact upd_same)
theorem cal_total (F : Fn K mg "total" s_total) (B : Blt mg) (c_ratio : CalX P w K mg base 2 "ratio" spRatio) (c_level : CalX P w K mg base 2 "level" spLevel) : CalX P w K mg base 3 "total" spTotal := by
  refine calx F sc_total (fun _ _ _ _ _ _ us hl => match us, hl with | [_], _ => rfl) (fun vs H Q E h => by obtain ⟨x, a, _, rfl, _⟩ := h; rfl) ?_
  intro f cdv A outer s H vs Q E hr hT hx hu h
  refine ⟨_, (pss_cons (ps_asg (pe_cx c_level hr (by decide) rfl hx (pa_cons (pv 0) pa_nil)) (pg_tup rfl (pgs_cons (pg_name (i := 1) sc_total.nd rfl (Or.inl rfl)) (pgs_cons (pg_name (i := 2) sc_total.nd rfl (Or.inl rfl)) pgs_nil))))
      (pss_one (ps_ret (pe_cx c_ratio hr (by decide) rfl hx (pa_cons (pe_callB (cr_sum rfl) (by rfl) B.sum (by decide +kernel) (pa_cons (pv 1) pa_nil)) (pa_cons (pv 2) pa_nil)))))), ?_⟩
  obtain ⟨_, fs, L, rfl, ⟨p, xs, rfl, hp, hfs⟩, ⟨hL, hU⟩, q⟩ := h
  have hk := lcmF_ok (fs := fs) hL.1 (by decide) (Int.one_dvd L) hU
  have h1 := Int.le_of_dvd hL.1 hk.2.1
  refine ⟨_, rfl, _, fs, L, rfl, ⟨p, xs, rfl, hp, hfs⟩, ⟨hL, hU⟩, fun t tl H' hs ht htl => ?_⟩
  refine ⟨_, _, rfl, SqT.of ht, rfl, ?_⟩
  refine ⟨_, _, rfl, _, _, rfl, rfl, ?_⟩
  refine ⟨_, rfl, _, _, rfl, SqL.of htl, ?_⟩
  refine ⟨_, rfl, ?_⟩
  refine ⟨_, _, rfl, ⟨hk.1, by omega⟩, fun v H'' hs2 hv => q _ _ (hs.trans hs2) hv⟩
end
end Dk
/-! what the defs compute, in plain Lean; how a heap holds it; the facts of the ground -/
namespace Dk
open PySem PySem.Spec PyProof.Rows L2

abbrev sv (l : Wd) : V := .str (SX.S l)
/-! ### refusals -/
inductive Rf where
  | num | name | chance | share | row
  | room (z : Wd) | door (z : Wd) | plan (k : Option Nat)
/-- where the classes stand -/
structure Ad where
  (num name chance share text row room door plan hallE : Addr)
  (doorC sure mixed toss hall desk : Addr)
  (one none_ : Addr)
def Rf.cls (A : Ad) : Rf → Addr
  | .num => A.num | .name => A.name | .chance => A.chance | .share => A.share | .row => A.row
  | .room _ => A.room | .door _ => A.door | .plan _ => A.plan
def Rf.at_ : Rf → Int
  | .num => 0 | .name => 1 | .chance => 2 | .share => 3 | .row => 5 | .room _ => 6 | .door _ => 7 | .plan _ => 8
def Rf.val : Rf → V
  | .room z => sv z | .door z => sv z | .plan (some k) => .int (k : Nat) | _ => .non
def Rf.fld : Rf → Option Str
  | .row => some "row" | .room _ => some "room" | .door _ => some "door" | .plan _ => some "room" | _ => none
def RepE (A : Ad) (e : Rf) (cls : Value) (d : Option Addr) (H : Hp) : Prop :=
  cls = .ref (e.cls A) ∧ ((e.fld = none ∧ d = none) ∨ ∃ f dd, e.fld = some f ∧ d = some dd ∧ H dd = some (.xd [(f, e.val)]))
/-- e leaves, the heap's things as they were -/
def Rz (A : Ad) (H : Hp) (E : XK) (e : Rf) : Prop := ∀ cls d H', Same H H' → RepE A e cls d H' → E cls d H'
theorem Rz.mono {A : Ad} {H H1 : Hp} {E : XK} {e : Rf} (s : Same H H1) (h : Rz A H E e) : Rz A H1 E e := fun cls d H' s' r => h cls d H' (s.trans s') r

/-! ### words and numbers -/
def isLet (c : Nat) : Bool := decide (97 ≤ c) && decide (c ≤ 122)
def isFig (c : Nat) : Bool := decide (48 ≤ c) && decide (c ≤ 57)
def isWordS (l : Wd) : Bool := !decide (l.length < 1) && (!decide (8 < l.length) && l.all isLet)
def wholeOf (l : Wd) : Option Int :=
  if decide (l.length < 1) || decide (40 < l.length) then none
  else if !l.all isFig then none
  else if decide (l.head? = some 48) && decide (1 < l.length) then none
  else some ((NumText.digitsVal l : Nat) : Int)
def numSplit (l : Wd) : Wd × Bool × Wd := match TL.par [47] [] l with | some (p, q) => (p, true, q) | none => (l, false, [])
def numEnd (below stroke : Bool) : Option Int → Option Int → Option Frac
  | some t, some b => if below && decide (t = 0) then none else if stroke && (decide (b < 2) || !decide (Int.gcd t b = 1)) then none else some (if below then 0 - t else t, b)
  | _, _ => none
def numberOf (l : Wd) : Option Frac :=
  let below := decide ((numSplit l).1.take 1 = [45])
  numEnd below (numSplit l).2.1 (wholeOf (if below then (numSplit l).1.drop 1 else (numSplit l).1)) (if (numSplit l).2.1 then wholeOf (numSplit l).2.2 else some 1)
def intW (i : Int) : Wd := TL.tl (Str.ofString (toString i))
def numText (f : Frac) : Wd := if f.2 = 1 then intW f.1 else intW f.1 ++ ([47] ++ intW f.2)

/-! ### things -/
abbrev Pairs := List (Wd × Frac)
structure PDoor where
  name : Wd
  pay : Frac
  pairs : Pairs
abbrev PRoom := Wd × List PDoor
structure PDesk where
  share : Frac
  rooms : List PRoom
  goals : Nat
abbrev Offer := Wd × Frac × List (Nat × Frac)
structure PHall where
  share : Frac
  titles : List Wd
  given : List (List Offer)
def IsWs (H : Hp) (v : V) (ws : List Wd) : Prop := ∃ p, v = .ref p ∧ H p = some (.lst (ws.map sv))
def IsPair (H : Hp) (v : V) (x : Wd × Frac) : Prop := ∃ p fv, v = .ref p ∧ H p = some (.tup [sv x.1, fv]) ∧ IsF H fv x.2
def IsPairs (H : Hp) (v : V) (ps : Pairs) : Prop := ∃ p vs, v = .ref p ∧ H p = some (.lst vs) ∧ Paired (IsPair H) vs ps
def IsDoor (A : Ad) (H : Hp) (v : V) (d : PDoor) : Prop := ∃ a C dx pv qv, v = .ref a ∧ (C = A.mixed ∨ C = A.toss) ∧ H a = some (.ins C dx [("name", sv d.name), ("pay", pv), ("pairs", qv)]) ∧ IsF H pv d.pay ∧ IsPairs H qv d.pairs
def IsDoors (A : Ad) (H : Hp) (v : V) (ds : List PDoor) : Prop := ∃ p vs, v = .ref p ∧ H p = some (.lst vs) ∧ Paired (IsDoor A H) vs ds
def IsRoom (A : Ad) (H : Hp) (v : V) (r : PRoom) : Prop := ∃ p dv, v = .ref p ∧ H p = some (.tup [sv r.1, dv]) ∧ IsDoors A H dv r.2
def IsRooms (A : Ad) (H : Hp) (v : V) (rs : List PRoom) : Prop := ∃ p vs, v = .ref p ∧ H p = some (.lst vs) ∧ Paired (IsRoom A H) vs rs
def IsWay (H : Hp) (v : V) (x : Nat × Frac) : Prop := ∃ p fv, v = .ref p ∧ H p = some (.tup [.int (x.1 : Nat), fv]) ∧ IsF H fv x.2
def IsWays (H : Hp) (v : V) (ws : List (Nat × Frac)) : Prop := ∃ p vs, v = .ref p ∧ H p = some (.lst vs) ∧ Paired (IsWay H) vs ws
def IsOffer (H : Hp) (v : V) (o : Offer) : Prop := ∃ p fv wv, v = .ref p ∧ H p = some (.tup [sv o.1, fv, wv]) ∧ IsF H fv o.2.1 ∧ IsWays H wv o.2.2
def IsOffers (H : Hp) (v : V) (os : List Offer) : Prop := ∃ p vs, v = .ref p ∧ H p = some (.lst vs) ∧ Paired (IsOffer H) vs os
/-- a hall at v -/
def IsHall (A : Ad) (H : Hp) (v : V) (h : PHall) : Prop := ∃ a dx fv tl gl gs, v = .ref a ∧ H a = some (.ins A.hall dx [("share", fv), ("titles", .ref tl), ("given", .ref gl)]) ∧ IsF H fv h.share ∧
  H tl = some (.lst (h.titles.map sv)) ∧ H gl = some (.lst gs) ∧ Paired (IsOffers H) gs h.given
section
variable {A : Ad} {H H' : Hp} {v : V}
theorem IsWs.mono {x} (s : Same H H') (h : IsWs H v x) : IsWs H' v x := let ⟨p, e, q⟩ := h; ⟨p, e, s _ _ q⟩
theorem IsPair.mono {x} (s : Same H H') (h : IsPair H v x) : IsPair H' v x := let ⟨p, fv, e, q, r⟩ := h; ⟨p, fv, e, s _ _ q, r.mono s⟩
theorem IsPairs.mono {x} (s : Same H H') (h : IsPairs H v x) : IsPairs H' v x := let ⟨p, fv, e, q, r⟩ := h; ⟨p, fv, e, s _ _ q, r.mono fun _ _ => IsPair.mono s⟩
theorem IsDoor.mono {x} (s : Same H H') (h : IsDoor A H v x) : IsDoor A H' v x := let ⟨a, C, dx, pv, qv, e, c, q, r, t⟩ := h; ⟨a, C, dx, pv, qv, e, c, s _ _ q, r.mono s, t.mono s⟩
theorem IsDoors.mono {x} (s : Same H H') (h : IsDoors A H v x) : IsDoors A H' v x := let ⟨p, fv, e, q, r⟩ := h; ⟨p, fv, e, s _ _ q, r.mono fun _ _ => IsDoor.mono s⟩
theorem IsRoom.mono {x} (s : Same H H') (h : IsRoom A H v x) : IsRoom A H' v x := let ⟨p, fv, e, q, r⟩ := h; ⟨p, fv, e, s _ _ q, r.mono s⟩
theorem IsRooms.mono {x} (s : Same H H') (h : IsRooms A H v x) : IsRooms A H' v x := let ⟨p, fv, e, q, r⟩ := h; ⟨p, fv, e, s _ _ q, r.mono fun _ _ => IsRoom.mono s⟩
theorem IsWay.mono {x} (s : Same H H') (h : IsWay H v x) : IsWay H' v x := let ⟨p, fv, e, q, r⟩ := h; ⟨p, fv, e, s _ _ q, r.mono s⟩
theorem IsWays.mono {x} (s : Same H H') (h : IsWays H v x) : IsWays H' v x := let ⟨p, fv, e, q, r⟩ := h; ⟨p, fv, e, s _ _ q, r.mono fun _ _ => IsWay.mono s⟩
theorem IsOffer.mono {x} (s : Same H H') (h : IsOffer H v x) : IsOffer H' v x := let ⟨p, fv, wv, e, q, r, t⟩ := h; ⟨p, fv, wv, e, s _ _ q, r.mono s, t.mono s⟩
theorem IsOffers.mono {x} (s : Same H H') (h : IsOffers H v x) : IsOffers H' v x := let ⟨p, fv, e, q, r⟩ := h; ⟨p, fv, e, s _ _ q, r.mono fun _ _ => IsOffer.mono s⟩
theorem IsHall.mono {x} (s : Same H H') (h : IsHall A H v x) : IsHall A H' v x := let ⟨a, dx, fv, tl, gl, gs, e, q, r, t, u, z⟩ := h; ⟨a, dx, fv, tl, gl, gs, e, s _ _ q, r.mono s, s _ _ t, s _ _ u, z.mono fun _ _ => IsOffers.mono s⟩
end
/-- what stands when x may change: x was none at the ground -/
theorem same_off {G H : Hp} {x : Addr} {o : HO} (s : Same G H) (n : G x = none) : Same G (upd H x o) := fun b u e => by
  rw [upd_ne (ne_of_none e n)]
  exact s b u e

/-! ### the facts of the ground -/
theorem sc_NoRow___init__ : FnScope ["self", "row"] ["self", "row"] (defScope s_NoRow___init__) := ⟨rfl, rfl, rfl, by decide +kernel, rfl, by decide +kernel, by decide +kernel⟩
theorem sc_NoRoom___init__ : FnScope ["self", "room"] ["self", "room"] (defScope s_NoRoom___init__) := ⟨rfl, rfl, rfl, by decide +kernel, rfl, by decide +kernel, by decide +kernel⟩
theorem sc_NoDoor___init__ : FnScope ["self", "door"] ["self", "door"] (defScope s_NoDoor___init__) := ⟨rfl, rfl, rfl, by decide +kernel, rfl, by decide +kernel, by decide +kernel⟩
theorem sc_NoPlan___init__ : FnScope ["self", "room"] ["self", "room"] (defScope s_NoPlan___init__) := ⟨rfl, rfl, rfl, by decide +kernel, rfl, by decide +kernel, by decide +kernel⟩
/-- an own exception without __init__ -/
structure EPl (K : PySem.W.Frag) (mg : Str → Option Value) (x : Str) (C : Addr) : Prop where
  g : mg x = some (.ref C)
  x : PySem.W.excIn K C [.type "ValueError", .type "Exception", .type "BaseException", .type "object"] "ValueError.__new__" = true
  k : PySem.W.keepIn K (.ref C) = true
  b : PySem.W.subIn K (.ref C) (.type "BaseException") = some true
  t : PySem.W.typeIn K (.ref C) = some (.type "type")
/-- an own exception with an __init__ of one field f -/
structure EFl (K : PySem.W.Frag) (mg : Str → Option Value) (x f qual : Str) (st : Stmt) (C : Addr) : Prop where
  g : mg x = some (.ref C)
  o : OexC K C
  xf : XfC K C
  nf : PySem.W.findIn K (.ref C) f = some none
  i : ∃ (fI : Addr) (fd : FuncData), PySem.W.findIn K (.ref C) "__init__" = some (some (.ref fI)) ∧ PySem.W.typeIn K (.ref fI) = some (.type "function") ∧ FunD K "__init__" qual (defArgs st) (defBody st) (defScope st) [] [] fI fd
/-- fields of our classes are no attributes of them -/
structure CF (K : PySem.W.Frag) (C : Addr) (fs : List Str) : Prop where
  c : Cls K C
  n : ∀ f ∈ fs, NoAttr K C f
structure Tx (K : PySem.W.Frag) (mg : Str → Option Value) (A : Ad) : Prop where
  NoNumber : EPl K mg "NoNumber" A.num
  NoName : EPl K mg "NoName" A.name
  NoChance : EPl K mg "NoChance" A.chance
  NoShare : EPl K mg "NoShare" A.share
  hallE_m : mg "HallError" = some (.ref A.hallE)
  hallE_c : ∃ mc, ClX.CRead K A.hallE mc ∧ PySem.W.findCls K (.ref A.hallE) mc "__init__" = some (.val (.builtin "ValueError.__init__"))
  NoRow : EFl K mg "NoRow" "row" "NoRow.__init__" s_NoRow___init__ A.row
  NoRoom : EFl K mg "NoRoom" "room" "NoRoom.__init__" s_NoRoom___init__ A.room
  NoDoor : EFl K mg "NoDoor" "door" "NoDoor.__init__" s_NoDoor___init__ A.door
  NoPlan : EFl K mg "NoPlan" "room" "NoPlan.__init__" s_NoPlan___init__ A.plan
  letters : ∃ u, mg "LETTERS" = some u ∧ RelV (sv letters) u
  figures : ∃ u, mg "FIGURES" = some u ∧ RelV (sv figures) u
  one_m : mg "ONE" = some (.ref A.one)
  one_l : ∀ H, SqL K H A.one (ones.map sv)
  none_m : mg "NONE" = some (.ref A.none_)
  none_l : ∀ H, SqL K H A.none_ (nones.map sv)
  sure : CF K A.sure ["name", "pay", "room"]
  mixed : CF K A.mixed ["name", "pay", "pairs"]
  toss : CF K A.toss ["name", "pay", "pairs"]
  hall : CF K A.hall ["share", "titles", "given"]
  desk : CF K A.desk ["share", "rooms", "marks"]
theorem rz_plain {A : Ad} {H H' : Hp} {E : XK} {e : Rf} {C : Addr} (h : Rz A H E e) (s : Same H H') (c : e.cls A = C) (f : e.fld = none) : E (.ref C) none H' := h _ _ _ s ⟨by rw [c], .inl ⟨f, rfl⟩⟩
theorem rz_fld {A : Ad} {H H' : Hp} {E : XK} {e : Rf} {C d : Addr} {f : Str} {v : V} (h : Rz A H E e) (s : Same H H') (c : e.cls A = C) (hf : e.fld = some f) (hv : e.val = v) (hd : H' d = some (.xd [(f, v)])) : E (.ref C) (some d) H' :=
  h _ _ _ s ⟨by rw [c], .inr ⟨f, d, hf, rfl, by rw [hv]; exact hd⟩⟩
/-- the raising of an own exception with a field -/
def RaX (P : Program) (w : World) (K : PySem.W.Frag) (mg : Str → Option Value) (base : Heap) (x : Str) (C : Addr) (sp : Sp) : Prop :=
  mg x = some (.ref C) ∧ OexC K C ∧ ∃ (fI : Addr) (fd : FuncData) (ps : List Str), PySem.W.findIn K (.ref C) "__init__" = some (some (.ref fI)) ∧ PySem.W.typeIn K (.ref fI) = some (.type "function") ∧ Binds K fd ps [] ∧ FnOk P w K mg base (L2.CX P w) 1 fI fd ps sp
def spXi (C : Addr) (f : Str) : Sp := fun vs H Q _ => ∃ a v, vs = [.ref a, v] ∧ H a = some (exo a C none) ∧ ∀ dx, H dx = none → dx ≠ a → Q .non (upd (upd H dx (exd dx [(f, v)])) a (exo a C (some dx)))
section
variable {P : Program} {w : World} {K : PySem.W.Frag} {mg : Str → Option Value} {base : Heap} {A : Ad}
theorem pmk_f {X : Cx} {x : Str} {C : Addr} {f : Str} {p pos : Pos} {e : Expr} {ta : TA} (R : RaX X.prog X.w X.K X.mg X.base x C (spXi C f)) (hr : Room 2 X.A) (hg : Gl X x) (ha : PA X [e] ta)
    (hdb : (x == ("__debug__" : Str)) = false := by decide) (he : starEach [e] X.env = (false, eval e X.env) :: starEach [] X.env := by rfl) (hpl : (backTo pos (starEach [] X.env)).any (·.1) = false := by rfl) :
    PMk X (.Call (.Name x p) [e] [] pos) (tMkO C (spXi C f) [] ta) := by
  obtain ⟨hm, T, fI, fd, ps, iC, tI, hb, F⟩ := R
  exact pmk_oex T iC tI F hr hb .nil passL hg hm ha hdb he hpl
theorem mkx {C : Addr} {f : Str} {v : V} {H1 : Hp} {Q : XK} (q : ∀ H' d, Same H1 H' → H' d = some (.xd [(f, v)]) → Q (.ref C) (some d) H') : [v].length ≤ 1000 ∧ ∀ a, H1 a = none → spXi C f (.ref a :: ([v] ++ [])) (upd H1 a (exo a C none))
    (fun v H2 => v = .non ∧ ∃ (d : Addr) (fs : List (Str × V)), H2 a = some (exo a C (some d)) ∧ H2 d = some (exd d fs) ∧ H1 d = none ∧ Q (.ref C) (some d) (upd (del H2 a) d (.xd fs))) (fun _ _ _ => False) := by
  refine ⟨by show 1 ≤ 1000; decide, fun a ha => ⟨a, v, rfl, upd_same, fun dx hn hne => ⟨rfl, dx, _, upd_same, by rw [upd_ne hne]; exact upd_same, ?_, ?_⟩⟩⟩
  · rw [upd_ne hne] at hn
    exact hn
  · rw [upd_ne hne] at hn
    refine q _ _ (fun b o e => ?_) upd_same
    have h1 : b ≠ a := ne_of_none e ha
    have h2 : b ≠ dx := ne_of_none e hn
    rw [upd_ne h2, del_ne h1, upd_ne h1, upd_ne h2, upd_ne h1]
    exact e
theorem rax {x f qual : Str} {st : Stmt} {C : Addr} {N ps : List Str} (F : EFl K mg x f qual st C) (S : FnScope N ps (defScope st)) (hl : ps.length = 2)
    (hb : ∀ (kV doc pm : Value) (an : Option Addr) (cdv ct : Value) (us : List Value), us.length = ps.length → bindArgs (PySem.W.fnOf "__init__" qual (defArgs st) (defBody st) (defScope st) .none kV doc pm an cdv ct) ⟨us, []⟩ = pure (ps.zip us))
    (h : BodyOk P w K mg base 0 N qual st (spXi C f)) : RaX P w K mg base x C (spXi C f) := by
  obtain ⟨fI, fd, iC, tI, F1⟩ := F.i
  exact ⟨F.g, F.o, fI, fd, ps, iC, tI, F1.bindsN hb, fn_ok F1 S (fun vs H Q E h => by obtain ⟨a, v, rfl, _⟩ := h; rw [hl]; rfl) h⟩
theorem ra_NoRow (T : Tx K mg A) : RaX P w K mg base "NoRow" A.row (spXi A.row "row") := by
  obtain ⟨mc, hrd, hfc⟩ := T.hallE_c
  refine rax T.NoRow sc_NoRow___init__ rfl (fun _ _ _ _ _ _ us hl => match us, hl with | [_, _], _ => rfl) ?_
  intro f cdv A' outer s H vs Q E hr hT hx hu h
  refine ⟨_, (pss_cons (ps_expr (pe_xinit rfl T.hallE_m hrd hfc (pa_cons (pv 0) (pa_cons pe_str pa_nil))))
      (pss_one (ps_ost (pv 0) (pv 1)))), ?_⟩
  obtain ⟨a, v, rfl, ha, q⟩ := h
  refine ⟨_, rfl, _, _, _, rfl, by show 1 ≤ 1000; decide, T.NoRow.o, ha, ?_⟩
  exact ⟨_, rfl, _, rfl, _, _, rfl, T.NoRow.o, T.NoRow.nf, .inl ⟨ha, q⟩⟩
theorem ra_NoRoom (T : Tx K mg A) : RaX P w K mg base "NoRoom" A.room (spXi A.room "room") := by
  obtain ⟨mc, hrd, hfc⟩ := T.hallE_c
  refine rax T.NoRoom sc_NoRoom___init__ rfl (fun _ _ _ _ _ _ us hl => match us, hl with | [_, _], _ => rfl) ?_
  intro f cdv A' outer s H vs Q E hr hT hx hu h
  refine ⟨_, (pss_cons (ps_expr (pe_xinit rfl T.hallE_m hrd hfc (pa_cons (pv 0) (pa_cons pe_str pa_nil))))
      (pss_one (ps_ost (pv 0) (pv 1)))), ?_⟩
  obtain ⟨a, v, rfl, ha, q⟩ := h
  refine ⟨_, rfl, _, _, _, rfl, by show 1 ≤ 1000; decide, T.NoRoom.o, ha, ?_⟩
  exact ⟨_, rfl, _, rfl, _, _, rfl, T.NoRoom.o, T.NoRoom.nf, .inl ⟨ha, q⟩⟩
theorem ra_NoDoor (T : Tx K mg A) : RaX P w K mg base "NoDoor" A.door (spXi A.door "door") := by
  obtain ⟨mc, hrd, hfc⟩ := T.hallE_c
  refine rax T.NoDoor sc_NoDoor___init__ rfl (fun _ _ _ _ _ _ us hl => match us, hl with | [_, _], _ => rfl) ?_
  intro f cdv A' outer s H vs Q E hr hT hx hu h
  refine ⟨_, (pss_cons (ps_expr (pe_xinit rfl T.hallE_m hrd hfc (pa_cons (pv 0) (pa_cons pe_str pa_nil))))
      (pss_one (ps_ost (pv 0) (pv 1)))), ?_⟩
  obtain ⟨a, v, rfl, ha, q⟩ := h
  refine ⟨_, rfl, _, _, _, rfl, by show 1 ≤ 1000; decide, T.NoDoor.o, ha, ?_⟩
  exact ⟨_, rfl, _, rfl, _, _, rfl, T.NoDoor.o, T.NoDoor.nf, .inl ⟨ha, q⟩⟩
theorem ra_NoPlan (T : Tx K mg A) : RaX P w K mg base "NoPlan" A.plan (spXi A.plan "room") := by
  obtain ⟨mc, hrd, hfc⟩ := T.hallE_c
  refine rax T.NoPlan sc_NoPlan___init__ rfl (fun _ _ _ _ _ _ us hl => match us, hl with | [_, _], _ => rfl) ?_
  intro f cdv A' outer s H vs Q E hr hT hx hu h
  refine ⟨_, (pss_cons (ps_expr (pe_xinit rfl T.hallE_m hrd hfc (pa_cons (pv 0) (pa_cons pe_str pa_nil))))
      (pss_one (ps_ost (pv 0) (pv 1)))), ?_⟩
  obtain ⟨a, v, rfl, ha, q⟩ := h
  refine ⟨_, rfl, _, _, _, rfl, by show 1 ≤ 1000; decide, T.NoPlan.o, ha, ?_⟩
  exact ⟨_, rfl, _, rfl, _, _, rfl, T.NoPlan.o, T.NoPlan.nf, .inl ⟨ha, q⟩⟩
end
end Dk
/-! words and numbers' texts -/
namespace Dk
open PySem PySem.Spec PyProof.Rows L2
local macro_rules | `(tactic| walk_at "rd") => `(tactic| repeat (first | refine ⟨_, rfl, ?_⟩ | refine ⟨_, _, rfl, rfl, ?_⟩ | refine iteT ?_ | refine iteF ?_ | refine ⟨_, _, _, _, rfl, rfl, SqT.of (by assumption), rfl, ?_⟩ | refine ⟨rfl, ?_⟩ | refine ⟨_, _, rfl, lenS (by assumption), ?_⟩ | refine ⟨_, _, rfl, lenT (by assumption), ?_⟩ | refine ⟨_, _, rfl, lenL (by assumption), ?_⟩ | refine ⟨⟨_, SqL.of (by assumption)⟩, ?_⟩ | refine ⟨_, _, rfl, ?_⟩))
theorem sc_is_word : FnScope ["thing", "sign"] ["thing"] (defScope s_is_word) := ⟨rfl, rfl, rfl, by decide +kernel, rfl, by decide +kernel, by decide +kernel⟩
theorem sc_whole_of : FnScope ["figures", "sign"] ["figures"] (defScope s_whole_of) := ⟨rfl, rfl, rfl, by decide +kernel, rfl, by decide +kernel, by decide +kernel⟩
theorem sc_number_of : FnScope ["text", "first", "stroke", "last", "below", "top", "bottom"] ["text"] (defScope s_number_of) := ⟨rfl, rfl, rfl, by decide +kernel, rfl, by decide +kernel, by decide +kernel⟩
theorem sc_number_text : FnScope ["one", "top", "bottom"] ["one"] (defScope s_number_text) := ⟨rfl, rfl, rfl, by decide +kernel, rfl, by decide +kernel, by decide +kernel⟩
theorem sc_word_of : FnScope ["text"] ["text"] (defScope s_word_of) := ⟨rfl, rfl, rfl, by decide +kernel, rfl, by decide +kernel, by decide +kernel⟩
section
variable {P : Program} {w : World} {K : PySem.W.Frag} {mg : Str → Option Value} {base : Heap} {A : Ad}
def spIsWord : Sp := fun vs H Q _ => ∃ l, vs = [sv l] ∧ l.length ≤ 1000 ∧ ∀ H', Same H H' → Q (.bl (isWordS l)) H'
def spWholeOf : Sp := fun vs H Q _ => ∃ l, vs = [sv l] ∧ l.length ≤ 1000 ∧ ∀ H', Same H H' → Q (match wholeOf l with | some i => .int i | none => .non) H'
def spNumberOf (A : Ad) : Sp := fun vs H Q E => ∃ l, vs = [sv l] ∧ l.length ≤ 1000 ∧ (∀ f, numberOf l = some f → ∀ v H', Same H H' → IsF H' v f → Q v H') ∧ (numberOf l = none → Rz A H E .num)
def spNumText : Sp := fun vs H Q _ => ∃ v f, vs = [v] ∧ IsF H v f ∧ f.1.natAbs < 2 ^ 200 ∧ f.2.natAbs < 2 ^ 200 ∧ Q (sv (numText f)) H
def spWordOf (A : Ad) : Sp := fun vs H Q E => ∃ l, vs = [sv l] ∧ l.length ≤ 1000 ∧ (isWordS l = true → ∀ H', Same H H' → Q (sv l) H') ∧ (isWordS l = false → Rz A H E .name)
theorem in_letters (c : Nat) : decide (c ∈ (SX.S letters).cps.toList) = isLet c := by
  have h : (SX.S letters).cps.toList = List.range' 97 26 := by decide +kernel
  rw [h, isLet, ← Bool.decide_and]
  congr 1
  simp [List.mem_range']
  constructor
  · rintro ⟨i, hi, rfl⟩; omega
  · intro h; exact ⟨c - 97, by omega, by omega⟩
theorem in_figures (c : Nat) : decide (c ∈ (SX.S figures).cps.toList) = isFig c := by
  have h : (SX.S figures).cps.toList = List.range' 48 10 := by decide +kernel
  rw [h, isFig, ← Bool.decide_and]
  congr 1
  simp [List.mem_range']
  constructor
  · rintro ⟨i, hi, rfl⟩; omega
  · intro h; exact ⟨c - 48, by omega, by omega⟩
theorem lit (s : String) : V.str (Str.ofString s) = sv (lw s) := by
  show V.str _ = V.str (SX.S (s.toList.map Char.toNat))
  rw [← TL.tl_ofString, SX.S_tl]
theorem sv_eq (a b : Wd) : decide (sv a = sv b) = decide (a = b) := by
  congr 1
  refine propext ⟨fun h => SX.S_inj (by injection h), fun h => by rw [h]⟩
theorem sv_lit {a : Wd} {s : String} : decide (sv a = V.str (Str.ofString s)) = decide (a = lw s) := by rw [lit, sv_eq]
theorem par_len : ∀ (l acc p q : Wd), TL.par [47] acc l = some (p, q) → p.length + q.length ≤ acc.length + l.length
  | [], _, _, _, h => by cases h
  | c :: r, acc, p, q, h => by
    cases hp : TL.pre [47] (c :: r) with
    | true =>
      rw [TL.par_hit hp] at h
      cases h
      simp
    | false =>
      rw [TL.par_miss hp] at h
      have := par_len r _ p q h
      simp at this ⊢
      omega
theorem numSplit_ok (l : Wd) : ∃ p st q, numSplit l = (p, st, q) ∧ p.length ≤ l.length ∧ q.length ≤ l.length ∧ (Txt.partition (SX.S l) (Str.ofString "/")).1 = SX.S p ∧ (Txt.partition (SX.S l) (Str.ofString "/")).2.1 = SX.S (if st then [47] else []) ∧ (Txt.partition (SX.S l) (Str.ofString "/")).2.2 = SX.S q := by
  have e : Str.ofString "/" = SX.S [47] := by decide +kernel
  rw [e]
  unfold numSplit
  cases h : TL.par [47] [] l with
  | none =>
    have z := SX.partition_none (by decide) h
    exact ⟨l, false, [], rfl, Nat.le_refl _, Nat.zero_le _, by rw [z], by rw [z]; rfl, by rw [z]⟩
  | some pq =>
    obtain ⟨p, q⟩ := pq
    have := par_len _ _ _ _ h
    simp at this
    have z := SX.partition_some (by decide) h
    exact ⟨p, true, q, rfl, by omega, by omega, by rw [z], by rw [z]; rfl, by rw [z]⟩
theorem intW_nat (n : Nat) : intW (n : Int) = TL.numL n := TL.tl_num n
theorem intW_neg (n : Nat) : intW (Int.negSucc n) = 45 :: TL.numL (n + 1) := by
  have h : toString (Int.negSucc n) = "-" ++ toString ((n + 1 : Nat) : Int) := rfl
  unfold intW
  rw [h, TL.tl_ofString, String.toList_append, List.map_append, ← TL.tl_ofString (toString ((n + 1 : Nat) : Int)), TL.tl_num]
  rfl
theorem intW_len {i : Int} (h : i.natAbs < 2 ^ 200) : (intW i).length ≤ 62 := by
  have h10 : (2 : Nat) ^ 200 < 10 ^ 61 := by decide +kernel
  cases i with
  | ofNat n =>
    have : (TL.numL n).length ≤ 61 := TL.numL_len (by decide) (Nat.lt_trans h h10)
    rw [show Int.ofNat n = ((n : Nat) : Int) from rfl, intW_nat]
    omega
  | negSucc n =>
    have : (TL.numL (n + 1)).length ≤ 61 := TL.numL_len (by decide) (Nat.lt_trans h h10)
    rw [intW_neg, List.length_cons]
    omega
theorem log_small {n : Nat} (h : n < 2 ^ 200) : n.log2 < 1920 := by
  by_cases h0 : n = 0
  · subst h0; decide
  · have := (Nat.log2_lt h0).mpr h
    omega
theorem cal_is_word (F : Fn K mg "is_word" s_is_word) (B : Blt mg) (T : Tx K mg A) : CalX P w K mg base 1 "is_word" spIsWord := by
  refine calx F sc_is_word (fun _ _ _ _ _ _ us hl => match us, hl with | [_], _ => rfl) (fun vs H Q E h => by obtain ⟨x, rfl, _⟩ := h; rfl) ?_
  intro f cdv A' outer s H vs Q E hr hT hx hu h
  refine ⟨_, (pss_cons (ps_if (PW.pt (pw_or (pt_not (pt_val (pe_callB call_isi (by rfl) B.isinstance (by decide +kernel) (pa_cons (pv 0) (pa_cons (pe_bltn (v := .ty "str") (u := .type "str") rfl B.str (by decide +kernel) rfl) pa_nil))))) (pw_or (pt_cmpR op_lt (pe_callB call_len (by rfl) B.len (by decide +kernel) (pa_cons (pv 0) pa_nil)) pe_int (nomark _)) (pw_or1 (pt_cmpR op_gt (pe_callB call_len (by rfl) B.len (by decide +kernel) (pa_cons (pv 0) pa_nil)) pe_int (nomark _)))))) (pss_one (ps_ret pe_bl)) pss_nil)
      (pss_one (ps_ret (pe_callB (cr_all rfl) (by rfl) B.all (by decide +kernel) (pa_cons (pe_lc (own := [("sign", 1)]) rfl sc_is_word.nd (pi_str (pv 0)) (blkOk_by (own := [("sign", 1)]) (N := ["thing", "sign"]) (sc := defScope s_is_word) (by decide +kernel)) (fun _ _ _ _ _ => (pg_name (i := 1) sc_is_word.nd rfl (Or.inl rfl))) (fun _ _ _ _ _ => pts_nil) (fun _ _ _ _ _ => (pe_cmpR op_in_sign (pv 1) (C8.pe_gc rfl T.letters) (by rfl)))) pa_nil))))), ?_⟩
  obtain ⟨l, rfl, hl, q⟩ := h
  have hS : (SX.S l).length ≤ sizeLine := by rw [SX.S_len, sizeLine_eq]; omega
  walk_at "rd"
  refine ⟨_, _, _, _, _, rfl, .ty _, .base (.str _), kit_ty (r := true) (by decide +kernel), true, rfl, ?_⟩
  walk_at "rd"
  refine ite2 (fun h1 => ?_) (fun h1 => ?_)
  · walk_at "rd"
    have h1' := of_decide_eq_true h1
    rw [SX.S_len] at h1'
    have e : isWordS l = false := by unfold isWordS; rw [decide_eq_true (by omega : l.length < 1)]; rfl
    rw [← e]
    exact q _ (Same.refl _)
  walk_at "rd"
  refine ite2 (fun h2 => ?_) (fun h2 => ?_)
  · walk_at "rd"
    have h2' := of_decide_eq_true h2
    rw [SX.S_len] at h2'
    have e : isWordS l = false := by unfold isWordS; rw [decide_eq_true (by omega : 8 < l.length)]; simp
    rw [← e]
    exact q _ (Same.refl _)
  have g1 : ¬ l.length < 1 := fun h => h1 (decide_eq_true (by rw [SX.S_len]; omega))
  have g2 : ¬ 8 < l.length := fun h => h2 (decide_eq_true (by rw [SX.S_len]; omega))
  walk_at "rd"
  intro D hD
  refine lc_it (walk_str (z := SX.S l)) (fun i H' => H' = upd H D (.lst ((l.take i).map fun c => .bl (isLet c)))) rfl (fun _ _ _ _ => trivial) ?_ ?_
  · rintro i _ _ _ hi rfl ⟨rfl, c, hc, rfl⟩
    have hc' : l[i]? = some c := by simpa using hc
    walk_at "rd"
    refine ⟨_, upd_same, by simp only [List.length_map, List.length_take]; rw [sizeLine_eq]; omega, ?_⟩
    rw [upd_upd, take_snoc hc', List.map_append]
    congr 3
    simp only [List.map_cons, List.map_nil]
    rw [in_letters]
  · rintro _ rfl
    rw [show (SX.S l).cps.size = l.length by simp, List.take_length]
    refine ⟨D, l.map isLet, rfl, SqL.of (by rw [upd_same, List.map_map]; rfl), ?_⟩
    have e : isWordS l = (l.map isLet).all id := by unfold isWordS; rw [decide_eq_false g1, decide_eq_false g2, List.all_map]; rfl
    rw [← e]
    exact q _ (same_upd hD)
theorem cal_whole_of (F : Fn K mg "whole_of" s_whole_of) (B : Blt mg) (T : Tx K mg A) : CalX P w K mg base 1 "whole_of" spWholeOf := by
  refine calx F sc_whole_of (fun _ _ _ _ _ _ us hl => match us, hl with | [_], _ => rfl) (fun vs H Q E h => by obtain ⟨x, rfl, _⟩ := h; rfl) ?_
  intro f cdv A' outer s H vs Q E hr hT hx hu h
  refine ⟨_, (pss_cons (ps_if (PW.pt (pw_or (pt_cmpR op_lt (pe_callB call_len (by rfl) B.len (by decide +kernel) (pa_cons (pv 0) pa_nil)) pe_int (nomark _)) (pw_or1 (pt_cmpR op_gt (pe_callB call_len (by rfl) B.len (by decide +kernel) (pa_cons (pv 0) pa_nil)) pe_int (nomark _))))) (pss_one (ps_ret pe_non)) pss_nil)
      (pss_cons (ps_if (pt_not (pt_val (pe_callB (cr_all rfl) (by rfl) B.all (by decide +kernel) (pa_cons (pe_lc (own := [("sign", 1)]) rfl sc_whole_of.nd (pi_str (pv 0)) (blkOk_by (own := [("sign", 1)]) (N := ["figures", "sign"]) (sc := defScope s_whole_of) (by decide +kernel)) (fun _ _ _ _ _ => (pg_name (i := 1) sc_whole_of.nd rfl (Or.inl rfl))) (fun _ _ _ _ _ => pts_nil) (fun _ _ _ _ _ => (pe_cmpR op_in_sign (pv 1) (C8.pe_gc rfl T.figures) (by rfl)))) pa_nil)))) (pss_one (ps_ret pe_non)) pss_nil)
      (pss_cons (ps_if (PW.pt (pw_and (pt_cmpR op_eq (pe_ix ix_str (pv 0) pe_int (fun _ _ => rfl)) pe_str (nomark _)) (pw_and1 (pt_cmpR op_gt (pe_callB call_len (by rfl) B.len (by decide +kernel) (pa_cons (pv 0) pa_nil)) pe_int (nomark _))))) (pss_one (ps_ret pe_non)) pss_nil)
      (pss_one (ps_ret (pe_callTy call_int_str (by rfl) B.int boot_int (pa_cons (pv 0) pa_nil))))))), ?_⟩
  obtain ⟨l, rfl, hl, q⟩ := h
  have hS : (SX.S l).length ≤ sizeLine := by rw [SX.S_len, sizeLine_eq]; omega
  walk_at "rd"
  refine ite2 (fun h1 => ?_) (fun h1 => ?_)
  · walk_at "rd"
    have h1' := of_decide_eq_true h1
    rw [SX.S_len] at h1'
    have e : wholeOf l = none := by unfold wholeOf; rw [decide_eq_true (by omega : l.length < 1)]; rfl
    rw [e] at q
    exact q _ (Same.refl _)
  walk_at "rd"
  refine ite2 (fun h2 => ?_) (fun h2 => ?_)
  · walk_at "rd"
    have h2' := of_decide_eq_true h2
    rw [SX.S_len] at h2'
    have e : wholeOf l = none := by unfold wholeOf; rw [decide_eq_true (by omega : 40 < l.length)]; simp
    rw [e] at q
    exact q _ (Same.refl _)
  have g1 : ¬ l.length < 1 := fun h => h1 (decide_eq_true (by rw [SX.S_len]; omega))
  have g2 : ¬ 40 < l.length := fun h => h2 (decide_eq_true (by rw [SX.S_len]; omega))
  walk_at "rd"
  intro D hD
  refine lc_it (walk_str (z := SX.S l)) (fun i H' => H' = upd H D (.lst ((l.take i).map fun c => .bl (isFig c)))) rfl (fun _ _ _ _ => trivial) ?_ ?_
  · rintro i _ _ _ hi rfl ⟨rfl, c, hc, rfl⟩
    have hc' : l[i]? = some c := by simpa using hc
    walk_at "rd"
    refine ⟨_, upd_same, by simp only [List.length_map, List.length_take]; rw [sizeLine_eq]; omega, ?_⟩
    rw [upd_upd, take_snoc hc', List.map_append]
    congr 3
    simp only [List.map_cons, List.map_nil]
    rw [in_figures]
  · rintro _ rfl
    rw [show (SX.S l).cps.size = l.length by simp, List.take_length]
    refine ⟨D, l.map isFig, rfl, SqL.of (by rw [upd_same, List.map_map]; rfl), _, rfl, ?_⟩
    rw [List.all_map]
    cases ha : l.all isFig with
    | false =>
      have e : wholeOf l = none := by unfold wholeOf; rw [decide_eq_false g1, decide_eq_false g2, ha]; rfl
      rw [e] at q
      refine ifT (b := !l.all isFig) (by rw [ha]; rfl) ?_
      exact q _ (same_upd hD)
    | true =>
      refine ifF (b := !l.all isFig) (by rw [ha]; rfl) ?_
      walk_at "rd"
      match l, g1 with
      | [], g => exact absurd (by decide) g
      | c :: r, g1 =>
      refine ⟨_, _, c, rfl, rfl, hS, atI_nat (j := 0) rfl, rfl, _, rfl, ?_⟩
      have hsz : intText? (SX.S (c :: r)) = some ((NumText.digitsVal (c :: r) : Nat) : Int) := SX.int_S ha (by simp) (by omega)
      refine ite2 (fun h3 => ?_) (fun h3 => ?_)
      · rw [show V.str ⟨#[c]⟩ = sv [c] from rfl, sv_lit] at h3
        have hc : c = 48 := by simpa [lw] using h3
        walk_at "rd"
        refine ite2 (fun h4 => ?_) (fun h4 => ?_)
        · walk_at "rd"
          rw [SX.S_len] at h4
          have h4' : 1 < (c :: r).length := by have := of_decide_eq_true h4; omega
          have e : wholeOf (c :: r) = none := by unfold wholeOf; rw [decide_eq_false g1, decide_eq_false g2, ha, decide_eq_true (h4' : 1 < (c :: r).length), hc]; rfl
          rw [e] at q
          exact q _ (same_upd hD)
        · rw [SX.S_len] at h4
          have h4' : ¬ 1 < (c :: r).length := fun h => h4 (decide_eq_true (by omega))
          have e : wholeOf (c :: r) = some ((NumText.digitsVal (c :: r) : Nat) : Int) := by unfold wholeOf; rw [decide_eq_false g1, decide_eq_false g2, ha, decide_eq_false h4', Bool.and_false]; rfl
          rw [e] at q
          walk_at "rd"
          exact ⟨_, _, rfl, hsz, by rw [SX.S_len]; omega, q _ (same_upd hD)⟩
      · rw [show V.str ⟨#[c]⟩ = sv [c] from rfl, sv_lit] at h3
        have hc : ¬ c = 48 := by simpa [lw] using h3
        have e : wholeOf (c :: r) = some ((NumText.digitsVal (c :: r) : Nat) : Int) := by unfold wholeOf; rw [decide_eq_false g1, decide_eq_false g2, ha, decide_eq_false (by simpa using hc : ¬ (c :: r).head? = some 48)]; rfl
        rw [e] at q
        refine iteF ?_
        walk_at "rd"
        exact ⟨_, _, rfl, hsz, by rw [SX.S_len]; omega, q _ (same_upd hD)⟩
theorem cal_number_of (F : Fn K mg "number_of" s_number_of) (B : Blt mg) (T : Tx K mg A) (c_whole_of : CalX P w K mg base 1 "whole_of" spWholeOf) (c_divisor : CalX P w K mg base 1 "divisor" spDivisor) : CalX P w K mg base 2 "number_of" (spNumberOf A) := by
  refine calx F sc_number_of (fun _ _ _ _ _ _ us hl => match us, hl with | [_], _ => rfl) (fun vs H Q E h => by obtain ⟨x, rfl, _⟩ := h; rfl) ?_
  intro f cdv A' outer s H vs Q E hr hT hx hu h
  refine ⟨_, (pss_cons (ps_if (pt_not (pt_val (pe_callB call_isi (by rfl) B.isinstance (by decide +kernel) (pa_cons (pv 0) (pa_cons (pe_bltn (v := .ty "str") (u := .type "str") rfl B.str (by decide +kernel) rfl) pa_nil))))) (pss_one (ps_raise rfl hT (pmk_own PySem.F.excBase_ValueError T.NoNumber.x T.NoNumber.g T.NoNumber.k (raises_own T.NoNumber.b T.NoNumber.t) rfl))) pss_nil)
      (pss_cons (ps_asg (pe_partition (pv 0) pe_str) (pg_tup rfl (pgs_cons (pg_name (i := 1) sc_number_of.nd rfl (Or.inl rfl)) (pgs_cons (pg_name (i := 2) sc_number_of.nd rfl (Or.inl rfl)) (pgs_cons (pg_name (i := 3) sc_number_of.nd rfl (Or.inl rfl)) pgs_nil)))))
      (pss_cons (ps_set (i := 4) sc_number_of.nd rfl (Or.inl rfl) (pe_cmpR op_eq (pe_slice C8.sl_txt (pv 1) po_none (po_some pe_int)) pe_str (nomark _)))
      (pss_cons (ps_if (pt_val (pv 4)) (pss_one (ps_set (i := 1) sc_number_of.nd rfl (Or.inl rfl) (pe_slice C8.sl_txt (pv 1) (po_some pe_int) po_none))) pss_nil)
      (pss_cons (ps_set (i := 5) sc_number_of.nd rfl (Or.inl rfl) (pe_cx c_whole_of hr (by decide) rfl hx (pa_cons (pv 1) pa_nil)))
      (pss_cons (ps_set (i := 6) sc_number_of.nd rfl (Or.inl rfl) pe_int)
      (pss_cons (ps_if (pt_cmpR op_eq (pv 2) pe_str (nomark _)) (pss_one (ps_set (i := 6) sc_number_of.nd rfl (Or.inl rfl) (pe_cx c_whole_of hr (by decide) rfl hx (pa_cons (pv 3) pa_nil)))) pss_nil)
      (pss_cons (ps_if (PW.pt (pw_or (pt_cmp (pc_isN (pv 5))) (pw_or (pt_cmp (pc_isN (pv 6))) (pw_or1 (PW.pt (pw_and (pt_val (pv 4)) (pw_and1 (pt_cmpR op_eq (pv 5) pe_int (nomark _))))))))) (pss_one (ps_raise rfl hT (pmk_own PySem.F.excBase_ValueError T.NoNumber.x T.NoNumber.g T.NoNumber.k (raises_own T.NoNumber.b T.NoNumber.t) rfl))) pss_nil)
      (pss_cons (ps_if (PW.pt (pw_and (pt_cmpR op_eq (pv 2) pe_str (nomark _)) (pw_and1 (PW.pt (pw_or (pt_cmpR op_lt (pv 6) pe_int (nomark _)) (pw_or1 (pt_cmpR op_ne (pe_cx c_divisor hr (by decide) rfl hx (pa_cons (pv 5) (pa_cons (pv 6) pa_nil))) pe_int (nomark _)))))))) (pss_one (ps_raise rfl hT (pmk_own PySem.F.excBase_ValueError T.NoNumber.x T.NoNumber.g T.NoNumber.k (raises_own T.NoNumber.b T.NoNumber.t) rfl))) pss_nil)
      (pss_cons (ps_if (pt_val (pv 4)) (pss_one (ps_set (i := 5) sc_number_of.nd rfl (Or.inl rfl) (pe_op op_sub pe_int (pv 5)))) pss_nil)
      (pss_one (ps_ret (pe_tup (pa_cons (pv 5) (pa_cons (pv 6) pa_nil))))))))))))))), ?_⟩
  obtain ⟨l, rfl, hl, q1, q2⟩ := h
  have hS : (SX.S l).length ≤ sizeLine := by rw [SX.S_len, sizeLine_eq]; omega
  obtain ⟨p, st, r, hsp, hp, hr', hp1, hp2, hp3⟩ := numSplit_ok l
  have hP : (SX.S p).length ≤ sizeLine := by rw [SX.S_len, sizeLine_eq]; omega
  walk_at "rd"
  refine ⟨_, _, _, _, _, rfl, .ty _, .base (.str _), kit_ty (r := true) (by decide +kernel), true, rfl, ?_⟩
  walk_at "rd"
  refine ⟨⟨_, rfl⟩, _, _, rfl, rfl, rfl, hS, fun a ha => ?_⟩
  rw [hp1, hp2, hp3]
  refine ⟨_, _, rfl, SqT.of upd_same, rfl, ?_⟩
  walk_at "rd"
  refine ⟨hP, ?_⟩
  rw [SX.slice_to (by decide), show Int.toNat 1 = 1 from rfl]
  refine ⟨rfl, ?_⟩
  refine ⟨_, rfl, _, rfl, ?_⟩
  have key : ∀ (p' : Wd) (below : Bool), p'.length ≤ 1000 → numberOf l = numEnd below st (wholeOf p') (if st then wholeOf r else some 1) → ∀ H', Same H H' → 
     (tSeq (tAsg (tCallX spWholeOf E (tCons (tVar 1) tNil)) (gName 5))
            (tSeq (tAsg (tC (V.int 1)) (gName 6))
              (tSeq
                (tIfS (tTest (tOp rEq (tVar 2) (tC (V.str "/"))))
                  (tAsg (tCallX spWholeOf E (tCons (tVar 3) tNil)) (gName 6)) tNext)
                (tSeq
                  (tIfS
                    (tOr (tB (tIsN (tVar 5)))
                      (tOr (tB (tIsN (tVar 6))) (tAnd (tB (tVar 4)) (tTest (tOp rEq (tVar 5) (tC (V.int 0)))))))
                    (fun x σ H => (fun cls d H' => E cls d H') (Value.ref A.num) none H) tNext)
                  (tSeq
                    (tIfS
                      (tAnd (tTest (tOp rEq (tVar 2) (tC (V.str "/"))))
                        (tOr (tTest (tOp (rI0 fun i j => V.bl (decide (i < j))) (tVar 6) (tC (V.int 2))))
                          (tTest (tOp rNe (tCallX spDivisor E (tCons (tVar 5) (tCons (tVar 6) tNil))) (tC (V.int 1))))))
                      (fun x σ H => (fun cls d H' => E cls d H') (Value.ref A.num) none H) tNext)
                    (tSeq
                      (tIfS (tB (tVar 4)) (tAsg (tOp (rI0 fun i j => V.int (i - j)) (tC (V.int 0)) (tVar 5)) (gName 5))
                        tNext)
                      (tRet (tTup (tCons (tVar 5) (tCons (tVar 6) tNil))))))))))
       { nx := fun x H' => Q V.non H', rt := Q }
       [some (sv l), some (sv p'), some (sv (if st then [47] else [])), some (sv r), some (.bl below), none, none] H' := by
    intro p' below hp' hn H' hs
    refine ⟨_, rfl, p', rfl, hp', fun H2 hs2 => ?_⟩
    have q2' : ∀ H', Same H H' → numberOf l = none → E (.ref A.num) none H' := fun H' hs h => rz_plain (q2 h) hs rfl rfl
    have q1' : ∀ t b H' pp, Same H H' → numberOf l = some (t, b) → H' pp = none → Q (.ref pp) (upd H' pp (.tup [.int t, .int b])) := fun t b H' pp hs h hpp => q1 _ h _ _ (hs.trans (same_upd hpp)) ⟨pp, rfl, upd_same⟩
    have h2 := hs.trans hs2
    clear q1 q2 ha
    cases st with
    | false =>
      walk_at "rd"
      cases hw : wholeOf p' with
      | none =>
        rw [hw] at hn
        refine iteT ?_
        exact q2' _ h2 hn
      | some t =>
        rw [hw] at hn
        refine iteF ?_
        walk_at "rd"
        cases below with
        | true =>
          walk_at "rd"
          refine ite2 (fun h0 => ?_) (fun h0 => ?_)
          · refine q2' _ h2 (hn.trans ?_)
            have : t = 0 := by simpa using h0
            subst this; rfl
          · have h0' : ¬ t = 0 := by simpa using h0
            walk_at "rd"
            refine ⟨by show 2 ≤ sizeLine; decide, fun pp hpp => q1' _ _ _ _ h2 (hn.trans ?_) hpp⟩
            show (if decide (t = 0) then none else _) = _
            rw [decide_eq_false h0']; rfl
        | false =>
          walk_at "rd"
          exact ⟨by show 2 ≤ sizeLine; decide, fun pp hpp => q1' _ _ _ _ h2 hn hpp⟩
    | true =>
      walk_at "rd"
      refine ⟨by omega, fun H3 hs3 => ?_⟩
      have h3 := h2.trans hs3
      walk_at "rd"
      cases hw : wholeOf p' with
      | none =>
        rw [hw] at hn
        refine iteT ?_
        exact q2' _ h3 hn
      | some t =>
        rw [hw] at hn
        refine iteF ?_
        walk_at "rd"
        cases hw2 : wholeOf r with
        | none =>
          rw [hw2] at hn
          refine iteT ?_
          exact q2' _ h3 hn
        | some b =>
          rw [hw2] at hn
          refine iteF ?_
          walk_at "rd"
          have hn' : (below && decide (t = 0)) = false → numberOf l = if (decide (b < 2) || !decide (Int.gcd t b = 1)) then none else some (if below then 0 - t else t, b) := fun hz => hn.trans (by
            show (if below && decide (t = 0) then none else _) = _
            rw [hz]; rfl)
          cases below with
          | true =>
            walk_at "rd"
            refine ite2 (fun h0 => ?_) (fun h0 => ?_)
            · refine q2' _ h3 (hn.trans ?_)
              have : t = 0 := by simpa using h0
              subst this; rfl
            · have h0' : ¬ t = 0 := by simpa using h0
              have hn2 := hn' (by rw [decide_eq_false h0']; rfl)
              walk_at "rd"
              refine ite2 (fun h5 => ?_) (fun h5 => ?_)
              · refine iteT (q2' _ h3 (hn2.trans ?_))
                rw [h5]; rfl
              · walk_at "rd"
                refine ite2 (fun h6 => ?_) (fun h6 => ?_)
                · refine q2' _ h3 (hn2.trans ?_)
                  have h6' : ¬ Int.gcd t b = 1 := by have z : ¬ ((Int.gcd t b : Nat) : Int) = 1 := (by simpa using h6); omega
                  rw [decide_eq_false h6', Bool.not_false, Bool.or_true]; rfl
                · have h6' : Int.gcd t b = 1 := by have z : ((Int.gcd t b : Nat) : Int) = 1 := (by simpa using h6); omega
                  have h5' : ¬ b < 2 := by simpa using h5
                  walk_at "rd"
                  refine ⟨by show 2 ≤ sizeLine; decide, fun pp hpp => q1' _ _ _ _ h3 (hn2.trans ?_) hpp⟩
                  rw [decide_eq_true h6', decide_eq_false h5']; rfl
          | false =>
            have hn2 := hn' rfl
            walk_at "rd"
            refine ite2 (fun h5 => ?_) (fun h5 => ?_)
            · refine iteT (q2' _ h3 (hn2.trans ?_))
              rw [h5]; rfl
            · walk_at "rd"
              refine ite2 (fun h6 => ?_) (fun h6 => ?_)
              · refine q2' _ h3 (hn2.trans ?_)
                have h6' : ¬ Int.gcd t b = 1 := by have z : ¬ ((Int.gcd t b : Nat) : Int) = 1 := (by simpa using h6); omega
                rw [decide_eq_false h6', Bool.not_false, Bool.or_true]; rfl
              · have h6' : Int.gcd t b = 1 := by have z : ((Int.gcd t b : Nat) : Int) = 1 := (by simpa using h6); omega
                have h5' : ¬ b < 2 := by simpa using h5
                walk_at "rd"
                refine ⟨by show 2 ≤ sizeLine; decide, fun pp hpp => q1' _ _ _ _ h3 (hn2.trans ?_) hpp⟩
                rw [decide_eq_true h6', decide_eq_false h5']; rfl
  have hst : numberOf l = numEnd (decide (p.take 1 = [45])) st (wholeOf (if decide (p.take 1 = [45]) then p.drop 1 else p)) (if st then wholeOf r else some 1) := by
    unfold numberOf; rw [hsp]
  have hd : decide (sv (p.take 1) = V.str (Str.ofString "-")) = decide (p.take 1 = [45]) := by rw [sv_lit]; rfl
  refine ite2 (fun hb => ?_) (fun hb => ?_)
  · walk_at "rd"
    refine ⟨hP, ?_⟩
    rw [SX.slice_from (by decide), show Int.toNat 1 = 1 from rfl]
    rw [hd] at hb
    have e : decide (sv (p.take 1) = V.str (Str.ofString "-")) = true := by rw [hd]; exact hb
    rw [hb] at hst
    have := key (p.drop 1) true (by simp; omega) hst (upd H a (.tup [.str (SX.S p), .str (SX.S (if st = true then [47] else [])), .str (SX.S r)])) (same_upd ha)
    rw [e]
    exact this
  · rw [hd] at hb
    have hb' : decide (p.take 1 = [45]) = false := by simpa using hb
    have e : decide (sv (p.take 1) = V.str (Str.ofString "-")) = false := by rw [hd]; exact hb'
    rw [hb'] at hst
    have := key p false (by omega) hst (upd H a (.tup [.str (SX.S p), .str (SX.S (if st = true then [47] else [])), .str (SX.S r)])) (same_upd ha)
    rw [e]
    exact this
theorem cal_number_text (F : Fn K mg "number_text" s_number_text) (B : Blt mg) : CalX P w K mg base 1 "number_text" spNumText := by
  refine calx F sc_number_text (fun _ _ _ _ _ _ us hl => match us, hl with | [_], _ => rfl) (fun vs H Q E h => by obtain ⟨x, _, rfl, _⟩ := h; rfl) ?_
  intro f cdv A' outer s H vs Q E hr hT hx hu h
  refine ⟨_, (pss_cons (ps_asg (pv 0) (pg_tup rfl (pgs_cons (pg_name (i := 1) sc_number_text.nd rfl (Or.inl rfl)) (pgs_cons (pg_name (i := 2) sc_number_text.nd rfl (Or.inl rfl)) pgs_nil))))
      (pss_cons (ps_if (pt_cmpR op_eq (pv 2) pe_int (nomark _)) (pss_one (ps_ret (pe_callTy call_str_int (by rfl) B.str (by decide +kernel) (pa_cons (pv 1) pa_nil)))) pss_nil)
      (pss_one (ps_ret (pe_joined (PJ.cons (pe_fmt (pv 1)) (PJ.cons pe_str (PJ.cons (pe_fmt (pv 2)) PJ.nil)))))))), ?_⟩
  obtain ⟨v, fr, rfl, ⟨p, rfl, hp⟩, h1, h2, q⟩ := h
  have g1 : fr.1.natAbs.log2 < 1920 := log_small h1
  have g2 : fr.2.natAbs.log2 < 1920 := log_small h2
  refine ⟨_, rfl, ?_⟩
  refine ⟨_, _, rfl, SqT.of hp, rfl, ?_⟩
  walk_at "rd"
  refine ite2 (fun hb => ?_) (fun hb => ?_)
  · walk_at "rd"
    refine ⟨g1, ?_⟩
    have e : numText fr = intW fr.1 := if_pos (by simpa using hb)
    rw [e] at q
    rw [show sv (intW fr.1) = V.str (Str.ofString (toString fr.1)) from congrArg V.str (SX.S_tl _)] at q
    exact q
  · refine ⟨_, rfl, .inr ⟨_, rfl, g1, _, rfl, ?_, ?_⟩⟩
    · rw [TL.len_tl, TL.tl_append, List.length_append]
      have a0 : (TL.tl Str.empty).length = 0 := rfl
      have a1 : (TL.tl (Str.ofString (toString fr.1))).length ≤ 62 := intW_len h1
      rw [sizeLine_eq]; omega
    refine ⟨_, rfl, ?_, _, rfl, .inr ⟨_, rfl, g2, _, rfl, ?_, ?_⟩⟩
    · rw [TL.len_tl, TL.tl_append, TL.tl_append, List.length_append, List.length_append]
      have a0 : (TL.tl Str.empty).length = 0 := rfl
      have a1 : (TL.tl (Str.ofString (toString fr.1))).length ≤ 62 := intW_len h1
      have a2 : (TL.tl (Str.ofString "/")).length = 1 := by decide +kernel
      rw [sizeLine_eq]; omega
    · rw [TL.len_tl, TL.tl_append, TL.tl_append, TL.tl_append, List.length_append, List.length_append, List.length_append]
      have a0 : (TL.tl Str.empty).length = 0 := rfl
      have a1 : (TL.tl (Str.ofString (toString fr.1))).length ≤ 62 := intW_len h1
      have a2 : (TL.tl (Str.ofString "/")).length = 1 := by decide +kernel
      have a3 : (TL.tl (Str.ofString (toString fr.2))).length ≤ 62 := intW_len h2
      rw [sizeLine_eq]; omega
    have e : numText fr = intW fr.1 ++ ([47] ++ intW fr.2) := if_neg (by simpa using hb)
    rw [e] at q
    have e2 : sv (intW fr.1 ++ ([47] ++ intW fr.2)) = V.str (Str.empty ++ Str.ofString (toString fr.1) ++ Str.ofString "/" ++ Str.ofString (toString fr.2)) := by
      refine congrArg V.str (TL.ext_tl ?_)
      rw [TL.tl_append, TL.tl_append, TL.tl_append, show TL.tl Str.empty = [] from rfl, show TL.tl (Str.ofString "/") = [47] from by decide +kernel]
      show intW fr.1 ++ ([47] ++ intW fr.2) = _
      simp only [List.nil_append, List.append_assoc]
      rfl
    rw [e2] at q
    exact q
theorem cal_word_of (F : Fn K mg "word_of" s_word_of) (B : Blt mg) (T : Tx K mg A) (c_is_word : CalX P w K mg base 1 "is_word" spIsWord) : CalX P w K mg base 2 "word_of" (spWordOf A) := by
  refine calx F sc_word_of (fun _ _ _ _ _ _ us hl => match us, hl with | [_], _ => rfl) (fun vs H Q E h => by obtain ⟨x, rfl, _⟩ := h; rfl) ?_
  intro f cdv A' outer s H vs Q E hr hT hx hu h
  refine ⟨_, (pss_cons (ps_if (pt_not (pt_val (pe_cx c_is_word hr (by decide) rfl hx (pa_cons (pv 0) pa_nil)))) (pss_one (ps_raise rfl hT (pmk_own PySem.F.excBase_ValueError T.NoName.x T.NoName.g T.NoName.k (raises_own T.NoName.b T.NoName.t) rfl))) pss_nil)
      (pss_one (ps_ret (pv 0)))), ?_⟩
  obtain ⟨l, rfl, hl, q1, q2⟩ := h
  refine ⟨_, rfl, l, rfl, hl, fun H' hs => ⟨_, rfl, ?_⟩⟩
  cases hw : isWordS l with
  | true => exact iteF ⟨_, rfl, q1 hw H' hs⟩
  | false => exact iteT (rz_plain (q2 hw) hs rfl rfl)
end
end Dk
/-! doors -/
namespace Dk
open PySem PySem.Spec PyProof.Rows L2
local macro_rules | `(tactic| walk_at "rd") => `(tactic| repeat (first | refine ⟨_, rfl, ?_⟩ | refine ⟨_, _, rfl, rfl, ?_⟩ | refine iteT ?_ | refine iteF ?_ | refine ⟨_, _, _, _, rfl, rfl, SqT.of (by assumption), rfl, ?_⟩ | refine ⟨rfl, ?_⟩ | refine ⟨_, _, rfl, lenS (by assumption), ?_⟩ | refine ⟨_, _, rfl, lenT (by assumption), ?_⟩ | refine ⟨_, _, rfl, lenL (by assumption), ?_⟩ | refine ⟨⟨_, SqL.of (by assumption)⟩, ?_⟩ | refine ⟨_, _, rfl, ?_⟩))
theorem sc_is_chance : FnScope ["thing"] ["thing"] (defScope s_is_chance) := ⟨rfl, rfl, rfl, by decide +kernel, rfl, by decide +kernel, by decide +kernel⟩
theorem sc_is_share : FnScope ["thing"] ["thing"] (defScope s_is_share) := ⟨rfl, rfl, rfl, by decide +kernel, rfl, by decide +kernel, by decide +kernel⟩
theorem sc_check_head : FnScope ["name", "pay"] ["name", "pay"] (defScope s_check_head) := ⟨rfl, rfl, rfl, by decide +kernel, rfl, by decide +kernel, by decide +kernel⟩
theorem sc_Door___init__ : FnScope ["self", "name", "pay"] ["self", "name", "pay"] (defScope s_Door___init__) := ⟨rfl, rfl, rfl, by decide +kernel, rfl, by decide +kernel, by decide +kernel⟩
theorem sc_Sure___init__ : FnScope ["self", "name", "pay", "room"] ["self", "name", "pay", "room"] (defScope s_Sure___init__) := ⟨rfl, rfl, rfl, by decide +kernel, rfl, by decide +kernel, by decide +kernel⟩
theorem sc_Mixed___init__ : FnScope ["self", "name", "pay", "pairs", "room", "chance"] ["self", "name", "pay", "pairs"] (defScope s_Mixed___init__) := ⟨rfl, rfl, rfl, by decide +kernel, rfl, by decide +kernel, by decide +kernel⟩
theorem sc_Mixed_ways : FnScope ["self", "found", "room", "chance"] ["self"] (defScope s_Mixed_ways) := ⟨rfl, rfl, rfl, by decide +kernel, rfl, by decide +kernel, by decide +kernel⟩
theorem sc_Toss___init__ : FnScope ["self", "name", "pay", "chance", "room", "other"] ["self", "name", "pay", "chance", "room", "other"] (defScope s_Toss___init__) := ⟨rfl, rfl, rfl, by decide +kernel, rfl, by decide +kernel, by decide +kernel⟩
section
variable {P : Program} {w : World} {K : PySem.W.Frag} {mg : Str → Option Value} {base : Heap} {A : Ad}
def spIsF (g : Frac → Bool) : Sp := fun vs H Q _ => ∃ v f, vs = [v] ∧ IsF H v f ∧ Sm f ∧ ∀ H', Same H H' → Q (.bl (g f)) H'
def spCheckHead : Sp := fun vs H Q _ => ∃ v n f, vs = [sv n, v] ∧ isWordS n = true ∧ n.length ≤ 1000 ∧ IsF H v f ∧ isFracF f = true ∧ ∀ H', Same H H' → Q .non H'
def spDoorInit (A : Ad) : Sp := fun vs H Q _ => ∃ G x C dx v n f, vs = [.ref x, sv n, v] ∧ isWordS n = true ∧ n.length ≤ 1000 ∧ Same G H ∧ G x = none ∧ IsF G v f ∧ isFracF f = true ∧ H x = some (.ins C dx []) ∧ (C = A.sure ∨ C = A.mixed ∨ C = A.toss) ∧
  ∀ H', Same G H' → H' x = some (.ins C dx [("name", sv n), ("pay", v)]) → Q .non H'
def spSureInit (A : Ad) : Sp := fun vs H Q _ => ∃ G x dx v n r f, vs = [.ref x, sv n, v, sv r] ∧ isWordS n = true ∧ n.length ≤ 1000 ∧ isWordS r = true ∧ r.length ≤ 1000 ∧ Same G H ∧ G x = none ∧ IsF G v f ∧ isFracF f = true ∧ H x = some (.ins A.sure dx []) ∧
  ∀ H', Same G H' → H' x = some (.ins A.sure dx [("name", sv n), ("pay", v), ("room", sv r)]) → Q .non H'
def mixedOk (ps : Pairs) : Bool := ps.all (fun p => isChanceF p.2) && decide (totalF (ps.map (·.2)) = (1, 1))
def spMixedInit (A : Ad) : Sp := fun vs H Q E => ∃ G x C dx v q n f ps L, vs = [.ref x, sv n, v, q] ∧ isWordS n = true ∧ n.length ≤ 1000 ∧ Same G H ∧ G x = none ∧ IsF G v f ∧ isFracF f = true ∧ IsPairs G q ps ∧ (∀ p ∈ ps, isWordS p.1 = true ∧ p.1.length ≤ 1000 ∧ Sm p.2) ∧ Und L (ps.map (·.2)) ∧
  H x = some (.ins C dx []) ∧ (C = A.mixed ∨ C = A.toss) ∧
  (mixedOk ps = true → ∀ H' p vs, Same G H' → H' x = some (.ins C dx [("name", sv n), ("pay", v), ("pairs", .ref p)]) → G p = none → H' p = some (.lst vs) → Paired (IsPair H') vs ps → Q .non H') ∧ (mixedOk ps = false → Rz A G E .chance)
def spTossInit (A : Ad) : Sp := fun vs H Q E => ∃ G x dx v c n r o f cf, vs = [.ref x, sv n, v, c, sv r, sv o] ∧ isWordS n = true ∧ n.length ≤ 1000 ∧ isWordS r = true ∧ r.length ≤ 1000 ∧ isWordS o = true ∧ o.length ≤ 1000 ∧ Same G H ∧ G x = none ∧ IsF G v f ∧ isFracF f = true ∧ IsF G c cf ∧ Sm cf ∧
  H x = some (.ins A.toss dx []) ∧ 
  ((isChanceF cf = false ∧ Rz A G E .chance) ∨ (cf = (1, 2) ∧ ∀ H' p vs, Same G H' → H' x = some (.ins A.toss dx [("name", sv n), ("pay", v), ("pairs", .ref p)]) → G p = none → H' p = some (.lst vs) → Paired (IsPair H') vs [(r, (1, 2)), (o, (1, 2))] → Q .non H'))
/-- a door's pairs as its ways: no room twice, no chance nought -/
def OkPairs (ps : Pairs) : Prop := (ps.map (·.1)).Nodup ∧ ps.length ≤ 100 ∧ ∀ p ∈ ps, isFracF p.2 = true ∧ Sm p.2 ∧ 0 < p.2.1
def spWays (A : Ad) : Sp := fun vs H Q _ => ∃ v d, vs = [v] ∧ IsDoor A H v d ∧ OkPairs d.pairs ∧ ∀ v H', Same H H' → IsPairs H' v d.pairs → Q v H'
theorem same_del {G H : Hp} {x : Addr} (s : Same G H) (n : G x = none) : Same G (del H x) := fun b o e => by
  rw [del_ne (ne_of_none e n)]
  exact s b o e
theorem del_le {H : Hp} {x : Addr} : Same (del H x) H := fun b o e => by
  by_cases h : b = x
  · subst h; rw [del_same] at e; cases e
  · rwa [del_ne h] at e
theorem at_del {H : Hp} {x p : Addr} {o o' : HO} (h : H p = some o) (hx : H x = some o') (d : o ≠ o') : del H x p = some o := by rw [del_ne (ne_of h hx d)]; exact h
section
variable {H : Hp} {x C dx : Addr} {fs : List (Str × V)} {v : V}
theorem IsF.del {f} (h : IsF H v f) (hx : H x = some (.ins C dx fs)) : IsF (del H x) v f := let ⟨p, e, q⟩ := h; ⟨p, e, at_del q hx (fun z => by cases z)⟩
theorem IsPair.del {f} (h : IsPair H v f) (hx : H x = some (.ins C dx fs)) : IsPair (L2.del H x) v f := let ⟨p, fv, e, q, r⟩ := h; ⟨p, fv, e, at_del q hx (fun z => by cases z), r.del hx⟩
theorem IsPairs.del {f} (h : IsPairs H v f) (hx : H x = some (.ins C dx fs)) : IsPairs (L2.del H x) v f := let ⟨p, fv, e, q, r⟩ := h; ⟨p, fv, e, at_del q hx (fun z => by cases z), r.mono fun _ _ k => k.del hx⟩
end
def NT (o : HO) : Prop := ∀ xs, o ≠ .tup xs
theorem nt_lst {xs} : NT (.lst xs) := fun _ z => by cases z
theorem nt_dk {xs} : NT (.dK xs) := fun _ z => by cases z
theorem nt_ins {C dx fs} : NT (.ins C dx fs) := fun _ z => by cases z
theorem nt_frz {o u} : NT (.frz o u) := fun _ z => by cases z
section
variable {H : Hp} {x : Addr} {o o' : HO} {v : V}
theorem IsF.upd {f} (h : IsF H v f) (hx : H x = some o') (hk : NT o') : IsF (L2.upd H x o) v f := let ⟨p, e, q⟩ := h; ⟨p, e, by rw [upd_ne (ne_of q hx fun z => hk _ z.symm)]; exact q⟩
theorem IsPair.upd {f} (h : IsPair H v f) (hx : H x = some o') (hk : NT o') : IsPair (L2.upd H x o) v f := let ⟨p, fv, e, q, r⟩ := h; ⟨p, fv, e, by rw [upd_ne (ne_of q hx fun z => hk _ z.symm)]; exact q, r.upd hx hk⟩
end
def PKv (H : Hp) (kv : Key × V) (pr : Wd × Frac) : Prop := kv.1 = Sum.inr (SX.S pr.1) ∧ IsF H kv.2 pr.2
theorem valV_fresh {H : Hp} {z : Wd} : ∀ {kvs : List (Key × V)} {ps : Pairs}, Paired (PKv H) kvs ps → z ∉ ps.map (·.1) → valV kvs (Sum.inr (SX.S z)) = none
  | _, _, .nil, _ => rfl
  | kv :: kvs, pr :: ps, .cons h t, hz => by
    have h1 : ¬ kv.1 = Sum.inr (SX.S z) := fun e => by
      rw [h.1] at e
      exact hz (by simp [SX.S_inj (Sum.inr.inj e)])
    rw [valV_neg h1]
    exact valV_fresh t fun m => hz (by simp at m ⊢; exact .inr m)
theorem putK_fresh {kvs : List (Key × V)} {k : Key} {v : V} (h : valV kvs k = none) : putK kvs k v = kvs ++ [(k, v)] := by
  unfold putK
  rw [if_neg (by rw [valV_any, h]; simp)]
theorem plus_zero {f : Frac} (h : isFracF f = true) : plusF (0, 1) f = f := by
  obtain ⟨t, b⟩ := f
  unfold isFracF at h
  simp at h
  unfold plusF mkF
  simp [h.2]
theorem nodup_notin {α : Type} {xs : List α} {i : Nat} {x : α} (hn : xs.Nodup) (h : xs[i]? = some x) : x ∉ xs.take i := fun hm => by
  obtain ⟨hi, e⟩ := List.getElem?_eq_some_iff.mp h
  rw [← List.take_append_drop i xs, List.drop_eq_getElem_cons hi, e, List.nodup_append] at hn
  exact hn.2.2 x hm x (by simp) rfl
theorem pairs_fracs {G : Hp} : ∀ {vs : List V} {ps : Pairs}, Paired (IsPair G) vs ps → ∃ fvs : List V, Paired (IsF G) fvs (ps.map (·.2)) ∧ fvs.length = vs.length ∧ ∀ (i : Nat) (v : V), vs[i]? = some v → ∃ p z fv, v = .ref p ∧ G p = some (.tup [sv z, fv]) ∧ fvs[i]? = some fv
  | _, _, .nil => ⟨[], .nil, rfl, fun i v h => by simp at h⟩
  | _, _, .cons (a := v) (b := pr) ⟨p, fv, e, q, r⟩ t => by
    obtain ⟨fvs, h1, h2, h3⟩ := pairs_fracs t
    refine ⟨fv :: fvs, .cons r h1, by simp [h2], fun i u hu => ?_⟩
    cases i with
    | zero => simp at hu; subst hu; exact ⟨p, _, fv, e, q, rfl⟩
    | succ i => simp at hu; obtain ⟨p', z, fv', a, b, c⟩ := h3 i u hu; exact ⟨p', z, fv', a, b, by simp [c]⟩
theorem dp_frac {H : Hp} {v : V} {f : Frac} (h : IsF H v f) : Dp K H v (.tuple [.int f.1, .int f.2]) := by
  obtain ⟨p, rfl, hp⟩ := h
  exact .tup (SqT.of hp) (.cons (.int _) (.cons (.int _) .nil))
theorem eqv_frac (f g : Frac) : PyData.eqv (.tuple [.int f.1, .int f.2]) (.tuple [.int g.1, .int g.2]) = decide (f = g) := by
  obtain ⟨a, b⟩ := f
  obtain ⟨c, d⟩ := g
  show (decide (a = c) && (decide (b = d) && true)) = _
  rw [Bool.and_true, ← Bool.decide_and]
  congr 1
  simp
theorem mixed_halves (r o : Wd) : mixedOk [(r, (1, 2)), (o, (1, 2))] = true := by
  have h1 : isChanceF (1, 2) = true := by decide +kernel
  have h2 : totalF [(1, 2), (1, 2)] = (1, 1) := by decide +kernel
  simp [mixedOk, h1, h2]
theorem cal_is_chance (F : Fn K mg "is_chance" s_is_chance) (B : Blt mg) (c_is_ratio : CalX P w K mg base 2 "is_ratio" spIsRatio) (c_under : CalX P w K mg base 1 "under" spUnder) : CalX P w K mg base 3 "is_chance" (spIsF isChanceF) := by
  refine calx F sc_is_chance (fun _ _ _ _ _ _ us hl => match us, hl with | [_], _ => rfl) (fun vs H Q E h => by obtain ⟨x, _, rfl, _⟩ := h; rfl) ?_
  intro f cdv A' outer s H vs Q E hr hT hx hu h
  refine ⟨_, (pss_one (ps_ret (pe_and (pe_cx c_is_ratio hr (by decide) rfl hx (pa_cons (pv 0) pa_nil)) (pe_and (pe_not (pe_cx c_under hr (by decide) rfl hx (pa_cons (pv 0) (pa_cons (pe_tup (pa_cons pe_int (pa_cons pe_int pa_nil))) pa_nil)))) (pe_one (pe_not (pe_cx c_under hr (by decide) rfl hx (pa_cons (pe_tup (pa_cons pe_int (pa_cons pe_int pa_nil))) (pa_cons (pv 0) pa_nil))))))))), ?_⟩
  obtain ⟨v, fr, rfl, hv, hs, q⟩ := h
  refine ⟨_, rfl, _, _, rfl, hv, ?_⟩
  refine ⟨_, rfl, ?_⟩
  cases hfr : isFracF fr with
  | false =>
    have e : isChanceF fr = false := by unfold isChanceF; rw [hfr]; rfl
    rw [e] at q
    exact iteF (q _ (Same.refl _))
  | true =>
    refine iteT ?_
    walk_at "rd"
    refine ⟨by show 2 ≤ sizeLine; decide, fun p hp => ?_⟩
    have s1 := same_upd (o := .tup [.int 0, .int 1]) hp
    refine ⟨_, _, fr, (0, 1), rfl, hv.mono s1, ⟨p, rfl, upd_same⟩, hs, by unfold Sm; decide, ?_⟩
    refine ⟨_, rfl, _, rfl, ?_⟩
    cases hu1 : underF fr (0, 1) with
    | true =>
      have e : isChanceF fr = false := by unfold isChanceF; rw [hfr, hu1]; rfl
      rw [e] at q
      exact iteF (q _ s1)
    | false =>
      refine iteT ?_
      refine ⟨by show 2 ≤ sizeLine; decide, fun p2 hp2 => ?_⟩
      have s2 := s1.trans (same_upd (o := .tup [.int 1, .int 1]) hp2)
      refine ⟨_, rfl, _, _, (1, 1), fr, rfl, ⟨p2, rfl, upd_same⟩, hv.mono s2, by unfold Sm; decide, hs, ?_⟩
      have e : isChanceF fr = !underF (1, 1) fr := by unfold isChanceF; rw [hfr, hu1]; rfl
      rw [e] at q
      exact ⟨_, rfl, q _ s2⟩
theorem cal_is_share (F : Fn K mg "is_share" s_is_share) (B : Blt mg) (c_is_ratio : CalX P w K mg base 2 "is_ratio" spIsRatio) (c_under : CalX P w K mg base 1 "under" spUnder) : CalX P w K mg base 3 "is_share" (spIsF isShareF) := by
  refine calx F sc_is_share (fun _ _ _ _ _ _ us hl => match us, hl with | [_], _ => rfl) (fun vs H Q E h => by obtain ⟨x, _, rfl, _⟩ := h; rfl) ?_
  intro f cdv A' outer s H vs Q E hr hT hx hu h
  refine ⟨_, (pss_one (ps_ret (pe_and (pe_cx c_is_ratio hr (by decide) rfl hx (pa_cons (pv 0) pa_nil)) (pe_and (pe_not (pe_cx c_under hr (by decide) rfl hx (pa_cons (pv 0) (pa_cons (pe_tup (pa_cons pe_int (pa_cons pe_int pa_nil))) pa_nil)))) (pe_one (pe_cx c_under hr (by decide) rfl hx (pa_cons (pv 0) (pa_cons (pe_tup (pa_cons pe_int (pa_cons pe_int pa_nil))) pa_nil)))))))), ?_⟩
  obtain ⟨v, fr, rfl, hv, hs, q⟩ := h
  refine ⟨_, rfl, _, _, rfl, hv, ?_⟩
  refine ⟨_, rfl, ?_⟩
  cases hfr : isFracF fr with
  | false =>
    have e : isShareF fr = false := by unfold isShareF; rw [hfr]; rfl
    rw [e] at q
    exact iteF (q _ (Same.refl _))
  | true =>
    refine iteT ?_
    walk_at "rd"
    refine ⟨by show 2 ≤ sizeLine; decide, fun p hp => ?_⟩
    have s1 := same_upd (o := .tup [.int 0, .int 1]) hp
    refine ⟨_, _, fr, (0, 1), rfl, hv.mono s1, ⟨p, rfl, upd_same⟩, hs, by unfold Sm; decide, ?_⟩
    refine ⟨_, rfl, _, rfl, ?_⟩
    cases hu1 : underF fr (0, 1) with
    | true =>
      have e : isShareF fr = false := by unfold isShareF; rw [hfr, hu1]; rfl
      rw [e] at q
      exact iteF (q _ s1)
    | false =>
      refine iteT ?_
      refine ⟨_, rfl, ?_⟩
      refine ⟨by show 2 ≤ sizeLine; decide, fun p2 hp2 => ?_⟩
      have s2 := s1.trans (same_upd (o := .tup [.int 1, .int 1]) hp2)
      refine ⟨_, _, fr, (1, 1), rfl, hv.mono s2, ⟨p2, rfl, upd_same⟩, hs, by unfold Sm; decide, ?_⟩
      have e : isShareF fr = underF fr (1, 1) := by unfold isShareF; rw [hfr, hu1]; rfl
      rw [e] at q
      exact q _ s2
theorem cal_check_head (F : Fn K mg "check_head" s_check_head) (B : Blt mg) (c_is_ratio : CalX P w K mg base 2 "is_ratio" spIsRatio) (c_is_word : CalX P w K mg base 1 "is_word" spIsWord) : CalX P w K mg base 3 "check_head" spCheckHead := by
  refine calx F sc_check_head (fun _ _ _ _ _ _ us hl => match us, hl with | [_, _], _ => rfl) (fun vs H Q E h => by obtain ⟨x, _, _, rfl, _⟩ := h; rfl) ?_
  intro f cdv A' outer s H vs Q E hr hT hx hu h
  refine ⟨_, (pss_cons (ps_if (pt_not (pt_val (pe_cx c_is_word hr (by decide) rfl hx (pa_cons (pv 0) pa_nil)))) pss_never pss_nil)
      (pss_one (ps_if (pt_not (pt_val (pe_cx c_is_ratio hr (by decide) rfl hx (pa_cons (pv 1) pa_nil)))) pss_never pss_nil))), ?_⟩
  obtain ⟨v, n, fr, rfl, hn, hl, hv, hf, q⟩ := h
  refine ⟨_, rfl, n, rfl, hl, fun H' hs => ?_⟩
  rw [hn]
  walk_at "rd"
  refine ⟨v, fr, rfl, hv.mono hs, ?_⟩
  rw [hf]
  walk_at "rd"
  exact q _ hs
theorem cfn_door (M : ∃ (C : Addr) (mc : Value) (f : Addr) (fd : FuncData), mg "Door" = some (.ref C) ∧ ClX.CRead K C mc ∧ PySem.W.findCls K (.ref C) mc "__init__" = some (.val (.ref f)) ∧ PySem.W.keepIn K (.ref f) = true ∧ FunD K "__init__" "Door.__init__" (defArgs s_Door___init__) (defBody s_Door___init__) (defScope s_Door___init__) [] [] f fd) (T : Tx K mg A)
    (c_check_head : CalX P w K mg base 3 "check_head" spCheckHead) : CfnX P w K mg base 4 "Door" "__init__" (spDoorInit A) := by
  obtain ⟨C, mc, f, fd, g, rd, fc, kp, F⟩ := M
  refine ⟨C, mc, f, fd, _, g, rd, fc, kp, F.bindsN (ps := ["self", "name", "pay"]) (fun _ _ _ _ _ _ us hl => match us, hl with | [_, _, _], _ => rfl), fn_ok F sc_Door___init__ (fun vs H Q E h => by obtain ⟨G, x, _, _, _, _, _, rfl, _⟩ := h; rfl) ?_⟩
  intro f cdv A' outer s H vs Q E hr hT hx hu h
  refine ⟨_, (pss_cons (ps_expr (pe_cx c_check_head hr (by decide) rfl hx (pa_cons (pv 1) (pa_cons (pv 2) pa_nil))))
      (pss_cons (ps_fld (pv 0) (pv 1) rfl)
      (pss_one (ps_fld (pv 0) (pv 2) rfl)))), ?_⟩
  obtain ⟨G, x, Cl, dx, v, n, fr, rfl, hn, hl, hG, hGx, hv, hf, hx', hC, q⟩ := h
  have hc : Cls K Cl ∧ NoAttr K Cl "name" ∧ NoAttr K Cl "pay" := by
    rcases hC with rfl | rfl | rfl
    · exact ⟨T.sure.c, T.sure.n _ (by simp), T.sure.n _ (by simp)⟩
    · exact ⟨T.mixed.c, T.mixed.n _ (by simp), T.mixed.n _ (by simp)⟩
    · exact ⟨T.toss.c, T.toss.n _ (by simp), T.toss.n _ (by simp)⟩
  refine ⟨_, rfl, _, rfl, _, n, fr, rfl, hn, hl, hv.mono hG, hf, fun H' hs => ?_⟩
  refine ⟨_, rfl, _, rfl, x, Cl, dx, _, rfl, hs _ _ hx', hc.1, hc.2.1, by show 0 < 1000; decide, ?_⟩
  refine ⟨_, rfl, _, rfl, x, Cl, dx, _, rfl, upd_same, hc.1, hc.2.2, by show 1 < 1000; decide, ?_⟩
  refine q _ (same_off (same_off (hG.trans hs) hGx) hGx) upd_same
theorem mak_sure (M : ∃ (f : Addr) (fd : FuncData), mg "Sure" = some (.ref A.sure) ∧ Mk K A.sure f ∧ FunD K "__init__" "Sure.__init__" (defArgs s_Sure___init__) (defBody s_Sure___init__) (defScope s_Sure___init__) [] [] f fd) (T : Tx K mg A)
    (f_Door___init__ : CfnX P w K mg base 4 "Door" "__init__" (spDoorInit A)) (c_is_word : CalX P w K mg base 1 "is_word" spIsWord) : MakX P w K mg base 5 "Sure" A.sure (spSureInit A) := by
  obtain ⟨f, fd, g, mk, F⟩ := M
  refine ⟨g, f, fd, _, mk, F.bindsN (ps := ["self", "name", "pay", "room"]) (fun _ _ _ _ _ _ us hl => match us, hl with | [_, _, _, _], _ => rfl), fn_ok F sc_Sure___init__ (fun vs H Q E h => by obtain ⟨G, x, _, _, _, _, _, rfl, _⟩ := h; rfl) ?_⟩
  intro f cdv A' outer s H vs Q E hr hT hx hu h
  refine ⟨_, (pss_cons (ps_expr (pe_cfx f_Door___init__ hr (by decide) rfl hx (pa_cons (pv 0) (pa_cons (pv 1) (pa_cons (pv 2) pa_nil)))))
      (pss_cons (ps_if (pt_not (pt_val (pe_cx c_is_word hr (by decide) rfl hx (pa_cons (pv 3) pa_nil)))) pss_never pss_nil)
      (pss_one (ps_fld (pv 0) (pv 3) rfl)))), ?_⟩
  obtain ⟨G, x, dx, v, n, r, fr, rfl, hn, hl, hr1, hrl, hG, hGx, hv, hf, hx', q⟩ := h
  refine ⟨_, rfl, _, rfl, _, rfl, G, x, A.sure, dx, v, n, fr, rfl, hn, hl, hG, hGx, hv, hf, hx', .inl rfl, fun H1 s1 h1 => ?_⟩
  refine ⟨_, rfl, r, rfl, hrl, fun H2 s2 => ?_⟩
  rw [hr1]
  refine ⟨_, rfl, iteF ?_⟩
  refine ⟨_, rfl, _, rfl, x, A.sure, dx, _, rfl, s2 _ _ h1, T.sure.c, T.sure.n _ (by simp), by show 2 < 1000; decide, ?_⟩
  exact q _ (same_off (s1.trans s2) hGx) upd_same
theorem mak_mixed (B : Blt mg) (M : ∃ (f : Addr) (fd : FuncData), mg "Mixed" = some (.ref A.mixed) ∧ Mk K A.mixed f ∧ FunD K "__init__" "Mixed.__init__" (defArgs s_Mixed___init__) (defBody s_Mixed___init__) (defScope s_Mixed___init__) [] [] f fd) (T : Tx K mg A)
    (f_Door___init__ : CfnX P w K mg base 4 "Door" "__init__" (spDoorInit A)) (c_is_word : CalX P w K mg base 1 "is_word" spIsWord) (c_is_chance : CalX P w K mg base 3 "is_chance" (spIsF isChanceF)) (c_total : CalX P w K mg base 3 "total" spTotal) : MakX P w K mg base 5 "Mixed" A.mixed (spMixedInit A) := by
  obtain ⟨f, fd, g, mk, F⟩ := M
  refine ⟨g, f, fd, _, mk, F.bindsN (ps := ["self", "name", "pay", "pairs"]) (fun _ _ _ _ _ _ us hl => match us, hl with | [_, _, _, _], _ => rfl), fn_ok F sc_Mixed___init__ (fun vs H Q E h => by obtain ⟨G, x, _, _, _, _, _, _, _, _, rfl, _⟩ := h; rfl) ?_⟩
  intro f cdv A' outer s H vs Q E hr hT hx hu h
  refine ⟨_, (pss_cons (ps_expr (pe_cfx f_Door___init__ hr (by decide) rfl hx (pa_cons (pv 0) (pa_cons (pv 1) (pa_cons (pv 2) pa_nil)))))
      (pss_cons (ps_for (passes_of rfl) rfl (pi_list (pv 3)) (pg_tup rfl (pgs_cons (pg_name (i := 4) sc_Mixed___init__.nd rfl (Or.inl rfl)) (pgs_cons (pg_name (i := 5) sc_Mixed___init__.nd rfl (Or.inl rfl)) pgs_nil)))
        (pss_cons (ps_if (pt_not (pt_val (pe_cx c_is_word hr (by decide) rfl hx (pa_cons (pv 4) pa_nil)))) pss_never pss_nil)
        (pss_one (ps_if (pt_not (pt_val (pe_cx c_is_chance hr (by decide) rfl hx (pa_cons (pv 5) pa_nil)))) (pss_one (ps_raise rfl hT (pmk_own PySem.F.excBase_ValueError T.NoChance.x T.NoChance.g T.NoChance.k (raises_own T.NoChance.b T.NoChance.t) rfl))) pss_nil))))
      (pss_cons (ps_if (pt_cmpR (op_neD hr.units) (pe_cx c_total hr (by decide) rfl hx (pa_cons (pe_lc (own := [("room", 4), ("chance", 5)]) rfl sc_Mixed___init__.nd (pi_list (pv 3)) (blkOk_by (own := [("room", 4), ("chance", 5)]) (N := ["self", "name", "pay", "pairs", "room", "chance"]) (sc := defScope s_Mixed___init__) (by decide +kernel)) (fun _ _ _ _ _ => (show PG _ _ (gTup K 2 _) from pg_tup rfl (pgs_cons (pg_name (i := 4) sc_Mixed___init__.nd rfl (Or.inl rfl)) (pgs_cons (pg_name (i := 5) sc_Mixed___init__.nd rfl (Or.inl rfl)) pgs_nil)))) (fun _ _ _ _ _ => pts_nil) (fun _ _ _ _ _ => (pv 5))) pa_nil)) (pe_tup (pa_cons pe_int (pa_cons pe_int pa_nil))) (nomark _)) (pss_one (ps_raise rfl hT (pmk_own PySem.F.excBase_ValueError T.NoChance.x T.NoChance.g T.NoChance.k (raises_own T.NoChance.b T.NoChance.t) rfl))) pss_nil)
      (pss_one (ps_fld (pv 0) (pe_callTy call_list_of (by rfl) B.list (by decide +kernel) (pa_cons (pv 3) pa_nil)) rfl))))), ?_⟩
  obtain ⟨G, x, C, dx, v, _, n, fr, ps, L, rfl, hn, hl, hG, hGx, hv, hf, ⟨pl, vs, rfl, hpl, hps⟩, hp1, hU, hx', hC, q1, q2⟩ := h
  have hc : Cls K C ∧ NoAttr K C "pairs" := by
    rcases hC with rfl | rfl
    · exact ⟨T.mixed.c, T.mixed.n _ (by simp)⟩
    · exact ⟨T.toss.c, T.toss.n _ (by simp)⟩
  obtain ⟨fvs, hfv, hfl, hfat⟩ := pairs_fracs hps
  have hlen : vs.length ≤ 1000 := by have h1 := hU.1.2.2; rw [List.length_map] at h1; rw [hps.length]; exact h1
  refine ⟨_, rfl, _, rfl, _, rfl, G, x, C, dx, v, n, fr, rfl, hn, hl, hG, hGx, hv, hf, hx', .inr hC, fun H1 s1 h1 => ?_⟩
  refine ⟨_, rfl, pl, rfl, ⟨_, SqL.of (s1 _ _ hpl)⟩, ?_⟩
  refine for_list (xs := vs) (fun i σ H' => Same G H' ∧ H' x = some (.ins C dx [("name", sv n), ("pay", v)]) ∧ (∃ o4 o5, σ = [some (.ref x), some (sv n), some v, some (.ref pl), o4, o5]) ∧ (ps.take i).all (fun p => isChanceF p.2) = true)
    ⟨s1, h1, ⟨_, _, rfl⟩, rfl⟩ (fun i σ H' _ h => SqL.of (h.1 _ _ hpl)) ?_ ?_
  · rintro i y σ H' hi ⟨s2, h2, ⟨o4, o5, rfl⟩, hall⟩
    obtain ⟨pr, hpr, t, fv, rfl, ht, hfv'⟩ := paired_get hps hi
    obtain ⟨w1, w2, w3⟩ := hp1 pr (mem_at hpr)
    refine ⟨_, _, rfl, SqT.of (s2 _ _ ht), rfl, ?_⟩
    walk_at "rd"
    refine ⟨w2, fun H2 s3 => ?_⟩
    rw [w1]
    walk_at "rd"
    refine ⟨_, pr.2, rfl, (hfv'.mono s2).mono s3, w3, fun H3 s4 => ?_⟩
    have s5 := (s2.trans s3).trans s4
    cases hch : isChanceF pr.2 with
    | false =>
      refine ⟨_, rfl, iteT (rz_plain (q2 ?_) s5 rfl rfl)⟩
      unfold mixedOk
      rw [show ps.all (fun p => isChanceF p.2) = false from by rw [List.all_eq_false]; exact ⟨pr, mem_at hpr, by simp [hch]⟩]
      rfl
    | true =>
      refine ⟨_, rfl, iteF ⟨s5, s4 _ _ (s3 _ _ h2), ⟨_, _, rfl⟩, ?_⟩⟩
      rw [take_snoc hpr, List.all_append, hall]
      simp [hch]
  · rintro σ H2 ⟨s2, h2, ⟨o4, o5, rfl⟩, hall⟩
    rw [hps.length, List.take_length] at hall
    refine ⟨_, rfl, pl, rfl, ⟨_, SqL.of (s2 _ _ hpl)⟩, fun D hD => ?_⟩
    refine lc_list (xs := vs) (fun i H' => H' = upd H2 D (.lst (fvs.take i))) rfl (fun i H' _ h => by rw [h]; exact SqL.of (by rw [upd_ne (ne_of_none (s2 _ _ hpl) hD)]; exact s2 _ _ hpl)) ?_ ?_
    · rintro i y _ hi rfl
      obtain ⟨t, z, fv, rfl, ht, hfi⟩ := hfat i y hi
      refine ⟨_, _, rfl, SqT.of (by rw [upd_ne (ne_of_none (s2 _ _ ht) hD)]; exact s2 _ _ ht), rfl, ?_⟩
      walk_at "rd"
      refine ⟨_, upd_same, by simp only [List.length_take]; rw [sizeLine_eq]; omega, ?_⟩
      rw [upd_upd, take_snoc hfi]
    · rintro _ rfl
      rw [← hfl, List.take_length]
      have s3 : Same G (upd H2 D (.lst fvs)) := s2.trans (same_upd hD)
      refine ⟨_, ps.map (·.2), L, rfl, ⟨D, fvs, rfl, upd_same, hfv.mono fun _ _ k => k.mono s3⟩, hU, fun m H3 s4 hm => ?_⟩
      refine ⟨by show 2 ≤ sizeLine; decide, fun t ht => ?_⟩
      have s5 := same_upd (o := .tup [.int 1, .int 1]) ht
      have s6 := (s3.trans s4).trans s5
      have hx6 := s5 _ _ (s4 _ _ ((same_upd (o := .lst fvs) hD) _ _ h2))
      refine ⟨_, _, dp_frac (hm.mono s5), dp_frac (f := (1, 1)) ⟨t, rfl, upd_same⟩, rfl, rfl, ?_⟩
      refine ⟨_, rfl, ?_⟩
      rw [eqv_frac]
      cases htot : decide (totalF (ps.map (·.2)) = (1, 1)) with
      | false =>
        refine iteT (rz_plain (q2 ?_) s6 rfl rfl)
        unfold mixedOk
        rw [htot, Bool.and_false]
      | true =>
        refine iteF ?_
        refine ⟨_, rfl, pl, vs, rfl, .inl (SqL.of (s6 _ _ hpl)), fun l hl' => ?_⟩
        have s7 := same_upd (o := .lst vs) hl'
        refine ⟨_, rfl, x, C, dx, _, rfl, s7 _ _ hx6, hc.1, hc.2, by show 2 < 1000; decide, ?_⟩
        have s8 := same_off (x := x) (o := .ins C dx [("name", sv n), ("pay", v), ("pairs", .ref l)]) (s6.trans s7) hGx
        refine q1 ?_ _ l vs s8 upd_same (s6.free hl') ?_ (hps.mono fun _ _ k => k.mono s8)
        · unfold mixedOk
          rw [hall, htot]; rfl
        · rw [upd_ne (fun z => by rw [z, hx6] at hl'; cases hl')]
          exact upd_same
theorem met_ways {D : Addr} (B : Blt mg) (F : Mth K D "ways" "Mixed.ways" s_Mixed_ways) (T : Tx K mg A)
    (c_plus : CalX P w K mg base 3 "plus" (spBin plusF)) : MetX P w K mg base 4 D "ways" (spWays A) := by
  refine metx F sc_Mixed_ways (fun _ _ _ _ _ _ us hl => match us, hl with | [_], _ => rfl) (fun vs H Q E h => by obtain ⟨x, _, rfl, _⟩ := h; rfl) ?_
  intro f cdv A' outer s H vs Q E hr hT hx hu h
  refine ⟨_, (pss_cons (ps_set (i := 1) sc_Mixed_ways.nd rfl (Or.inl rfl) pe_dnewK)
      (pss_cons (ps_for (passes_of rfl) rfl (pi_list (pe_fld (pv 0) rfl)) (pg_tup rfl (pgs_cons (pg_name (i := 2) sc_Mixed_ways.nd rfl (Or.inl rfl)) (pgs_cons (pg_name (i := 3) sc_Mixed_ways.nd rfl (Or.inl rfl)) pgs_nil)))
        (pss_one (ps_dput hu (pv 1) (pv 2) (pe_cx c_plus hr (by decide) rfl hx (pa_cons (pe_dget2 hu (pv 1) (pv 2) (pe_tup (pa_cons pe_int (pa_cons pe_int pa_nil))) ⟨rfl, rfl, rfl, rfl⟩) (pa_cons (pv 3) pa_nil))) rfl)))
      (pss_one (ps_ret (pe_lock (pe_lc (own := [("room", 2), ("chance", 3)]) rfl sc_Mixed_ways.nd (pi_items (pv 1)) (blkOk_by (own := [("room", 2), ("chance", 3)]) (N := ["self", "found", "room", "chance"]) (sc := defScope s_Mixed_ways) (by decide +kernel)) (fun _ _ _ _ _ => (show PG _ _ (gTup K 2 _) from pg_tup rfl (pgs_cons (pg_name (i := 2) sc_Mixed_ways.nd rfl (Or.inl rfl)) (pgs_cons (pg_name (i := 3) sc_Mixed_ways.nd rfl (Or.inl rfl)) pgs_nil)))) (fun _ _ _ _ _ => (pts_one (pt_cmpR (show OpR _ _ (rNeD K) from (op_neD hr.units)) (pv 3) (pe_tup (pa_cons pe_int (pa_cons pe_int pa_nil))) (nomark _)))) (fun _ _ _ _ _ => (pe_tup (pa_cons (pv 2) (pa_cons (pv 3) pa_nil)))))))))), ?_⟩
  obtain ⟨_, dr, rfl, ⟨a, C, dx, pv, _, rfl, hC, ha, hpv, ⟨pl, vs, rfl, hpl, hps⟩⟩, ⟨hnd, hln, hok⟩, q⟩ := h
  have hc : Cls K C ∧ NoAttr K C "pairs" := by
    rcases hC with rfl | rfl
    · exact ⟨T.mixed.c, T.mixed.n _ (by simp)⟩
    · exact ⟨T.toss.c, T.toss.n _ (by simp)⟩
  have hlen := hps.length
  intro d hd
  have s0 := same_upd (o := .dK []) hd
  refine ⟨_, rfl, a, C, dx, _, _, rfl, s0 _ _ ha, hc.1, hc.2, rfl, pl, rfl, ⟨_, SqL.of (s0 _ _ hpl)⟩, ?_⟩
  refine for_list (xs := vs) (fun i σ H' => Same H H' ∧ (∃ o2 o3, σ = [some (.ref a), some (.ref d), o2, o3]) ∧ ∃ kvs, H' d = some (.dK kvs) ∧ Paired (PKv H') kvs (dr.pairs.take i))
    ⟨s0, ⟨_, _, rfl⟩, [], upd_same, .nil⟩ (fun i σ H' _ h => SqL.of (h.1 _ _ hpl)) ?_ ?_
  · rintro i y σ H' hi ⟨s1, ⟨o2, o3, rfl⟩, kvs, hkd, hkv⟩
    obtain ⟨pr, hpr, t, fv, rfl, ht, hfv⟩ := paired_get hps hi
    obtain ⟨w1, w2, w3⟩ := hok pr (mem_at hpr)
    have hnone : valV kvs (Sum.inr (SX.S pr.1)) = none := valV_fresh hkv (by rw [List.map_take]; exact nodup_notin hnd (by rw [List.getElem?_map, hpr]; rfl))
    refine ⟨_, _, rfl, SqT.of (s1 _ _ ht), rfl, ?_⟩
    walk_at "rd"
    refine ⟨.inl ⟨kvs, .inl hkd⟩, ?_⟩
    walk_at "rd"
    refine ⟨by show 2 ≤ sizeLine; decide, fun z hz => ?_⟩
    have s2 := same_upd (o := .tup [.int 0, .int 1]) hz
    refine ⟨none, by rw [← hnone]; exact DGet.k (k := Sum.inr (SX.S pr.1)) (s2 _ _ hkd), ?_⟩
    refine ⟨_, rfl, _, _, (0, 1), pr.2, rfl, ⟨z, rfl, upd_same⟩, (hfv.mono s1).mono s2, by unfold Sm; decide, w2, fun m H3 s3 hm => ?_⟩
    rw [plus_zero w1] at hm
    have hk3 := s3 _ _ (s2 _ _ hkd)
    refine ⟨_, rfl, _, rfl, ?_⟩
    have hkl : kvs.length < sizeLine := by rw [hkv.length, List.length_take, sizeLine_eq]; omega
    refine ⟨d, _, rfl, DPut.k (k := Sum.inr (SX.S pr.1)) hk3 hkl, ?_⟩
    rw [putK_fresh hnone]
    have s4 := (s1.trans s2).trans s3
    refine ⟨same_off s4 hd, ⟨_, _, rfl⟩, _, upd_same, ?_⟩
    rw [take_snoc hpr]
    exact (hkv.mono fun a b k => ⟨k.1, ((k.2.mono s2).mono s3).upd hk3 nt_dk⟩).snoc ⟨rfl, hm.upd hk3 nt_dk⟩
  · rintro σ H1 ⟨s1, ⟨o2, o3, rfl⟩, kvs, hkd, hkv⟩
    rw [hlen, List.take_length] at hkv
    refine ⟨d, .dK kvs, hkd, trivial, fun od => ?_⟩
    have sf := same_off (o := .frz od (.dK kvs)) s1 hd
    have hkv1 := hkv.mono (F' := PKv (upd H1 d (.frz od (.dK kvs)))) fun a b k => ⟨k.1, k.2.upd hkd nt_dk⟩
    refine ⟨_, rfl, d, od, kvs, rfl, upd_same, fun D hD => ?_⟩
    have hDd : D ≠ d := fun e => by rw [e, upd_same] at hD; cases hD
    have hHD : H D = none := sf.free hD
    refine lc_it walk_items (fun i H' => Same H H' ∧ Same (upd H1 d (.frz od (.dK kvs))) H' ∧ ∃ vs', H' D = some (.lst vs') ∧ Paired (IsPair H') vs' (dr.pairs.take i))
      ⟨sf.trans (same_upd hD), same_upd hD, [], upd_same, .nil⟩ (fun i H' _ h => h.2.1 _ _ upd_same) ?_ ?_
    · rintro i x H2 H3 hi ⟨s2, s2', vs', hv', hp'⟩ ⟨t, k, fv, rfl, ht, rfl, hk, hfv⟩
      have hke : ∃ kv, kvs[i]? = some kv ∧ k = kV kv.1 ∧ fv = kv.2 := by
        dsimp only at hk hfv
        cases hkk : kvs[i]? with
        | none => rw [hkk] at hk; cases hk
        | some kv => rw [hkk] at hk hfv; exact ⟨kv, rfl, (by simpa using hk.symm), by simpa using hfv.symm⟩
      obtain ⟨kv, hkk, rfl, rfl⟩ := hke
      obtain ⟨pr, hpr, hk1, hk2⟩ := paired_get hkv1 hkk
      obtain ⟨w1, w2, w3⟩ := hok pr (mem_at hpr)
      rw [hk1]
      have s3 := same_upd (o := .tup [kV (Sum.inr (SX.S pr.1)), kv.2]) ht
      refine ⟨_, _, rfl, SqT.of upd_same, rfl, ?_⟩
      walk_at "rd"
      refine ⟨by show 2 ≤ sizeLine; decide, fun z hz => ?_⟩
      have s4 := same_upd (o := .tup [.int 0, .int 1]) hz
      have hf4 := (((hk2.mono s2').mono s3).mono s4)
      refine ⟨_, _, dp_frac hf4, dp_frac (f := (0, 1)) ⟨z, rfl, upd_same⟩, rfl, rfl, ?_⟩
      rw [eqv_frac, decide_eq_false (fun e => by rw [e] at w3; exact absurd w3 (by decide))]
      walk_at "rd"
      refine ⟨by show 2 ≤ sizeLine; decide, fun e he => ?_⟩
      have s5 := same_upd (o := .tup [kV (Sum.inr (SX.S pr.1)), kv.2]) he
      have s6 := (s3.trans s4).trans s5
      have hv6 := s6 _ _ hv'
      refine ⟨vs', hv6, by rw [hp'.length, List.length_take, sizeLine_eq]; omega, ?_⟩
      refine ⟨same_off (s2.trans s6) hHD, same_off (s2'.trans s6) hD, _, upd_same, ?_⟩
      rw [take_snoc hpr]
      refine (hp'.mono fun a b k => (IsPair.mono s6 k).upd hv6 nt_lst).snoc ?_
      exact IsPair.upd ⟨e, kv.2, rfl, upd_same, hf4.mono s5⟩ hv6 nt_lst
    · rintro H2 ⟨s2, s2', vs', hv', hp'⟩
      rw [hkv.length, List.take_length] at hp'
      have hd2 := s2' _ _ upd_same
      refine ⟨hd2, ?_⟩
      refine q _ _ (same_off s2 hd) ⟨D, vs', rfl, by rw [upd_ne hDd]; exact hv', hp'.mono fun a b k => IsPair.upd k hd2 nt_frz⟩
theorem mak_toss (M : ∃ (f : Addr) (fd : FuncData), mg "Toss" = some (.ref A.toss) ∧ Mk K A.toss f ∧ FunD K "__init__" "Toss.__init__" (defArgs s_Toss___init__) (defBody s_Toss___init__) (defScope s_Toss___init__) [] [] f fd) (T : Tx K mg A)
    (f_Mixed___init__ : CfnX P w K mg base 5 "Mixed" "__init__" (spMixedInit A)) (c_check_head : CalX P w K mg base 3 "check_head" spCheckHead) (c_is_chance : CalX P w K mg base 3 "is_chance" (spIsF isChanceF)) (c_minus : CalX P w K mg base 3 "minus" (spBin minusF)) : MakX P w K mg base 6 "Toss" A.toss (spTossInit A) := by
  obtain ⟨f, fd, g, mk, F⟩ := M
  refine ⟨g, f, fd, _, mk, F.bindsN (ps := ["self", "name", "pay", "chance", "room", "other"]) (fun _ _ _ _ _ _ us hl => match us, hl with | [_, _, _, _, _, _], _ => rfl), fn_ok F sc_Toss___init__ (fun vs H Q E h => by obtain ⟨G, x, _, _, _, _, _, _, _, _, rfl, _⟩ := h; rfl) ?_⟩
  intro f cdv A' outer s H vs Q E hr hT hx hu h
  refine ⟨_, (pss_cons (ps_expr (pe_cx c_check_head hr (by decide) rfl hx (pa_cons (pv 1) (pa_cons (pv 2) pa_nil))))
      (pss_cons (ps_if (pt_not (pt_val (pe_cx c_is_chance hr (by decide) rfl hx (pa_cons (pv 3) pa_nil)))) (pss_one (ps_raise rfl hT (pmk_own PySem.F.excBase_ValueError T.NoChance.x T.NoChance.g T.NoChance.k (raises_own T.NoChance.b T.NoChance.t) rfl))) pss_nil)
      (pss_one (ps_expr (pe_cfx f_Mixed___init__ hr (by decide) rfl hx (pa_cons (pv 0) (pa_cons (pv 1) (pa_cons (pv 2) (pa_cons (pe_lst (pa_cons (pe_tup (pa_cons (pv 4) (pa_cons (pv 3) pa_nil))) (pa_cons (pe_tup (pa_cons (pv 5) (pa_cons (pe_cx c_minus hr (by decide) rfl hx (pa_cons (pe_tup (pa_cons pe_int (pa_cons pe_int pa_nil))) (pa_cons (pv 3) pa_nil))) pa_nil))) pa_nil))) pa_nil))))))))), ?_⟩
  obtain ⟨G, x, dx, v, c, n, r, o, fr, cf, rfl, hn, hl, hr1, hr2, ho1, ho2, hG, hGx, hv, hf, hc, hcs, hx', q⟩ := h
  refine ⟨_, rfl, _, rfl, _, n, fr, rfl, hn, hl, hv.mono hG, hf, fun H1 s1 => ?_⟩
  refine ⟨_, rfl, _, cf, rfl, (hc.mono hG).mono s1, hcs, fun H2 s2 => ?_⟩
  have s2' := (hG.trans s1).trans s2
  rcases q with ⟨hcf, q⟩ | ⟨rfl, q⟩
  · rw [hcf]
    exact ⟨_, rfl, iteT (rz_plain q s2' rfl rfl)⟩
  · refine ⟨_, rfl, iteF ?_⟩
    walk_at "rd"
    refine ⟨by show 2 ≤ sizeLine; decide, fun t1 ht1 => ?_⟩
    walk_at "rd"
    refine ⟨by show 2 ≤ sizeLine; decide, fun t2 ht2 => ?_⟩
    have s4 := (s2'.trans (same_upd (o := .tup [sv r, c]) ht1)).trans (same_upd (o := .tup [.int 1, .int 1]) ht2)
    refine ⟨_, rfl, _, _, (1, 1), (1, 2), rfl, ⟨t2, rfl, upd_same⟩, hc.mono s4, by unfold Sm; decide, by unfold Sm; decide, fun m H5 s5 hm => ?_⟩
    have s5' := s4.trans s5
    refine ⟨by show 2 ≤ sizeLine; decide, fun t3 ht3 => ?_⟩
    refine ⟨by show 2 ≤ sizeLine; decide, fun l hl' => ?_⟩
    have t1n : (upd (upd H2 t1 (.tup [sv r, c])) t2 (.tup [.int 1, .int 1])) t1 = some (.tup [sv r, c]) := by rw [upd_ne (ne_of_none upd_same ht2)]; exact upd_same
    have s6 := s5'.trans (same_upd (o := .tup [sv o, m]) ht3)
    have s7 := s6.trans (same_upd (o := .lst [.ref t1, .ref t3]) hl')
    have a3 := same_upd (o := .tup [sv o, m]) ht3
    have a7 := same_upd (o := .lst [.ref t1, .ref t3]) hl'
    have hx7 := a7 _ _ (a3 _ _ (s5 _ _ ((same_upd (o := .tup [.int 1, .int 1]) ht2) _ _ ((same_upd (o := .tup [sv r, c]) ht1) _ _ (s2 _ _ (s1 _ _ hx'))))))
    rw [show minusF (1, 1) (1, 2) = (1, 2) from by decide +kernel] at hm
    have hps : IsPairs (upd (upd H5 t3 (.tup [sv o, m])) l (.lst [.ref t1, .ref t3])) (.ref l) [(r, (1, 2)), (o, (1, 2))] :=
      ⟨l, _, rfl, upd_same, .cons ⟨t1, c, rfl, a7 _ _ (a3 _ _ (s5 _ _ t1n)), hc.mono s7⟩ (.cons ⟨t3, m, rfl, a7 _ _ upd_same, (hm.mono a3).mono a7⟩ .nil)⟩
    refine ⟨_, x, A.toss, dx, v, _, n, fr, [(r, (1, 2)), (o, (1, 2))], 2, rfl, hn, hl, del_le, del_same, hv.mono (same_del s7 hGx), hf, hps.del hx7, ?_, ?_, hx7, .inr rfl, fun _ H8 p vs s8 h8 hp8 hv8 hps8 => ?_, fun h => ?_⟩
    · intro p hp
      simp at hp
      rcases hp with rfl | rfl
      · exact ⟨hr1, hr2, by show Sm (1, 2); unfold Sm; decide⟩
      · exact ⟨ho1, ho2, by show Sm (1, 2); unfold Sm; decide⟩
    · refine ⟨by simp, fun f hf => ?_⟩
      simp at hf
      subst hf
      decide
    · exact q _ p vs ((same_del s7 hGx).trans s8) h8 ((same_del s7 hGx).free hp8) hv8 hps8
    · rw [mixed_halves] at h
      cases h
end
end Dk
/-! halls -/
namespace Dk
open PySem PySem.Spec PyProof.Rows L2
local macro_rules | `(tactic| walk_at "rd") => `(tactic| repeat (first | refine ⟨_, rfl, ?_⟩ | refine ⟨_, _, rfl, rfl, ?_⟩ | refine iteT ?_ | refine iteF ?_ | refine ⟨_, _, _, _, rfl, rfl, SqT.of (by assumption), rfl, ?_⟩ | refine ⟨rfl, ?_⟩ | refine ⟨_, _, rfl, lenS (by assumption), ?_⟩ | refine ⟨_, _, rfl, lenT (by assumption), ?_⟩ | refine ⟨_, _, rfl, lenL (by assumption), ?_⟩ | refine ⟨⟨_, SqL.of (by assumption)⟩, ?_⟩ | refine ⟨_, _, rfl, ?_⟩))
theorem sc_Hall___init__ : FnScope ["self", "share", "rooms", "name", "doors"] ["self", "share", "rooms"] (defScope s_Hall___init__) := ⟨rfl, rfl, rfl, by decide +kernel, rfl, by decide +kernel, by decide +kernel⟩
theorem sc_Hall_taken : FnScope ["self", "doors", "known", "found", "door", "ways", "room", "chance"] ["self", "doors"] (defScope s_Hall_taken) := ⟨rfl, rfl, rfl, by decide +kernel, rfl, by decide +kernel, by decide +kernel⟩
theorem sc_Hall_size : FnScope ["self"] ["self"] (defScope s_Hall_size) := ⟨rfl, rfl, rfl, by decide +kernel, rfl, by decide +kernel, by decide +kernel⟩
theorem sc_Hall_names : FnScope ["self"] ["self"] (defScope s_Hall_names) := ⟨rfl, rfl, rfl, by decide +kernel, rfl, by decide +kernel, by decide +kernel⟩
theorem sc_Hall_place : FnScope ["self", "name", "room"] ["self", "name"] (defScope s_Hall_place) := ⟨rfl, rfl, rfl, by decide +kernel, rfl, by decide +kernel, by decide +kernel⟩
theorem sc_Hall_check_room : FnScope ["self", "room"] ["self", "room"] (defScope s_Hall_check_room) := ⟨rfl, rfl, rfl, by decide +kernel, rfl, by decide +kernel, by decide +kernel⟩
theorem sc_Hall_door_at : FnScope ["self", "room", "name", "door"] ["self", "room", "name"] (defScope s_Hall_door_at) := ⟨rfl, rfl, rfl, by decide +kernel, rfl, by decide +kernel, by decide +kernel⟩
theorem sc_Hall_offers : FnScope ["self", "room", "name", "pay", "ways"] ["self", "room"] (defScope s_Hall_offers) := ⟨rfl, rfl, rfl, by decide +kernel, rfl, by decide +kernel, by decide +kernel⟩
section
variable {P : Program} {w : World} {K : PySem.W.Frag} {mg : Str → Option Value} {base : Heap} {A : Ad}
def IsTit (A : Ad) (H : Hp) (v : V) (ts : List Wd) : Prop := ∃ a dx fv tl gv, v = .ref a ∧ H a = some (.ins A.hall dx [("share", fv), ("titles", .ref tl), ("given", gv)]) ∧ H tl = some (.lst (ts.map sv))
def offerOf (ts : List Wd) (d : PDoor) : Offer := (d.name, d.pay, d.pairs.map fun p => (ts.idxOf p.1, p.2))
def OkDoors (ts : List Wd) (ds : List PDoor) : Prop := (ds.map (·.name)).Nodup ∧ ds.length ≤ 100 ∧ ∀ d ∈ ds, d.name.length ≤ 1000 ∧ OkPairs d.pairs ∧ ∀ p ∈ d.pairs, p.1 ∈ ts
def OkRooms (rs : List PRoom) : Prop := (rs.map (·.1)).Nodup ∧ rs.length ≤ 100 ∧ ∀ r ∈ rs, isWordS r.1 = true ∧ r.1.length ≤ 1000 ∧ OkDoors (rs.map (·.1)) r.2
def hallOf (f : Frac) (rs : List PRoom) : PHall := ⟨f, rs.map (·.1), rs.map fun r => r.2.map (offerOf (rs.map (·.1)))⟩
/-- of H' what is new since H, and the tuples -/
def nw (H H' : Hp) : Hp := fun b => match H b with | none => H' b | some (.tup _) => H' b | some _ => none
def spPlace (A : Ad) : Sp := fun vs H Q E => ∃ v z ts, vs = [v, sv z] ∧ IsTit A H v ts ∧ ts.length ≤ 100 ∧ (z ∈ ts → Q (.int (ts.idxOf z : Nat)) H) ∧ (z ∉ ts → Rz A H E (.room z))
def spTaken (A : Ad) : Sp := fun vs H Q E => ∃ v dv ts ds, vs = [v, dv] ∧ IsTit A H v ts ∧ ts.length ≤ 100 ∧ IsDoors A H dv ds ∧ OkDoors ts ds ∧ ∀ v H', Same H H' → IsOffers (nw H H') v (ds.map (offerOf ts)) → Q v H'
def spHallInit (A : Ad) : Sp := fun vs H Q E => ∃ G x dx fv rv f rs, vs = [.ref x, fv, rv] ∧ Same G H ∧ G x = none ∧ H x = some (.ins A.hall dx []) ∧ IsF G fv f ∧ isShareF f = true ∧ Sm f ∧ IsRooms A G rv rs ∧ OkRooms rs ∧
  ∀ H', Same G H' → IsHall A H' (.ref x) (hallOf f rs) → Q .non H'
def OkHall (h : PHall) : Prop := h.titles.length ≤ 100 ∧ h.given.length = h.titles.length ∧ ∀ os ∈ h.given, os.length ≤ 100
def spSize (A : Ad) : Sp := fun vs H Q E => ∃ v h, vs = [v] ∧ IsHall A H v h ∧ Q (.int (h.titles.length : Nat)) H
def spNames (A : Ad) : Sp := fun vs H Q E => ∃ v h, vs = [v] ∧ IsHall A H v h ∧ OkHall h ∧ ∀ v H', Same H H' → IsWs H' v h.titles → Q v H'
def spCheckRoom (A : Ad) : Sp := fun vs H Q E => ∃ v h, ∃ k : Nat, vs = [v, .int k] ∧ IsHall A H v h ∧ k < h.titles.length ∧ Q .non H
def spDoorAt (A : Ad) : Sp := fun vs H Q E => ∃ v h z os, ∃ k : Nat, vs = [v, .int k, sv z] ∧ IsHall A H v h ∧ OkHall h ∧ h.given[k]? = some os ∧ (z ∈ os.map (·.1) → Q (.int ((os.map (·.1)).idxOf z : Nat)) H) ∧ (z ∉ os.map (·.1) → Rz A H E (.door z))
def spOffers (A : Ad) : Sp := fun vs H Q E => ∃ v h os, ∃ k : Nat, vs = [v, .int k] ∧ IsHall A H v h ∧ OkHall h ∧ h.given[k]? = some os ∧ ∀ v H', Same H H' → IsOffers H' v os → Q v H'
theorem del_upd {H : Hp} {x : Addr} {o : HO} : L2.del (L2.upd H x o) x = L2.del H x := by
  funext b
  by_cases h : b = x
  · subst h; rw [del_same, del_same]
  · rw [del_ne h, del_ne h, upd_ne h]
theorem same_dels {H H' : Hp} {x : Addr} (s : Same H H') : Same (L2.del H x) (L2.del H' x) := fun b o e => by
  by_cases h : b = x
  · subst h; rw [del_same] at e; cases e
  · rw [del_ne h] at e ⊢; exact s _ _ e
theorem nw_new {H H' : Hp} {b : Addr} (h : H b = none) : nw H H' b = H' b := by unfold nw; rw [h]
theorem nw_tup {H H' : Hp} {b : Addr} {xs} (s : Same H H') (h : H' b = some (.tup xs)) : nw H H' b = some (.tup xs) := by
  unfold nw
  cases e : H b with
  | none => exact h
  | some o =>
    have := s _ _ e
    rw [h] at this
    cases this
    exact h
theorem nw_le {H H' : Hp} : Same (nw H H') H' := fun b o e => by
  unfold nw at e
  split at e
  · exact e
  · exact e
  · cases e
/-- of the new ones all but two -/
def gd (H : Hp) (kn fo : Addr) (H' : Hp) : Hp := fun b => if b = kn ∨ b = fo then none else nw H H' b
theorem gd_mono {H H' H'' : Hp} {kn fo : Addr} (h : ∀ b o, b ≠ kn → b ≠ fo → H' b = some o → H'' b = some o) : Same (gd H kn fo H') (gd H kn fo H'') := fun b o e => by
  unfold gd at e ⊢
  by_cases hb : b = kn ∨ b = fo
  · rw [if_pos hb] at e; cases e
  · rw [if_neg hb] at e ⊢
    have h1 : b ≠ kn := fun z => hb (.inl z)
    have h2 : b ≠ fo := fun z => hb (.inr z)
    unfold nw at e ⊢
    split at e
    · exact h b o h1 h2 e
    · exact h b o h1 h2 e
    · cases e
theorem gd_at {H H' : Hp} {kn fo b : Addr} (h : H b = none) (h1 : b ≠ kn) (h2 : b ≠ fo) : gd H kn fo H' b = H' b := by
  unfold gd
  rw [if_neg (fun z => z.elim h1 h2), nw_new h]
theorem gd_le {H H' : Hp} {kn fo : Addr} : Same (gd H kn fo H') (nw H H') := fun b o e => by
  unfold gd at e
  split at e
  · cases e
  · exact e
theorem isf_gd {H H' : Hp} {kn fo : Addr} {v : V} {f : Frac} {xs ys} (h : IsF H' v f) (s : Same H H') (h1 : H' kn = some (.lst xs)) (h2 : H' fo = some (.lst ys)) : IsF (gd H kn fo H') v f := by
  obtain ⟨p, e, q⟩ := h
  refine ⟨p, e, ?_⟩
  unfold gd
  rw [if_neg (fun z => z.elim (ne_of q h1 fun z => by cases z) (ne_of q h2 fun z => by cases z)), nw_tup s q]
theorem isway_gd {H H' : Hp} {kn fo : Addr} {v : V} {f} {xs ys} (h : IsWay H' v f) (s : Same H H') (h1 : H' kn = some (.lst xs)) (h2 : H' fo = some (.lst ys)) : IsWay (gd H kn fo H') v f := by
  obtain ⟨p, fv, e, q, r⟩ := h
  refine ⟨p, fv, e, ?_, isf_gd r s h1 h2⟩
  unfold gd
  rw [if_neg (fun z => z.elim (ne_of q h1 fun z => by cases z) (ne_of q h2 fun z => by cases z)), nw_tup s q]
theorem IsWay.upd {H : Hp} {x : Addr} {o o' : HO} {v : V} {f} (h : IsWay H v f) (hx : H x = some o') (hk : NT o') : IsWay (L2.upd H x o) v f := let ⟨p, fv, e, q, r⟩ := h; ⟨p, fv, e, by rw [upd_ne (ne_of q hx fun z => hk _ z.symm)]; exact q, r.upd hx hk⟩
theorem paired_get' {α β : Type} {R : α → β → Prop} : ∀ {xs : List α} {ys : List β} {i : Nat} {y : β}, Paired R xs ys → ys[i]? = some y → ∃ x, xs[i]? = some x ∧ R x y
  | _, _, _, _, .nil, h => by simp at h
  | _, _, 0, _, .cons r _, h => by
    simp at h
    subst h
    exact ⟨_, rfl, r⟩
  | _, _, i + 1, _, .cons _ t, h => by
    simp at h
    obtain ⟨y, e, r⟩ := paired_get' t h
    exact ⟨y, by simp [e], r⟩
theorem idxOf_first {z : Wd} : ∀ {ts : List Wd} {i : Nat}, ts[i]? = some z → (∀ j, j < i → ts[j]? ≠ some z) → ts.idxOf z = i
  | [], _, h, _ => by simp at h
  | t :: ts, 0, h, _ => by
    simp at h
    subst h
    simp
  | t :: ts, i + 1, h, hn => by
    have h0 : t ≠ z := fun e => hn 0 (by omega) (by simp [e])
    have := idxOf_first (ts := ts) (i := i) (by simpa using h) (fun j hj => by have := hn (j + 1) (by omega); simpa using this)
    rw [List.idxOf_cons, this]
    simp [beq_eq_false_iff_ne.mpr h0]
theorem flat_sv (ts : List Wd) : (ts.map sv).all flatV = true := by simp [flatV]
theorem inV_sv (z : Wd) (ts : List Wd) : inV (sv z) (ts.map sv) = decide (z ∈ ts) := by
  unfold inV
  induction ts with
  | nil => rfl
  | cons t ts ih =>
    rw [List.map_cons, List.any_cons, ih]
    have e : eqV (sv t) (sv z) = decide (t = z) := SX.S_beq_eq
    have e' : eqV (sv z) (sv t) = decide (z = t) := SX.S_beq_eq
    by_cases h : t = z
    · subst h; simp [e]
    · have h' : ¬ z = t := fun q => h q.symm
      simp [e, e', h, h']
theorem tyL {H : Hp} {p : Addr} {xs : List V} (h : H p = some (.lst xs)) : tyV K "list" (.ref p) H := .inl ⟨rfl, xs, SqL.of h⟩
theorem IsTit.mono {H H' : Hp} {v : V} {ts : List Wd} (s : Same H H') (h : IsTit A H v ts) : IsTit A H' v ts := let ⟨a, dx, fv, tl, gv, e, q, r⟩ := h; ⟨a, dx, fv, tl, gv, e, s _ _ q, s _ _ r⟩
def hid3 (x y z : Addr) (H : Hp) : Hp := fun b => if b = x ∨ b = y ∨ b = z then none else H b
theorem hid3_le {x y z : Addr} {H : Hp} : Same (hid3 x y z H) H := fun b o e => by
  unfold hid3 at e
  split at e
  · cases e
  · exact e
theorem hid3_mono {x y z : Addr} {H H' : Hp} (h : ∀ b o, b ≠ x → b ≠ y → b ≠ z → H b = some o → H' b = some o) : Same (hid3 x y z H) (hid3 x y z H') := fun b o e => by
  unfold hid3 at e ⊢
  by_cases hb : b = x ∨ b = y ∨ b = z
  · rw [if_pos hb] at e; cases e
  · rw [if_neg hb] at e ⊢
    exact h b o (fun q => hb (.inl q)) (fun q => hb (.inr (.inl q))) (fun q => hb (.inr (.inr q))) e
theorem met_size (F : Mth K A.hall "size" "Hall.size" s_Hall_size) (B : Blt mg) (T : Tx K mg A) : MetX P w K mg base 1 A.hall "size" (spSize A) := by
  refine metx F sc_Hall_size (fun _ _ _ _ _ _ us hl => match us, hl with | [_], _ => rfl) (fun vs H Q E h => by obtain ⟨x, _, rfl, _⟩ := h; rfl) ?_
  intro f cdv A' outer s H vs Q E hr hT hx hu h
  refine ⟨_, (pss_one (ps_ret (pe_callB call_len (by rfl) B.len (by decide +kernel) (pa_cons (pe_fld (pv 0) rfl) pa_nil)))), ?_⟩
  obtain ⟨v, h, rfl, hh, q⟩ := h
  obtain ⟨a, dx, fv, tl, gl, gs, rfl, ha, hf, ht, hg, hgs⟩ := hh
  refine ⟨_, rfl, a, A.hall, dx, _, _, rfl, ha, T.hall.c, T.hall.n _ (by simp), rfl, _, _, rfl, lenL ht, ?_⟩
  rw [List.length_map]
  exact q
theorem met_names (F : Mth K A.hall "names" "Hall.names" s_Hall_names) (B : Blt mg) (T : Tx K mg A) : MetX P w K mg base 1 A.hall "names" (spNames A) := by
  refine metx F sc_Hall_names (fun _ _ _ _ _ _ us hl => match us, hl with | [_], _ => rfl) (fun vs H Q E h => by obtain ⟨x, _, rfl, _⟩ := h; rfl) ?_
  intro f cdv A' outer s H vs Q E hr hT hx hu h
  refine ⟨_, (pss_one (ps_ret (pe_callTy call_list_of (by rfl) B.list (by decide +kernel) (pa_cons (pe_fld (pv 0) rfl) pa_nil)))), ?_⟩
  obtain ⟨v, h, rfl, hh, hk, q⟩ := h
  obtain ⟨a, dx, fv, tl, gl, gs, rfl, ha, hf, ht, hg, hgs⟩ := hh
  refine ⟨_, rfl, a, A.hall, dx, _, _, rfl, ha, T.hall.c, T.hall.n _ (by simp), rfl, tl, _, rfl, .inl (SqL.of ht), fun l hl => ?_⟩
  exact q _ _ (same_upd hl) ⟨l, rfl, upd_same⟩
theorem met_place (F : Mth K A.hall "place" "Hall.place" s_Hall_place) (B : Blt mg) (T : Tx K mg A) (R_NoRoom : RaX P w K mg base "NoRoom" A.room (spXi A.room "room")) : MetX P w K mg base 3 A.hall "place" (spPlace A) := by
  refine metx F sc_Hall_place (fun _ _ _ _ _ _ us hl => match us, hl with | [_, _], _ => rfl) (fun vs H Q E h => by obtain ⟨x, _, _, rfl, _⟩ := h; rfl) ?_
  intro f cdv A' outer s H vs Q E hr hT hx hu h
  refine ⟨_, (pss_cons (ps_for (passes_of rfl) rfl (pi_range1 rfl B.range (pa_cons (pe_callB call_len (by rfl) B.len (by decide +kernel) (pa_cons (pe_fld (pv 0) rfl) pa_nil)) pa_nil)) (pg_name (i := 2) sc_Hall_place.nd rfl (Or.inl rfl))
        (pss_one (ps_if (pt_cmpR op_eq (pe_ix ix_list (pe_fld (pv 0) rfl) (pv 2) (fun _ _ => rfl)) (pv 1) (nomark _)) (pss_one (ps_ret (pv 2))) pss_nil)))
      (pss_one (ps_raise rfl hT (pmk_f R_NoRoom (hr.mono (by decide)) rfl (pa_cons (pv 1) pa_nil))))), ?_⟩
  obtain ⟨v, z, ts, rfl, ht, hl, q1, q2⟩ := h
  obtain ⟨a, dx, fv, tl, gv, rfl, ha, ht⟩ := ht
  refine ⟨_, rfl, a, A.hall, dx, _, _, rfl, ha, T.hall.c, T.hall.n _ (by simp), rfl, _, _, rfl, lenL ht, _, rfl, ?_, ?_, ?_⟩
  · rw [List.length_map]; omega
  · rw [List.length_map]; omega
  rw [List.length_map, Int.toNat_natCast]
  refine for_range (n := ts.length) (fun i σ H' => H = H' ∧ (∃ o, σ = [some (.ref a), some (sv z), o]) ∧ ∀ j, j < i → ts[j]? ≠ some z) ⟨rfl, ⟨_, rfl⟩, fun j hj => by omega⟩ ?_ ?_
  · rintro i σ H' hi ⟨rfl, ⟨o, rfl⟩, hn⟩
    have hti : ts[i]? = some ts[i] := List.getElem?_eq_getElem hi
    refine ⟨_, rfl, a, A.hall, dx, _, _, rfl, ha, T.hall.c, T.hall.n _ (by simp), rfl, _, rfl, tl, _, _, sv ts[i], rfl, rfl, SqL.of ht, ?_, _, rfl, rfl, _, rfl, ?_⟩
    · rw [Int.zero_add]
      exact atI_nat (by rw [List.getElem?_map, hti]; rfl)
    rw [sv_eq]
    refine ite2 (fun he => ?_) (fun he => ?_)
    · have he' := of_decide_eq_true he
      rw [he'] at hti
      have e := idxOf_first hti hn
      refine ⟨_, rfl, ?_⟩
      rw [Int.zero_add, ← e]
      exact q1 (mem_at hti)
    · refine ⟨rfl, ⟨_, rfl⟩, fun j hj => ?_⟩
      by_cases hji : j = i
      · subst hji
        rw [hti]
        exact fun z => he (decide_eq_true (Option.some.inj z))
      · exact hn j (by omega)
  · rintro σ H' ⟨rfl, ⟨o, rfl⟩, hn⟩
    refine ⟨_, rfl, mkx fun H' d s hd => rz_fld (q2 fun hm => ?_) s rfl rfl rfl hd⟩
    obtain ⟨j, hj, e⟩ := List.mem_iff_getElem.mp hm
    exact hn j hj (by rw [List.getElem?_eq_getElem hj, e])
theorem met_check_room (F : Mth K A.hall "check_room" "Hall.check_room" s_Hall_check_room) (B : Blt mg) (T : Tx K mg A) (c_is_whole : CalX P w K mg base 1 "is_whole" spIsWhole) : MetX P w K mg base 2 A.hall "check_room" (spCheckRoom A) := by
  refine metx F sc_Hall_check_room (fun _ _ _ _ _ _ us hl => match us, hl with | [_, _], _ => rfl) (fun vs H Q E h => by obtain ⟨x, _, _, rfl, _⟩ := h; rfl) ?_
  intro f cdv A' outer s H vs Q E hr hT hx hu h
  refine ⟨_, (pss_one (ps_if (PW.pt (pw_or (pt_not (pt_val (pe_cx c_is_whole hr (by decide) rfl hx (pa_cons (pv 1) pa_nil)))) (pw_or (pt_cmpR op_lt (pv 1) pe_int (nomark _)) (pw_or1 (pt_cmpR op_ge (pv 1) (pe_callB call_len (by rfl) B.len (by decide +kernel) (pa_cons (pe_fld (pv 0) rfl) pa_nil)) (nomark _)))))) pss_never pss_nil)), ?_⟩
  obtain ⟨v, h, k, rfl, hh, hk, q⟩ := h
  obtain ⟨a, dx, fv, tl, gl, gs, rfl, ha, hf, ht, hg, hgs⟩ := hh
  walk_at "rd"
  refine ⟨a, A.hall, dx, _, _, rfl, ha, T.hall.c, T.hall.n _ (by simp), rfl, _, _, rfl, lenL ht, ?_⟩
  walk_at "rd"
  rw [List.length_map]
  refine ifF (by simp; omega) ?_
  exact q
theorem met_door_at (F : Mth K A.hall "door_at" "Hall.door_at" s_Hall_door_at) (B : Blt mg) (T : Tx K mg A) (m_Hall_check_room : MetX P w K mg base 2 A.hall "check_room" (spCheckRoom A)) (R_NoDoor : RaX P w K mg base "NoDoor" A.door (spXi A.door "door")) : MetX P w K mg base 3 A.hall "door_at" (spDoorAt A) := by
  refine metx F sc_Hall_door_at (fun _ _ _ _ _ _ us hl => match us, hl with | [_, _, _], _ => rfl) (fun vs H Q E h => by obtain ⟨x, _, _, _, _, rfl, _⟩ := h; rfl) ?_
  intro f cdv A' outer s H vs Q E hr hT hx hu h
  refine ⟨_, (pss_cons (ps_expr (pe_mx (pv 0) m_Hall_check_room hr (by decide) hx (pa_cons (pv 1) pa_nil)))
      (pss_cons (ps_for (passes_of rfl) rfl (pi_range1 rfl B.range (pa_cons (pe_callB call_len (by rfl) B.len (by decide +kernel) (pa_cons (pe_ix ix_list (pe_fld (pv 0) rfl) (pv 1) (fun _ _ => rfl)) pa_nil)) pa_nil)) (pg_name (i := 3) sc_Hall_door_at.nd rfl (Or.inl rfl))
        (pss_one (ps_if (pt_cmpR op_eq (pe_ix ix_tup (pe_ix ix_list (pe_ix ix_list (pe_fld (pv 0) rfl) (pv 1) (fun _ _ => rfl)) (pv 3) (fun _ _ => rfl)) pe_int (fun _ _ => rfl)) (pv 2) (nomark _)) (pss_one (ps_ret (pv 3))) pss_nil)))
      (pss_one (ps_raise rfl hT (pmk_f R_NoDoor (hr.mono (by decide)) rfl (pa_cons (pv 2) pa_nil)))))), ?_⟩
  obtain ⟨v, h, z, os, k, rfl, hh, hok, hk, q1, q2⟩ := h
  have hh0 := hh
  obtain ⟨a, dx, fv, tl, gl, gs, rfl, ha, hf, ht, hg, hgs⟩ := hh
  have hkl : k < h.given.length := (List.getElem?_eq_some_iff.mp hk).1
  obtain ⟨gv, hgk, p, ovs, rfl, hp, hos⟩ := paired_get' hgs hk
  have hol := hok.2.2 os (mem_at hk)
  have hon := hos.length
  refine ⟨_, rfl, a, dx, _, rfl, ha, rfl, _, rfl, _, h, k, rfl, hh0, by rw [← hok.2.1]; exact hkl, ?_⟩
  refine ⟨_, rfl, a, A.hall, dx, _, _, rfl, ha, T.hall.c, T.hall.n _ (by simp), rfl, _, rfl, gl, _, _, _, rfl, rfl, SqL.of hg, atI_nat hgk, _, _, rfl, lenL hp, _, rfl, ?_, ?_, ?_⟩
  · omega
  · omega
  rw [Int.toNat_natCast]
  refine for_range (n := ovs.length) (fun i σ H' => H = H' ∧ (∃ o, σ = [some (.ref a), some (.int k), some (sv z), o]) ∧ ∀ j, j < i → (os.map (·.1))[j]? ≠ some z) ⟨rfl, ⟨_, rfl⟩, fun j hj => by omega⟩ ?_ ?_
  · rintro i σ H' hi ⟨rfl, ⟨o, rfl⟩, hn⟩
    have hti : ovs[i]? = some ovs[i] := List.getElem?_eq_getElem hi
    obtain ⟨o1, ho1, t, fv2, wv, et, htt, _⟩ := paired_get hos hti
    rw [et] at hti
    have hnm : (os.map (·.1))[i]? = some o1.1 := by rw [List.getElem?_map, ho1]; rfl
    refine ⟨_, rfl, a, A.hall, dx, _, _, rfl, ha, T.hall.c, T.hall.n _ (by simp), rfl, _, rfl, gl, _, _, _, rfl, rfl, SqL.of hg, atI_nat hgk, _, rfl, p, _, _, .ref t, rfl, rfl, SqL.of hp, ?_, ?_⟩
    · rw [Int.zero_add]
      exact atI_nat hti
    walk_at "rd"
    rw [sv_eq]
    refine ite2 (fun he => ?_) (fun he => ?_)
    · have he' := of_decide_eq_true he
      rw [he'] at hnm
      have e := idxOf_first hnm hn
      refine ⟨_, rfl, ?_⟩
      rw [Int.zero_add, ← e]
      exact q1 (mem_at hnm)
    · refine ⟨rfl, ⟨_, rfl⟩, fun j hj => ?_⟩
      by_cases hji : j = i
      · subst hji
        rw [hnm]
        exact fun z => he (decide_eq_true (Option.some.inj z))
      · exact hn j (by omega)
  · rintro σ H' ⟨rfl, ⟨o, rfl⟩, hn⟩
    refine ⟨_, rfl, mkx fun H' d s hd => rz_fld (q2 fun hm => ?_) s rfl rfl rfl hd⟩
    obtain ⟨j, hj, e⟩ := List.mem_iff_getElem.mp hm
    exact hn j (by rw [List.length_map] at hj; omega) (by rw [List.getElem?_eq_getElem hj, e])
theorem met_offers (F : Mth K A.hall "offers" "Hall.offers" s_Hall_offers) (B : Blt mg) (T : Tx K mg A) (m_Hall_check_room : MetX P w K mg base 2 A.hall "check_room" (spCheckRoom A)) : MetX P w K mg base 3 A.hall "offers" (spOffers A) := by
  refine metx F sc_Hall_offers (fun _ _ _ _ _ _ us hl => match us, hl with | [_, _], _ => rfl) (fun vs H Q E h => by obtain ⟨x, _, _, _, rfl, _⟩ := h; rfl) ?_
  intro f cdv A' outer s H vs Q E hr hT hx hu h
  refine ⟨_, (pss_cons (ps_expr (pe_mx (pv 0) m_Hall_check_room hr (by decide) hx (pa_cons (pv 1) pa_nil)))
      (pss_one (ps_ret (pe_lc (own := [("name", 2), ("pay", 3), ("ways", 4)]) rfl sc_Hall_offers.nd (pi_list (pe_ix ix_list (pe_fld (pv 0) rfl) (pv 1) (fun _ _ => rfl))) (blkOk_by (own := [("name", 2), ("pay", 3), ("ways", 4)]) (N := ["self", "room", "name", "pay", "ways"]) (sc := defScope s_Hall_offers) (by decide +kernel)) (fun _ _ _ _ _ => (show PG _ _ (gTup K 3 _) from pg_tup rfl (pgs_cons (pg_name (i := 2) sc_Hall_offers.nd rfl (Or.inl rfl)) (pgs_cons (pg_name (i := 3) sc_Hall_offers.nd rfl (Or.inl rfl)) (pgs_cons (pg_name (i := 4) sc_Hall_offers.nd rfl (Or.inl rfl)) pgs_nil))))) (fun _ _ _ _ _ => pts_nil) (fun _ _ _ _ _ => (pe_tup (pa_cons (pv 2) (pa_cons (pv 3) (pa_cons (pe_callTy (show CallR _ _ (fun xs H Q => ∃ p ys, xs = [.ref p] ∧ (SqL K H p ys ∨ SqT K H p ys) ∧ ∀ l, H l = none → Q (.ref l) (upd H l (.lst ys))) from call_list_of) (by rfl) B.list (by decide +kernel) (pa_cons (pv 4) pa_nil)) pa_nil))))))))), ?_⟩
  obtain ⟨v, h, os, k, rfl, hh, hok, hk, q⟩ := h
  have hh0 := hh
  obtain ⟨a, dx, fv, tl, gl, gs, rfl, ha, hf, ht, hg, hgs⟩ := hh
  have hkl : k < h.given.length := (List.getElem?_eq_some_iff.mp hk).1
  obtain ⟨gv, hgk, p, ovs, rfl, hp, hos⟩ := paired_get' hgs hk
  have hol := hok.2.2 os (mem_at hk)
  have hon := hos.length
  refine ⟨_, rfl, a, dx, _, rfl, ha, rfl, _, rfl, _, h, k, rfl, hh0, by rw [← hok.2.1]; exact hkl, ?_⟩
  refine ⟨_, rfl, a, A.hall, dx, _, _, rfl, ha, T.hall.c, T.hall.n _ (by simp), rfl, _, rfl, gl, _, _, _, rfl, rfl, SqL.of hg, atI_nat hgk, p, rfl, ⟨_, SqL.of hp⟩, fun D hD => ?_⟩
  refine lc_list (xs := ovs) (fun i H' => Same H H' ∧ ∃ vs, H' D = some (.lst vs) ∧ Paired (IsOffer (L2.del H' D)) vs (os.take i)) ⟨same_upd hD, [], upd_same, .nil⟩ (fun i H' _ h => SqL.of (h.1 _ _ hp)) ?_ ?_
  · rintro i y H' hi ⟨s1, vs, hv, hps⟩
    obtain ⟨o1, ho1, t, fv2, _, rfl, htt, hf2, ⟨wl, wvs, rfl, hwl, hws⟩⟩ := paired_get hos hi
    refine ⟨_, _, rfl, SqT.of (s1 _ _ htt), rfl, ?_⟩
    walk_at "rd"
    refine ⟨wl, wvs, rfl, .inl (SqL.of (s1 _ _ hwl)), fun l hl => ?_⟩
    have s2 := same_upd (o := .lst wvs) hl
    refine ⟨by show 3 ≤ sizeLine; decide, fun T' hT' => ?_⟩
    have s3 := same_upd (o := .tup [sv o1.1, fv2, .ref l]) hT'
    have s4 := s2.trans s3
    have hv4 := s4 _ _ hv
    have hlD : l ≠ D := fun e => by rw [e, hv] at hl; cases hl
    have hTD : T' ≠ D := fun e => by rw [e, s2 _ _ hv] at hT'; cases hT'
    refine ⟨vs, hv4, by rw [hps.length, List.length_take, sizeLine_eq]; omega, ?_⟩
    have sd : Same H (L2.del (L2.upd (L2.upd H' l (.lst wvs)) T' (.tup [sv o1.1, fv2, .ref l])) D) := same_del (s1.trans s4) hD
    refine ⟨same_off (s1.trans s4) hD, _, upd_same, ?_⟩
    rw [del_upd, take_snoc ho1]
    refine (hps.mono fun a b k => IsOffer.mono (same_dels s4) k).snoc ⟨T', fv2, _, rfl, ?_, hf2.mono sd, l, wvs, rfl, ?_, hws.mono fun a b k => IsWay.mono sd k⟩
    · rw [del_ne hTD]; exact upd_same
    · rw [del_ne hlD]; exact s3 _ _ upd_same
  · rintro H' ⟨s1, vs, hv, hps⟩
    rw [hon, List.take_length] at hps
    exact q _ _ s1 ⟨D, vs, rfl, hv, hps.mono fun a b k => IsOffer.mono del_le k⟩
theorem met_taken (F : Mth K A.hall "taken" "Hall.taken" s_Hall_taken) (B : Blt mg) (T : Tx K mg A) (m_Hall_place : MetX P w K mg base 3 A.hall "place" (spPlace A)) (m_Mixed_ways : MetX P w K mg base 4 A.mixed "ways" (spWays A)) (m_Toss_ways : MetX P w K mg base 4 A.toss "ways" (spWays A)) : MetX P w K mg base 5 A.hall "taken" (spTaken A) := by
  refine metx F sc_Hall_taken (fun _ _ _ _ _ _ us hl => match us, hl with | [_, _], _ => rfl) (fun vs H Q E h => by obtain ⟨x, _, _, _, rfl, _⟩ := h; rfl) ?_
  intro f cdv A' outer s H vs Q E hr hT hx hu h
  refine ⟨_, (pss_cons (ps_set (i := 2) sc_Hall_taken.nd rfl (Or.inl rfl) (pe_lst pa_nil))
      (pss_cons (ps_set (i := 3) sc_Hall_taken.nd rfl (Or.inl rfl) (pe_lst pa_nil))
      (pss_cons (ps_for (passes_of rfl) rfl (pi_list (pv 1)) (pg_name (i := 4) sc_Hall_taken.nd rfl (Or.inl rfl))
        (pss_cons (ps_if (pt_cmpR op_in_seq (pe_fld (pv 4) rfl) (pv 2) (by rfl)) pss_never pss_nil)
        (pss_cons (ps_expr (pe_bm PySem.F.plainAttrs_list PySem.F.slot_list_append PySem.F.type_list_append mt_append (pv 2) (pa_cons (pe_fld (pv 4) rfl) pa_nil)))
        (pss_cons (ps_setLc (i := 5) (own := [("room", 6), ("chance", 7)]) rfl sc_Hall_taken.nd rfl rfl (sw_true rfl rfl rfl (by decide +kernel)) (pi_list (pe_or2 (pe_mx0 (pv 4) m_Mixed_ways hr (by decide) hx) (pe_mx0 (pv 4) m_Toss_ways hr (by decide) hx))) (blkOk_by (own := [("room", 6), ("chance", 7)]) (N := ["self", "doors", "known", "found", "door", "ways", "room", "chance"]) (sc := defScope s_Hall_taken) (by decide +kernel)) (fun _ _ _ _ _ => (show PG _ _ (gTup K 2 _) from pg_tup rfl (pgs_cons (pg_name (i := 6) sc_Hall_taken.nd rfl (Or.inl rfl)) (pgs_cons (pg_name (i := 7) sc_Hall_taken.nd rfl (Or.inl rfl)) pgs_nil)))) (fun _ _ _ _ _ => pts_nil) (fun _ _ _ _ _ => (pe_tup (pa_cons (pe_mx (pv 0) m_Hall_place hr (by decide) passL (pa_cons (pv 6) pa_nil)) (pa_cons (pv 7) pa_nil)))))
        (pss_one (ps_expr (pe_bm PySem.F.plainAttrs_list PySem.F.slot_list_append PySem.F.type_list_append mt_append (pv 3) (pa_cons (pe_tup (pa_cons (pe_fld (pv 4) rfl) (pa_cons (pe_fld (pv 4) rfl) (pa_cons (pv 5) pa_nil)))) pa_nil))))))))
      (pss_one (ps_ret (pv 3)))))), ?_⟩
  obtain ⟨v, dv, ts, ds, rfl, ht, htl, hd, hok, q⟩ := h
  obtain ⟨a, dx, fv, tl, gv, rfl, ha, htt⟩ := id ht
  obtain ⟨p, dvs, rfl, hp, hds⟩ := hd
  obtain ⟨hnd, hdl, hdk⟩ := hok
  have hdn := hds.length
  refine ⟨Nat.zero_le _, fun kn hkn => ?_⟩
  refine ⟨Nat.zero_le _, fun fo hfo => ?_⟩
  have hkf : kn ≠ fo := ne_of_none upd_same hfo
  have s0 : Same H (L2.upd (L2.upd H kn (.lst [])) fo (.lst [])) := (same_upd hkn).trans (same_upd hfo)
  have hfo' : H fo = none := (same_upd (o := .lst []) hkn).free hfo
  refine ⟨_, rfl, p, rfl, ⟨_, SqL.of (s0 _ _ hp)⟩, ?_⟩
  refine for_list (xs := dvs) (fun i σ H' => Same H H' ∧ (∃ o4 o5 o6 o7, σ = [some (.ref a), some (.ref p), some (.ref kn), some (.ref fo), o4, o5, o6, o7]) ∧ H' kn = some (.lst (((ds.take i).map (·.name)).map sv)) ∧ ∃ ovs, H' fo = some (.lst ovs) ∧ Paired (IsOffer (gd H kn fo H')) ovs ((ds.take i).map (offerOf ts)))
    ⟨s0, ⟨_, _, _, _, rfl⟩, by rw [upd_ne hkf]; exact upd_same, [], upd_same, .nil⟩ (fun i σ H' _ h => SqL.of (h.1 _ _ hp)) ?_ ?_
  · rintro i y σ H' hi ⟨s1, ⟨o4, o5, o6, o7, rfl⟩, hk, ovs, hf, hps⟩
    obtain ⟨d, hdi, hdoor⟩ := paired_get hds hi
    obtain ⟨da, C, ddx, pv, qv, rfl, hC, hda, hpv, hqv⟩ := id hdoor
    obtain ⟨hnl, hdp, hdr⟩ := hdk d (mem_at hdi)
    have hc : Cls K C ∧ NoAttr K C "name" ∧ NoAttr K C "pay" := by
      rcases hC with rfl | rfl
      · exact ⟨T.mixed.c, T.mixed.n _ (by simp), T.mixed.n _ (by simp)⟩
      · exact ⟨T.toss.c, T.toss.n _ (by simp), T.toss.n _ (by simp)⟩
    refine ⟨_, rfl, da, C, ddx, _, _, rfl, s1 _ _ hda, hc.1, hc.2.1, rfl, _, rfl, kn, _, rfl, .inl (SqL.of hk), rfl, flat_sv _, _, rfl, ?_⟩
    refine ifF ?_ ?_
    · show inV (sv d.name) _ = false
      rw [inV_sv]
      refine decide_eq_false ?_
      rw [List.map_take]
      exact nodup_notin hnd (by rw [List.getElem?_map, hdi]; rfl)
    refine ⟨_, rfl, tyL hk, _, rfl, da, C, ddx, _, _, rfl, s1 _ _ hda, hc.1, hc.2.1, rfl, kn, _, _, rfl, rfl, hk, ?_, ?_⟩
    · simp only [List.length_map, List.length_take]; rw [sizeLine_eq]; omega
    have s1' : Same H (L2.upd H' kn (.lst (((ds.take i).map (·.name)).map sv ++ [sv d.name]))) := same_off s1 hkn
    have hk1 : (L2.upd H' kn (.lst (((ds.take i).map (·.name)).map sv ++ [sv d.name]))) kn = some (.lst (((ds.take i).map (·.name)).map sv ++ [sv d.name])) := upd_same
    have hf1 : (L2.upd H' kn (.lst (((ds.take i).map (·.name)).map sv ++ [sv d.name]))) fo = some (.lst ovs) := by rw [upd_ne hkf.symm]; exact hf
    have hb1 : ∀ b o, b ≠ kn → H' b = some o → (L2.upd H' kn (.lst (((ds.take i).map (·.name)).map sv ++ [sv d.name]))) b = some o := fun b o h e => by rw [upd_ne h]; exact e
    generalize hH1 : L2.upd H' kn (.lst (((ds.take i).map (·.name)).map sv ++ [sv d.name])) = H1 at s1' hk1 hf1 hb1 ⊢
    have key : ∀ (σ : L2.St) (Q' : VK), σ[4]? = some (some (.ref da)) → (∀ v H', Same H1 H' → IsPairs H' v d.pairs → Q' v H') → (tMethX A.mixed "ways" (spWays A) E (tVar 4) tNil σ H1 Q' ∨ tMethX A.toss "ways" (spWays A) E (tVar 4) tNil σ H1 Q') := by
      intro σ Q' hσ hq
      rcases hC with rfl | rfl
      · exact .inl ⟨_, hσ, da, ddx, _, rfl, s1' _ _ hda, rfl, _, d, rfl, hdoor.mono s1', hdp, hq⟩
      · exact .inr ⟨_, hσ, da, ddx, _, rfl, s1' _ _ hda, rfl, _, d, rfl, hdoor.mono s1', hdp, hq⟩
    refine key _ _ rfl ?_
    rintro _ H2 s2 ⟨wl0, wvs, rfl, hwl0, hws⟩
    refine ⟨wl0, rfl, ⟨_, SqL.of hwl0⟩, fun D hD => ?_⟩
    have s2' := s1'.trans s2
    refine lc_list (xs := wvs) (fun i H' => Same H2 H' ∧ ∃ vs, H' D = some (.lst vs) ∧ Paired (IsWay H') vs ((d.pairs.take i).map fun p => (ts.idxOf p.1, p.2))) ⟨same_upd hD, [], upd_same, .nil⟩ (fun i H' _ h => SqL.of (h.1 _ _ hwl0)) ?_ ?_
    · rintro j y H3 hj ⟨s3, vs, hv, hvs⟩
      obtain ⟨pr, hpr, t, fv3, rfl, ht3, hf3⟩ := paired_get hws hj
      have s3' := s2'.trans s3
      have hpl := hdp.2.1
      refine ⟨_, _, rfl, SqT.of (s3 _ _ ht3), rfl, ?_⟩
      refine ⟨_, _, rfl, _, _, rfl, rfl, rfl, ?_⟩
      refine ⟨_, rfl, a, dx, _, rfl, s3' _ _ ha, rfl, _, rfl, _, pr.1, ts, rfl, ht.mono s3', htl, fun _ => ?_, fun hn => absurd (hdr pr (mem_at hpr)) hn⟩
      refine ⟨_, rfl, by show 2 ≤ sizeLine; decide, fun T' hT' => ?_⟩
      have s4 := same_upd (o := .tup [.int (ts.idxOf pr.1 : Nat), fv3]) hT'
      have hv4 := s4 _ _ hv
      refine ⟨vs, hv4, by rw [hvs.length, List.length_map, List.length_take, sizeLine_eq]; omega, same_off (s3.trans s4) hD, _, upd_same, ?_⟩
      rw [take_snoc hpr, List.map_append]
      exact (hvs.mono fun a b k => (IsWay.mono s4 k).upd hv4 nt_lst).snoc (IsWay.upd ⟨T', fv3, rfl, upd_same, (hf3.mono s3).mono s4⟩ hv4 nt_lst)
    · rintro H3 ⟨s3, vs, hv, hvs⟩
      rw [hws.length, List.take_length] at hvs
      have s3' := s2'.trans s3
      refine ⟨_, rfl, tyL (s3 _ _ (s2 _ _ hf1)), _, rfl, da, C, ddx, _, _, rfl, s3' _ _ hda, hc.1, hc.2.1, rfl, _, rfl, da, C, ddx, _, _, rfl, s3' _ _ hda, hc.1, hc.2.2, rfl, _, rfl, by show 3 ≤ sizeLine; decide, fun T' hT' => ?_⟩
      have s4 := same_upd (o := .tup [sv d.name, pv, .ref D]) hT'
      have hk4 := s4 _ _ (s3 _ _ (s2 _ _ hk1))
      have hf4 := s4 _ _ (s3 _ _ (s2 _ _ hf1))
      have hv4 := s4 _ _ hv
      have hDk : D ≠ kn := fun e => by rw [e, s2 _ _ hk1] at hD; cases hD
      have hDf : D ≠ fo := fun e => by rw [e, s2 _ _ hf1] at hD; cases hD
      have hTk : T' ≠ kn := fun e => by rw [e, s3 _ _ (s2 _ _ hk1)] at hT'; cases hT'
      have hTf : T' ≠ fo := fun e => by rw [e, s3 _ _ (s2 _ _ hf1)] at hT'; cases hT'
      refine ⟨fo, _, _, rfl, rfl, hf4, ?_, ?_⟩
      · rw [hps.length, List.length_map, List.length_take, sizeLine_eq]; omega
      have s5 := same_off (o := .lst (ovs ++ [.ref T'])) (s3'.trans s4) hfo'
      have hk5 : (L2.upd (L2.upd H3 T' (.tup [sv d.name, pv, .ref D])) fo (.lst (ovs ++ [.ref T']))) kn = _ := (upd_ne hkf).trans hk4
      have hf5 : (L2.upd (L2.upd H3 T' (.tup [sv d.name, pv, .ref D])) fo (.lst (ovs ++ [.ref T']))) fo = _ := upd_same
      have hb5 : ∀ b o, b ≠ kn → b ≠ fo → H' b = some o → (L2.upd (L2.upd H3 T' (.tup [sv d.name, pv, .ref D])) fo (.lst (ovs ++ [.ref T']))) b = some o := fun b o h1 h2 e => by
        rw [upd_ne h2]; exact s4 _ _ (s3 _ _ (s2 _ _ (hb1 b o h1 e)))
      refine ⟨s5, ⟨_, _, _, _, rfl⟩, ?_, _, hf5, ?_⟩
      · rw [hk5, take_snoc hdi]; simp
      rw [take_snoc hdi, List.map_append]
      refine (hps.mono fun a b k => IsOffer.mono (gd_mono hb5) k).snoc ⟨T', pv, .ref D, rfl, ?_, isf_gd (hpv.mono s5) s5 hk5 hf5, D, vs, rfl, ?_, hvs.mono fun a b k => isway_gd ((IsWay.mono s4 k).upd hf4 nt_lst) s5 hk5 hf5⟩
      · rw [gd_at (s3'.free hT') hTk hTf, upd_ne hTf]; exact upd_same
      · rw [gd_at (s2'.free hD) hDk hDf, upd_ne hDf]; exact hv4
  · rintro σ H1 ⟨s1, ⟨o4, o5, o6, o7, rfl⟩, hk, ovs, hf, hps⟩
    rw [hdn, List.take_length] at hps
    refine ⟨_, rfl, q _ _ s1 ⟨fo, ovs, rfl, by rw [nw_new hfo']; exact hf, hps.mono fun a b k => IsOffer.mono gd_le k⟩⟩
theorem mak_hall (B : Blt mg) (M : ∃ (f : Addr) (fd : FuncData), mg "Hall" = some (.ref A.hall) ∧ Mk K A.hall f ∧ FunD K "__init__" "Hall.__init__" (defArgs s_Hall___init__) (defBody s_Hall___init__) (defScope s_Hall___init__) [] [] f fd) (T : Tx K mg A)
    (m_Hall_taken : MetX P w K mg base 5 A.hall "taken" (spTaken A)) (c_is_word : CalX P w K mg base 1 "is_word" spIsWord) (c_is_share : CalX P w K mg base 3 "is_share" (spIsF isShareF)) : MakX P w K mg base 6 "Hall" A.hall (spHallInit A) := by
  obtain ⟨f, fd, g, mk, F⟩ := M
  refine ⟨g, f, fd, _, mk, F.bindsN (ps := ["self", "share", "rooms"]) (fun _ _ _ _ _ _ us hl => match us, hl with | [_, _, _], _ => rfl), fn_ok F sc_Hall___init__ (fun vs H Q E h => by obtain ⟨G, x, _, _, _, _, _, rfl, _⟩ := h; rfl) ?_⟩
  intro f cdv A' outer s H vs Q E hr hT hx hu h
  refine ⟨_, (pss_cons (ps_if (pt_not (pt_val (pe_cx c_is_share hr (by decide) rfl hx (pa_cons (pv 1) pa_nil)))) pss_never pss_nil)
      (pss_cons (ps_fld (pv 0) (pv 1) rfl)
      (pss_cons (ps_fld (pv 0) (pe_lst pa_nil) rfl)
      (pss_cons (ps_for (passes_of rfl) rfl (pi_list (pv 2)) (pg_tup rfl (pgs_cons (pg_name (i := 3) sc_Hall___init__.nd rfl (Or.inl rfl)) (pgs_cons (pg_name (i := 4) sc_Hall___init__.nd rfl (Or.inl rfl)) pgs_nil)))
        (pss_cons (ps_if (PW.pt (pw_or (pt_not (pt_val (pe_cx c_is_word hr (by decide) rfl hx (pa_cons (pv 3) pa_nil)))) (pw_or1 (pt_cmpR op_in_seq (pv 3) (pe_fld (pv 0) rfl) (by rfl))))) pss_never pss_nil)
        (pss_one (ps_expr (pe_bm PySem.F.plainAttrs_list PySem.F.slot_list_append PySem.F.type_list_append mt_append (pe_fld (pv 0) rfl) (pa_cons (pv 3) pa_nil))))))
      (pss_cons (ps_fld (pv 0) (pe_lst pa_nil) rfl)
      (pss_one (ps_for (passes_of rfl) rfl (pi_list (pv 2)) (pg_tup rfl (pgs_cons (pg_name (i := 3) sc_Hall___init__.nd rfl (Or.inl rfl)) (pgs_cons (pg_name (i := 4) sc_Hall___init__.nd rfl (Or.inl rfl)) pgs_nil)))
        (pss_one (ps_expr (pe_bm PySem.F.plainAttrs_list PySem.F.slot_list_append PySem.F.type_list_append mt_append (pe_fld (pv 0) rfl) (pa_cons (pe_mx (pv 0) m_Hall_taken hr (by decide) hx (pa_cons (pv 4) pa_nil)) pa_nil))))))))))), ?_⟩
  obtain ⟨G, x, dx, fv, rv, fr, rs, rfl, hG, hGx, hx', hfv, hfs, hfm, hrv, hok, q⟩ := h
  obtain ⟨rp, rvs, rfl, hrp, hrs⟩ := hrv
  obtain ⟨hnd, hrl, hrk⟩ := hok
  have hrn := hrs.length
  refine ⟨_, rfl, _, fr, rfl, hfv.mono hG, hfm, fun H1 s1 => ?_⟩
  rw [hfs]
  refine ⟨_, rfl, iteF ?_⟩
  refine ⟨_, rfl, _, rfl, x, A.hall, dx, _, rfl, s1 _ _ hx', T.hall.c, T.hall.n _ (by simp), by show 0 < 1000; decide, ?_⟩
  have s2 : Same G (L2.upd H1 x (.ins A.hall dx [("share", fv)])) := same_off (hG.trans s1) hGx
  refine ⟨Nat.zero_le _, fun tl htl => ?_⟩
  have htG : G tl = none := s2.free htl
  have htx : tl ≠ x := fun e => by
    rw [e] at htl
    exact absurd (upd_same.symm.trans htl) (by intro z; cases z)
  have s3 := s2.trans (same_upd (o := .lst []) htl)
  refine ⟨_, rfl, x, A.hall, dx, _, rfl, (by rw [upd_ne htx.symm]; exact upd_same), T.hall.c, T.hall.n _ (by simp), by show 1 < 1000; decide, ?_⟩
  have s4 := same_off (x := x) (o := .ins A.hall dx [("share", fv), ("titles", .ref tl)]) s3 hGx
  refine ⟨_, rfl, rp, rfl, ⟨_, SqL.of (s4 _ _ hrp)⟩, ?_⟩
  refine for_list (xs := rvs) (fun i σ H' => Same G H' ∧ (∃ o3 o4, σ = [some (.ref x), some fv, some (.ref rp), o3, o4]) ∧ H' x = some (.ins A.hall dx [("share", fv), ("titles", .ref tl)]) ∧ H' tl = some (.lst (((rs.take i).map (·.1)).map sv)))
    ⟨s4, ⟨_, _, rfl⟩, upd_same, (upd_ne htx).trans upd_same⟩ (fun i σ H' _ h => SqL.of (h.1 _ _ hrp)) ?_ ?_
  · rintro i y σ H' hi ⟨s5, ⟨o3, o4, rfl⟩, hx5, ht5⟩
    obtain ⟨r, hr', t, dv, rfl, ht, hdv⟩ := paired_get hrs hi
    obtain ⟨w1, w2, w3⟩ := hrk r (mem_at hr')
    refine ⟨_, _, rfl, SqT.of (s5 _ _ ht), rfl, ?_⟩
    refine ⟨_, _, rfl, _, _, rfl, rfl, ?_⟩
    refine ⟨_, rfl, r.1, rfl, w2, fun H6 s6 => ?_⟩
    rw [w1]
    have ht6 := s6 _ _ ht5
    have hx6 := s6 _ _ hx5
    refine ⟨_, rfl, iteF ⟨_, rfl, _, rfl, x, A.hall, dx, _, _, rfl, hx6, T.hall.c, T.hall.n _ (by simp), rfl, tl, _, rfl, .inl (SqL.of ht6), rfl, flat_sv _, _, rfl, ?_⟩⟩
    refine ifF ?_ ?_
    · show inV (sv r.1) _ = false
      rw [inV_sv]
      refine decide_eq_false ?_
      rw [List.map_take]
      exact nodup_notin hnd (by rw [List.getElem?_map, hr']; rfl)
    refine ⟨_, rfl, x, A.hall, dx, _, _, rfl, hx6, T.hall.c, T.hall.n _ (by simp), rfl, tyL ht6, _, rfl, tl, _, _, rfl, rfl, ht6, ?_, ?_⟩
    · simp only [List.length_map, List.length_take]; rw [sizeLine_eq]; omega
    refine ⟨same_off (s5.trans s6) htG, ⟨_, _, rfl⟩, (upd_ne htx.symm).trans hx6, ?_⟩
    rw [upd_same, take_snoc hr']; simp
  · rintro σ H6 ⟨s6, ⟨o3, o4, rfl⟩, hx6, ht6⟩
    rw [hrn, List.take_length] at ht6
    refine ⟨Nat.zero_le _, fun gl hgl => ?_⟩
    have hgG : G gl = none := s6.free hgl
    have hgx : gl ≠ x := fun e => by rw [e, hx6] at hgl; cases hgl
    have hgt : gl ≠ tl := fun e => by rw [e, ht6] at hgl; cases hgl
    have s7 := s6.trans (same_upd (o := .lst []) hgl)
    refine ⟨_, rfl, x, A.hall, dx, _, rfl, (by rw [upd_ne hgx.symm]; exact hx6), T.hall.c, T.hall.n _ (by simp), by show 2 < 1000; decide, ?_⟩
    have s8 := same_off (x := x) (o := .ins A.hall dx [("share", fv), ("titles", .ref tl), ("given", .ref gl)]) s7 hGx
    refine ⟨_, rfl, rp, rfl, ⟨_, SqL.of (s8 _ _ hrp)⟩, ?_⟩
    refine for_list (xs := rvs) (fun i σ H' => Same G H' ∧ (∃ o3 o4, σ = [some (.ref x), some fv, some (.ref rp), o3, o4]) ∧ H' x = some (.ins A.hall dx [("share", fv), ("titles", .ref tl), ("given", .ref gl)]) ∧ H' tl = some (.lst ((rs.map (·.1)).map sv)) ∧
        ∃ gvs, H' gl = some (.lst gvs) ∧ Paired (IsOffers (hid3 x tl gl H')) gvs ((rs.take i).map fun r => r.2.map (offerOf (rs.map (·.1)))))
      ⟨s8, ⟨_, _, rfl⟩, upd_same, ((upd_ne htx).trans (upd_ne hgt.symm)).trans ht6, [], (upd_ne hgx).trans upd_same, .nil⟩ (fun i σ H' _ h => SqL.of (h.1 _ _ hrp)) ?_ ?_
    · rintro i y σ H' hi ⟨s9, ⟨o3, o4, rfl⟩, hx9, ht9, gvs, hg9, hps⟩
      obtain ⟨r, hr', t, dv, rfl, ht, hdv⟩ := paired_get hrs hi
      obtain ⟨w1, w2, w3⟩ := hrk r (mem_at hr')
      refine ⟨_, _, rfl, SqT.of (s9 _ _ ht), rfl, ?_⟩
      refine ⟨_, _, rfl, _, _, rfl, rfl, ?_⟩
      refine ⟨_, rfl, x, A.hall, dx, _, _, rfl, hx9, T.hall.c, T.hall.n _ (by simp), rfl, tyL hg9, _, rfl, x, dx, _, rfl, hx9, rfl, _, rfl, _, dv, rs.map (·.1), r.2, rfl, ⟨x, dx, fv, tl, .ref gl, rfl, hx9, ht9⟩, by rw [List.length_map]; exact hrl, hdv.mono s9, w3, fun v H10 s10 ho => ?_⟩
      refine ⟨gl, gvs, v, rfl, rfl, s10 _ _ hg9, by rw [hps.length, List.length_map, List.length_take, sizeLine_eq]; omega, ?_⟩
      refine ⟨same_off (s9.trans s10) hgG, ⟨_, _, rfl⟩, (upd_ne hgx.symm).trans (s10 _ _ hx9), (upd_ne hgt.symm).trans (s10 _ _ ht9), _, upd_same, ?_⟩
      rw [take_snoc hr', List.map_append]
      refine (hps.mono fun a b k => IsOffers.mono (hid3_mono fun b o h1 h2 h3 e => by rw [upd_ne h3]; exact s10 _ _ e) k).snoc (IsOffers.mono (fun b o e => ?_) ho)
      have n1 : b ≠ x := fun z => by rw [z] at e; unfold nw at e; rw [hx9] at e; cases e
      have n2 : b ≠ tl := fun z => by rw [z] at e; unfold nw at e; rw [ht9] at e; cases e
      have n3 : b ≠ gl := fun z => by rw [z] at e; unfold nw at e; rw [hg9] at e; cases e
      unfold hid3
      rw [if_neg (fun z => z.elim n1 fun z => z.elim n2 n3), upd_ne n3]
      exact nw_le _ _ e
    · rintro σ H9 ⟨s9, ⟨o3, o4, rfl⟩, hx9, ht9, gvs, hg9, hps⟩
      rw [hrn, List.take_length] at hps
      exact q _ s9 ⟨x, dx, fv, tl, gl, gvs, rfl, hx9, hfv.mono s9, ht9, hg9, hps.mono fun a b k => IsOffers.mono hid3_le k⟩
end
end Dk
/-! answers -/
namespace Dk
open PySem PySem.Spec PyProof.Rows L2
local macro_rules | `(tactic| walk_at "rd") => `(tactic| repeat (first | refine ⟨_, rfl, ?_⟩ | refine ⟨_, _, rfl, rfl, ?_⟩ | refine iteT ?_ | refine iteF ?_ | refine ⟨_, _, _, _, rfl, rfl, SqT.of (by assumption), rfl, ?_⟩ | refine ⟨rfl, ?_⟩ | refine ⟨_, _, rfl, lenS (by assumption), ?_⟩ | refine ⟨_, _, rfl, lenT (by assumption), ?_⟩ | refine ⟨_, _, rfl, lenL (by assumption), ?_⟩ | refine ⟨⟨_, SqL.of (by assumption)⟩, ?_⟩ | refine ⟨_, _, rfl, ?_⟩))
theorem sc_told_plan : FnScope ["hall", "words", "plan", "room", "busy"] ["hall", "words"] (defScope s_told_plan) := ⟨rfl, rfl, rfl, by decide +kernel, rfl, by decide +kernel, by decide +kernel⟩
theorem sc_worth_answer : FnScope ["hall", "words", "worths", "worth"] ["hall", "words"] (defScope s_worth_answer) := ⟨rfl, rfl, rfl, by decide +kernel, rfl, by decide +kernel, by decide +kernel⟩
theorem sc_chance_answer : FnScope ["hall", "marked", "word", "name", "room", "goals", "goal"] ["hall", "marked", "word", "name"] (defScope s_chance_answer) := ⟨rfl, rfl, rfl, by decide +kernel, rfl, by decide +kernel, by decide +kernel⟩
theorem sc_bounds_answer : FnScope ["hall", "words", "many", "room", "lows", "highs"] ["hall", "words"] (defScope s_bounds_answer) := ⟨rfl, rfl, rfl, by decide +kernel, rfl, by decide +kernel, by decide +kernel⟩
theorem sc_run_answer : FnScope ["hall", "words", "start", "numbers", "names", "steps", "paid", "last", "rooms", "word", "room", "door", "pay"] ["hall", "words"] (defScope s_run_answer) := ⟨rfl, rfl, rfl, by decide +kernel, rfl, by decide +kernel, by decide +kernel⟩
theorem sc_door_fits : FnScope ["words", "many"] ["words"] (defScope s_door_fits) := ⟨rfl, rfl, rfl, by decide +kernel, rfl, by decide +kernel, by decide +kernel⟩
theorem sc_door_of : FnScope ["words", "name", "pay", "rest", "chance", "pairs", "k", "room", "word"] ["words"] (defScope s_door_of) := ⟨rfl, rfl, rfl, by decide +kernel, rfl, by decide +kernel, by decide +kernel⟩
theorem sc_ways_text : FnScope ["names", "ways", "room", "chance"] ["names", "ways"] (defScope s_ways_text) := ⟨rfl, rfl, rfl, by decide +kernel, rfl, by decide +kernel, by decide +kernel⟩
theorem sc_show : FnScope ["hall", "names", "rows", "room", "name", "pay", "ways"] ["hall"] (defScope s_show) := ⟨rfl, rfl, rfl, by decide +kernel, rfl, by decide +kernel, by decide +kernel⟩
theorem sc_row_fits : FnScope ["words", "many"] ["words"] (defScope s_row_fits) := ⟨rfl, rfl, rfl, by decide +kernel, rfl, by decide +kernel, by decide +kernel⟩
section
variable {P : Program} {w : World} {K : PySem.W.Frag} {mg : Str → Option Value} {base : Heap} {A : Ad}
theorem pe_lit {X : Cx} {s : String} {j p} : PE X (.Constant (.str (Str.ofString s)) j p) (tC (sv (lw s))) := by
  rw [← lit]
  exact pe_str
theorem op_add_w {X : Cx} : OpR X (binaryOp .Add) (fun x y H Q => ∃ a b : Wd, x = sv a ∧ y = sv b ∧ a.length + b.length ≤ sizeLine ∧ Q (sv (a ++ b)) H) := by
  intro pins s σ H x y v u Q I rx ry h
  obtain ⟨a, b, rfl, rfl, hl, q⟩ := h
  exact op_add_str pins s σ H _ _ v u Q I rx ry ⟨_, _, rfl, rfl, by rw [SX.S_len, SX.S_len]; exact hl, by rw [SX.S_cat]; exact q⟩
/-! ### the mirrors -/
def planErr : List (List Offer) → List Wd → Nat → Option Rf
  | os :: gs, w :: ws, k => if decide (w = [45]) == decide (0 < os.length) then some (.plan (some k)) else if decide (0 < os.length) && !decide (w ∈ os.map (·.1)) then some (.door w) else planErr gs ws (k + 1)
  | _, _, _ => none
def planRef (h : PHall) (ws : List Wd) : Option Rf := if ws.length = h.titles.length then planErr h.given ws 0 else some (.plan none)
def boundsRef (ts : List Wd) (w0 w1 : Wd) : Option Rf := match numberOf w0 with
  | none => some .num
  | some f => if !decide (f.2 = 1) || (decide (f.1 < 1) || decide (40 < f.1)) then some .num else if w1 ∈ ts then none else some (.room w1)
def runRef (ts : List Wd) (w0 : Wd) (ws : List Wd) : Option Rf := if w0 ∈ ts then (if ws.all (fun w => (numberOf w).isSome) then none else some .num) else some (.room w0)
def doorFits : List Wd → Bool
  | _ :: _ :: k :: rest => if rest.length < 1 then false else if k = lw "sure" then decide (rest.length = 1) else if k = lw "toss" then decide (rest.length = 3) else decide (k = lw "even") || (decide (k = lw "mixed") && decide (rest.length % 2 = 0))
  | _ => false
def rowFits : List Wd → Bool
  | [] => false
  | w :: rest => if w ∈ ones then decide (rest.length = 1) else if w ∈ nones then decide (rest.length = 0) else if w = lw "shut" ∨ w = lw "bounds" then decide (rest.length = 2)
    else if w = lw "door" then doorFits (rest.drop 1) else decide (w = lw "worth") || (decide (w = lw "run") && decide (0 < rest.length))
def pairsOf : List Wd → Except Rf Pairs
  | r :: c :: t => if isWordS r then (match numberOf c with | none => .error .num | some f => (pairsOf t).map fun ps => (r, f) :: ps) else .error .name
  | _ => .ok []
/-- what a row makes: a sure door's name, or a door -/
def doorOf : List Wd → Except Rf (Wd ⊕ PDoor)
  | n :: p :: k :: rest =>
    if doorFits (n :: p :: k :: rest) then
      if isWordS n then
        match numberOf p with
        | none => .error .num
        | some pay =>
          if k = lw "sure" then (if isWordS (rest.getD 0 []) then .ok (.inl n) else .error .name)
          else if k = lw "toss" then
            (match numberOf (rest.getD 0 []) with
            | none => .error .num
            | some c => if isWordS (rest.getD 1 []) then (if isWordS (rest.getD 2 []) then (if isChanceF c then .ok (.inr ⟨n, pay, [(rest.getD 1 [], (1, 2)), (rest.getD 2 [], (1, 2))]⟩) else .error .chance) else .error .name) else .error .name)
          else if k = lw "even" then .error .name
          else match pairsOf rest with
            | .error e => .error e
            | .ok ps => if mixedOk ps then .ok (.inr ⟨n, pay, ps⟩) else .error .chance
      else .error .name
    else .error .row
  | _ => .error .row
/-- rows that the proof covers -/
def DPre : List Wd → Prop
  | _ :: _ :: k :: rest => (k = lw "toss" → ∀ c, numberOf (rest.getD 0 []) = some c → Sm c ∧ (isChanceF c = true → c = (1, 2))) ∧ (k = lw "even" → rest.all isWordS = false) ∧
      (k = lw "mixed" → ∀ ps, pairsOf rest = .ok ps → (∀ p ∈ ps, Sm p.2) ∧ ∃ L, Und L (ps.map (·.2)))
  | _ => True
def waysText (ts : List Wd) (ws : List (Nat × Frac)) : Wd := match ws with
  | [(k, _)] => lw "sure " ++ ts.getD k []
  | _ => lw "mixed " ++ TL.joinL [32] (ws.map fun x => ts.getD x.1 [] ++ ([32] ++ numText x.2))
def offerRow (ts : List Wd) (o : Offer) : Wd := lw "door " ++ (o.1 ++ ([32] ++ (numText o.2.1 ++ ([32] ++ waysText ts o.2.2))))
def showRows (h : PHall) : List Wd := (lw "share " ++ numText h.share) :: ((h.titles.zip h.given).map fun x => (lw "room " ++ x.1) :: x.2.map (offerRow h.titles)).flatten
def showText (h : PHall) : Wd := TL.joinL [10] (showRows h)
def spToldPlan (A : Ad) : Sp := fun vs H Q E => ∃ v wv h ws e, vs = [v, wv] ∧ IsHall A H v h ∧ OkHall h ∧ IsWs H wv ws ∧ planRef h ws = some e ∧ Rz A H E e
def spChance (A : Ad) : Sp := fun vs H Q E => ∃ v m wo z h, vs = [v, m, wo, sv z] ∧ IsHall A H v h ∧ OkHall h ∧ z ∉ h.titles ∧ Rz A H E (.room z)
def spBounds (A : Ad) : Sp := fun vs H Q E => ∃ v wv h w0 w1 e, vs = [v, wv] ∧ IsHall A H v h ∧ OkHall h ∧ IsWs H wv [w0, w1] ∧ w0.length ≤ 1000 ∧ boundsRef h.titles w0 w1 = some e ∧ Rz A H E e
def spRun (A : Ad) : Sp := fun vs H Q E => ∃ v wv h w0 ws e, vs = [v, wv] ∧ IsHall A H v h ∧ OkHall h ∧ IsWs H wv (w0 :: ws) ∧ ws.length ≤ 100 ∧ (∀ w ∈ ws, w.length ≤ 1000) ∧ runRef h.titles w0 ws = some e ∧ Rz A H E e
def spFits (g : List Wd → Bool) : Sp := fun vs H Q _ => ∃ v ws, vs = [v] ∧ IsWs H v ws ∧ ws.length ≤ 100 ∧ ∀ H', Same H H' → Q (.bl (g ws)) H'
def spRowFits : Sp := fun vs H Q _ => ∃ v ws, vs = [v] ∧ IsWs H v ws ∧ ws.length ≤ 100 ∧ ws ≠ [] ∧ ∀ H', Same H H' → Q (.bl (rowFits ws)) H'
def IsSure (A : Ad) (H : Hp) (v : V) (n : Wd) : Prop := ∃ a dx pv rv, v = .ref a ∧ H a = some (.ins A.sure dx [("name", sv n), ("pay", pv), ("room", rv)])
def spDoorOf (A : Ad) : Sp := fun vs H Q E => ∃ v ws, vs = [v] ∧ IsWs H v ws ∧ ws.length ≤ 100 ∧ (∀ x ∈ ws, x.length ≤ 1000) ∧ DPre ws ∧ (∀ e, doorOf ws = .error e → Rz A H E e) ∧
  (∀ n, doorOf ws = .ok (.inl n) → ∀ v H', Same H H' → IsSure A H' v n → Q v H') ∧ (∀ d, doorOf ws = .ok (.inr d) → ∀ v H', Same H H' → IsDoor A (nw H H') v d → Q v H')
/-- small enough to be shown -/
def SmH (h : PHall) : Prop := (h.titles.length ≤ 10 ∧ ∀ t ∈ h.titles, t.length ≤ 100) ∧ (h.share.1.natAbs < 2 ^ 200 ∧ h.share.2.natAbs < 2 ^ 200) ∧ h.given.length = h.titles.length ∧ ∀ os ∈ h.given, os.length ≤ 10 ∧ ∀ o ∈ os, o.1.length ≤ 100 ∧
  o.2.1.1.natAbs < 2 ^ 200 ∧ o.2.1.2.natAbs < 2 ^ 200 ∧ o.2.2.length ≤ 10 ∧ ∀ x ∈ o.2.2, x.1 < h.titles.length ∧ x.2.1.natAbs < 2 ^ 200 ∧ x.2.2.natAbs < 2 ^ 200
def spWaysText : Sp := fun vs H Q E => ∃ nv wv ts ws, vs = [nv, wv] ∧ IsWs H nv ts ∧ IsWays H wv ws ∧ (ts.length ≤ 10 ∧ ∀ t ∈ ts, t.length ≤ 100) ∧ (ws.length ≤ 10 ∧ ∀ x ∈ ws, x.1 < ts.length ∧ x.2.1.natAbs < 2 ^ 200 ∧ x.2.2.natAbs < 2 ^ 200) ∧ ∀ H', Same H H' → Q (sv (waysText ts ws)) H'
def spShow (A : Ad) : Sp := fun vs H Q E => ∃ v h, vs = [v] ∧ IsHall A H v h ∧ SmH h ∧ ∀ H', Same H H' → Q (sv (showText h)) H'
theorem cut_from (n : Nat) (ws : List Wd) : cutV (ws.map sv) (some (n : Int)) none = (ws.drop n).map sv := by
  unfold cutV
  rw [HT.sIx_nat, HT.sIx_none, List.length_map, List.map_drop]
  by_cases h : n ≤ ws.length
  · rw [Nat.min_eq_left h]
    exact List.take_of_length_le (by simp)
  · rw [Nat.min_eq_right (by omega), List.drop_of_length_le (by simp), List.drop_of_length_le (by simp; omega)]
    simp
theorem cut1 (ws : List Wd) : cutV (ws.map sv) (some 1) none = (ws.drop 1).map sv := cut_from 1 ws
theorem cut2 (ws : List Wd) : cutV (ws.map sv) (some 2) none = (ws.drop 2).map sv := cut_from 2 ws
theorem cut3 (ws : List Wd) : cutV (ws.map sv) (some 3) none = (ws.drop 3).map sv := cut_from 3 ws
theorem doorFits3 (x y k : Wd) (rest : List Wd) : doorFits (x :: y :: k :: rest) = (if rest.length < 1 then false else if k = lw "sure" then decide (rest.length = 1) else if k = lw "toss" then decide (rest.length = 3) else decide (k = lw "even") || (decide (k = lw "mixed") && decide (rest.length % 2 = 0))) := rfl
theorem numText_len {f : Frac} (h1 : f.1.natAbs < 2 ^ 200) (h2 : f.2.natAbs < 2 ^ 200) : (numText f).length ≤ 130 := by
  unfold numText
  have := intW_len h1
  have := intW_len h2
  split
  · omega
  · simp only [List.length_append, List.length_cons, List.length_nil]; omega
theorem joinL_len {s c : Nat} : ∀ l : List Wd, (∀ y ∈ l, y.length ≤ c) → (TL.joinL [s] l).length ≤ l.length * (c + 1)
  | [], _ => by simp [TL.joinL]
  | [y], h => by have := h y (by simp); simp [TL.joinL]; omega
  | y :: z :: l, h => by
    have h1 := h y (by simp)
    have h2 := joinL_len (s := s) (c := c) (z :: l) (fun w hw => h w (by simp at hw ⊢; exact .inr hw))
    simp only [TL.joinL, List.length_append, List.length_cons, List.length_nil] at h2 ⊢
    rw [Nat.succ_mul]
    omega
theorem rowFits1 (w : Wd) (rest : List Wd) : rowFits (w :: rest) = (if w ∈ ones then decide (rest.length = 1) else if w ∈ nones then decide (rest.length = 0) else if w = lw "shut" ∨ w = lw "bounds" then decide (rest.length = 2)
    else if w = lw "door" then doorFits (rest.drop 1) else decide (w = lw "worth") || (decide (w = lw "run") && decide (0 < rest.length))) := rfl
def roomRows (ts : List Wd) (x : Wd × List Offer) : List Wd := (lw "room " ++ x.1) :: x.2.map (offerRow ts)
def rowsUpto (h : PHall) (i : Nat) : List Wd := (lw "share " ++ numText h.share) :: (((h.titles.zip h.given).take i).map (roomRows h.titles)).flatten
theorem rowsUpto_succ {h : PHall} {i : Nat} {t : Wd} {os : List Offer} (h1 : h.titles[i]? = some t) (h2 : h.given[i]? = some os) : rowsUpto h (i + 1) = rowsUpto h i ++ ((lw "room " ++ t) :: os.map (offerRow h.titles)) := by
  have hz : (h.titles.zip h.given)[i]? = some (t, os) := by simp [List.getElem?_zip_eq_some, h1, h2]
  unfold rowsUpto
  rw [take_snoc hz, List.map_append, List.flatten_append]
  simp [roomRows]
theorem rowsUpto_count {h : PHall} {i : Nat} (hi : i ≤ 10) (hos : ∀ os ∈ h.given, os.length ≤ 10) : (rowsUpto h i).length ≤ 1 + 11 * i := by
  induction i with
  | zero => simp [rowsUpto]
  | succ i ih =>
    cases hz : (h.titles.zip h.given)[i]? with
    | none =>
      have : rowsUpto h (i + 1) = rowsUpto h i := by
        unfold rowsUpto
        rw [List.take_add_one, hz]; simp
      rw [this]
      have := ih (by omega)
      omega
    | some x =>
      obtain ⟨t, os⟩ := x
      obtain ⟨h1, h2⟩ := List.getElem?_zip_eq_some.mp hz
      rw [rowsUpto_succ h1 h2]
      simp only [List.length_append, List.length_cons, List.length_map]
      have h5 := ih (by omega)
      have h6 := hos os (mem_at h2)
      omega
theorem sum_len {c : Nat} : ∀ l : List Wd, (∀ y ∈ l, y.length ≤ c) → ((l.map SX.S).map (·.length)).sum ≤ l.length * c
  | [], _ => by simp
  | y :: l, h => by
    have h1 := h y (by simp)
    have h2 := sum_len l fun z hz => h z (by simp [hz])
    simp only [List.map_cons, List.sum_cons, List.length_cons, SX.S_len]
    rw [Nat.succ_mul]
    omega
theorem waysText_len {ts : List Wd} {ws : List (Nat × Frac)} (ht : ts.length ≤ 10 ∧ ∀ t ∈ ts, t.length ≤ 100) (hws : ws.length ≤ 10 ∧ ∀ x ∈ ws, x.1 < ts.length ∧ x.2.1.natAbs < 2 ^ 200 ∧ x.2.2.natAbs < 2 ^ 200) : (waysText ts ws).length ≤ 4010 := by
  have hat : ∀ k, k < ts.length → (ts.getD k []).length ≤ 100 := fun k hk => by
    rw [List.getD_eq_getElem?_getD, List.getElem?_eq_getElem hk]
    exact ht.2 _ (List.getElem_mem hk)
  unfold waysText
  split
  · rename_i k f
    have := hat k (hws.2 (k, f) (by simp)).1
    rw [List.length_append, show (lw "sure ").length = 5 from by decide +kernel]; omega
  · rw [List.length_append, show (lw "mixed ").length = 6 from by decide +kernel]
    have : (TL.joinL [32] (ws.map fun x => ts.getD x.1 [] ++ ([32] ++ numText x.2))).length ≤ 4000 := by
      refine Nat.le_trans (joinL_len (c := 250) _ (fun y hy => ?_)) ?_
      · obtain ⟨x, hx, rfl⟩ := List.mem_map.mp hy
        have := numText_len (hws.2 x hx).2.1 (hws.2 x hx).2.2
        have := hat x.1 (hws.2 x hx).1
        simp only [List.length_append, List.length_cons, List.length_nil]; omega
      · rw [List.length_map]; have := hws.1; omega
    omega
theorem rows_len {h : PHall} (hs : SmH h) : ∀ y ∈ showRows h, y.length ≤ 4300 := by
  obtain ⟨⟨ht1, ht2⟩, ⟨hs1, hs2⟩, hgl, hos⟩ := hs
  intro y hy
  unfold showRows at hy
  rcases List.mem_cons.mp hy with rfl | hy
  · have := numText_len hs1 hs2
    rw [List.length_append, show (lw "share ").length = 6 from by decide +kernel]; omega
  obtain ⟨l, hl, hyl⟩ := List.mem_flatten.mp hy
  obtain ⟨⟨t, os⟩, hx, rfl⟩ := List.mem_map.mp hl
  have h1 := (List.of_mem_zip hx)
  rcases List.mem_cons.mp hyl with rfl | hyl
  · have := ht2 t h1.1
    simp only [List.length_append]
    rw [show (lw "room ").length = 5 from by decide +kernel]; omega
  · obtain ⟨o, ho, rfl⟩ := List.mem_map.mp hyl
    obtain ⟨ho1, ho2, ho3, ho4, ho5⟩ := (hos os h1.2).2 o ho
    have := numText_len ho2 ho3
    have := waysText_len (ts := h.titles) (ws := o.2.2) ⟨ht1, ht2⟩ ⟨ho4, ho5⟩
    unfold offerRow
    simp only [List.length_append, List.length_cons, List.length_nil]
    rw [show (lw "door ").length = 5 from by decide +kernel]; omega
theorem IsWay.delT {H : Hp} {x : Addr} {o : HO} {v : V} {f} (h : IsWay H v f) (hx : H x = some o) (hk : NT o) : IsWay (L2.del H x) v f := by
  obtain ⟨p, fv, e, q, ⟨p2, e2, q2⟩⟩ := h
  exact ⟨p, fv, e, at_del q hx (fun z => hk _ z.symm), p2, e2, at_del q2 hx (fun z => hk _ z.symm)⟩
theorem IsOffer.delS {H : Hp} {rl : Addr} {z : Wd} {r : List V} {v : V} {o : Offer} (h : IsOffer H v o) (hr : H rl = some (.lst (sv z :: r))) : IsOffer (L2.del H rl) v o := by
  obtain ⟨n, f, ws⟩ := o
  obtain ⟨p, fv, wv, e, q, ⟨p2, e2, q2⟩, ⟨wl, wvs, rfl, hwl, hws⟩⟩ := h
  dsimp only at q q2 hws
  refine ⟨p, fv, _, e, at_del q hr (fun z => by cases z), ⟨p2, e2, at_del q2 hr (fun z => by cases z)⟩, wl, wvs, rfl, ?_, hws.mono fun a b k => k.delT hr nt_lst⟩
  rw [del_ne, hwl]
  intro z
  rw [z, hr] at hwl
  cases hwl
  cases hws with
  | cons k _ => obtain ⟨_, _, e, _⟩ := k; cases e
theorem doorOf_nofit {ws : List Wd} (h : doorFits ws = false) : doorOf ws = .error .row := by
  match ws, h with
  | [], _ => rfl
  | [_], _ => rfl
  | [_, _], _ => rfl
  | n :: p :: k :: rest, h =>
    show (if doorFits (n :: p :: k :: rest) = true then _ else _) = _
    rw [h]; rfl
theorem doorOf3 (n p k : Wd) (rest : List Wd) (h : doorFits (n :: p :: k :: rest) = true) : doorOf (n :: p :: k :: rest) =
      if isWordS n then
        match numberOf p with
        | none => .error .num
        | some pay =>
          if k = lw "sure" then (if isWordS (rest.getD 0 []) then .ok (.inl n) else .error .name)
          else if k = lw "toss" then
            (match numberOf (rest.getD 0 []) with
            | none => .error .num
            | some c => if isWordS (rest.getD 1 []) then (if isWordS (rest.getD 2 []) then (if isChanceF c then .ok (.inr ⟨n, pay, [(rest.getD 1 [], (1, 2)), (rest.getD 2 [], (1, 2))]⟩) else .error .chance) else .error .name) else .error .name)
          else if k = lw "even" then .error .name
          else match pairsOf rest with
            | .error e => .error e
            | .ok ps => if mixedOk ps then .ok (.inr ⟨n, pay, ps⟩) else .error .chance
      else .error .name := by
  show (if doorFits (n :: p :: k :: rest) = true then _ else _) = _
  rw [h, if_pos rfl]
def prep (done : Pairs) : Except Rf Pairs → Except Rf Pairs
  | .ok ps => .ok (done ++ ps)
  | .error e => .error e
theorem prep_nil (x : Except Rf Pairs) : prep [] x = x := by cases x <;> rfl
theorem same_mk {H : Hp} {x dx : Addr} {o o' : HO} (hx : H x = none) (hdx : H dx = none) (hne : dx ≠ x) : Same H (L2.upd (L2.upd H dx o) x o') :=
  (same_upd hdx).trans (same_upd (by rw [upd_ne hne.symm]; exact hx))
theorem nw_isF {H H' : Hp} {v : V} {f : Frac} (h : IsF H' v f) (s : Same H H') : IsF (nw H H') v f := let ⟨p, e, q⟩ := h; ⟨p, e, nw_tup s q⟩
theorem nw_isPair {H H' : Hp} {v : V} {f} (h : IsPair H' v f) (s : Same H H') : IsPair (nw H H') v f := let ⟨p, fv, e, q, r⟩ := h; ⟨p, fv, e, nw_tup s q, nw_isF r s⟩
theorem numberOf_frac {l : Wd} {f : Frac} (h : numberOf l = some f) : isFracF f = true := by
  unfold numberOf at h
  dsimp only at h
  generalize decide ((numSplit l).1.take 1 = [45]) = below at h
  generalize (if below = true then List.drop 1 (numSplit l).1 else (numSplit l).1) = w1 at h
  generalize hst : (numSplit l).2.1 = st at h
  cases h1 : wholeOf w1 with
  | none => rw [h1] at h; cases h
  | some t =>
    rw [h1] at h
    have g : ∀ z : Bool, (Int.gcd (if z = true then 0 - t else t) 1 = 1) := fun z => Int.gcd_one_right _
    cases st with
    | false =>
      simp only [Bool.false_eq_true, if_false, numEnd, Bool.false_and] at h
      split at h
      · cases h
      · cases h
        simp [isFracF]
    | true =>
      cases h2 : wholeOf (numSplit l).2.2 with
      | none => rw [h2] at h; cases h
      | some b =>
        rw [h2] at h
        simp only [if_true, numEnd, Bool.true_and] at h
        split at h
        · cases h
        · split at h
          · cases h
          · rename_i hb
            simp at hb
            cases h
            have hb1 : 0 < b := by omega
            cases below with
            | true => simp [isFracF, hb1, hb.2, Int.gcd_neg, Int.neg_gcd]
            | false => simp [isFracF, hb1, hb.2]
theorem rg2 {n : Nat} (h : n ≤ 100) (he : n % 2 = 0) : RgC 0 (n : Nat) 2 (n / 2) := by
  have hr : Builtin.Range.rangeSize 0 (n : Nat) 2 = ((n / 2 : Nat) : Int) := by
    unfold Builtin.Range.rangeSize
    rw [if_pos (by decide)]
    split <;> omega
  refine ⟨by decide, by decide, ?_, hr⟩
  have f : ∀ i : Int, 0 ≤ i → i < 1000 → Builtin.Range.rangeFitsLong i = true := fun i h0 h1 => by
    unfold Builtin.Range.rangeFitsLong
    rw [Bool.and_eq_true]
    exact ⟨decide_eq_true (by omega), decide_eq_true (by omega)⟩
  unfold Builtin.Range.small
  rw [hr, f 0 (by omega) (by omega), f n (by omega) (by omega), f 2 (by omega) (by omega), f ((n / 2 : Nat) : Int) (by omega) (by omega), if_pos (by decide), f _ (by omega) (by omega)]
  simp
theorem cal_told_plan (F : Fn K mg "told_plan" s_told_plan) (B : Blt mg) (T : Tx K mg A) (R_NoPlan : RaX P w K mg base "NoPlan" A.plan (spXi A.plan "room")) (m_Hall_size : MetX P w K mg base 1 A.hall "size" (spSize A)) (m_Hall_offers : MetX P w K mg base 3 A.hall "offers" (spOffers A)) (m_Hall_door_at : MetX P w K mg base 3 A.hall "door_at" (spDoorAt A)) : CalX P w K mg base 4 "told_plan" (spToldPlan A) := by
  refine calx F sc_told_plan (fun _ _ _ _ _ _ us hl => match us, hl with | [_, _], _ => rfl) (fun vs H Q E h => by obtain ⟨x, _, _, _, _, rfl, _⟩ := h; rfl) ?_
  intro f cdv A' outer s H vs Q E hr hT hx hu h
  refine ⟨_, (pss_cons (ps_if (pt_cmpR op_ne (pe_callB call_len (by rfl) B.len (by decide +kernel) (pa_cons (pv 1) pa_nil)) (pe_mx0 (pv 0) m_Hall_size hr (by decide) hx) (nomark _)) (pss_one (ps_raise rfl hT (pmk_f R_NoPlan (hr.mono (by decide)) rfl (pa_cons pe_non pa_nil)))) pss_nil)
      (pss_cons (ps_set (i := 2) sc_told_plan.nd rfl (Or.inl rfl) (pe_lst pa_nil))
      (pss_cons (ps_for (passes_of rfl) rfl (pi_range1 rfl B.range (pa_cons (pe_callB call_len (by rfl) B.len (by decide +kernel) (pa_cons (pv 1) pa_nil)) pa_nil)) (pg_name (i := 3) sc_told_plan.nd rfl (Or.inl rfl))
        (pss_cons (ps_set (i := 4) sc_told_plan.nd rfl (Or.inl rfl) (pe_cmpR op_gt (pe_callB call_len (by rfl) B.len (by decide +kernel) (pa_cons (pe_mx (pv 0) m_Hall_offers hr (by decide) hx (pa_cons (pv 3) pa_nil)) pa_nil)) pe_int (nomark _)))
        (pss_cons (ps_if (pt_cmpR op_eq (pe_cmpR op_eq (pe_ix ix_list (pv 1) (pv 3) (fun _ _ => rfl)) pe_lit (nomark _)) (pv 4) (nomark _)) (pss_one (ps_raise rfl hT (pmk_f R_NoPlan (hr.mono (by decide)) rfl (pa_cons (pv 3) pa_nil)))) pss_nil)
        (pss_one (ps_if (pt_val (pv 4)) (pss_one (ps_expr (pe_bm PySem.F.plainAttrs_list PySem.F.slot_list_append PySem.F.type_list_append mt_append (pv 2) (pa_cons (pe_mx (pv 0) m_Hall_door_at hr (by decide) hx (pa_cons (pv 3) (pa_cons (pe_ix ix_list (pv 1) (pv 3) (fun _ _ => rfl)) pa_nil))) pa_nil)))) (pss_one (ps_expr (pe_bm PySem.F.plainAttrs_list PySem.F.slot_list_append PySem.F.type_list_append mt_append (pv 2) (pa_cons pe_non pa_nil)))))))))
      (pss_one (ps_ret (pv 2)))))), ?_⟩
  obtain ⟨v, wv, h, ws, e, rfl, hh, hok, hw, he, q⟩ := h
  obtain ⟨p, rfl, hp⟩ := hw
  have hh0 := hh
  obtain ⟨a, dx, fv, tl, gl, gs, rfl, ha, hf, ht', hg, hgs⟩ := hh
  refine ⟨_, rfl, _, _, rfl, lenL hp, _, rfl, a, dx, _, rfl, ha, rfl, _, h, rfl, hh0, rfl, _, rfl, ?_⟩
  unfold planRef at he
  refine ite2 (fun h1 => ?_) (fun h1 => ?_)
  · have h1' : ¬ ws.length = h.titles.length := by simp at h1; omega
    rw [if_neg h1'] at he
    cases he
    exact mkx fun H' d s hd => rz_fld q s rfl rfl rfl hd
  have h1' : ws.length = h.titles.length := by simp at h1; omega
  rw [if_pos h1'] at he
  have hgl := hok.2.1
  refine ⟨Nat.zero_le _, fun pl hpl => ?_⟩
  have s1 := same_upd (o := .lst []) hpl
  refine ⟨_, rfl, _, _, rfl, lenL (s1 _ _ hp), _, rfl, ?_, ?_, ?_⟩
  · rw [List.length_map]; have := hok.1; omega
  · rw [List.length_map]; have := hok.1; omega
  rw [List.length_map, Int.toNat_natCast]
  refine for_range (n := ws.length) (fun i σ H' => Same H H' ∧ (∃ o3 o4, σ = [some (.ref a), some (.ref p), some (.ref pl), o3, o4]) ∧ (∃ vs, H' pl = some (.lst vs) ∧ vs.length = i) ∧ planErr (h.given.drop i) (ws.drop i) i = some e) ⟨s1, ⟨_, _, rfl⟩, ⟨[], upd_same, rfl⟩, he⟩ ?_ ?_
  · rintro i σ H' hi ⟨s2, ⟨o3, o4, rfl⟩, ⟨vs, hv, hvl⟩, hpe⟩
    have hgi : i < h.given.length := by omega
    have hos : h.given[i]? = some h.given[i] := List.getElem?_eq_getElem hgi
    have hwi : ws[i]? = some ws[i] := List.getElem?_eq_getElem hi
    rw [List.drop_eq_getElem_cons hgi, List.drop_eq_getElem_cons hi] at hpe
    generalize h.given[i] = os at hos hpe
    generalize ws[i] = w0 at hwi hpe
    have hzi : (0 : Int) + (i : Nat) = ((i : Nat) : Int) := Int.zero_add _
    rw [hzi]
    have hwat : atI (ws.map sv) ((i : Nat) : Int) = some (sv w0) := atI_nat (by rw [List.getElem?_map, hwi]; rfl)
    refine ⟨_, rfl, a, dx, _, rfl, s2 _ _ ha, rfl, _, rfl, _, h, os, i, rfl, hh0.mono s2, hok, hos, ?_⟩
    rintro _ H2 s3 ⟨op, ovs, rfl, hop, hops⟩
    have s4 := s2.trans s3
    refine ⟨_, _, rfl, lenL hop, ?_⟩
    walk_at "rd"
    refine ⟨p, _, _, _, rfl, rfl, SqL.of (s4 _ _ hp), hwat, rfl, ?_⟩
    rw [sv_eq]
    refine ⟨_, rfl, rfl, _, rfl, ?_⟩
    have hbz : decide ((0 : Int) < ((ovs.length : Nat) : Int)) = decide (0 < os.length) := by rw [hops.length]; congr 1; exact propext (by omega)
    have hlw : (w0 = lw "-") = (w0 = [45]) := by rw [show lw "-" = [45] from by decide +kernel]
    unfold planErr at hpe
    have hbb : decide (V.bl (decide (w0 = lw "-")) = V.bl (decide ((0 : Int) < ((ovs.length : Nat) : Int)))) = (decide (w0 = [45]) == decide (0 < os.length)) := by
      rw [hbz, show decide (w0 = lw "-") = decide (w0 = [45]) from by congr 1]
      cases decide (w0 = [45]) <;> cases decide (0 < os.length) <;> rfl
    cases h2 : (decide (w0 = [45]) == decide (0 < os.length)) with
    | true =>
      rw [if_pos h2] at hpe
      cases hpe
      refine ifT (b := decide (V.bl (decide (w0 = lw "-")) = V.bl (decide ((0 : Int) < ((ovs.length : Nat) : Int))))) (hbb.trans h2) ?_
      exact ⟨_, rfl, mkx fun H' d s hd => rz_fld q (s4.trans s) rfl rfl rfl hd⟩
    | false =>
    refine ifF (b := decide (V.bl (decide (w0 = lw "-")) = V.bl (decide ((0 : Int) < ((ovs.length : Nat) : Int))))) (hbb.trans h2) ?_
    rw [if_neg (by rw [h2]; simp)] at hpe
    refine ⟨_, rfl, _, rfl, ?_⟩
    refine ite2 (fun h3 => ?_) (fun h3 => ?_)
    · rw [show decide (0 < os.length) = true from hbz.symm.trans h3, Bool.true_and] at hpe
      refine ⟨_, rfl, tyL (s3 _ _ hv), _, rfl, a, dx, _, rfl, s4 _ _ ha, rfl, _, rfl, _, rfl, _, rfl, p, _, _, _, rfl, rfl, SqL.of (s4 _ _ hp), hwat, _, h, w0, os, i, rfl, hh0.mono s4, hok, hos, fun hm => ?_, fun hm => ?_⟩
      · rw [if_neg (by simp [hm])] at hpe
        exact ⟨pl, vs, _, rfl, rfl, s3 _ _ hv, by rw [hvl, sizeLine_eq]; have := hok.1; omega, same_off s4 hpl, ⟨_, _, rfl⟩, ⟨_, upd_same, by simp [hvl]⟩, hpe⟩
      · rw [if_pos (by simp [hm])] at hpe
        cases hpe
        exact q.mono s4
    · rw [show decide (0 < os.length) = false from hbz.symm.trans (Bool.eq_false_iff.mpr h3), Bool.false_and] at hpe
      exact ⟨_, rfl, tyL (s3 _ _ hv), pl, vs, _, rfl, rfl, s3 _ _ hv, by rw [hvl, sizeLine_eq]; have := hok.1; omega, same_off s4 hpl, ⟨_, _, rfl⟩, ⟨_, upd_same, by simp [hvl]⟩, hpe⟩
  · rintro σ H' ⟨_, _, _, hpe⟩
    rw [List.drop_of_length_le (Nat.le_refl _)] at hpe
    cases hh : h.given.drop ws.length <;> rw [hh] at hpe <;> simp [planErr] at hpe
theorem cal_worth (F : Fn K mg "worth_answer" s_worth_answer) (B : Blt mg) (T : Tx K mg A) (hw : ∃ u, mg "worths_of" = some u ∧ PySem.W.keepIn K u = true) (c_told_plan : CalX P w K mg base 4 "told_plan" (spToldPlan A)) : CalX P w K mg base 5 "worth_answer" (spToldPlan A) := by
  obtain ⟨u, hm, hkp⟩ := hw
  refine calx F sc_worth_answer (fun _ _ _ _ _ _ us hl => match us, hl with | [_, _], _ => rfl) (fun vs H Q E h => by obtain ⟨x, _, _, _, _, rfl, _⟩ := h; rfl) ?_
  intro f cdv A' outer s H vs Q E hr hT hx hu h
  refine ⟨_, (pss_cons (ps_set (i := 2) sc_worth_answer.nd rfl (Or.inl rfl) (pe_callNo rfl hm hkp (pa_cons (pv 0) (pa_cons (pe_cx c_told_plan hr (by decide) rfl hx (pa_cons (pv 0) (pa_cons (pv 1) pa_nil))) pa_nil))))
      pss_never), ?_⟩
  obtain ⟨v, wv, h, ws, e, rfl, hh, hok, hw, he, q⟩ := h
  exact ⟨_, rfl, _, rfl, _, rfl, v, wv, h, ws, e, rfl, hh, hok, hw, he, q⟩
theorem cal_chance (F : Fn K mg "chance_answer" s_chance_answer) (B : Blt mg) (T : Tx K mg A) (m_Hall_place : MetX P w K mg base 3 A.hall "place" (spPlace A)) : CalX P w K mg base 4 "chance_answer" (spChance A) := by
  refine calx F sc_chance_answer (fun _ _ _ _ _ _ us hl => match us, hl with | [_, _, _, _], _ => rfl) (fun vs H Q E h => by obtain ⟨x, _, _, _, _, rfl, _⟩ := h; rfl) ?_
  intro f cdv A' outer s H vs Q E hr hT hx hu h
  refine ⟨_, (pss_cons (ps_set (i := 4) sc_chance_answer.nd rfl (Or.inl rfl) (pe_mx (pv 0) m_Hall_place hr (by decide) hx (pa_cons (pv 3) pa_nil)))
      pss_never), ?_⟩
  obtain ⟨v, m, wo, z, h, rfl, hh, hok, hz, q⟩ := h
  obtain ⟨a, dx, fv, tl, gl, gs, rfl, ha, hf, ht, hg, hgs⟩ := hh
  exact ⟨_, rfl, a, dx, _, rfl, ha, rfl, _, rfl, _, z, h.titles, rfl, ⟨a, dx, fv, tl, _, rfl, ha, ht⟩, hok.1, fun hm => absurd hm hz, fun _ => q⟩
theorem cal_bounds (F : Fn K mg "bounds_answer" s_bounds_answer) (B : Blt mg) (T : Tx K mg A) (c_number_of : CalX P w K mg base 2 "number_of" (spNumberOf A)) (m_Hall_place : MetX P w K mg base 3 A.hall "place" (spPlace A)) : CalX P w K mg base 4 "bounds_answer" (spBounds A) := by
  refine calx F sc_bounds_answer (fun _ _ _ _ _ _ us hl => match us, hl with | [_, _], _ => rfl) (fun vs H Q E h => by obtain ⟨x, _, _, _, _, _, rfl, _⟩ := h; rfl) ?_
  intro f cdv A' outer s H vs Q E hr hT hx hu h
  refine ⟨_, (pss_cons (ps_set (i := 2) sc_bounds_answer.nd rfl (Or.inl rfl) (pe_cx c_number_of hr (by decide) rfl hx (pa_cons (pe_ix ix_list (pv 1) pe_int (fun _ _ => rfl)) pa_nil)))
      (pss_cons (ps_if (PW.pt (pw_or (pt_cmpR op_ne (pe_ix ix_tup (pv 2) pe_int (fun _ _ => rfl)) pe_int (nomark _)) (pw_or (pt_cmpR op_lt (pe_ix ix_tup (pv 2) pe_int (fun _ _ => rfl)) pe_int (nomark _)) (pw_or1 (pt_cmpR op_gt (pe_ix ix_tup (pv 2) pe_int (fun _ _ => rfl)) pe_int (nomark _)))))) (pss_one (ps_raise rfl hT (pmk_own PySem.F.excBase_ValueError T.NoNumber.x T.NoNumber.g T.NoNumber.k (raises_own T.NoNumber.b T.NoNumber.t) rfl))) pss_nil)
      (pss_cons (ps_set (i := 3) sc_bounds_answer.nd rfl (Or.inl rfl) (pe_mx (pv 0) m_Hall_place hr (by decide) hx (pa_cons (pe_ix ix_list (pv 1) pe_int (fun _ _ => rfl)) pa_nil)))
      pss_never))), ?_⟩
  obtain ⟨v, wv, h, w0, w1, e, rfl, hh, hok, hw, hl0, he, q⟩ := h
  obtain ⟨p, rfl, hp⟩ := hw
  refine ⟨_, rfl, p, _, _, _, rfl, rfl, SqL.of hp, rfl, w0, rfl, hl0, fun fr hfr v2 H2 s2 hv2 => ?_, fun hn => ?_⟩
  · obtain ⟨t, rfl, ht⟩ := hv2
    unfold boundsRef at he
    rw [hfr] at he
    dsimp only at he
    walk_at "rd"
    refine ite2 (fun h1 => ?_) (fun h1 => ?_)
    · have h1' : ¬ fr.2 = 1 := by simpa using h1
      rw [decide_eq_false h1'] at he
      cases he
      exact iteT (rz_plain q s2 rfl rfl)
    have h1' : fr.2 = 1 := by simpa using h1
    walk_at "rd"
    refine ite2 (fun h2 => ?_) (fun h2 => ?_)
    · rw [h2, Bool.true_or, Bool.or_true, if_pos rfl] at he
      cases he
      exact iteT (rz_plain q s2 rfl rfl)
    walk_at "rd"
    refine ite2 (fun h3 => ?_) (fun h3 => ?_)
    · rw [h3, Bool.or_true, Bool.or_true, if_pos rfl] at he
      cases he
      exact rz_plain q s2 rfl rfl
    rw [decide_eq_true h1', show decide (fr.1 < 1) = false by simpa using h2, show decide (40 < fr.1) = false by simpa using h3] at he
    have he' : (if w1 ∈ h.titles then none else some (Rf.room w1)) = some e := he
    by_cases hm : w1 ∈ h.titles
    · rw [if_pos hm] at he'; cases he'
    rw [if_neg hm] at he'
    cases he'
    obtain ⟨a, dx, fv, tl, gl, gs, rfl, ha, hf, ht', hg, hgs⟩ := hh
    refine ⟨_, rfl, a, dx, _, rfl, s2 _ _ ha, rfl, _, rfl, p, _, _, _, rfl, rfl, SqL.of (s2 _ _ hp), rfl, _, w1, h.titles, rfl, ⟨a, dx, fv, tl, _, rfl, s2 _ _ ha, s2 _ _ ht'⟩, hok.1, fun hm' => absurd hm' hm, fun _ => q.mono s2⟩
  · unfold boundsRef at he
    rw [hn] at he
    cases he
    exact q
theorem cal_run (F : Fn K mg "run_answer" s_run_answer) (B : Blt mg) (T : Tx K mg A) (c_number_of : CalX P w K mg base 2 "number_of" (spNumberOf A)) (m_Hall_place : MetX P w K mg base 3 A.hall "place" (spPlace A)) : CalX P w K mg base 4 "run_answer" (spRun A) := by
  refine calx F sc_run_answer (fun _ _ _ _ _ _ us hl => match us, hl with | [_, _], _ => rfl) (fun vs H Q E h => by obtain ⟨x, _, _, _, _, _, rfl, _⟩ := h; rfl) ?_
  intro f cdv A' outer s H vs Q E hr hT hx hu h
  refine ⟨_, (pss_cons (ps_set (i := 2) sc_run_answer.nd rfl (Or.inl rfl) (pe_mx (pv 0) m_Hall_place hr (by decide) hx (pa_cons (pe_ix ix_list (pv 1) pe_int (fun _ _ => rfl)) pa_nil)))
      (pss_cons (ps_setLcX (i := 0) rfl rfl hT (own := [("word", 9)]) rfl sc_run_answer.nd (sw_true rfl rfl rfl (by decide +kernel)) (pi_list (pe_slice sl_list (pv 1) (po_some pe_int) po_none)) (blkOk_by (own := [("word", 9)]) (N := ["hall", "words", "start", "numbers", "names", "steps", "paid", "last", "rooms", "word", "room", "door", "pay"]) (sc := defScope s_run_answer) (by decide +kernel)) (fun _ _ _ _ _ => (pg_name (i := 9) sc_run_answer.nd rfl (Or.inl rfl))) (fun _ _ _ _ _ => pts_nil) (fun _ _ _ _ _ _ hxe => (pe_cx c_number_of hr (by decide) rfl hxe (pa_cons (pv 9) pa_nil))))
      pss_never)), ?_⟩
  obtain ⟨v, wv, h, w0, ws, e, rfl, hh, hok, hw, hl, hl0, he, q⟩ := h
  obtain ⟨p, rfl, hp⟩ := hw
  obtain ⟨a, dx, fv, tl, gl, gs, rfl, ha, hf, ht', hg, hgs⟩ := hh
  unfold runRef at he
  refine ⟨_, rfl, a, dx, _, rfl, ha, rfl, _, rfl, p, _, _, _, rfl, rfl, SqL.of hp, atI_nat (j := 0) rfl, _, w0, h.titles, rfl, ⟨a, dx, fv, tl, _, rfl, ha, ht'⟩, hok.1, fun hm => ?_, fun hm => ?_⟩
  · rw [if_pos hm] at he
    cases hall : ws.all (fun w => (numberOf w).isSome) with
    | true => rw [hall] at he; cases he
    | false =>
      rw [hall] at he
      have he' : Rf.num = e := by simpa using he
      subst he'
      refine ⟨_, rfl, _, rfl, p, _, rfl, SqL.of hp, fun l hl' => ?_⟩
      rw [cut1]
      have s1 := same_upd (o := .lst (((w0 :: ws).drop 1).map sv)) hl'
      refine ⟨l, rfl, ⟨_, SqL.of upd_same⟩, fun D hD => ?_⟩
      have hlD : l ≠ D := ne_of_none upd_same hD
      refine lc_list (xs := ws.map sv) (fun i H' => Same (L2.upd H l (.lst (((w0 :: ws).drop 1).map sv))) H' ∧ (∃ vs, H' D = some (.lst vs) ∧ vs.length = i) ∧ (ws.take i).all (fun w => (numberOf w).isSome) = true)
        ⟨same_upd hD, ⟨[], upd_same, rfl⟩, rfl⟩ (fun i H' _ h => SqL.of (h.1 _ _ upd_same)) ?_ ?_
      · rintro i y H' hi ⟨s2, ⟨vs, hv, hvl⟩, hal⟩
        rw [List.getElem?_map] at hi
        cases hwi : ws[i]? with
        | none => rw [hwi] at hi; cases hi
        | some w1 =>
          rw [hwi] at hi
          have hi' : sv w1 = y := Option.some.inj hi
          subst hi'
          have hil : i < ws.length := (List.getElem?_eq_some_iff.mp hwi).1
          walk_at "rd"
          refine ⟨hl0 w1 (mem_at hwi), fun fr hfr v2 H2 s3 hv2 => ?_, fun _ => q.mono (s1.trans s2)⟩
          refine ⟨vs, s3 _ _ hv, by rw [hvl, sizeLine_eq]; omega, same_off (s2.trans s3) hD, ⟨_, upd_same, by simp [hvl]⟩, ?_⟩
          rw [take_snoc hwi, List.all_append, hal]
          simp [hfr]
      · rintro H' ⟨_, _, hal⟩
        rw [List.length_map, List.take_length, hall] at hal
        cases hal
  · rw [if_neg hm] at he
    cases he
    exact q
theorem cal_door_fits (F : Fn K mg "door_fits" s_door_fits) (B : Blt mg) : CalX P w K mg base 1 "door_fits" (spFits doorFits) := by
  refine calx F sc_door_fits (fun _ _ _ _ _ _ us hl => match us, hl with | [_], _ => rfl) (fun vs H Q E h => by obtain ⟨x, _, rfl, _⟩ := h; rfl) ?_
  intro f cdv A' outer s H vs Q E hr hT hx hu h
  refine ⟨_, (pss_cons (ps_set (i := 1) sc_door_fits.nd rfl (Or.inl rfl) (pe_op op_sub (pe_callB call_len (by rfl) B.len (by decide +kernel) (pa_cons (pv 0) pa_nil)) pe_int))
      (pss_cons (ps_if (pt_cmpR op_lt (pv 1) pe_int (nomark _)) (pss_one (ps_ret pe_bl)) pss_nil)
      (pss_cons (ps_if (pt_cmpR op_eq (pe_ix ix_list (pv 0) pe_int (fun _ _ => rfl)) pe_lit (nomark _)) (pss_one (ps_ret (pe_cmpR op_eq (pv 1) pe_int (nomark _)))) pss_nil)
      (pss_cons (ps_if (pt_cmpR op_eq (pe_ix ix_list (pv 0) pe_int (fun _ _ => rfl)) pe_lit (nomark _)) (pss_one (ps_ret (pe_cmpR op_eq (pv 1) pe_int (nomark _)))) pss_nil)
      (pss_one (ps_ret (pe_or (pe_cmpR op_eq (pe_ix ix_list (pv 0) pe_int (fun _ _ => rfl)) pe_lit (nomark _)) (pe_one (pe_and (pe_cmpR op_eq (pe_ix ix_list (pv 0) pe_int (fun _ _ => rfl)) pe_lit (nomark _)) (pe_one (pe_cmpR op_eq (pe_op op_mod (pv 1) pe_int) pe_int (nomark _)))))))))))), ?_⟩
  obtain ⟨v, ws, rfl, hw, hl, q⟩ := h
  obtain ⟨p, rfl, hp⟩ := hw
  refine ⟨_, rfl, _, _, rfl, lenL hp, ?_⟩
  walk_at "rd"
  rw [List.length_map]
  match ws, hl, hp, q with
  | [], _, hp, q => refine ifT (by simp) ?_; exact q _ (Same.refl _)
  | [_], _, hp, q => refine ifT (by simp) ?_; exact q _ (Same.refl _)
  | [_, _], _, hp, q => refine ifT (by simp) ?_; exact q _ (Same.refl _)
  | x :: y :: k :: rest, hl, hp, q =>
  have hlen : ((x :: y :: k :: rest).length : Int) - 3 = (rest.length : Int) := by simp; omega
  rw [hlen]
  have hk : atI ((x :: y :: k :: rest).map sv) 2 = some (sv k) := atI_nat (j := 2) rfl
  have hq := q _ (Same.refl _)
  rw [doorFits3] at hq
  refine ite2 (fun h1 => ?_) (fun h1 => ?_)
  · rw [if_pos (by simp at h1; omega)] at hq
    exact hq
  rw [if_neg (by simp at h1; omega)] at hq
  refine ⟨_, rfl, p, _, _, _, rfl, rfl, SqL.of hp, hk, rfl, _, rfl, ?_⟩
  rw [sv_eq]
  refine ite2 (fun h2 => ?_) (fun h2 => ?_)
  · rw [if_pos (of_decide_eq_true h2)] at hq
    refine ⟨_, rfl, rfl, ?_⟩
    show Q (.bl (decide (V.int (((x :: y :: k :: rest).length : Int) - 3) = V.int 1))) H
    rw [hlen, show decide (V.int (rest.length : Int) = V.int 1) = decide (rest.length = 1) from by congr 1; simp; omega]
    exact hq
  rw [if_neg (fun z => h2 (decide_eq_true z))] at hq
  refine ⟨_, rfl, p, _, _, _, rfl, rfl, SqL.of hp, hk, rfl, _, rfl, ?_⟩
  rw [sv_eq]
  refine ite2 (fun h3 => ?_) (fun h3 => ?_)
  · rw [if_pos (of_decide_eq_true h3)] at hq
    refine ⟨_, rfl, rfl, ?_⟩
    show Q (.bl (decide (V.int (((x :: y :: k :: rest).length : Int) - 3) = V.int 3))) H
    rw [hlen, show decide (V.int (rest.length : Int) = V.int 3) = decide (rest.length = 3) from by congr 1; simp; omega]
    exact hq
  rw [if_neg (fun z => h3 (decide_eq_true z))] at hq
  refine ⟨_, rfl, p, _, _, _, rfl, rfl, SqL.of hp, hk, rfl, _, rfl, ?_⟩
  rw [sv_eq]
  refine ite2 (fun h4 => ?_) (fun h4 => ?_)
  · rw [h4, Bool.true_or] at hq
    exact hq
  rw [show decide (k = lw "even") = false by simpa using h4, Bool.false_or] at hq
  refine ⟨_, rfl, p, _, _, _, rfl, rfl, SqL.of hp, hk, rfl, _, rfl, ?_⟩
  rw [sv_eq]
  refine ite2 (fun h5 => ?_) (fun h5 => ?_)
  · rw [h5, Bool.true_and] at hq
    refine ⟨_, rfl, _, _, rfl, rfl, (by show (0 : Int) < 2; decide), rfl, ?_⟩
    show Q (.bl (decide (V.int ((((x :: y :: k :: rest).length : Int) - 3) % 2) = V.int 0))) H
    rw [hlen, show decide (V.int ((rest.length : Int) % 2) = V.int 0) = decide (rest.length % 2 = 0) from by congr 1; simp; omega]
    exact hq
  · rw [show decide (k = lw "mixed") = false by simpa using h5, Bool.false_and] at hq
    exact hq
theorem cal_row_fits (F : Fn K mg "row_fits" s_row_fits) (B : Blt mg) (T : Tx K mg A) (c_door_fits : CalX P w K mg base 1 "door_fits" (spFits doorFits)) : CalX P w K mg base 2 "row_fits" spRowFits := by
  refine calx F sc_row_fits (fun _ _ _ _ _ _ us hl => match us, hl with | [_], _ => rfl) (fun vs H Q E h => by obtain ⟨x, _, rfl, _⟩ := h; rfl) ?_
  intro f cdv A' outer s H vs Q E hr hT hx hu h
  refine ⟨_, (pss_cons (ps_set (i := 1) sc_row_fits.nd rfl (Or.inl rfl) (pe_op op_sub (pe_callB call_len (by rfl) B.len (by decide +kernel) (pa_cons (pv 0) pa_nil)) pe_int))
      (pss_cons (ps_if (pt_cmpR op_in_seq (pe_ix ix_list (pv 0) pe_int (fun _ _ => rfl)) (pe_glob (v := .ref A.one) rfl T.one_m rfl) (by rfl)) (pss_one (ps_ret (pe_cmpR op_eq (pv 1) pe_int (nomark _)))) pss_nil)
      (pss_cons (ps_if (pt_cmpR op_in_seq (pe_ix ix_list (pv 0) pe_int (fun _ _ => rfl)) (pe_glob (v := .ref A.none_) rfl T.none_m rfl) (by rfl)) (pss_one (ps_ret (pe_cmpR op_eq (pv 1) pe_int (nomark _)))) pss_nil)
      (pss_cons (ps_if (PW.pt (pw_or (pt_cmpR op_eq (pe_ix ix_list (pv 0) pe_int (fun _ _ => rfl)) pe_lit (nomark _)) (pw_or1 (pt_cmpR op_eq (pe_ix ix_list (pv 0) pe_int (fun _ _ => rfl)) pe_lit (nomark _))))) (pss_one (ps_ret (pe_cmpR op_eq (pv 1) pe_int (nomark _)))) pss_nil)
      (pss_cons (ps_if (pt_cmpR op_eq (pe_ix ix_list (pv 0) pe_int (fun _ _ => rfl)) pe_lit (nomark _)) (pss_one (ps_ret (pe_cx c_door_fits hr (by decide) rfl hx (pa_cons (pe_slice sl_list (pv 0) (po_some pe_int) po_none) pa_nil)))) pss_nil)
      (pss_one (ps_ret (pe_or (pe_cmpR op_eq (pe_ix ix_list (pv 0) pe_int (fun _ _ => rfl)) pe_lit (nomark _)) (pe_one (pe_and (pe_cmpR op_eq (pe_ix ix_list (pv 0) pe_int (fun _ _ => rfl)) pe_lit (nomark _)) (pe_one (pe_cmpR op_gt (pv 1) pe_int (nomark _))))))))))))), ?_⟩
  obtain ⟨v, ws, rfl, hw, hl, hne, q⟩ := h
  obtain ⟨p, rfl, hp⟩ := hw
  refine ⟨_, rfl, _, _, rfl, lenL hp, ?_⟩
  refine ⟨_, _, rfl, rfl, ?_⟩
  match ws, hl, hp, q with
  | [], _, _, q => exact absurd rfl hne
  | x :: rest, hl, hp, q =>
  have hlen : (((x :: rest).map sv).length : Int) - 1 = (rest.length : Int) := by rw [List.length_map]; simp
  have hk : atI ((x :: rest).map sv) 0 = some (sv x) := atI_nat (j := 0) rfl
  have hq := q _ (Same.refl _)
  rw [rowFits1] at hq
  have hn1 : ∀ n : Int, decide (V.int ((((x :: rest).map sv).length : Int) - 1) = V.int n) = decide ((rest.length : Int) = n) := fun n => by rw [hlen]; congr 1; simp
  refine ⟨_, rfl, p, _, _, _, rfl, rfl, SqL.of hp, hk, A.one, _, rfl, .inl (T.one_l _), rfl, flat_sv _, _, rfl, ?_⟩
  refine ite2 (fun h1 => ?_) (fun h1 => ?_)
  · have h1' : x ∈ ones := by have z : inV (sv x) (ones.map sv) = true := h1; rw [inV_sv] at z; exact of_decide_eq_true z
    rw [if_pos h1'] at hq
    refine ⟨_, rfl, rfl, ?_⟩
    show Q (.bl (decide (V.int ((((x :: rest).map sv).length : Int) - 1) = V.int 1))) H
    rw [hn1, show decide ((rest.length : Int) = 1) = decide (rest.length = 1) from by congr 1; exact propext (by omega)]
    exact hq
  have h1' : ¬ x ∈ ones := fun z => h1 (by show inV (sv x) (ones.map sv) = true; rw [inV_sv]; exact decide_eq_true z)
  rw [if_neg h1'] at hq
  refine ⟨_, rfl, p, _, _, _, rfl, rfl, SqL.of hp, hk, A.none_, _, rfl, .inl (T.none_l _), rfl, flat_sv _, _, rfl, ?_⟩
  refine ite2 (fun h2 => ?_) (fun h2 => ?_)
  · have h2' : x ∈ nones := by have z : inV (sv x) (nones.map sv) = true := h2; rw [inV_sv] at z; exact of_decide_eq_true z
    rw [if_pos h2'] at hq
    refine ⟨_, rfl, rfl, ?_⟩
    show Q (.bl (decide (V.int ((((x :: rest).map sv).length : Int) - 1) = V.int 0))) H
    rw [hn1, show decide ((rest.length : Int) = 0) = decide (rest.length = 0) from by congr 1; exact propext (by omega)]
    exact hq
  have h2' : ¬ x ∈ nones := fun z => h2 (by show inV (sv x) (nones.map sv) = true; rw [inV_sv]; exact decide_eq_true z)
  rw [if_neg h2'] at hq
  have two : x = lw "shut" ∨ x = lw "bounds" → Q (.bl (decide (V.int ((((x :: rest).map sv).length : Int) - 1) = V.int 2))) H := fun z => by
    rw [if_pos z] at hq
    rw [hn1, show decide ((rest.length : Int) = 2) = decide (rest.length = 2) from by congr 1; exact propext (by omega)]
    exact hq
  refine ⟨_, rfl, p, _, _, _, rfl, rfl, SqL.of hp, hk, rfl, _, rfl, ?_⟩
  rw [sv_eq]
  refine ite2 (fun h3 => ?_) (fun h3 => ?_)
  · refine iteT ⟨_, rfl, rfl, two (.inl (of_decide_eq_true h3))⟩
  refine ⟨_, rfl, p, _, _, _, rfl, rfl, SqL.of hp, hk, rfl, _, rfl, ?_⟩
  rw [sv_eq]
  refine ite2 (fun h4 => ?_) (fun h4 => ?_)
  · exact ⟨_, rfl, rfl, two (.inr (of_decide_eq_true h4))⟩
  rw [if_neg (fun z => z.elim (fun z => h3 (decide_eq_true z)) (fun z => h4 (decide_eq_true z)))] at hq
  refine ⟨_, rfl, p, _, _, _, rfl, rfl, SqL.of hp, hk, rfl, _, rfl, ?_⟩
  rw [sv_eq]
  refine ite2 (fun h5 => ?_) (fun h5 => ?_)
  · rw [if_pos (of_decide_eq_true h5)] at hq
    refine ⟨_, rfl, _, rfl, p, _, rfl, SqL.of hp, fun l hl' => ?_⟩
    rw [cut2]
    have s1 := same_upd (o := .lst (((x :: rest).drop 2).map sv)) hl'
    refine ⟨_, _, rfl, ⟨l, rfl, upd_same⟩, by simp at hl ⊢; omega, fun H' s2 => ?_⟩
    have := q H' (s1.trans s2)
    rw [rowFits1, if_neg h1', if_neg h2', if_neg (fun z => z.elim (fun z => h3 (decide_eq_true z)) (fun z => h4 (decide_eq_true z))), if_pos (of_decide_eq_true h5)] at this
    exact this
  rw [if_neg (fun z => h5 (decide_eq_true z))] at hq
  refine ⟨_, rfl, p, _, _, _, rfl, rfl, SqL.of hp, hk, rfl, _, rfl, ?_⟩
  rw [sv_eq]
  refine ite2 (fun h6 => ?_) (fun h6 => ?_)
  · rw [h6, Bool.true_or] at hq
    exact hq
  rw [show decide (x = lw "worth") = false by simpa using h6, Bool.false_or] at hq
  refine ⟨_, rfl, p, _, _, _, rfl, rfl, SqL.of hp, hk, rfl, _, rfl, ?_⟩
  rw [sv_eq]
  refine ite2 (fun h7 => ?_) (fun h7 => ?_)
  · rw [h7, Bool.true_and] at hq
    refine ⟨_, rfl, _, _, rfl, rfl, ?_⟩
    show Q (.bl (decide ((0 : Int) < (((x :: rest).map sv).length : Int) - 1))) H
    rw [hlen, show decide ((0 : Int) < (rest.length : Int)) = decide (0 < rest.length) from by congr 1; exact propext (by omega)]
    exact hq
  · rw [show decide (x = lw "run") = false by simpa using h7, Bool.false_and] at hq
    exact hq
theorem cal_ways_text (F : Fn K mg "ways_text" s_ways_text) (B : Blt mg) (c_number_text : CalX P w K mg base 1 "number_text" spNumText) : CalX P w K mg base 2 "ways_text" spWaysText := by
  refine calx F sc_ways_text (fun _ _ _ _ _ _ us hl => match us, hl with | [_, _], _ => rfl) (fun vs H Q E h => by obtain ⟨x, _, _, _, rfl, _⟩ := h; rfl) ?_
  intro f cdv A' outer s H vs Q E hr hT hx hu h
  refine ⟨_, (pss_cons (ps_if (pt_cmpR op_eq (pe_callB call_len (by rfl) B.len (by decide +kernel) (pa_cons (pv 1) pa_nil)) pe_int (nomark _)) (pss_one (ps_ret (pe_op op_add_w pe_lit (pe_ix ix_list (pv 0) (pe_ix ix_tup (pe_ix ix_list (pv 1) pe_int (fun _ _ => rfl)) pe_int (fun _ _ => rfl)) (fun _ _ => rfl))))) pss_nil)
      (pss_one (ps_ret (pe_op op_add_w pe_lit (pe_join pe_lit (pe_lc (own := [("room", 2), ("chance", 3)]) rfl sc_ways_text.nd (pi_list (pv 1)) (blkOk_by (own := [("room", 2), ("chance", 3)]) (N := ["names", "ways", "room", "chance"]) (sc := defScope s_ways_text) (by decide +kernel)) (fun _ _ _ _ _ => (show PG _ _ (gTup K 2 _) from pg_tup rfl (pgs_cons (pg_name (i := 2) sc_ways_text.nd rfl (Or.inl rfl)) (pgs_cons (pg_name (i := 3) sc_ways_text.nd rfl (Or.inl rfl)) pgs_nil)))) (fun _ _ _ _ _ => pts_nil) (fun _ _ _ _ _ => (pe_op op_add_w (pe_op op_add_w (pe_ix (show IxR _ (rIxL K) from ix_list) (pv 0) (pv 2) (fun _ _ => rfl)) pe_lit) (pe_cx c_number_text hr (by decide) rfl passL (pa_cons (pv 3) pa_nil)))))))))), ?_⟩
  obtain ⟨nv, wv, ts, ws, rfl, hn, hw, ht, hws, q⟩ := h
  obtain ⟨np, rfl, hnp⟩ := hn
  obtain ⟨wp, wvs, rfl, hwp, hwv⟩ := hw
  have hnum : ∀ x ∈ ws, (numText x.2).length ≤ 130 := fun x hx => numText_len (hws.2 x hx).2.1 (hws.2 x hx).2.2
  have hat : ∀ k, k < ts.length → atI (ts.map sv) ((k : Nat) : Int) = some (sv (ts.getD k [])) ∧ (ts.getD k []).length ≤ 100 := fun k hk => by
    have e : ts.getD k [] = ts[k] := by rw [List.getD_eq_getElem?_getD, List.getElem?_eq_getElem hk]; rfl
    rw [e]
    exact ⟨atI_nat (by rw [List.getElem?_map, List.getElem?_eq_getElem hk]; rfl), ht.2 _ (List.getElem_mem hk)⟩
  refine ⟨_, rfl, _, _, rfl, lenL hwp, rfl, _, rfl, ?_⟩
  have hl := hwv.length
  refine ite2 (fun h1 => ?_) (fun h1 => ?_)
  · have h1' : ws.length = 1 := by simp at h1; omega
    match ws, h1', hwv, hws, q with
    | [(k, f)], _, .cons (a := wv1) ⟨t, fv, e1, ht1, hf1⟩ .nil, hws, q =>
    subst e1
    have hk := (hws.2 (k, f) (by simp)).1
    refine ⟨_, rfl, _, rfl, wp, _, _, _, rfl, rfl, SqL.of hwp, atI_nat (j := 0) rfl, t, _, _, _, rfl, rfl, SqT.of ht1, atI_nat (j := 0) rfl, np, _, _, _, rfl, rfl, SqL.of hnp, (hat k hk).1, _, _, rfl, rfl, ?_, ?_⟩
    · have := (hat k hk).2
      rw [sizeLine_eq, show (lw "sure ").length = 5 from by decide +kernel]; omega
    · exact q _ (Same.refl _)
  · have h1' : ¬ ws.length = 1 := by simp at h1; omega
    have e1 : waysText ts ws = lw "mixed " ++ TL.joinL [32] (ws.map fun x => ts.getD x.1 [] ++ ([32] ++ numText x.2)) := by
      unfold waysText
      split
      · exact absurd rfl h1'
      · rfl
    rw [e1] at q
    refine ⟨⟨_, rfl⟩, _, rfl, wp, rfl, ⟨_, SqL.of hwp⟩, fun D hD => ?_⟩
    refine lc_list (xs := wvs) (fun i H' => Same H H' ∧ H' D = some (.lst ((ws.take i).map fun x => sv (ts.getD x.1 [] ++ ([32] ++ numText x.2))))) ⟨same_upd hD, upd_same⟩ (fun i H' _ h => SqL.of (h.1 _ _ hwp)) ?_ ?_
    · rintro i y H' hi ⟨s1, hv⟩
      obtain ⟨x, hxi, t, fv, rfl, ht1, hf1⟩ := paired_get hwv hi
      obtain ⟨hk, hx1, hx2⟩ := hws.2 x (mem_at hxi)
      have hn1 := hnum x (mem_at hxi)
      have hn2 := (hat x.1 hk).2
      refine ⟨_, _, rfl, SqT.of (s1 _ _ ht1), rfl, ?_⟩
      walk_at "rd"
      refine ⟨np, _, _, _, rfl, rfl, SqL.of (s1 _ _ hnp), (hat x.1 hk).1, ?_⟩
      refine ⟨_, _, rfl, rfl, ?_, ?_⟩
      · rw [sizeLine_eq, show (lw " ").length = 1 from by decide +kernel]; omega
      refine ⟨_, rfl, _, x.2, rfl, hf1.mono s1, hx1, hx2, _, _, rfl, rfl, ?_, ?_⟩
      · rw [sizeLine_eq, List.length_append, show (lw " ").length = 1 from by decide +kernel]; omega
      refine ⟨_, hv, by simp only [List.length_map, List.length_take]; rw [sizeLine_eq]; omega, same_off s1 hD, ?_⟩
      rw [upd_same, take_snoc hxi, List.map_append, show lw " " = [32] from by decide +kernel, List.append_assoc]
      rfl
    · rintro H' ⟨s1, hv⟩
      rw [hl, List.take_length] at hv
      have hv' : H' D = some (.lst (((ws.map fun x => ts.getD x.1 [] ++ ([32] ++ numText x.2)).map SX.S).map V.str)) := by rw [hv, List.map_map, List.map_map]; rfl
      have hjl : (TL.joinL [32] (ws.map fun x => ts.getD x.1 [] ++ ([32] ++ numText x.2))).length ≤ 4000 := by
        refine Nat.le_trans (joinL_len (c := 250) _ (fun y hy => ?_)) ?_
        · obtain ⟨x, hx, rfl⟩ := List.mem_map.mp hy
          have := hnum x hx
          have := (hat x.1 (hws.2 x hx).1).2
          simp only [List.length_append, List.length_cons, List.length_nil]; omega
        · rw [List.length_map]; have := hws.1; omega
      refine ⟨SX.S (lw " "), D, _, rfl, rfl, .inl (SqL.of hv'), ?_, ?_⟩
      · have hs : ∀ l : List Wd, (∀ y ∈ l, y.length ≤ 250) → ((l.map SX.S).map (·.length)).sum ≤ l.length * 250 := fun l => by
          induction l with
          | nil => intro _; simp
          | cons y l ih =>
            intro h
            have h1 := h y (by simp)
            have h2 := ih fun z hz => h z (by simp [hz])
            simp only [List.map_cons, List.sum_cons, List.length_cons, SX.S_len]
            omega
        have := hs (ws.map fun x => ts.getD x.1 [] ++ ([32] ++ numText x.2)) (fun y hy => by
          obtain ⟨x, hx, rfl⟩ := List.mem_map.mp hy
          have := hnum x hx
          have := (hat x.1 (hws.2 x hx).1).2
          simp only [List.length_append, List.length_cons, List.length_nil]; omega)
        rw [List.length_map] at this
        rw [List.length_map, List.length_map, SX.S_len, show (lw " ").length = 1 from by decide +kernel]
        have := hws.1
        omega
      · rw [SX.join_S, show lw " " = [32] from by decide +kernel]
        refine ⟨_, _, rfl, rfl, ?_, q _ s1⟩
        rw [sizeLine_eq, show (lw "mixed ").length = 6 from by decide +kernel]; omega
theorem cal_show (F : Fn K mg "show" s_show) (B : Blt mg) (T : Tx K mg A) (c_number_text : CalX P w K mg base 1 "number_text" spNumText) (c_ways_text : CalX P w K mg base 2 "ways_text" spWaysText) (m_Hall_names : MetX P w K mg base 1 A.hall "names" (spNames A)) (m_Hall_size : MetX P w K mg base 1 A.hall "size" (spSize A)) (m_Hall_offers : MetX P w K mg base 3 A.hall "offers" (spOffers A)) : CalX P w K mg base 4 "show" (spShow A) := by
  refine calx F sc_show (fun _ _ _ _ _ _ us hl => match us, hl with | [_], _ => rfl) (fun vs H Q E h => by obtain ⟨x, _, rfl, _⟩ := h; rfl) ?_
  intro f cdv A' outer s H vs Q E hr hT hx hu h
  refine ⟨_, (pss_cons (ps_set (i := 1) sc_show.nd rfl (Or.inl rfl) (pe_mx0 (pv 0) m_Hall_names hr (by decide) hx))
      (pss_cons (ps_set (i := 2) sc_show.nd rfl (Or.inl rfl) (pe_lst (pa_cons (pe_op op_add_w pe_lit (pe_cx c_number_text hr (by decide) rfl hx (pa_cons (pe_fld (pv 0) rfl) pa_nil))) pa_nil)))
      (pss_cons (ps_for (passes_of rfl) rfl (pi_range1 rfl B.range (pa_cons (pe_mx0 (pv 0) m_Hall_size hr (by decide) hx) pa_nil)) (pg_name (i := 3) sc_show.nd rfl (Or.inl rfl))
        (pss_cons (ps_expr (pe_bm PySem.F.plainAttrs_list PySem.F.slot_list_append PySem.F.type_list_append mt_append (pv 2) (pa_cons (pe_op op_add_w pe_lit (pe_ix ix_list (pv 1) (pv 3) (fun _ _ => rfl))) pa_nil)))
        (pss_one (ps_for (passes_of rfl) rfl (pi_list (pe_mx (pv 0) m_Hall_offers hr (by decide) hx (pa_cons (pv 3) pa_nil))) (pg_tup rfl (pgs_cons (pg_name (i := 4) sc_show.nd rfl (Or.inl rfl)) (pgs_cons (pg_name (i := 5) sc_show.nd rfl (Or.inl rfl)) (pgs_cons (pg_name (i := 6) sc_show.nd rfl (Or.inl rfl)) pgs_nil))))
          (pss_one (ps_expr (pe_bm PySem.F.plainAttrs_list PySem.F.slot_list_append PySem.F.type_list_append mt_append (pv 2) (pa_cons (pe_op op_add_w (pe_op op_add_w (pe_op op_add_w (pe_op op_add_w (pe_op op_add_w pe_lit (pv 4)) pe_lit) (pe_cx c_number_text hr (by decide) rfl hx (pa_cons (pv 5) pa_nil))) pe_lit) (pe_cx c_ways_text hr (by decide) rfl hx (pa_cons (pv 1) (pa_cons (pv 6) pa_nil)))) pa_nil))))))))
      (pss_one (ps_ret (pe_join pe_lit (pv 2))))))), ?_⟩
  obtain ⟨v, h, rfl, hh, hs, q⟩ := h
  have hh0 := hh
  obtain ⟨a, dx, fv, tl, gl, gs, rfl, ha, hf, ht', hg, hgs⟩ := hh
  obtain ⟨⟨ht1, ht2⟩, ⟨hs1, hs2⟩, hgl, hos⟩ := hs
  have hok : OkHall h := ⟨by omega, hgl, fun os hm => by have := (hos os hm).1; omega⟩
  refine ⟨_, rfl, a, dx, _, rfl, ha, rfl, _, h, rfl, hh0, hok, ?_⟩
  rintro _ H1 s1 ⟨np, rfl, hnp⟩
  refine ⟨_, rfl, a, A.hall, dx, _, _, rfl, s1 _ _ ha, T.hall.c, T.hall.n _ (by simp), rfl, _, h.share, rfl, hf.mono s1, hs1, hs2, _, _, rfl, rfl, ?_, ?_⟩
  · have := numText_len hs1 hs2
    rw [sizeLine_eq, show (lw "share ").length = 6 from by decide +kernel]; omega
  refine ⟨by show 1 ≤ sizeLine; decide, fun rl hrl => ?_⟩
  have s2 := s1.trans (same_upd (o := .lst [sv (lw "share " ++ numText h.share)]) hrl)
  have hHr : H rl = none := s1.free hrl
  refine ⟨_, rfl, a, dx, _, rfl, s2 _ _ ha, rfl, _, h, rfl, hh0.mono s2, _, rfl, ?_, ?_, ?_⟩
  · omega
  · omega
  rw [Int.toNat_natCast]
  have hnp2 := (same_upd (o := .lst [sv (lw "share " ++ numText h.share)]) hrl) _ _ hnp
  have hnr : np ≠ rl := ne_of_none hnp hrl
  refine for_range (n := h.titles.length) (fun i σ H' => Same H H' ∧ H' np = some (.lst (h.titles.map sv)) ∧ (∃ o3 o4 o5 o6, σ = [some (.ref a), some (.ref np), some (.ref rl), o3, o4, o5, o6]) ∧ H' rl = some (.lst ((rowsUpto h i).map sv)))
    ⟨s2, hnp2, ⟨_, _, _, _, rfl⟩, upd_same⟩ ?_ ?_
  · rintro i σ H' hi ⟨s3, hn3, ⟨o3, o4, o5, o6, rfl⟩, hr3⟩
    have hzi : (0 : Int) + (i : Nat) = ((i : Nat) : Int) := Int.zero_add _
    rw [hzi]
    have hti : h.titles[i]? = some h.titles[i] := List.getElem?_eq_getElem hi
    have hgi : h.given[i]? = some (h.given[i]'(by omega)) := List.getElem?_eq_getElem (by omega)
    have hup := rowsUpto_succ hti hgi
    have htl := ht2 _ (mem_at hti)
    have hosi := hos _ (mem_at hgi)
    generalize h.titles[i] = t0 at hti hup htl
    generalize (h.given[i]'(by omega)) = os at hgi hup hosi
    have hrc := rowsUpto_count (h := h) (i := i) (by omega) fun os hm => (hos os hm).1
    have hnat : atI (h.titles.map sv) ((i : Nat) : Int) = some (sv t0) := atI_nat (by rw [List.getElem?_map, hti]; rfl)
    refine ⟨_, rfl, tyL hr3, _, rfl, _, rfl, np, _, _, _, rfl, rfl, SqL.of hn3, hnat, _, _, rfl, rfl, ?_, rl, _, _, rfl, rfl, hr3, ?_, ?_⟩
    · rw [sizeLine_eq, show (lw "room ").length = 5 from by decide +kernel]; omega
    · rw [List.length_map, sizeLine_eq]; omega
    have s4 := same_off (o := .lst ((rowsUpto h i).map sv ++ [sv (lw "room " ++ t0)])) s3 hHr
    have hn4 : (L2.upd H' rl (.lst ((rowsUpto h i).map sv ++ [sv (lw "room " ++ t0)]))) np = some (.lst (h.titles.map sv)) := (upd_ne hnr).trans hn3
    refine ⟨_, rfl, a, dx, _, rfl, s4 _ _ ha, rfl, _, rfl, _, h, os, i, rfl, hh0.mono s4, hok, hgi, ?_⟩
    rintro _ H4 s5 ⟨op, ovs, rfl, hop, hops⟩
    have hr4 : H4 rl = some (.lst (sv (lw "share " ++ numText h.share) :: ((((h.titles.zip h.given).take i).map (roomRows h.titles)).flatten.map sv ++ [sv (lw "room " ++ t0)]))) := s5 _ _ upd_same
    have hn5 := s5 _ _ hn4
    have s6 := s4.trans s5
    have hor : op ≠ rl := fun z => by
      rw [z, hr4] at hop
      cases hop
      cases hops with
      | cons k _ => obtain ⟨_, _, _, e, _⟩ := k; cases e
    have hops' := hops.mono (F' := IsOffer (L2.del H4 rl)) fun a b k => k.delS hr4
    refine ⟨op, rfl, ⟨_, SqL.of hop⟩, ?_⟩
    refine for_list (xs := ovs) (fun j σ H' => Same H H' ∧ Same (L2.del H4 rl) H' ∧ (∃ o4 o5 o6, σ = [some (.ref a), some (.ref np), some (.ref rl), some (.int (i : Nat)), o4, o5, o6]) ∧ H' rl = some (.lst ((rowsUpto h i ++ ((lw "room " ++ t0) :: (os.take j).map (offerRow h.titles))).map sv)))
      ⟨s6, del_le, ⟨_, _, _, rfl⟩, by rw [hr4]; simp [rowsUpto]⟩ (fun j σ H' _ h => SqL.of (h.2.1 _ _ ((del_ne hor).trans hop))) ?_ ?_
    · rintro j y σ H5 hj ⟨s7, s7', ⟨o4, o5, o6, rfl⟩, hr5⟩
      obtain ⟨o, hoj, t, fv2, wv, rfl, ht5, hf5, hw5⟩ := paired_get hops' hj
      obtain ⟨ho1, ho2, ho3, ho4, ho5⟩ := hosi.2 o (mem_at hoj)
      have hnl := numText_len ho2 ho3
      have hwl := waysText_len (ts := h.titles) (ws := o.2.2) ⟨ht1, ht2⟩ ⟨ho4, ho5⟩
      have hn6 := s7' _ _ ((del_ne hnr).trans hn5)
      have l1 : (lw "door ").length = 5 := by decide +kernel
      have l2 : (lw " ").length = 1 := by decide +kernel
      refine ⟨_, _, rfl, SqT.of (s7' _ _ ht5), rfl, ?_⟩
      refine ⟨_, _, rfl, _, _, rfl, _, _, rfl, rfl, ?_⟩
      refine ⟨_, rfl, tyL hr5, _, rfl, _, _, rfl, rfl, ?_, ?_⟩
      · rw [sizeLine_eq]; omega
      refine ⟨_, _, rfl, rfl, ?_, ?_⟩
      · rw [sizeLine_eq, List.length_append]; omega
      refine ⟨_, rfl, _, o.2.1, rfl, hf5.mono s7', ho2, ho3, ?_⟩
      refine ⟨_, _, rfl, rfl, ?_, ?_⟩
      · simp only [List.length_append]; rw [sizeLine_eq]; omega
      refine ⟨_, _, rfl, rfl, ?_, ?_⟩
      · simp only [List.length_append]; rw [sizeLine_eq]; omega
      refine ⟨_, rfl, _, rfl, _, _, h.titles, o.2.2, rfl, ⟨np, rfl, hn6⟩, hw5.mono s7', ⟨ht1, ht2⟩, ⟨ho4, ho5⟩, fun H6 s8 => ?_⟩
      refine ⟨_, _, rfl, rfl, ?_, ?_⟩
      · simp only [List.length_append]; rw [sizeLine_eq]; omega
      refine ⟨rl, _, _, rfl, rfl, s8 _ _ hr5, ?_, ?_⟩
      · simp only [List.length_map, List.length_append, List.length_cons, List.length_take]; rw [sizeLine_eq]; have := hosi.1; omega
      refine ⟨same_off (s7.trans s8) hHr, same_off (s7'.trans s8) del_same, ⟨_, _, _, rfl⟩, ?_⟩
      rw [upd_same, take_snoc hoj]
      have e : lw "door " ++ o.1 ++ lw " " ++ numText o.2.1 ++ lw " " ++ waysText h.titles o.2.2 = offerRow h.titles o := by
        unfold offerRow
        rw [show lw " " = [32] from by decide +kernel]
        simp only [List.append_assoc]
      rw [e]
      simp
    · rintro σ H5 ⟨s7, s7', ⟨o4, o5, o6, rfl⟩, hr5⟩
      rw [hops.length, List.take_length, ← hup] at hr5
      exact ⟨s7, s7' _ _ ((del_ne hnr).trans hn5), ⟨_, _, _, _, rfl⟩, hr5⟩
  · rintro σ H' ⟨s3, hn3, ⟨o3, o4, o5, o6, rfl⟩, hr3⟩
    have hall : rowsUpto h h.titles.length = showRows h := by
      unfold rowsUpto showRows
      rw [List.take_of_length_le (by simp [hgl])]
      rfl
    rw [hall] at hr3
    have hrc := rowsUpto_count (h := h) (i := h.titles.length) ht1 fun os hm => (hos os hm).1
    have hrl4 : ∀ y ∈ showRows h, y.length ≤ 4300 := rows_len ⟨⟨ht1, ht2⟩, ⟨hs1, hs2⟩, hgl, hos⟩
    rw [hall] at hrc
    have hr3' : H' rl = some (.lst (((showRows h).map SX.S).map V.str)) := by rw [hr3, List.map_map]; rfl
    refine ⟨⟨_, rfl⟩, _, rfl, SX.S (lw "\n"), rl, _, rfl, rfl, .inl (SqL.of hr3'), ?_, ?_⟩
    · have := sum_len (c := 4300) (showRows h) hrl4
      rw [SX.S_len, List.length_map, show (lw "\n").length = 1 from by decide +kernel]
      omega
    · rw [SX.join_S, show lw "\n" = [10] from by decide +kernel]
      exact q _ s3
theorem cal_door_of (F : Fn K mg "door_of" s_door_of) (B : Blt mg) (T : Tx K mg A) (R_NoRow : RaX P w K mg base "NoRow" A.row (spXi A.row "row")) (hev : ∃ u, mg "Even" = some u ∧ PySem.W.keepIn K u = true) (c_door_fits : CalX P w K mg base 1 "door_fits" (spFits doorFits)) (c_word_of : CalX P w K mg base 2 "word_of" (spWordOf A)) (c_number_of : CalX P w K mg base 2 "number_of" (spNumberOf A)) (k_Sure : MakX P w K mg base 5 "Sure" A.sure (spSureInit A)) (k_Toss : MakX P w K mg base 6 "Toss" A.toss (spTossInit A)) (k_Mixed : MakX P w K mg base 5 "Mixed" A.mixed (spMixedInit A)) : CalX P w K mg base 8 "door_of" (spDoorOf A) := by
  obtain ⟨u, hm, hkp⟩ := hev
  refine calx F sc_door_of (fun _ _ _ _ _ _ us hl => match us, hl with | [_], _ => rfl) (fun vs H Q E h => by obtain ⟨x, _, rfl, _⟩ := h; rfl) ?_
  intro f cdv A' outer s H vs Q E hr hT hx hu h
  refine ⟨_, (pss_cons (ps_if (pt_not (pt_val (pe_cx c_door_fits hr (by decide) rfl hx (pa_cons (pv 0) pa_nil)))) (pss_one (ps_raise rfl hT (pmk_f R_NoRow (hr.mono (by decide)) rfl (pa_cons pe_non pa_nil)))) pss_nil)
      (pss_cons (ps_set (i := 1) sc_door_of.nd rfl (Or.inl rfl) (pe_cx c_word_of hr (by decide) rfl hx (pa_cons (pe_ix ix_list (pv 0) pe_int (fun _ _ => rfl)) pa_nil)))
      (pss_cons (ps_set (i := 2) sc_door_of.nd rfl (Or.inl rfl) (pe_cx c_number_of hr (by decide) rfl hx (pa_cons (pe_ix ix_list (pv 0) pe_int (fun _ _ => rfl)) pa_nil)))
      (pss_cons (ps_set (i := 3) sc_door_of.nd rfl (Or.inl rfl) (pe_slice sl_list (pv 0) (po_some pe_int) po_none))
      (pss_cons (ps_if (pt_cmpR op_eq (pe_ix ix_list (pv 0) pe_int (fun _ _ => rfl)) pe_lit (nomark _)) (pss_one (ps_ret (pe_kx k_Sure hr (by decide) rfl hx (pa_cons (pv 1) (pa_cons (pv 2) (pa_cons (pe_cx c_word_of hr (by decide) rfl hx (pa_cons (pe_ix ix_list (pv 3) pe_int (fun _ _ => rfl)) pa_nil)) pa_nil)))))) pss_nil)
      (pss_cons (ps_if (pt_cmpR op_eq (pe_ix ix_list (pv 0) pe_int (fun _ _ => rfl)) pe_lit (nomark _)) (pss_cons (ps_set (i := 4) sc_door_of.nd rfl (Or.inl rfl) (pe_cx c_number_of hr (by decide) rfl hx (pa_cons (pe_ix ix_list (pv 3) pe_int (fun _ _ => rfl)) pa_nil)))
        (pss_one (ps_ret (pe_kx k_Toss hr (by decide) rfl hx (pa_cons (pv 1) (pa_cons (pv 2) (pa_cons (pv 4) (pa_cons (pe_cx c_word_of hr (by decide) rfl hx (pa_cons (pe_ix ix_list (pv 3) pe_int (fun _ _ => rfl)) pa_nil)) (pa_cons (pe_cx c_word_of hr (by decide) rfl hx (pa_cons (pe_ix ix_list (pv 3) pe_int (fun _ _ => rfl)) pa_nil)) pa_nil))))))))) pss_nil)
      (pss_cons (ps_if (pt_cmpR op_eq (pe_ix ix_list (pv 0) pe_int (fun _ _ => rfl)) pe_lit (nomark _)) (pss_one (ps_ret (pe_callNo rfl hm hkp (pa_cons (pv 1) (pa_cons (pv 2) (pa_cons (pe_lcX rfl rfl hT (own := [("word", 8)]) rfl sc_door_of.nd (pi_list (pv 3)) (blkOk_by (own := [("word", 8)]) (N := ["words", "name", "pay", "rest", "chance", "pairs", "k", "room", "word"]) (sc := defScope s_door_of) (by decide +kernel)) (fun _ _ _ _ _ => (pg_name (i := 8) sc_door_of.nd rfl (Or.inl rfl))) (fun _ _ _ _ _ => pts_nil) (fun _ _ _ _ _ _ hxe => (pe_cx c_word_of hr (by decide) rfl hxe (pa_cons (pv 8) pa_nil)))) pa_nil)))))) pss_nil)
      (pss_cons (ps_set (i := 5) sc_door_of.nd rfl (Or.inl rfl) (pe_lst pa_nil))
      (pss_cons (ps_for (passes_of rfl) rfl (pi_range3 rfl B.range (pa_cons pe_int (pa_cons (pe_callB call_len (by rfl) B.len (by decide +kernel) (pa_cons (pv 3) pa_nil)) (pa_cons pe_int pa_nil)))) (pg_name (i := 6) sc_door_of.nd rfl (Or.inl rfl))
        (pss_cons (ps_set (i := 7) sc_door_of.nd rfl (Or.inl rfl) (pe_cx c_word_of hr (by decide) rfl hx (pa_cons (pe_ix ix_list (pv 3) (pv 6) (fun _ _ => rfl)) pa_nil)))
        (pss_one (ps_expr (pe_bm PySem.F.plainAttrs_list PySem.F.slot_list_append PySem.F.type_list_append mt_append (pv 5) (pa_cons (pe_tup (pa_cons (pv 7) (pa_cons (pe_cx c_number_of hr (by decide) rfl hx (pa_cons (pe_ix ix_list (pv 3) (pe_op op_add (pv 6) pe_int) (fun _ _ => rfl)) pa_nil)) pa_nil))) pa_nil))))))
      (pss_one (ps_ret (pe_kx k_Mixed hr (by decide) rfl hx (pa_cons (pv 1) (pa_cons (pv 2) (pa_cons (pv 5) pa_nil))))))))))))))), ?_⟩
  obtain ⟨v, ws, rfl, hw, hl, hl2, hpre, q1, q2, q3⟩ := h
  obtain ⟨p, rfl, hp⟩ := hw
  refine ⟨_, rfl, _, ws, rfl, ⟨p, rfl, hp⟩, hl, fun H1 s1 => ⟨_, rfl, ?_⟩⟩
  cases hfit : doorFits ws with
  | false => exact iteT (mkx fun H' d s hd => rz_fld (q1 .row (doorOf_nofit hfit)) (s1.trans s) rfl rfl rfl hd)
  | true =>
  refine iteF ?_
  match ws, hfit, hp, hl, hl2, hpre, q1, q2, q3 with
  | n :: pz :: k :: rest, hfit, hp, hl, hl2, ⟨pre1, pre2, pre3⟩, q1, q2, q3 =>
  have hdo := doorOf3 n pz k rest hfit
  have hnl : n.length ≤ 1000 := hl2 n (by simp)
  have hpl : pz.length ≤ 1000 := hl2 pz (by simp)
  have hrl' : ∀ y ∈ rest, y.length ≤ 1000 := fun y hy => hl2 y (by simp [hy])
  have hrn : rest.length ≤ 100 := by simp at hl; omega
  have hfit3 := (doorFits3 n pz k rest).symm.trans hfit
  have hk2 : ∀ H', H' p = some (.lst ((n :: pz :: k :: rest).map sv)) → SqL K H' p ((n :: pz :: k :: rest).map sv) := fun _ e => SqL.of e
  refine ⟨_, rfl, p, _, _, _, rfl, rfl, hk2 _ (s1 _ _ hp), atI_nat (j := 0) rfl, n, rfl, hnl, fun hn H2 s2 => ?_, fun hn => ?_⟩
  rotate_left
  · refine (q1 .name ?_).mono s1
    rw [hdo, hn]; rfl
  rw [hn, if_pos rfl] at hdo
  have t2 := s1.trans s2
  refine ⟨_, rfl, p, _, _, _, rfl, rfl, hk2 _ (t2 _ _ hp), atI_nat (j := 1) rfl, pz, rfl, hpl, fun pay hpay v2 H3 s3 hv2 => ?_, fun hn => ?_⟩
  rotate_left
  · refine (q1 .num ?_).mono t2
    rw [hdo, hn]
  rw [hpay] at hdo
  dsimp only at hdo
  have hpf := numberOf_frac hpay
  have t3 := t2.trans s3
  refine ⟨_, rfl, _, rfl, p, _, rfl, hk2 _ (t3 _ _ hp), fun rl hrl => ?_⟩
  rw [cut3]
  show tSeq _ _ _ _ (L2.upd H3 rl (.lst (rest.map sv)))
  have s4 := same_upd (o := .lst (rest.map sv)) hrl
  have t4 := t3.trans s4
  have hv4 := hv2.mono s4
  have hr4 : (L2.upd H3 rl (.lst (rest.map sv))) rl = some (.lst (rest.map sv)) := upd_same
  generalize L2.upd H3 rl (.lst (rest.map sv)) = H4 at t4 hv4 hr4 ⊢
  refine ⟨_, rfl, p, _, _, _, rfl, rfl, hk2 _ (t4 _ _ hp), atI_nat (j := 2) rfl, rfl, _, rfl, ?_⟩
  rw [sv_eq]
  refine ite2 (fun h1 => ?_) (fun h1 => ?_)
  · have h1' := of_decide_eq_true h1
    rw [if_pos h1'] at hdo
    have hlen : rest.length = 1 := by
      rw [if_pos h1'] at hfit3
      split at hfit3
      · cases hfit3
      · exact of_decide_eq_true hfit3
    match rest, hlen, hdo, hr4, hrl', q1, q2 with
    | [r], _, hdo, hr4, hrl', q1, q2 =>
    refine ⟨_, rfl, _, rfl, _, rfl, rl, _, _, _, rfl, rfl, SqL.of hr4, atI_nat (j := 0) rfl, r, rfl, hrl' r (by simp), fun hw H5 s5 => ?_, fun hw => ?_⟩
    rotate_left
    · refine (q1 .name ?_).mono t4
      rw [hdo]
      show (if isWordS r then _ else _) = _
      rw [hw]; rfl
    intro x dx hx hdx hne
    have t5 := t4.trans s5
    refine ⟨H5, x, dx, v2, n, r, pay, rfl, hn, hnl, hw, hrl' r (by simp), same_mk hx hdx hne, hx, hv4.mono s5, hpf, upd_same, fun H' s' h' => ⟨rfl, q2 n ?_ _ _ (t5.trans s') ⟨x, dx, _, _, rfl, h'⟩⟩⟩
    rw [hdo]
    show (if isWordS r then _ else _) = _
    rw [hw]; rfl
  rw [if_neg (fun z => h1 (decide_eq_true z))] at hdo hfit3
  refine ⟨_, rfl, p, _, _, _, rfl, rfl, hk2 _ (t4 _ _ hp), atI_nat (j := 2) rfl, rfl, _, rfl, ?_⟩
  rw [sv_eq]
  refine ite2 (fun h2 => ?_) (fun h2 => ?_)
  · have h2' := of_decide_eq_true h2
    rw [if_pos h2'] at hdo
    have hlen : rest.length = 3 := by
      rw [if_pos h2'] at hfit3
      split at hfit3
      · cases hfit3
      · exact of_decide_eq_true hfit3
    match rest, hlen, hdo, hr4, hrl', q1, q3, pre1 with
    | [c, r, o], _, hdo, hr4, hrl', q1, q3, pre1 =>
    have hdo : doorOf [n, pz, k, c, r, o] = (match numberOf c with
            | none => .error .num
            | some cf => if isWordS r then (if isWordS o then (if isChanceF cf then .ok (.inr ⟨n, pay, [(r, (1, 2)), (o, (1, 2))]⟩) else .error .chance) else .error .name) else .error .name) := hdo
    have hr5 : ∀ H', H' rl = some (.lst ([c, r, o].map sv)) → SqL K H' rl ([c, r, o].map sv) := fun _ e => SqL.of e
    refine ⟨_, rfl, rl, _, _, _, rfl, rfl, hr5 _ hr4, atI_nat (j := 0) rfl, c, rfl, hrl' c (by simp), fun cf hcf v5 H5 s5 hv5 => ?_, fun hw => ?_⟩
    rotate_left
    · refine (q1 .num ?_).mono t4
      rw [hdo, hw]
    rw [hcf] at hdo
    dsimp only at hdo
    obtain ⟨hcs, hch⟩ := pre1 h2' cf hcf
    have t5 := t4.trans s5
    refine ⟨_, rfl, _, rfl, _, rfl, _, rfl, rl, _, _, _, rfl, rfl, hr5 _ (s5 _ _ hr4), atI_nat (j := 1) rfl, r, rfl, hrl' r (by simp), fun hwr H6 s6 => ?_, fun hw => ?_⟩
    rotate_left
    · refine (q1 .name ?_).mono t5
      rw [hdo, hw]; rfl
    rw [hwr, if_pos rfl] at hdo
    have t6 := t5.trans s6
    refine ⟨_, rfl, rl, _, _, _, rfl, rfl, hr5 _ (s6 _ _ (s5 _ _ hr4)), atI_nat (j := 2) rfl, o, rfl, hrl' o (by simp), fun hwo H7 s7 => ?_, fun hw => ?_⟩
    rotate_left
    · refine (q1 .name ?_).mono t6
      rw [hdo, hw]; rfl
    rw [hwo, if_pos rfl] at hdo
    have t7 := t6.trans s7
    intro x dx hx hdx hne
    refine ⟨H7, x, dx, v2, v5, n, r, o, pay, cf, rfl, hn, hnl, hwr, hrl' r (by simp), hwo, hrl' o (by simp), same_mk hx hdx hne, hx, ((hv4.mono s5).mono s6).mono s7, hpf, (hv5.mono s6).mono s7, hcs, upd_same, ?_⟩
    cases hc : isChanceF cf with
    | false =>
      rw [hc] at hdo
      exact .inl ⟨rfl, (q1 .chance hdo).mono t7⟩
    | true =>
      rw [hc, if_pos rfl] at hdo
      refine .inr ⟨hch hc, fun H' pl vs s' h' hpl hv' hps => ⟨rfl, q3 _ hdo _ _ (t7.trans s') ?_⟩⟩
      have t8 := t7.trans s'
      exact ⟨x, A.toss, dx, v2, _, rfl, .inr rfl, (nw_new (t7.free hx)).trans h', nw_isF ((((hv4.mono s5).mono s6).mono s7).mono s') t8, pl, vs, rfl, (nw_new (t7.free hpl)).trans hv', hps.mono fun a b k => nw_isPair k t8⟩
  rw [if_neg (fun z => h2 (decide_eq_true z))] at hdo hfit3
  refine ⟨_, rfl, p, _, _, _, rfl, rfl, hk2 _ (t4 _ _ hp), atI_nat (j := 2) rfl, rfl, _, rfl, ?_⟩
  rw [sv_eq]
  refine ite2 (fun h3 => ?_) (fun h3 => ?_)
  · have h3' := of_decide_eq_true h3
    rw [if_pos h3'] at hdo
    have hall := pre2 h3'
    refine ⟨_, rfl, _, rfl, _, rfl, rl, rfl, ⟨_, SqL.of hr4⟩, fun D hD => ?_⟩
    refine lc_list (xs := rest.map sv) (fun i H' => Same H4 H' ∧ (∃ vs, H' D = some (.lst vs) ∧ vs.length = i) ∧ (rest.take i).all isWordS = true)
      ⟨same_upd hD, ⟨[], upd_same, rfl⟩, rfl⟩ (fun i H' _ h => SqL.of (h.1 _ _ hr4)) ?_ ?_
    · rintro i y H' hi ⟨s5, ⟨vs, hv, hvl⟩, hal⟩
      rw [List.getElem?_map] at hi
      cases hwi : rest[i]? with
      | none => rw [hwi] at hi; cases hi
      | some w1 =>
        rw [hwi] at hi
        have hi' : sv w1 = y := Option.some.inj hi
        subst hi'
        have hil : i < rest.length := (List.getElem?_eq_some_iff.mp hwi).1
        walk_at "rd"
        refine ⟨hrl' w1 (mem_at hwi), fun hw1 H2 s6 => ?_, fun _ => (q1 .name hdo).mono (t4.trans s5)⟩
        refine ⟨vs, s6 _ _ hv, by rw [hvl, sizeLine_eq]; omega, same_off (s5.trans s6) hD, ⟨_, upd_same, by simp [hvl]⟩, ?_⟩
        rw [take_snoc hwi, List.all_append, hal]
        simp [hw1]
    · rintro H' ⟨_, _, hal⟩
      rw [List.length_map, List.take_length, hall] at hal
      cases hal
  rw [if_neg (fun z => h3 (decide_eq_true z))] at hdo
  have hmix : k = lw "mixed" ∧ rest.length % 2 = 0 := by
    rw [show decide (k = lw "even") = false by simpa using h3, Bool.false_or] at hfit3
    split at hfit3
    · cases hfit3
    · simp at hfit3; exact hfit3
  refine ⟨Nat.zero_le _, fun pl hpl => ?_⟩
  have s5 := same_upd (o := .lst []) hpl
  have hHpl : H pl = none := t4.free hpl
  refine ⟨_, rfl, _, _, rfl, lenL (s5 _ _ hr4), 0, ((rest.map sv).length : Nat), 2, rest.length / 2, rfl, ?_, ?_⟩
  · rw [List.length_map]
    exact rg2 hrn hmix.2
  refine for_it (walk_rangeC (lo := 0) (c := 2) (n := rest.length / 2)) (fun i σ H' => Same H H' ∧ Same H4 H' ∧ (∃ o5 o6 o7, σ = [some (.ref p), some (sv n), some v2, some (.ref rl), none, some (.ref pl), o5, o6, o7]) ∧
      ∃ done vs, H' pl = some (.lst vs) ∧ Paired (IsPair H') vs done ∧ done.length = i ∧ (∀ p ∈ done, isWordS p.1 = true ∧ p.1.length ≤ 1000) ∧ pairsOf rest = prep done (pairsOf (rest.drop (2 * i))))
    ⟨t4.trans s5, s5, ⟨_, _, _, rfl⟩, [], [], upd_same, .nil, rfl, (fun _ h => by cases h), by rw [prep_nil]; rfl⟩ (fun _ _ _ _ _ => trivial) ?_ ?_
  · rintro i _ σ H5 _ hi ⟨t5, s5', ⟨o5, o6, o7, rfl⟩, done, vs, hv, hps, hdl, hdw, hpo⟩ ⟨rfl, rfl⟩
    have hi1 : 2 * i < rest.length := by omega
    have hi2 : 2 * i + 1 < rest.length := by omega
    rw [List.drop_eq_getElem_cons hi1, List.drop_eq_getElem_cons hi2] at hpo
    have e1 : rest[2 * i]? = some rest[2 * i] := List.getElem?_eq_getElem hi1
    have e2 : rest[2 * i + 1]? = some rest[2 * i + 1] := List.getElem?_eq_getElem hi2
    generalize rest[2 * i] = r at e1 hpo
    generalize rest[2 * i + 1] = c at e2 hpo
    have a1 : atI (rest.map sv) (0 + (i : Nat) * 2) = some (sv r) := by
      rw [show (0 : Int) + (i : Nat) * 2 = ((2 * i : Nat) : Int) by omega]
      exact atI_nat (by rw [List.getElem?_map, e1]; rfl)
    have a2 : atI (rest.map sv) (0 + (i : Nat) * 2 + 1) = some (sv c) := by
      rw [show (0 : Int) + (i : Nat) * 2 + 1 = ((2 * i + 1 : Nat) : Int) by omega]
      exact atI_nat (by rw [List.getElem?_map, e2]; rfl)
    have hr5 := s5' _ _ hr4
    refine ⟨_, rfl, _, rfl, rl, _, _, _, rfl, rfl, SqL.of hr5, a1, r, rfl, hrl' r (mem_at e1), fun hw H6 s6 => ?_, fun hw => ?_⟩
    rotate_left
    · refine (q1 .name ?_).mono t5
      rw [hdo, hpo]
      unfold pairsOf
      rw [hw]; rfl
    have hr6 := s6 _ _ hr5
    refine ⟨_, rfl, tyL (s6 _ _ hv), _, rfl, _, rfl, _, rfl, _, _, rfl, rfl, rl, _, _, _, rfl, rfl, SqL.of hr6, a2, c, rfl, hrl' c (mem_at e2), fun f hf v7 H7 s7 hv7 => ?_, fun hw' => ?_⟩
    rotate_left
    · refine (q1 .num ?_).mono (t5.trans s6)
      rw [hdo, hpo]
      unfold pairsOf
      rw [hw, if_pos rfl, hw']; rfl
    refine ⟨by show 2 ≤ sizeLine; decide, fun t ht => ?_⟩
    have s8 := same_upd (o := .tup [sv r, v7]) ht
    have hv8 := s8 _ _ (s7 _ _ (s6 _ _ hv))
    refine ⟨pl, vs, _, rfl, rfl, hv8, by rw [hps.length, hdl, sizeLine_eq]; omega, ?_⟩
    have s9 := (s6.trans s7).trans s8
    refine ⟨same_off (t5.trans s9) hHpl, same_off (s5'.trans s9) hpl, ⟨_, _, _, rfl⟩, done ++ [(r, f)], _, upd_same, (hps.mono fun a b k => (IsPair.mono s9 k).upd hv8 nt_lst).snoc (IsPair.upd ⟨t, v7, rfl, upd_same, hv7.mono s8⟩ hv8 nt_lst), by simp [hdl], fun p hp => ?_, ?_⟩
    · rcases List.mem_append.mp hp with hp | hp
      · exact hdw p hp
      · simp at hp; subst hp; exact ⟨hw, hrl' r (mem_at e1)⟩
    · rw [hpo, show 2 * (i + 1) = 2 * i + 1 + 1 by omega]
      rw [show pairsOf (r :: c :: rest.drop (2 * i + 1 + 1)) = (pairsOf (rest.drop (2 * i + 1 + 1))).map fun ps => (r, f) :: ps from by
        rw [pairsOf, hw, if_pos rfl, hf]]
      cases pairsOf (rest.drop (2 * i + 1 + 1)) with
      | error e => rfl
      | ok ps => simp [prep, Except.map]
  · rintro σ H5 ⟨t5, s5', ⟨o5, o6, o7, rfl⟩, done, vs, hv, hps, hdl, hdw, hpo⟩
    rw [List.drop_of_length_le (by omega)] at hpo
    have hpo' : pairsOf rest = .ok done := by rw [hpo]; simp [pairsOf, prep]
    rw [hpo'] at hdo
    dsimp only at hdo
    obtain ⟨hsm, L, hU⟩ := pre3 hmix.1 done hpo'
    refine ⟨_, rfl, _, rfl, _, rfl, ?_⟩
    intro x dx hx hdx hne
    refine ⟨H5, x, A.mixed, dx, v2, .ref pl, n, pay, done, L, rfl, hn, hnl, same_mk hx hdx hne, hx, hv4.mono s5', hpf, ⟨pl, vs, rfl, hv, hps⟩, fun p hp => ⟨(hdw p hp).1, (hdw p hp).2, hsm p hp⟩, hU, upd_same, .inl rfl, fun hmo H' pl' vs' s' h' hpl' hv' hps' => ⟨rfl, ?_⟩, fun hmo => ?_⟩
    · rw [hmo, if_pos rfl] at hdo
      have t8 := t5.trans s'
      refine q3 _ hdo _ _ t8 ⟨x, A.mixed, dx, v2, _, rfl, .inl rfl, (nw_new (t5.free hx)).trans h', nw_isF ((hv4.mono s5').mono s') t8, pl', vs', rfl, (nw_new (t5.free hpl')).trans hv', hps'.mono fun a b k => nw_isPair k t8⟩
    · rw [hmo] at hdo
      exact (q1 .chance hdo).mono t5
end
end Dk
/-! the desk -/
namespace Dk
open PySem PySem.Spec PyProof.Rows L2
local macro_rules | `(tactic| walk_at "rd") => `(tactic| repeat (first | refine ⟨_, rfl, ?_⟩ | refine ⟨_, _, rfl, rfl, ?_⟩ | refine iteT ?_ | refine iteF ?_ | refine ⟨_, _, _, _, rfl, rfl, SqT.of (by assumption), rfl, ?_⟩ | refine ⟨rfl, ?_⟩ | refine ⟨_, _, rfl, lenS (by assumption), ?_⟩ | refine ⟨_, _, rfl, lenT (by assumption), ?_⟩ | refine ⟨_, _, rfl, lenL (by assumption), ?_⟩ | refine ⟨⟨_, SqL.of (by assumption)⟩, ?_⟩ | refine ⟨_, _, rfl, ?_⟩))
theorem sc_Desk___init__ : FnScope ["self"] ["self"] (defScope s_Desk___init__) := ⟨rfl, rfl, rfl, by decide +kernel, rfl, by decide +kernel, by decide +kernel⟩
theorem sc_Desk_hall_now : FnScope ["self"] ["self"] (defScope s_Desk_hall_now) := ⟨rfl, rfl, rfl, by decide +kernel, rfl, by decide +kernel, by decide +kernel⟩
theorem sc_Desk_say : FnScope ["self", "row", "words"] ["self", "row"] (defScope s_Desk_say) := ⟨rfl, rfl, rfl, by decide +kernel, rfl, by decide +kernel, by decide +kernel⟩
theorem sc_Desk_done : FnScope ["self", "word", "rest"] ["self", "word", "rest"] (defScope s_Desk_done) := ⟨rfl, rfl, rfl, by decide +kernel, rfl, by decide +kernel, by decide +kernel⟩
theorem sc_Desk_told : FnScope ["self", "word", "rest", "hall", "marked", "name"] ["self", "word", "rest"] (defScope s_Desk_told) := ⟨rfl, rfl, rfl, by decide +kernel, rfl, by decide +kernel, by decide +kernel⟩
theorem sc_Desk_check_name : FnScope ["self", "name", "place"] ["self", "name"] (defScope s_Desk_check_name) := ⟨rfl, rfl, rfl, by decide +kernel, rfl, by decide +kernel, by decide +kernel⟩
theorem sc_Desk_set_share : FnScope ["self", "text", "share"] ["self", "text"] (defScope s_Desk_set_share) := ⟨rfl, rfl, rfl, by decide +kernel, rfl, by decide +kernel, by decide +kernel⟩
theorem sc_Desk_add_room : FnScope ["self", "name", "other", "doors"] ["self", "name"] (defScope s_Desk_add_room) := ⟨rfl, rfl, rfl, by decide +kernel, rfl, by decide +kernel, by decide +kernel⟩
theorem sc_Desk_add_door : FnScope ["self", "rest", "place", "door", "name", "doors", "room", "chance", "other"] ["self", "rest"] (defScope s_Desk_add_door) := ⟨rfl, rfl, rfl, by decide +kernel, rfl, by decide +kernel, by decide +kernel⟩
theorem sc_Desk_shut_door : FnScope ["self", "name", "title", "place", "doors", "kept", "door"] ["self", "name", "title"] (defScope s_Desk_shut_door) := ⟨rfl, rfl, rfl, by decide +kernel, rfl, by decide +kernel, by decide +kernel⟩
section
variable {P : Program} {w : World} {K : PySem.W.Frag} {mg : Str → Option Value} {base : Heap} {A : Ad}
/-- a desk at d, its rooms' list at rl, its marks at mk; all else stands apart -/
def IsDesk (A : Ad) (H : Hp) (d rl mk : Addr) (D : PDesk) : Prop := ∃ dx fv rvs kvs, H d = some (.ins A.desk dx [("share", fv), ("rooms", .ref rl), ("marks", .ref mk)]) ∧ H rl = some (.lst rvs) ∧ H mk = some (.dK kvs) ∧
  (∀ kv ∈ kvs, ∃ b, kv.2 = .bl b) ∧ kvs.length ≤ D.goals ∧ D.goals ≤ 1000 ∧ IsF (hid3 d rl mk H) fv D.share ∧ Paired (IsRoom A (hid3 d rl mk H)) rvs D.rooms
def OkD (D : PDesk) : Prop := isShareF D.share = true ∧ Sm D.share ∧ OkRooms D.rooms
abbrev ttl (D : PDesk) : List Wd := D.rooms.map (·.1)
def Keeps (d rl mk : Addr) (H H' : Hp) : Prop := ∀ b o, b ≠ d → b ≠ rl → b ≠ mk → H b = some o → H' b = some o
def doorsOf (D : PDesk) (z : Wd) : List PDoor := ((D.rooms[(ttl D).idxOf z]?).map (·.2)).getD []
def putDoor (D : PDesk) (z : Wd) (d : PDoor) : PDesk := { D with rooms := D.rooms.set ((ttl D).idxOf z) (z, doorsOf D z ++ [d]) }
def addDoor (D : PDesk) (z : Wd) (dw : List Wd) : Except Rf PDesk :=
  if z ∈ ttl D then
    match doorOf dw with
    | .error e => .error e
    | .ok (.inl n) => .error .name
    | .ok (.inr d) => if d.name ∈ (doorsOf D z).map (·.name) then .error .name else match d.pairs.find? (fun p => !decide (p.1 ∈ ttl D)) with
      | some p => .error (.room p.1)
      | none => .ok (putDoor D z d)
  else .error (.room z)
def shutM (D : PDesk) (z t : Wd) : Rf := if z ∈ ttl D then .door t else .room z
def doneM (D : PDesk) (w : Wd) (rest : List Wd) : Except Rf PDesk :=
  if w = lw "share" then (match numberOf (rest.getD 0 []) with | none => .error .num | some f => if isShareF f then .ok { D with share := f } else .error .share)
  else if w = lw "room" then (if !isWordS (rest.getD 0 []) || decide (rest.getD 0 [] ∈ ttl D) then .error .name else .ok { D with rooms := D.rooms ++ [(rest.getD 0 [], [])] })
  else if w = lw "door" then addDoor D (rest.getD 0 []) (rest.drop 1)
  else if w = lw "shut" then .error (shutM D (rest.getD 0 []) (rest.getD 1 []))
  else if rest.getD 0 [] ∈ ttl D then .ok { D with goals := D.goals + 1 } else .error (.room (rest.getD 0 []))
/-- what the proof covers -/
def AddPre (D : PDesk) (z : Wd) (dw : List Wd) : Prop := DPre dw ∧ (∀ n, doorOf dw = .ok (.inl n) → n ∈ (doorsOf D z).map (·.name)) ∧ (∀ d, doorOf dw = .ok (.inr d) → d.name ∉ (doorsOf D z).map (·.name) → OkPairs d.pairs)
def DonePre (D : PDesk) (w : Wd) (rest : List Wd) : Prop := (w = lw "share" → ∀ f, numberOf (rest.getD 0 []) = some f → Sm f) ∧ (w = lw "door" → AddPre D (rest.getD 0 []) (rest.drop 1)) ∧
  (w = lw "shut" → rest.length = 2 ∧ (rest.getD 1 [] ∉ (doorsOf D (rest.getD 0 [])).map (·.name))) ∧ (w = lw "goal" ∨ w = lw "plain" → D.goals < 1000)
def toldM (h : PHall) (w : Wd) (rest : List Wd) : Option Rf :=
  if w = lw "worth" then planRef h rest
  else if w = lw "most" ∨ w = lw "least" then (if rest.getD 0 [] ∈ h.titles then none else some (.room (rest.getD 0 [])))
  else if w = lw "bounds" then boundsRef h.titles (rest.getD 0 []) (rest.getD 1 [])
  else if w = lw "run" then runRef h.titles (rest.getD 0 []) (rest.drop 1) else none
abbrev hallD (D : PDesk) : PHall := hallOf D.share D.rooms
def spHallNow (A : Ad) : Sp := fun vs H Q E => ∃ d rl mk D, vs = [.ref d] ∧ IsDesk A H d rl mk D ∧ OkD D ∧ ∀ v H', Same H H' → IsHall A H' v (hallD D) → Q v H'
def spCheckName (A : Ad) : Sp := fun vs H Q E => ∃ d rl mk D z, vs = [.ref d, sv z] ∧ IsDesk A H d rl mk D ∧ D.rooms.length ≤ 100 ∧ (z ∈ ttl D → Q (.int ((ttl D).idxOf z : Nat)) H) ∧ (z ∉ ttl D → Rz A H E (.room z))
def Res (A : Ad) (H : Hp) (E : XK) (d rl mk : Addr) (q : Hp → Prop) (r : Except Rf PDesk) : Prop := (∀ e, r = .error e → Rz A H E e) ∧ (∀ D', r = .ok D' → ∀ H', Keeps d rl mk H H' → IsDesk A H' d rl mk D' → q H')
def spSetShare (A : Ad) : Sp := fun vs H Q E => ∃ d rl mk D l, vs = [.ref d, sv l] ∧ IsDesk A H d rl mk D ∧ l.length ≤ 1000 ∧ (∀ f, numberOf l = some f → Sm f) ∧
  Res A H E d rl mk (Q .non) (match numberOf l with | none => .error .num | some f => if isShareF f then .ok { D with share := f } else .error .share)
def spAddRoom (A : Ad) : Sp := fun vs H Q E => ∃ d rl mk D l, vs = [.ref d, sv l] ∧ IsDesk A H d rl mk D ∧ D.rooms.length ≤ 100 ∧ l.length ≤ 1000 ∧
  Res A H E d rl mk (Q .non) (if !isWordS l || decide (l ∈ ttl D) then .error .name else .ok { D with rooms := D.rooms ++ [(l, [])] })
def spAddDoor (A : Ad) : Sp := fun vs H Q E => ∃ d rl mk D v z dw, vs = [.ref d, v] ∧ IsDesk A H d rl mk D ∧ OkD D ∧ IsWs H v (z :: dw) ∧ dw.length ≤ 99 ∧ (∀ x ∈ z :: dw, x.length ≤ 1000) ∧ AddPre D z dw ∧
  Res A H E d rl mk (Q .non) (addDoor D z dw)
def spShutDoor (A : Ad) : Sp := fun vs H Q E => ∃ d rl mk D z t, vs = [.ref d, sv z, sv t] ∧ IsDesk A H d rl mk D ∧ OkD D ∧ t ∉ (doorsOf D z).map (·.name) ∧ Rz A H E (shutM D z t)
def spDone (A : Ad) : Sp := fun vs H Q E => ∃ d rl mk D wd v rest, vs = [.ref d, sv wd, v] ∧ IsDesk A H d rl mk D ∧ OkD D ∧ IsWs H v rest ∧ rest ≠ [] ∧ rest.length ≤ 100 ∧ (∀ x ∈ rest, x.length ≤ 1000) ∧ DonePre D wd rest ∧
  wd ∈ ["share", "room", "door", "shut", "goal", "plain"].map lw ∧ Res A H E d rl mk (Q .non) (doneM D wd rest)
def spTold (A : Ad) : Sp := fun vs H Q E => ∃ d rl mk D wd v rest, vs = [.ref d, sv wd, v] ∧ IsDesk A H d rl mk D ∧ OkD D ∧ IsWs H v rest ∧ rest.length ≤ 100 ∧ (∀ x ∈ rest, x.length ≤ 1000) ∧ wd ≠ lw "best" ∧ wd ≠ lw "lots" ∧
  ((∃ e, toldM (hallD D) wd rest = some e ∧ rest ≠ [] ∧ (wd = lw "bounds" → rest.length = 2) ∧ Rz A H E e) ∨ (wd = lw "show" ∧ SmH (hallD D) ∧ ∀ H', Same H H' → Q (sv (showText (hallD D))) H'))
def spSay (A : Ad) (K : PySem.W.Frag) : Sp := fun vs H Q E => ∃ d rl mk D rv, vs = [.ref d, rv] ∧ IsDesk A H d rl mk D ∧ OkD D ∧
  ((∃ t, TyX K H rv t ∧ PySem.W.kitOne K t (.type "str") = some false ∧ Rz A H E .row) ∨
  ∃ wd rest, rv = sv (TL.joinL [32] (wd :: rest)) ∧ (∀ x ∈ wd :: rest, 32 ∉ x ∧ x.length ≤ 1000) ∧ rest.length ≤ 50 ∧
    ((rowFits (wd :: rest) = false ∧ Rz A H E .row) ∨
     (rowFits (wd :: rest) = true ∧ wd ∈ ["share", "room", "door", "shut", "goal", "plain"].map lw ∧ rest ≠ [] ∧ DonePre D wd rest ∧ Res A H E d rl mk (Q (sv (lw "ok"))) (doneM D wd rest)) ∨
     (rowFits (wd :: rest) = true ∧ wd ∉ ["share", "room", "door", "shut", "goal", "plain"].map lw ∧ wd ≠ lw "best" ∧ wd ≠ lw "lots" ∧
      ((∃ e, toldM (hallD D) wd rest = some e ∧ rest ≠ [] ∧ (wd = lw "bounds" → rest.length = 2) ∧ Rz A H E e) ∨ (wd = lw "show" ∧ SmH (hallD D) ∧ ∀ H', Same H H' → Q (sv (showText (hallD D))) H')))))
def spDeskInit (A : Ad) : Sp := fun vs H Q E => ∃ d dx, vs = [.ref d] ∧ H d = some (.ins A.desk dx []) ∧ ∀ H' rl mk, (∀ b o, b ≠ d → H b = some o → H' b = some o) → H rl = none → H mk = none → IsDesk A H' d rl mk ⟨(0, 1), [], 0⟩ → Q .non H'
theorem hid3_at {x y z b : Addr} {H : Hp} (h1 : b ≠ x) (h2 : b ≠ y) (h3 : b ≠ z) : hid3 x y z H b = H b := by
  unfold hid3
  rw [if_neg (fun q => q.elim h1 fun q => q.elim h2 h3)]
theorem IsDesk.mono {H H' : Hp} {d rl mk : Addr} {D : PDesk} (s : Same H H') (h : IsDesk A H d rl mk D) : IsDesk A H' d rl mk D := by
  obtain ⟨dx, fv, rvs, kvs, h1, h2, h3, h4, h5, h5', h6, h7⟩ := h
  have m : Same (hid3 d rl mk H) (hid3 d rl mk H') := hid3_mono fun b o _ _ _ e => s _ _ e
  exact ⟨dx, fv, rvs, kvs, s _ _ h1, s _ _ h2, s _ _ h3, h4, h5, h5', h6.mono m, h7.mono fun a b k => IsRoom.mono m k⟩
theorem isf_hid3 {H : Hp} {d rl mk C dx : Addr} {fs xs kvs} {v : V} {f : Frac} (h : IsF H v f) (h1 : H d = some (.ins C dx fs)) (h2 : H rl = some (.lst xs)) (h3 : H mk = some (.dK kvs)) : IsF (hid3 d rl mk H) v f := by
  obtain ⟨p, e, q⟩ := h
  exact ⟨p, e, by rw [hid3_at (ne_of q h1 fun z => by cases z) (ne_of q h2 fun z => by cases z) (ne_of q h3 fun z => by cases z)]; exact q⟩
theorem Same.keeps {H H' : Hp} {d rl mk : Addr} (s : Same H H') : Keeps d rl mk H H' := fun b o _ _ _ e => s _ _ e
theorem Keeps.hid {H H' : Hp} {d rl mk : Addr} (s : Keeps d rl mk H H') : Same (hid3 d rl mk H) (hid3 d rl mk H') := hid3_mono s
theorem idx_room {D : PDesk} {z : Wd} (h : z ∈ ttl D) : D.rooms[(ttl D).idxOf z]? = some (z, doorsOf D z) := by
  have hl : (ttl D).idxOf z < (ttl D).length := List.idxOf_lt_length_of_mem h
  have e : (ttl D)[(ttl D).idxOf z]? = some z := by rw [List.getElem?_eq_getElem hl, List.getElem_idxOf]
  rw [List.getElem?_map] at e
  cases hr : D.rooms[(ttl D).idxOf z]? with
  | none => rw [hr] at e; cases e
  | some r =>
    rw [hr] at e
    have e' : r.1 = z := Option.some.inj e
    unfold doorsOf
    rw [hr, ← e']
    rfl
theorem ixN_nat {n k : Nat} (h : k < n) : ixN n (k : Int) = some k := by
  unfold ixN
  rw [if_pos (by omega), if_pos (by omega), Int.toNat_natCast]
theorem paired_set {α β : Type} {R : α → β → Prop} {x : α} {y : β} : ∀ {xs : List α} {ys : List β} {i : Nat}, Paired R xs ys → R x y → Paired R (xs.set i x) (ys.set i y)
  | _, _, _, .nil, _ => .nil
  | _, _, 0, .cons _ t, h => .cons h t
  | _, _, i + 1, .cons r t, h => .cons r (paired_set (i := i) t h)
theorem find_at {α : Type} {p : α → Bool} {x : α} : ∀ {xs : List α} {i : Nat}, xs[i]? = some x → (∀ y ∈ xs.take i, p y = false) → p x = true → xs.find? p = some x
  | [], _, h, _, _ => by simp at h
  | y :: xs, 0, h, _, hp => by
    simp at h
    subst h
    simp [List.find?_cons, hp]
  | y :: xs, i + 1, h, hn, hp => by
    have h1 : p y = false := hn y (by simp)
    rw [List.find?_cons, h1]
    exact find_at (i := i) (by simpa using h) (fun w hw => hn w (by simp [hw])) hp
theorem putK_bl {kvs : List (Key × V)} {k : Key} {b : Bool} (h : ∀ kv ∈ kvs, ∃ b, kv.2 = .bl b) : ∀ kv ∈ putK kvs k (.bl b), ∃ b, kv.2 = .bl b := by
  intro kv hkv
  unfold putK at hkv
  split at hkv
  · obtain ⟨kv', hm, rfl⟩ := List.mem_map.mp hkv
    split
    · exact ⟨b, rfl⟩
    · exact h _ hm
  · rcases List.mem_append.mp hkv with hm | hm
    · exact h _ hm
    · simp at hm; subst hm; exact ⟨b, rfl⟩
theorem putK_len {kvs : List (Key × V)} {k : Key} {v : V} : (putK kvs k v).length ≤ kvs.length + 1 := by
  unfold putK
  split
  · simp
  · simp
theorem valV_bl {kvs : List (Key × V)} {k : Key} (h : ∀ kv ∈ kvs, ∃ b, kv.2 = .bl b) : ∃ c, (valV kvs k).getD (.bl false) = .bl c := by
  unfold valV
  cases hf : kvs.find? fun kv => decide (kv.1 = k) with
  | none => exact ⟨false, rfl⟩
  | some kv =>
    obtain ⟨b, e⟩ := h kv (List.mem_of_find?_eq_some hf)
    exact ⟨b, by simp [e]⟩
theorem okHall_of {D : PDesk} (h : OkD D) : OkHall (hallD D) := by
  obtain ⟨_, _, h1, h2, h3⟩ := h
  refine ⟨by show ((D.rooms.map (·.1))).length ≤ 100; rw [List.length_map]; exact h2, by show (D.rooms.map _).length = (D.rooms.map _).length; rw [List.length_map, List.length_map], fun os hm => ?_⟩
  obtain ⟨r, hr, rfl⟩ := List.mem_map.mp hm
  rw [List.length_map]
  exact (h3 r hr).2.2.2.1
theorem mak_desk (B : Blt mg) (M : ∃ (f : Addr) (fd : FuncData), mg "Desk" = some (.ref A.desk) ∧ Mk K A.desk f ∧ FunD K "__init__" "Desk.__init__" (defArgs s_Desk___init__) (defBody s_Desk___init__) (defScope s_Desk___init__) [] [] f fd) (T : Tx K mg A) : MakX P w K mg base 1 "Desk" A.desk (spDeskInit A) := by
  obtain ⟨f, fd, g, mk, F⟩ := M
  refine ⟨g, f, fd, _, mk, F.bindsN (ps := ["self"]) (fun _ _ _ _ _ _ us hl => match us, hl with | [_], _ => rfl), fn_ok F sc_Desk___init__ (fun vs H Q E h => by obtain ⟨G, x, rfl, _⟩ := h; rfl) ?_⟩
  intro f cdv A' outer s H vs Q E hr hT hx hu h
  refine ⟨_, (pss_cons (ps_fld (pv 0) (pe_tup (pa_cons pe_int (pa_cons pe_int pa_nil))) rfl)
      (pss_cons (ps_fld (pv 0) (pe_lst pa_nil) rfl)
      (pss_one (ps_fld (pv 0) pe_dnewK rfl)))), ?_⟩
  obtain ⟨d, dx, rfl, hd, q⟩ := h
  refine ⟨by show 2 ≤ sizeLine; decide, fun t ht => ?_⟩
  have htd : t ≠ d := fun e => by rw [e, hd] at ht; cases ht
  refine ⟨_, rfl, d, A.desk, dx, _, rfl, (upd_ne htd.symm).trans hd, T.desk.c, T.desk.n _ (by simp), by show 0 < 1000; decide, ?_⟩
  refine ⟨Nat.zero_le _, fun rl hrl => ?_⟩
  have hrd : rl ≠ d := fun e => by rw [e, upd_same] at hrl; cases hrl
  rw [upd_ne hrd] at hrl
  have hrt : rl ≠ t := fun e => by rw [e, upd_same] at hrl; cases hrl
  rw [upd_ne hrt] at hrl
  refine ⟨_, rfl, d, A.desk, dx, _, rfl, (upd_ne hrd.symm).trans upd_same, T.desk.c, T.desk.n _ (by simp), by show 1 < 1000; decide, ?_⟩
  intro mk hmk
  have hmd : mk ≠ d := fun e => by rw [e, upd_same] at hmk; cases hmk
  rw [upd_ne hmd] at hmk
  have hmr : mk ≠ rl := fun e => by rw [e, upd_same] at hmk; cases hmk
  rw [upd_ne hmr, upd_ne hmd] at hmk
  have hmt : mk ≠ t := fun e => by rw [e, upd_same] at hmk; cases hmk
  rw [upd_ne hmt] at hmk
  refine ⟨_, rfl, d, A.desk, dx, _, rfl, (upd_ne hmd.symm).trans upd_same, T.desk.c, T.desk.n _ (by simp), by show 2 < 1000; decide, ?_⟩
  refine q _ rl mk (fun b o hb e => ?_) hrl hmk ⟨dx, .ref t, [], [], upd_same, ?_, ?_, (fun _ h => by cases h), Nat.le_refl _, by show 0 ≤ 1000; decide, ⟨t, rfl, ?_⟩, .nil⟩
  · rw [upd_ne hb, upd_ne (ne_of_none e hmk), upd_ne hb, upd_ne (ne_of_none e hrl), upd_ne hb, upd_ne (ne_of_none e ht)]
    exact e
  · rw [upd_ne hrd, upd_ne hmr.symm, upd_ne hrd]; exact upd_same
  · rw [upd_ne hmd]; exact upd_same
  · rw [hid3_at htd hrt.symm hmt.symm, upd_ne htd, upd_ne hmt.symm, upd_ne htd, upd_ne hrt.symm, upd_ne htd]; exact upd_same
theorem met_hall_now (F : Mth K A.desk "hall_now" "Desk.hall_now" s_Desk_hall_now) (B : Blt mg) (T : Tx K mg A) (k_Hall : MakX P w K mg base 6 "Hall" A.hall (spHallInit A)) : MetX P w K mg base 8 A.desk "hall_now" (spHallNow A) := by
  refine metx F sc_Desk_hall_now (fun _ _ _ _ _ _ us hl => match us, hl with | [_], _ => rfl) (fun vs H Q E h => by obtain ⟨x, _, _, _, rfl, _⟩ := h; rfl) ?_
  intro f cdv A' outer s H vs Q E hr hT hx hu h
  refine ⟨_, (pss_one (ps_ret (pe_kx k_Hall hr (by decide) rfl hx (pa_cons (pe_fld (pv 0) rfl) (pa_cons (pe_callTy call_list_of (by rfl) B.list (by decide +kernel) (pa_cons (pe_fld (pv 0) rfl) pa_nil)) pa_nil))))), ?_⟩
  obtain ⟨d, rl, mk, D, rfl, hD, hok, q⟩ := h
  obtain ⟨dx, fv, rvs, kvs, h1, h2, h3, h4, h5, h5', h6, h7⟩ := hD
  obtain ⟨k1, k2, k3⟩ := hok
  refine ⟨_, rfl, d, A.desk, dx, _, _, rfl, h1, T.desk.c, T.desk.n _ (by simp), rfl, _, rfl, d, A.desk, dx, _, _, rfl, h1, T.desk.c, T.desk.n _ (by simp), rfl, rl, rvs, rfl, .inl (SqL.of h2), fun l hl => ?_⟩
  intro x dx' hx hdx hne
  have s1 := same_upd (o := .lst rvs) hl
  have m : Same (hid3 d rl mk H) (L2.upd H l (.lst rvs)) := hid3_le.trans s1
  refine ⟨L2.upd H l (.lst rvs), x, dx', fv, .ref l, D.share, D.rooms, rfl, same_mk hx hdx hne, hx, upd_same, h6.mono m, k1, k2, ⟨l, rvs, rfl, upd_same, h7.mono fun a b k => IsRoom.mono m k⟩, k3, fun H' s' hh => ⟨rfl, q _ _ (s1.trans s') hh⟩⟩
theorem met_check_name (F : Mth K A.desk "check_name" "Desk.check_name" s_Desk_check_name) (B : Blt mg) (T : Tx K mg A) (R_NoRoom : RaX P w K mg base "NoRoom" A.room (spXi A.room "room")) : MetX P w K mg base 3 A.desk "check_name" (spCheckName A) := by
  refine metx F sc_Desk_check_name (fun _ _ _ _ _ _ us hl => match us, hl with | [_, _], _ => rfl) (fun vs H Q E h => by obtain ⟨x, _, _, _, _, rfl, _⟩ := h; rfl) ?_
  intro f cdv A' outer s H vs Q E hr hT hx hu h
  refine ⟨_, (pss_cons (ps_for (passes_of rfl) rfl (pi_range1 rfl B.range (pa_cons (pe_callB call_len (by rfl) B.len (by decide +kernel) (pa_cons (pe_fld (pv 0) rfl) pa_nil)) pa_nil)) (pg_name (i := 2) sc_Desk_check_name.nd rfl (Or.inl rfl))
        (pss_one (ps_if (pt_cmpR op_eq (pe_ix ix_tup (pe_ix ix_list (pe_fld (pv 0) rfl) (pv 2) (fun _ _ => rfl)) pe_int (fun _ _ => rfl)) (pv 1) (nomark _)) (pss_one (ps_ret (pv 2))) pss_nil)))
      (pss_one (ps_raise rfl hT (pmk_f R_NoRoom (hr.mono (by decide)) rfl (pa_cons (pv 1) pa_nil))))), ?_⟩
  obtain ⟨d, rl, mk, D, z, rfl, hD, hl, q1, q2⟩ := h
  obtain ⟨dx, fv, rvs, kvs, h1, h2, h3, h4, h5, h5', h6, h7⟩ := hD
  have hn := h7.length
  refine ⟨_, rfl, d, A.desk, dx, _, _, rfl, h1, T.desk.c, T.desk.n _ (by simp), rfl, _, _, rfl, lenL h2, _, rfl, ?_, ?_, ?_⟩
  · omega
  · omega
  rw [Int.toNat_natCast]
  refine for_range (n := rvs.length) (fun i σ H' => H = H' ∧ (∃ o, σ = [some (.ref d), some (sv z), o]) ∧ ∀ j, j < i → (ttl D)[j]? ≠ some z) ⟨rfl, ⟨_, rfl⟩, fun j hj => by omega⟩ ?_ ?_
  · rintro i σ H' hi ⟨rfl, ⟨o, rfl⟩, hnn⟩
    have hti : rvs[i]? = some rvs[i] := List.getElem?_eq_getElem hi
    obtain ⟨r, hri, t, dv, et, ht, _⟩ := paired_get h7 hti
    rw [et] at hti
    have ht' := hid3_le _ _ ht
    have hnm : (ttl D)[i]? = some r.1 := by rw [List.getElem?_map, hri]; rfl
    refine ⟨_, rfl, d, A.desk, dx, _, _, rfl, h1, T.desk.c, T.desk.n _ (by simp), rfl, _, rfl, rl, _, _, .ref t, rfl, rfl, SqL.of h2, ?_, ?_⟩
    · rw [Int.zero_add]
      exact atI_nat hti
    walk_at "rd"
    rw [sv_eq]
    refine ite2 (fun he => ?_) (fun he => ?_)
    · have he' := of_decide_eq_true he
      rw [he'] at hnm
      have e := idxOf_first hnm hnn
      refine ⟨_, rfl, ?_⟩
      rw [Int.zero_add, ← e]
      exact q1 (mem_at hnm)
    · refine ⟨rfl, ⟨_, rfl⟩, fun j hj => ?_⟩
      by_cases hji : j = i
      · subst hji
        rw [hnm]
        exact fun z => he (decide_eq_true (Option.some.inj z))
      · exact hnn j (by omega)
  · rintro σ H' ⟨rfl, ⟨o, rfl⟩, hnn⟩
    refine ⟨_, rfl, mkx fun H' d s hd => rz_fld (q2 fun hm => ?_) s rfl rfl rfl hd⟩
    obtain ⟨j, hj, e⟩ := List.mem_iff_getElem.mp hm
    exact hnn j (by rw [List.length_map] at hj; omega) (by rw [List.getElem?_eq_getElem hj, e])
theorem met_set_share (F : Mth K A.desk "set_share" "Desk.set_share" s_Desk_set_share) (B : Blt mg) (T : Tx K mg A) (c_number_of : CalX P w K mg base 2 "number_of" (spNumberOf A)) (c_is_share : CalX P w K mg base 3 "is_share" (spIsF isShareF)) : MetX P w K mg base 4 A.desk "set_share" (spSetShare A) := by
  refine metx F sc_Desk_set_share (fun _ _ _ _ _ _ us hl => match us, hl with | [_, _], _ => rfl) (fun vs H Q E h => by obtain ⟨x, _, _, _, _, rfl, _⟩ := h; rfl) ?_
  intro f cdv A' outer s H vs Q E hr hT hx hu h
  refine ⟨_, (pss_cons (ps_set (i := 2) sc_Desk_set_share.nd rfl (Or.inl rfl) (pe_cx c_number_of hr (by decide) rfl hx (pa_cons (pv 1) pa_nil)))
      (pss_cons (ps_if (pt_not (pt_val (pe_cx c_is_share hr (by decide) rfl hx (pa_cons (pv 2) pa_nil)))) (pss_one (ps_raise rfl hT (pmk_own PySem.F.excBase_ValueError T.NoShare.x T.NoShare.g T.NoShare.k (raises_own T.NoShare.b T.NoShare.t) rfl))) pss_nil)
      (pss_one (ps_fld (pv 0) (pv 2) rfl)))), ?_⟩
  obtain ⟨d, rl, mk, D, l, rfl, hD, hl, hsm, q1, q2⟩ := h
  obtain ⟨dx, fv, rvs, kvs, h1, h2, h3, h4, h5, h5', h6, h7⟩ := hD
  refine ⟨_, rfl, l, rfl, hl, fun f hf v H1 s1 hv => ?_, fun hn => ?_⟩
  rotate_left
  · exact q1 .num (by rw [hn])
  rw [hf] at q1 q2
  dsimp only at q1 q2
  refine ⟨_, rfl, _, f, rfl, hv, hsm f hf, fun H2 s2 => ⟨_, rfl, ?_⟩⟩
  have s3 := s1.trans s2
  cases hs : isShareF f with
  | false =>
    rw [hs] at q1
    exact iteT (rz_plain (q1 .share rfl) s3 rfl rfl)
  | true =>
    rw [hs] at q2
    refine iteF ⟨_, rfl, _, rfl, d, A.desk, dx, _, rfl, s3 _ _ h1, T.desk.c, T.desk.n _ (by simp), by show 3 < 1000; decide, ?_⟩
    have k : Keeps d rl mk H (L2.upd H2 d (.ins A.desk dx [("share", v), ("rooms", .ref rl), ("marks", .ref mk)])) := fun b o a1 a2 a3 e => by rw [upd_ne a1]; exact s3 _ _ e
    have hrd : rl ≠ d := ne_of h2 h1 fun z => by cases z
    have hmd : mk ≠ d := ne_of h3 h1 fun z => by cases z
    exact q2 _ rfl _ k ⟨dx, v, rvs, kvs, upd_same, (upd_ne hrd).trans (s3 _ _ h2), (upd_ne hmd).trans (s3 _ _ h3), h4, h5, h5', isf_hid3 ((hv.mono s2).upd (s3 _ _ h1) nt_ins) upd_same ((upd_ne hrd).trans (s3 _ _ h2)) ((upd_ne hmd).trans (s3 _ _ h3)), h7.mono fun a b c => IsRoom.mono k.hid c⟩
theorem met_add_room (F : Mth K A.desk "add_room" "Desk.add_room" s_Desk_add_room) (B : Blt mg) (T : Tx K mg A) (c_is_word : CalX P w K mg base 1 "is_word" spIsWord) : MetX P w K mg base 2 A.desk "add_room" (spAddRoom A) := by
  refine metx F sc_Desk_add_room (fun _ _ _ _ _ _ us hl => match us, hl with | [_, _], _ => rfl) (fun vs H Q E h => by obtain ⟨x, _, _, _, _, rfl, _⟩ := h; rfl) ?_
  intro f cdv A' outer s H vs Q E hr hT hx hu h
  refine ⟨_, (pss_cons (ps_if (PW.pt (pw_or (pt_not (pt_val (pe_cx c_is_word hr (by decide) rfl hx (pa_cons (pv 1) pa_nil)))) (pw_or1 (pt_cmpR op_in_seq (pv 1) (pe_lc (own := [("other", 2), ("doors", 3)]) rfl sc_Desk_add_room.nd (pi_list (pe_fld (pv 0) rfl)) (blkOk_by (own := [("other", 2), ("doors", 3)]) (N := ["self", "name", "other", "doors"]) (sc := defScope s_Desk_add_room) (by decide +kernel)) (fun _ _ _ _ _ => (show PG _ _ (gTup K 2 _) from pg_tup rfl (pgs_cons (pg_name (i := 2) sc_Desk_add_room.nd rfl (Or.inl rfl)) (pgs_cons (pg_name (i := 3) sc_Desk_add_room.nd rfl (Or.inl rfl)) pgs_nil)))) (fun _ _ _ _ _ => pts_nil) (fun _ _ _ _ _ => (pv 2))) (by rfl))))) (pss_one (ps_raise rfl hT (pmk_own PySem.F.excBase_ValueError T.NoName.x T.NoName.g T.NoName.k (raises_own T.NoName.b T.NoName.t) rfl))) pss_nil)
      (pss_one (ps_expr (pe_bm PySem.F.plainAttrs_list PySem.F.slot_list_append PySem.F.type_list_append mt_append (pe_fld (pv 0) rfl) (pa_cons (pe_tup (pa_cons (pv 1) (pa_cons (pe_lst pa_nil) pa_nil))) pa_nil))))), ?_⟩
  obtain ⟨d, rl, mk, D, l, rfl, hD, hrl, hl, q1, q2⟩ := h
  obtain ⟨dx, fv, rvs, kvs, h1, h2, h3, h4, h5, h5', h6, h7⟩ := hD
  have hrd : rl ≠ d := ne_of h2 h1 fun z => by cases z
  have hmd : mk ≠ d := ne_of h3 h1 fun z => by cases z
  have hmr : mk ≠ rl := ne_of h3 h2 fun z => by cases z
  have hn := h7.length
  refine ⟨_, rfl, l, rfl, hl, fun H1 s1 => ⟨_, rfl, ?_⟩⟩
  cases hw : isWordS l with
  | false =>
    rw [hw] at q1
    exact iteT (rz_plain (q1 .name rfl) s1 rfl rfl)
  | true =>
  rw [hw] at q1 q2
  refine iteF ⟨_, rfl, _, rfl, d, A.desk, dx, _, _, rfl, s1 _ _ h1, T.desk.c, T.desk.n _ (by simp), rfl, rl, rfl, ⟨_, SqL.of (s1 _ _ h2)⟩, fun L hL => ?_⟩
  refine lc_list (xs := rvs) (fun i H' => Same H1 H' ∧ H' L = some (.lst (((ttl D).take i).map sv))) ⟨same_upd hL, upd_same⟩ (fun i H' _ h => SqL.of (h.1 _ _ (s1 _ _ h2))) ?_ ?_
  · rintro i y H' hi ⟨s2, hv⟩
    obtain ⟨r, hri, t, dv, rfl, ht, _⟩ := paired_get h7 hi
    have ht' := s2 _ _ (s1 _ _ (hid3_le _ _ ht))
    have hnm : (ttl D)[i]? = some r.1 := by rw [List.getElem?_map, hri]; rfl
    refine ⟨_, _, rfl, SqT.of ht', rfl, ?_⟩
    walk_at "rd"
    refine ⟨_, hv, by simp only [List.length_map, List.length_take]; rw [sizeLine_eq]; omega, same_off s2 hL, ?_⟩
    rw [upd_same, take_snoc hnm]
    simp
  · rintro H2 ⟨s2, hv⟩
    have s3 := s1.trans s2
    rw [List.take_of_length_le (by rw [List.length_map]; omega)] at hv
    refine ⟨L, _, rfl, .inl (SqL.of hv), rfl, flat_sv _, _, rfl, ?_⟩
    by_cases hm : l ∈ ttl D
    · rw [decide_eq_true hm] at q1
      refine ifT ?_ (rz_plain (q1 .name rfl) s3 rfl rfl)
      show inV (sv l) _ = true
      rw [inV_sv]
      exact decide_eq_true hm
    · rw [decide_eq_false hm] at q2
      refine ifF ?_ ?_
      · show inV (sv l) _ = false
        rw [inV_sv]
        exact decide_eq_false hm
      refine ⟨_, rfl, d, A.desk, dx, _, _, rfl, s3 _ _ h1, T.desk.c, T.desk.n _ (by simp), rfl, tyL (s3 _ _ h2), _, rfl, Nat.zero_le _, fun e he => ?_⟩
      refine ⟨by show 2 ≤ sizeLine; decide, fun t ht => ?_⟩
      have s4 := s3.trans (same_upd (o := .lst []) he)
      have s5 := s4.trans (same_upd (o := .tup [sv l, .ref e]) ht)
      refine ⟨rl, rvs, _, rfl, rfl, s5 _ _ h2, by rw [sizeLine_eq]; omega, ?_⟩
      have k : Keeps d rl mk H (L2.upd (L2.upd (L2.upd H2 e (.lst [])) t (.tup [sv l, .ref e])) rl (.lst (rvs ++ [.ref t]))) := fun b o a1 a2 a3 e => by rw [upd_ne a2]; exact s5 _ _ e
      have n1 : t ≠ d := fun z => by rw [z, s4 _ _ h1] at ht; cases ht
      have n2 : t ≠ rl := fun z => by rw [z, s4 _ _ h2] at ht; cases ht
      have n3 : t ≠ mk := fun z => by rw [z, s4 _ _ h3] at ht; cases ht
      have m1 : e ≠ d := fun z => by rw [z, s3 _ _ h1] at he; cases he
      have m2 : e ≠ rl := fun z => by rw [z, s3 _ _ h2] at he; cases he
      have m3 : e ≠ mk := fun z => by rw [z, s3 _ _ h3] at he; cases he
      have net : e ≠ t := ne_of_none upd_same ht
      refine q2 _ rfl _ k ⟨dx, fv, _, kvs, (upd_ne hrd.symm).trans (s5 _ _ h1), upd_same, (upd_ne hmr).trans (s5 _ _ h3), h4, h5, h5', h6.mono k.hid, (h7.mono fun a b c => IsRoom.mono k.hid c).snoc ⟨t, .ref e, rfl, ?_, e, [], rfl, ?_, .nil⟩⟩
      · rw [hid3_at n1 n2 n3, upd_ne n2]; exact upd_same
      · rw [hid3_at m1 m2 m3, upd_ne m2, upd_ne net]; exact upd_same
theorem met_add_door (F : Mth K A.desk "add_door" "Desk.add_door" s_Desk_add_door) (B : Blt mg) (T : Tx K mg A) (m_Desk_check_name : MetX P w K mg base 3 A.desk "check_name" (spCheckName A)) (c_door_of : CalX P w K mg base 8 "door_of" (spDoorOf A)) (m_Mixed_ways : MetX P w K mg base 4 A.mixed "ways" (spWays A)) (m_Toss_ways : MetX P w K mg base 4 A.toss "ways" (spWays A)) : MetX P w K mg base 9 A.desk "add_door" (spAddDoor A) := by
  refine metx F sc_Desk_add_door (fun _ _ _ _ _ _ us hl => match us, hl with | [_, _], _ => rfl) (fun vs H Q E h => by obtain ⟨x, _, _, _, _, _, _, rfl, _⟩ := h; rfl) ?_
  intro f cdv A' outer s H vs Q E hr hT hx hu h
  refine ⟨_, (pss_cons (ps_set (i := 2) sc_Desk_add_door.nd rfl (Or.inl rfl) (pe_mx (pv 0) m_Desk_check_name hr (by decide) hx (pa_cons (pe_ix ix_list (pv 1) pe_int (fun _ _ => rfl)) pa_nil)))
      (pss_cons (ps_set (i := 3) sc_Desk_add_door.nd rfl (Or.inl rfl) (pe_cx c_door_of hr (by decide) rfl hx (pa_cons (pe_slice sl_list (pv 1) (po_some pe_int) po_none) pa_nil)))
      (pss_cons (ps_asg (pe_ix ix_list (pe_fld (pv 0) rfl) (pv 2) (fun _ _ => rfl)) (pg_tup rfl (pgs_cons (pg_name (i := 4) sc_Desk_add_door.nd rfl (Or.inl rfl)) (pgs_cons (pg_name (i := 5) sc_Desk_add_door.nd rfl (Or.inl rfl)) pgs_nil))))
      (pss_cons (ps_if (pt_cmpR op_in_seq (pe_fld (pv 3) rfl) (pe_lc (own := [("other", 8)]) rfl sc_Desk_add_door.nd (pi_list (pv 5)) (blkOk_by (own := [("other", 8)]) (N := ["self", "rest", "place", "door", "name", "doors", "room", "chance", "other"]) (sc := defScope s_Desk_add_door) (by decide +kernel)) (fun _ _ _ _ _ => (pg_name (i := 8) sc_Desk_add_door.nd rfl (Or.inl rfl))) (fun _ _ _ _ _ => pts_nil) (fun _ _ _ _ _ => (show PE _ _ (tFld K _ _) from pe_fld (pv 8) rfl))) (by rfl)) (pss_one (ps_raise rfl hT (pmk_own PySem.F.excBase_ValueError T.NoName.x T.NoName.g T.NoName.k (raises_own T.NoName.b T.NoName.t) rfl))) pss_nil)
      (pss_cons (ps_for (passes_of rfl) rfl (pi_list (pe_or2 (pe_mx0 (pv 3) m_Mixed_ways hr (by decide) hx) (pe_mx0 (pv 3) m_Toss_ways hr (by decide) hx))) (pg_tup rfl (pgs_cons (pg_name (i := 6) sc_Desk_add_door.nd rfl (Or.inl rfl)) (pgs_cons (pg_name (i := 7) sc_Desk_add_door.nd rfl (Or.inl rfl)) pgs_nil)))
        (pss_one (ps_expr (pe_mx (pv 0) m_Desk_check_name hr (by decide) hx (pa_cons (pv 6) pa_nil)))))
      (pss_one (ps_asg (pe_tup (pa_cons (pv 4) (pa_cons (pe_op op_cat (pv 5) (pe_lst (pa_cons (pv 3) pa_nil))) pa_nil))) (pg_sub (pe_fld (pv 0) rfl) (pv 2) set_list)))))))), ?_⟩
  obtain ⟨d, rl, mk, D, v, z, dw, rfl, hD, hok, hw, hl, hl2, hpre, q1, q2⟩ := h
  obtain ⟨p, rfl, hp⟩ := hw
  have hD0 := hD
  obtain ⟨dx, fv, rvs, kvs, h1, h2, h3, h4, h5, h5', h6, h7⟩ := hD
  obtain ⟨hok1, hok2, hok3⟩ := hok
  obtain ⟨hp1, hp2, hp3⟩ := hpre
  have hrd : rl ≠ d := ne_of h2 h1 fun z => by cases z
  have hmd : mk ≠ d := ne_of h3 h1 fun z => by cases z
  have hmr : mk ≠ rl := ne_of h3 h2 fun z => by cases z
  refine ⟨_, rfl, d, dx, _, rfl, h1, rfl, _, rfl, p, _, _, _, rfl, rfl, SqL.of hp, atI_nat (j := 0) rfl, _, rl, mk, D, z, rfl, hD0, hok3.2.1, fun hz => ?_, fun hz => ?_⟩
  rotate_left
  · exact q1 _ (by unfold addDoor; rw [if_neg hz])
  have had : addDoor D z dw = (match doorOf dw with
    | .error e => .error e
    | .ok (.inl n) => .error .name
    | .ok (.inr d) => if d.name ∈ (doorsOf D z).map (·.name) then .error .name else match d.pairs.find? (fun p => !decide (p.1 ∈ ttl D)) with
      | some p => .error (.room p.1)
      | none => .ok (putDoor D z d)) := by unfold addDoor; rw [if_pos hz]
  obtain ⟨_, hrt, t, _, rfl, ht, dl, dvs, rfl, hdl, hdv⟩ := paired_get' h7 (idx_room hz)
  have ht' := hid3_le _ _ ht
  have hdl' := hid3_le _ _ hdl
  have hdn : dvs.length = (doorsOf D z).length := hdv.length
  have hrk := hok3.2.2 _ (mem_at (idx_room hz))
  have hdnl : (doorsOf D z).length ≤ 100 := hrk.2.2.2.1
  refine ⟨_, rfl, _, rfl, p, _, rfl, SqL.of hp, fun l hl' => ?_⟩
  rw [cut1]
  have s1 := same_upd (o := .lst (((z :: dw).drop 1).map sv)) hl'
  refine ⟨_, dw, rfl, ⟨l, rfl, upd_same⟩, by omega, fun x hx => hl2 x (by simp [hx]), hp1, fun e he => ?_, fun n hn v H2 s2 hs => ?_, fun dr hd v H2 s2 hdoor => ?_⟩
  · refine (q1 e ?_).mono s1
    rw [had, he]
  · have s2' := s1.trans s2
    obtain ⟨da, ddx, pv, rv, rfl, hda⟩ := hs
    rw [hn] at had
    refine ⟨_, rfl, d, A.desk, dx, _, _, rfl, s2' _ _ h1, T.desk.c, T.desk.n _ (by simp), rfl, _, rfl, rl, _, _, .ref t, rfl, rfl, SqL.of (s2' _ _ h2), atI_nat hrt, _, _, rfl, SqT.of (s2' _ _ ht'), rfl, ?_⟩
    refine ⟨_, _, rfl, _, _, rfl, rfl, ?_⟩
    refine ⟨_, rfl, da, A.sure, ddx, _, _, rfl, hda, T.sure.c, T.sure.n _ (by simp), rfl, _, rfl, dl, rfl, ⟨_, SqL.of (s2' _ _ hdl')⟩, fun L hL => ?_⟩
    refine lc_list (xs := dvs) (fun i H' => Same H2 H' ∧ H' L = some (.lst ((((doorsOf D z).map (·.name)).take i).map sv))) ⟨same_upd hL, upd_same⟩ (fun i H' _ h => SqL.of (h.1 _ _ (s2' _ _ hdl'))) ?_ ?_
    · rintro i y H' hi ⟨s3, hv⟩
      obtain ⟨d2, hdi, da2, C2, ddx2, pv2, qv2, rfl, hC2, hda2, _, _⟩ := paired_get hdv hi
      have hc2 : Cls K C2 ∧ NoAttr K C2 "name" := by
        rcases hC2 with rfl | rfl
        · exact ⟨T.mixed.c, T.mixed.n _ (by simp)⟩
        · exact ⟨T.toss.c, T.toss.n _ (by simp)⟩
      have hnm : ((doorsOf D z).map (·.name))[i]? = some d2.name := by rw [List.getElem?_map, hdi]; rfl
      refine ⟨rfl, ?_⟩
      refine ⟨_, rfl, da2, C2, ddx2, _, _, rfl, s3 _ _ (s2' _ _ (hid3_le _ _ hda2)), hc2.1, hc2.2, rfl, ?_⟩
      refine ⟨_, hv, by simp only [List.length_map, List.length_take]; rw [sizeLine_eq]; omega, same_off s3 hL, ?_⟩
      rw [upd_same, take_snoc hnm]
      simp
    · rintro H3 ⟨s3, hv⟩
      have s3' := s2'.trans s3
      rw [List.take_of_length_le (by rw [List.length_map]; omega)] at hv
      refine ⟨L, _, rfl, .inl (SqL.of hv), rfl, flat_sv _, _, rfl, ?_⟩
      refine ifT ?_ (rz_plain (q1 .name had) s3' rfl rfl)
      show inV (sv n) _ = true
      rw [inV_sv]
      exact decide_eq_true (hp2 n hn)
  · have s2' := s1.trans s2
    have hdoor' := IsDoor.mono nw_le hdoor
    obtain ⟨da, C, ddx, pv, qv, rfl, hC, hda, hpv, hqv⟩ := id hdoor'
    have hc : Cls K C ∧ NoAttr K C "name" := by
      rcases hC with rfl | rfl
      · exact ⟨T.mixed.c, T.mixed.n _ (by simp)⟩
      · exact ⟨T.toss.c, T.toss.n _ (by simp)⟩
    rw [hd] at had
    dsimp only at had
    refine ⟨_, rfl, d, A.desk, dx, _, _, rfl, s2' _ _ h1, T.desk.c, T.desk.n _ (by simp), rfl, _, rfl, rl, _, _, .ref t, rfl, rfl, SqL.of (s2' _ _ h2), atI_nat hrt, _, _, rfl, SqT.of (s2' _ _ ht'), rfl, ?_⟩
    refine ⟨_, _, rfl, _, _, rfl, rfl, ?_⟩
    refine ⟨_, rfl, da, C, ddx, _, _, rfl, hda, hc.1, hc.2, rfl, _, rfl, dl, rfl, ⟨_, SqL.of (s2' _ _ hdl')⟩, fun L hL => ?_⟩
    refine lc_list (xs := dvs) (fun i H' => Same H2 H' ∧ H' L = some (.lst ((((doorsOf D z).map (·.name)).take i).map sv))) ⟨same_upd hL, upd_same⟩ (fun i H' _ h => SqL.of (h.1 _ _ (s2' _ _ hdl'))) ?_ ?_
    · rintro i y H' hi ⟨s3, hv⟩
      obtain ⟨d2, hdi, da2, C2, ddx2, pv2, qv2, rfl, hC2, hda2, _, _⟩ := paired_get hdv hi
      have hc2 : Cls K C2 ∧ NoAttr K C2 "name" := by
        rcases hC2 with rfl | rfl
        · exact ⟨T.mixed.c, T.mixed.n _ (by simp)⟩
        · exact ⟨T.toss.c, T.toss.n _ (by simp)⟩
      have hnm : ((doorsOf D z).map (·.name))[i]? = some d2.name := by rw [List.getElem?_map, hdi]; rfl
      refine ⟨rfl, ?_⟩
      refine ⟨_, rfl, da2, C2, ddx2, _, _, rfl, s3 _ _ (s2' _ _ (hid3_le _ _ hda2)), hc2.1, hc2.2, rfl, ?_⟩
      refine ⟨_, hv, by simp only [List.length_map, List.length_take]; rw [sizeLine_eq]; omega, same_off s3 hL, ?_⟩
      rw [upd_same, take_snoc hnm]
      simp
    · rintro H3 ⟨s3, hv⟩
      have s3' := s2'.trans s3
      rw [List.take_of_length_le (by rw [List.length_map]; omega)] at hv
      refine ⟨L, _, rfl, .inl (SqL.of hv), rfl, flat_sv _, _, rfl, ?_⟩
      by_cases hm : dr.name ∈ (doorsOf D z).map (·.name)
      · rw [if_pos hm] at had
        refine ifT ?_ (rz_plain (q1 .name had) s3' rfl rfl)
        show inV (sv dr.name) _ = true
        rw [inV_sv]
        exact decide_eq_true hm
      rw [if_neg hm] at had
      refine ifF ?_ ?_
      · show inV (sv dr.name) _ = false
        rw [inV_sv]
        exact decide_eq_false hm
      have hokp := hp3 dr hd hm
      have key : ∀ (σ : L2.St) (Q' : VK), σ[3]? = some (some (.ref da)) → (∀ v H', Same H3 H' → IsPairs H' v dr.pairs → Q' v H') → (tMethX A.mixed "ways" (spWays A) E (tVar 3) tNil σ H3 Q' ∨ tMethX A.toss "ways" (spWays A) E (tVar 3) tNil σ H3 Q') := by
        intro σ Q' hσ hq
        rcases hC with rfl | rfl
        · exact .inl ⟨_, hσ, da, ddx, _, rfl, s3 _ _ hda, rfl, _, dr, rfl, hdoor'.mono s3, hokp, hq⟩
        · exact .inr ⟨_, hσ, da, ddx, _, rfl, s3 _ _ hda, rfl, _, dr, rfl, hdoor'.mono s3, hokp, hq⟩
      refine key _ _ rfl ?_
      rintro _ H4 s4 ⟨wl, wvs, rfl, hwl, hws⟩
      have s4' := s3'.trans s4
      refine ⟨wl, rfl, ⟨_, SqL.of hwl⟩, ?_⟩
      refine for_list (xs := wvs) (fun i σ H' => H4 = H' ∧ (∃ o6 o7, σ = [some (.ref d), some (.ref p), some (.int ((ttl D).idxOf z : Nat)), some (.ref da), some (sv z), some (.ref dl), o6, o7, none]) ∧ ∀ y ∈ dr.pairs.take i, y.1 ∈ ttl D)
        ⟨rfl, ⟨_, _, rfl⟩, by simp⟩ (fun i σ H' _ h => by rw [← h.1]; exact SqL.of hwl) ?_ ?_
      · rintro i y σ H' hi ⟨rfl, ⟨o6, o7, rfl⟩, hal⟩
        obtain ⟨pr, hpr, t2, fv2, rfl, ht2, hf2⟩ := paired_get hws hi
        refine ⟨_, _, rfl, SqT.of ht2, rfl, ?_⟩
        refine ⟨_, _, rfl, _, _, rfl, rfl, ?_⟩
        refine ⟨_, rfl, d, dx, _, rfl, s4' _ _ h1, rfl, _, rfl, _, rl, mk, D, pr.1, rfl, hD0.mono s4', hok3.2.1, fun hm2 => ?_, fun hm2 => ?_⟩
        · refine ⟨rfl, ⟨_, _, rfl⟩, fun y hy => ?_⟩
          rw [take_snoc hpr] at hy
          rcases List.mem_append.mp hy with hy | hy
          · exact hal y hy
          · simp at hy; rw [hy]; exact hm2
        · refine (q1 (.room pr.1) ?_).mono s4'
          rw [had, find_at hpr (fun y hy => by simp [hal y hy]) (by simp [hm2])]
      · rintro σ H' ⟨rfl, ⟨o6, o7, rfl⟩, hal⟩
        rw [hws.length, List.take_length] at hal
        have hnone : dr.pairs.find? (fun p => !decide (p.1 ∈ ttl D)) = none := by
          rw [List.find?_eq_none]
          intro y hy
          simp [hal y hy]
        rw [hnone] at had
        have had' : addDoor D z dw = .ok (putDoor D z dr) := had
        refine ⟨_, rfl, _, rfl, _, rfl, by show 1 ≤ sizeLine; decide, fun l1 hl1 => ?_⟩
        have s5 := s4'.trans (same_upd (o := .lst [.ref da]) hl1)
        refine ⟨dl, l1, dvs, _, rfl, rfl, s5 _ _ hdl', upd_same, by show dvs.length + 1 ≤ sizeLine; rw [sizeLine_eq]; omega, fun l2 hl2' => ?_⟩
        refine ⟨by show 2 ≤ sizeLine; decide, fun T' hT' => ?_⟩
        have s6 := s5.trans (same_upd (o := .lst (dvs ++ [.ref da])) hl2')
        have s7 := s6.trans (same_upd (o := .tup [sv z, .ref l2]) hT')
        have hkl : (ttl D).idxOf z < rvs.length := (List.getElem?_eq_some_iff.mp hrt).1
        refine ⟨_, rfl, d, A.desk, dx, _, _, rfl, s7 _ _ h1, T.desk.c, T.desk.n _ (by simp), rfl, _, rfl, rl, rvs, _, _, rfl, rfl, s7 _ _ h2, ixN_nat hkl, ?_⟩
        have k : Keeps d rl mk H (L2.upd (L2.upd (L2.upd (L2.upd H4 l1 (.lst [.ref da])) l2 (.lst (dvs ++ [.ref da]))) T' (.tup [sv z, .ref l2])) rl (.lst (rvs.set ((ttl D).idxOf z) (.ref T')))) := fun b o a1 a2 a3 e => by rw [upd_ne a2]; exact s7 _ _ e
        have n1 : T' ≠ d := fun q => by rw [q, s6 _ _ h1] at hT'; cases hT'
        have n2 : T' ≠ rl := fun q => by rw [q, s6 _ _ h2] at hT'; cases hT'
        have n3 : T' ≠ mk := fun q => by rw [q, s6 _ _ h3] at hT'; cases hT'
        have m1 : l2 ≠ d := fun q => by rw [q, s5 _ _ h1] at hl2'; cases hl2'
        have m2 : l2 ≠ rl := fun q => by rw [q, s5 _ _ h2] at hl2'; cases hl2'
        have m3 : l2 ≠ mk := fun q => by rw [q, s5 _ _ h3] at hl2'; cases hl2'
        have nlt : l2 ≠ T' := ne_of_none upd_same hT'
        have sn : Same (nw (L2.upd H l (.lst (((z :: dw).drop 1).map sv))) H2) (hid3 d rl mk (L2.upd (L2.upd (L2.upd (L2.upd H4 l1 (.lst [.ref da])) l2 (.lst (dvs ++ [.ref da]))) T' (.tup [sv z, .ref l2])) rl (.lst (rvs.set ((ttl D).idxOf z) (.ref T'))))) := fun b o e => by
          have b1 : b ≠ d := fun q => by rw [q] at e; unfold nw at e; rw [s1 _ _ h1] at e; cases e
          have b2 : b ≠ rl := fun q => by rw [q] at e; unfold nw at e; rw [s1 _ _ h2] at e; cases e
          have b3 : b ≠ mk := fun q => by rw [q] at e; unfold nw at e; rw [s1 _ _ h3] at e; cases e
          rw [hid3_at b1 b2 b3, upd_ne b2]
          exact (same_upd hT') _ _ ((same_upd hl2') _ _ ((same_upd hl1) _ _ (s4 _ _ (s3 _ _ (nw_le _ _ e)))))
        refine q2 _ had' _ k ⟨dx, fv, _, kvs, (upd_ne hrd.symm).trans (s7 _ _ h1), upd_same, (upd_ne hmr).trans (s7 _ _ h3), h4, h5, h5', h6.mono k.hid, paired_set (h7.mono fun a b c => IsRoom.mono k.hid c) ⟨T', .ref l2, rfl, ?_, l2, _, rfl, ?_, (hdv.mono fun a b c => IsDoor.mono k.hid c).snoc (hdoor.mono sn)⟩⟩
        · rw [hid3_at n1 n2 n3, upd_ne n2]; exact upd_same
        · rw [hid3_at m1 m2 m3, upd_ne m2, upd_ne nlt]; exact upd_same
theorem met_shut_door (F : Mth K A.desk "shut_door" "Desk.shut_door" s_Desk_shut_door) (B : Blt mg) (T : Tx K mg A) (m_Desk_check_name : MetX P w K mg base 3 A.desk "check_name" (spCheckName A)) (R_NoDoor : RaX P w K mg base "NoDoor" A.door (spXi A.door "door")) : MetX P w K mg base 4 A.desk "shut_door" (spShutDoor A) := by
  refine metx F sc_Desk_shut_door (fun _ _ _ _ _ _ us hl => match us, hl with | [_, _, _], _ => rfl) (fun vs H Q E h => by obtain ⟨x, _, _, _, _, _, rfl, _⟩ := h; rfl) ?_
  intro f cdv A' outer s H vs Q E hr hT hx hu h
  refine ⟨_, (pss_cons (ps_set (i := 3) sc_Desk_shut_door.nd rfl (Or.inl rfl) (pe_mx (pv 0) m_Desk_check_name hr (by decide) hx (pa_cons (pv 1) pa_nil)))
      (pss_cons (ps_set (i := 4) sc_Desk_shut_door.nd rfl (Or.inl rfl) (pe_ix ix_tup (pe_ix ix_list (pe_fld (pv 0) rfl) (pv 3) (fun _ _ => rfl)) pe_int (fun _ _ => rfl)))
      (pss_cons (ps_setLc (i := 5) (own := [("door", 6)]) rfl sc_Desk_shut_door.nd rfl rfl (sw_true rfl rfl rfl (by decide +kernel)) (pi_list (pv 4)) (blkOk_by (own := [("door", 6)]) (N := ["self", "name", "title", "place", "doors", "kept", "door"]) (sc := defScope s_Desk_shut_door) (by decide +kernel)) (fun _ _ _ _ _ => (pg_name (i := 6) sc_Desk_shut_door.nd rfl (Or.inl rfl))) (fun _ _ _ _ _ => (pts_one (pt_cmpR op_ne (show PE _ _ (tFld K _ _) from pe_fld (pv 6) rfl) (pv 2) (nomark _)))) (fun _ _ _ _ _ => (pv 6)))
      (pss_cons (ps_if (pt_cmpR op_eq (pe_callB call_len (by rfl) B.len (by decide +kernel) (pa_cons (pv 5) pa_nil)) (pe_callB call_len (by rfl) B.len (by decide +kernel) (pa_cons (pv 4) pa_nil)) (nomark _)) (pss_one (ps_raise rfl hT (pmk_f R_NoDoor (hr.mono (by decide)) rfl (pa_cons (pv 2) pa_nil)))) pss_nil)
      pss_never)))), ?_⟩
  obtain ⟨d, rl, mk, D, z, t, rfl, hD, hok, hn, q⟩ := h
  have hD0 := hD
  obtain ⟨dx, fv, rvs, kvs, h1, h2, h3, h4, h5, h5', h6, h7⟩ := hD
  obtain ⟨hok1, hok2, hok3⟩ := hok
  unfold shutM at q
  refine ⟨_, rfl, d, dx, _, rfl, h1, rfl, _, rfl, _, rl, mk, D, z, rfl, hD0, hok3.2.1, fun hz => ?_, fun hz => ?_⟩
  rotate_left
  · rw [if_neg hz] at q
    exact q
  rw [if_pos hz] at q
  obtain ⟨_, hrt, u, _, rfl, ht, dl, dvs, rfl, hdl, hdv⟩ := paired_get' h7 (idx_room hz)
  have ht' := hid3_le _ _ ht
  have hdl' := hid3_le _ _ hdl
  have hdn : dvs.length = (doorsOf D z).length := hdv.length
  have hrk := hok3.2.2 _ (mem_at (idx_room hz))
  have hdnl : (doorsOf D z).length ≤ 100 := hrk.2.2.2.1
  refine ⟨_, rfl, d, A.desk, dx, _, _, rfl, h1, T.desk.c, T.desk.n _ (by simp), rfl, _, rfl, rl, _, _, .ref u, rfl, rfl, SqL.of h2, atI_nat hrt, u, _, _, _, rfl, rfl, SqT.of ht', rfl, ?_⟩
  refine ⟨_, rfl, dl, rfl, ⟨_, SqL.of hdl'⟩, fun L hL => ?_⟩
  refine lc_list (xs := dvs) (fun i H' => Same H H' ∧ H' L = some (.lst (dvs.take i))) ⟨same_upd hL, upd_same⟩ (fun i H' _ h => SqL.of (h.1 _ _ hdl')) ?_ ?_
  · rintro i y H' hi ⟨s3, hv⟩
    obtain ⟨d2, hdi, da2, C2, ddx2, pv2, qv2, rfl, hC2, hda2, _, _⟩ := paired_get hdv hi
    have hc2 : Cls K C2 ∧ NoAttr K C2 "name" := by
      rcases hC2 with rfl | rfl
      · exact ⟨T.mixed.c, T.mixed.n _ (by simp)⟩
      · exact ⟨T.toss.c, T.toss.n _ (by simp)⟩
    have hne : ¬ d2.name = t := fun e => hn (e ▸ List.mem_map.mpr ⟨d2, mem_at hdi, rfl⟩)
    refine ⟨rfl, ?_⟩
    refine ⟨_, rfl, da2, C2, ddx2, _, _, rfl, s3 _ _ (hid3_le _ _ hda2), hc2.1, hc2.2, rfl, _, rfl, rfl, _, rfl, ?_⟩
    rw [sv_eq, decide_eq_false hne]
    refine iteT ?_
    refine ⟨_, rfl, _, hv, by simp only [List.length_take]; rw [sizeLine_eq]; omega, same_off s3 hL, ?_⟩
    rw [upd_same, take_snoc hi]
  · rintro H3 ⟨s3, hv⟩
    rw [List.take_length] at hv
    refine ⟨_, rfl, _, _, rfl, lenL hv, _, rfl, _, _, rfl, lenL (s3 _ _ hdl'), rfl, _, rfl, ?_⟩
    refine ifT (by simp) ?_
    exact ⟨_, rfl, mkx fun H' d s hd => rz_fld q (s3.trans s) rfl rfl rfl hd⟩
theorem met_done (F : Mth K A.desk "done" "Desk.done" s_Desk_done) (B : Blt mg) (T : Tx K mg A) (m_Desk_check_name : MetX P w K mg base 3 A.desk "check_name" (spCheckName A)) (m_Desk_set_share : MetX P w K mg base 4 A.desk "set_share" (spSetShare A)) (m_Desk_add_room : MetX P w K mg base 2 A.desk "add_room" (spAddRoom A))
   (m_Desk_add_door : MetX P w K mg base 9 A.desk "add_door" (spAddDoor A)) (m_Desk_shut_door : MetX P w K mg base 4 A.desk "shut_door" (spShutDoor A)) : MetX P w K mg base 10 A.desk "done" (spDone A) := by
  refine metx F sc_Desk_done (fun _ _ _ _ _ _ us hl => match us, hl with | [_, _, _], _ => rfl) (fun vs H Q E h => by obtain ⟨x, _, _, _, _, _, _, rfl, _⟩ := h; rfl) ?_
  intro f cdv A' outer s H vs Q E hr hT hx hu h
  refine ⟨_, (pss_one (ps_if (pt_cmpR op_eq (pv 1) pe_lit (nomark _)) (pss_one (ps_expr (pe_mx (pv 0) m_Desk_set_share hr (by decide) hx (pa_cons (pe_ix ix_list (pv 2) pe_int (fun _ _ => rfl)) pa_nil)))) (pss_one (ps_if (pt_cmpR op_eq (pv 1) pe_lit (nomark _)) (pss_one (ps_expr (pe_mx (pv 0) m_Desk_add_room hr (by decide) hx (pa_cons (pe_ix ix_list (pv 2) pe_int (fun _ _ => rfl)) pa_nil)))) (pss_one (ps_if (pt_cmpR op_eq (pv 1) pe_lit (nomark _)) (pss_one (ps_expr (pe_mx (pv 0) m_Desk_add_door hr (by decide) hx (pa_cons (pv 2) pa_nil)))) (pss_one (ps_if (pt_cmpR op_eq (pv 1) pe_lit (nomark _)) (pss_one (ps_expr (pe_mx (pv 0) m_Desk_shut_door hr (by decide) hx (pa_cons (pe_ix ix_list (pv 2) pe_int (fun _ _ => rfl)) (pa_cons (pe_ix ix_list (pv 2) pe_int (fun _ _ => rfl)) pa_nil))))) (pss_cons (ps_expr (pe_mx (pv 0) m_Desk_check_name hr (by decide) hx (pa_cons (pe_ix ix_list (pv 2) pe_int (fun _ _ => rfl)) pa_nil)))
              (pss_one (ps_dput hu (pe_fld (pv 0) rfl) (pe_ix ix_list (pv 2) pe_int (fun _ _ => rfl)) (pe_cmpR op_eq (pv 1) pe_lit (nomark _)) rfl))))))))))), ?_⟩
  obtain ⟨d, rl, mk, D, wd, v, rest, rfl, hD, hok, hw, hne, hl, hl2, hpre, hwd, q1, q2⟩ := h
  obtain ⟨p, rfl, hp⟩ := hw
  have hD0 := hD
  obtain ⟨dx, fv, rvs, kvs, h1, h2, h3, h4, h5, h5', h6, h7⟩ := hD
  match rest, hne, hp, hl, hl2, hpre, q1, q2 with
  | r0 :: rt, _, hp, hl, hl2, ⟨pre1, pre2, pre3, pre4⟩, q1, q2 =>
  have hr0 : r0.length ≤ 1000 := hl2 r0 (by simp)
  have hrt : rt.length ≤ 99 := by simp at hl; omega
  refine ⟨_, rfl, rfl, _, rfl, ?_⟩
  rw [sv_eq]
  refine ite2 (fun b1 => ?_) (fun b1 => ?_)
  · have b1' := of_decide_eq_true b1
    have e : doneM D wd (r0 :: rt) = (match numberOf r0 with | none => .error .num | some f => if isShareF f then .ok { D with share := f } else .error .share) := by unfold doneM; rw [if_pos b1']; rfl
    rw [e] at q1 q2
    exact ⟨_, rfl, d, dx, _, rfl, h1, rfl, _, rfl, p, _, _, _, rfl, rfl, SqL.of hp, atI_nat (j := 0) rfl, _, rl, mk, D, r0, rfl, hD0, hr0, pre1 b1', q1, q2⟩
  have b1' : ¬ wd = lw "share" := fun z => b1 (decide_eq_true z)
  refine ⟨_, rfl, rfl, _, rfl, ?_⟩
  rw [sv_eq]
  refine ite2 (fun b2 => ?_) (fun b2 => ?_)
  · have b2' := of_decide_eq_true b2
    have e : doneM D wd (r0 :: rt) = (if !isWordS r0 || decide (r0 ∈ ttl D) then .error .name else .ok { D with rooms := D.rooms ++ [(r0, [])] }) := by unfold doneM; rw [if_neg b1', if_pos b2']; rfl
    rw [e] at q1 q2
    exact ⟨_, rfl, d, dx, _, rfl, h1, rfl, _, rfl, p, _, _, _, rfl, rfl, SqL.of hp, atI_nat (j := 0) rfl, _, rl, mk, D, r0, rfl, hD0, hok.2.2.2.1, hr0, q1, q2⟩
  have b2' : ¬ wd = lw "room" := fun z => b2 (decide_eq_true z)
  refine ⟨_, rfl, rfl, _, rfl, ?_⟩
  rw [sv_eq]
  refine ite2 (fun b3 => ?_) (fun b3 => ?_)
  · have b3' := of_decide_eq_true b3
    have e : doneM D wd (r0 :: rt) = addDoor D r0 rt := by unfold doneM; rw [if_neg b1', if_neg b2', if_pos b3']; rfl
    rw [e] at q1 q2
    exact ⟨_, rfl, d, dx, _, rfl, h1, rfl, _, rfl, _, rl, mk, D, .ref p, r0, rt, rfl, hD0, hok, ⟨p, rfl, hp⟩, hrt, hl2, pre2 b3', q1, q2⟩
  have b3' : ¬ wd = lw "door" := fun z => b3 (decide_eq_true z)
  refine ⟨_, rfl, rfl, _, rfl, ?_⟩
  rw [sv_eq]
  refine ite2 (fun b4 => ?_) (fun b4 => ?_)
  · have b4' := of_decide_eq_true b4
    obtain ⟨g1, g2⟩ := pre3 b4'
    match rt, g1, g2, hp, q1 with
    | [t], _, g2, hp, q1 =>
    have e : doneM D wd [r0, t] = .error (shutM D r0 t) := by unfold doneM; rw [if_neg b1', if_neg b2', if_neg b3', if_pos b4']; rfl
    exact ⟨_, rfl, d, dx, _, rfl, h1, rfl, _, rfl, p, _, _, _, rfl, rfl, SqL.of hp, atI_nat (j := 0) rfl, _, rfl, p, _, _, _, rfl, rfl, SqL.of hp, atI_nat (j := 1) rfl, _, rl, mk, D, r0, t, rfl, hD0, hok, g2, q1 _ e⟩
  have b4' : ¬ wd = lw "shut" := fun z => b4 (decide_eq_true z)
  have e : doneM D wd (r0 :: rt) = if r0 ∈ ttl D then .ok { D with goals := D.goals + 1 } else .error (.room r0) := by unfold doneM; rw [if_neg b1', if_neg b2', if_neg b3', if_neg b4']; rfl
  rw [e] at q1 q2
  have hg : D.goals < 1000 := pre4 (by
    simp at hwd
    rcases hwd with h | h | h | h | h | h
    · exact absurd h b1'
    · exact absurd h b2'
    · exact absurd h b3'
    · exact absurd h b4'
    · exact .inl h
    · exact .inr h)
  refine ⟨_, rfl, d, dx, _, rfl, h1, rfl, _, rfl, p, _, _, _, rfl, rfl, SqL.of hp, atI_nat (j := 0) rfl, _, rl, mk, D, r0, rfl, hD0, hok.2.2.2.1, fun hm => ?_, fun hm => q1 _ (if_neg hm)⟩
  have q2' := q2 _ (if_pos hm)
  have hmd : mk ≠ d := ne_of h3 h1 fun z => by cases z
  have hmr : mk ≠ rl := ne_of h3 h2 fun z => by cases z
  refine ⟨_, rfl, rfl, _, rfl, d, A.desk, dx, _, _, rfl, h1, T.desk.c, T.desk.n _ (by simp), rfl, _, rfl, p, _, _, _, rfl, rfl, SqL.of hp, atI_nat (j := 0) rfl, ?_⟩
  refine ⟨mk, _, rfl, DPut.k (k := Sum.inr (SX.S r0)) h3 (by rw [sizeLine_eq]; omega), ?_⟩
  have k : ∀ o, Keeps d rl mk H (L2.upd H mk o) := fun o b o' a1 a2 a3 e => by rw [upd_ne a3]; exact e
  exact q2' _ (k _) ⟨dx, fv, rvs, _, (upd_ne hmd.symm).trans h1, (upd_ne hmr.symm).trans h2, upd_same, putK_bl h4, by have := putK_len (kvs := kvs) (k := Sum.inr (SX.S r0)) (v := .bl (decide (sv wd = sv (lw "goal")))); simp only; omega, by simp only; omega, h6.mono (k _).hid, h7.mono fun a b c => IsRoom.mono (k _).hid c⟩
theorem met_told (F : Mth K A.desk "told" "Desk.told" s_Desk_told) (B : Blt mg) (T : Tx K mg A) (m_Desk_hall_now : MetX P w K mg base 8 A.desk "hall_now" (spHallNow A)) (m_Hall_names : MetX P w K mg base 1 A.hall "names" (spNames A))
   (c_worth_answer : CalX P w K mg base 5 "worth_answer" (spToldPlan A)) (c_chance_answer : CalX P w K mg base 4 "chance_answer" (spChance A)) (c_bounds_answer : CalX P w K mg base 4 "bounds_answer" (spBounds A)) (c_run_answer : CalX P w K mg base 4 "run_answer" (spRun A)) (c_show : CalX P w K mg base 4 "show" (spShow A)) : MetX P w K mg base 9 A.desk "told" (spTold A) := by
  refine metx F sc_Desk_told (fun _ _ _ _ _ _ us hl => match us, hl with | [_, _, _], _ => rfl) (fun vs H Q E h => by obtain ⟨x, _, _, _, _, _, _, rfl, _⟩ := h; rfl) ?_
  intro f cdv A' outer s H vs Q E hr hT hx hu h
  refine ⟨_, (pss_cons (ps_set (i := 3) sc_Desk_told.nd rfl (Or.inl rfl) (pe_mx0 (pv 0) m_Desk_hall_now hr (by decide) hx))
      (pss_cons (ps_setLc (i := 4) (own := [("name", 5)]) rfl sc_Desk_told.nd rfl rfl (sw_true rfl rfl rfl (by decide +kernel)) (pi_list (pe_mx0 (pv 3) m_Hall_names hr (by decide) hx)) (blkOk_by (own := [("name", 5)]) (N := ["self", "word", "rest", "hall", "marked", "name"]) (sc := defScope s_Desk_told) (by decide +kernel)) (fun _ _ _ _ _ => (pg_name (i := 5) sc_Desk_told.nd rfl (Or.inl rfl))) (fun _ _ _ _ _ => (pts_one (pt_val (pe_dget2 hu (show PE _ _ (tFld K _ _) from pe_fld (pv 0) rfl) (pv 5) pe_bl ⟨rfl, rfl, rfl, rfl⟩)))) (fun _ _ _ _ _ => (pv 5)))
      (pss_cons (ps_if (pt_cmpR op_eq (pv 1) pe_lit (nomark _)) pss_never pss_nil)
      (pss_cons (ps_if (pt_cmpR op_eq (pv 1) pe_lit (nomark _)) (pss_one (ps_ret (pe_cx c_worth_answer hr (by decide) rfl hx (pa_cons (pv 3) (pa_cons (pv 2) pa_nil))))) pss_nil)
      (pss_cons (ps_if (PW.pt (pw_or (pt_cmpR op_eq (pv 1) pe_lit (nomark _)) (pw_or1 (pt_cmpR op_eq (pv 1) pe_lit (nomark _))))) (pss_one (ps_ret (pe_cx c_chance_answer hr (by decide) rfl hx (pa_cons (pv 3) (pa_cons (pv 4) (pa_cons (pv 1) (pa_cons (pe_ix ix_list (pv 2) pe_int (fun _ _ => rfl)) pa_nil))))))) pss_nil)
      (pss_cons (ps_if (pt_cmpR op_eq (pv 1) pe_lit (nomark _)) pss_never pss_nil)
      (pss_cons (ps_if (pt_cmpR op_eq (pv 1) pe_lit (nomark _)) (pss_one (ps_ret (pe_cx c_bounds_answer hr (by decide) rfl hx (pa_cons (pv 3) (pa_cons (pv 2) pa_nil))))) pss_nil)
      (pss_cons (ps_if (pt_cmpR op_eq (pv 1) pe_lit (nomark _)) (pss_one (ps_ret (pe_cx c_run_answer hr (by decide) rfl hx (pa_cons (pv 3) (pa_cons (pv 2) pa_nil))))) pss_nil)
      (pss_one (ps_ret (pe_cx c_show hr (by decide) rfl hx (pa_cons (pv 3) pa_nil)))))))))))), ?_⟩
  obtain ⟨d, rl, mk, D, wd, v, rest, rfl, hD, hok, hw, hl, hl2, hb, hlo, q⟩ := h
  obtain ⟨p, rfl, hp⟩ := hw
  have hD0 := hD
  obtain ⟨dx, fv, rvs, kvs, h1, h2, h3, h4, h5, h5', h6, h7⟩ := hD
  have hokh := okHall_of hok
  refine ⟨_, rfl, d, dx, _, rfl, h1, rfl, _, rl, mk, D, rfl, hD0, hok, fun hv H1 s1 hh => ?_⟩
  have hh0 := hh
  obtain ⟨ha, hdx, hfv, htl, hgl, hgs, rfl, hha, _, _, _, _⟩ := hh
  refine ⟨_, rfl, ha, hdx, _, rfl, hha, rfl, _, hallD D, rfl, hh0, hokh, ?_⟩
  rintro _ H2 s2 ⟨np, rfl, hnp⟩
  have s2' := s1.trans s2
  refine ⟨np, rfl, ⟨_, SqL.of hnp⟩, fun L hL => ?_⟩
  refine lc_list (xs := (hallD D).titles.map sv) (fun i H' => Same H2 H' ∧ ∃ acc, H' L = some (.lst acc) ∧ acc.length ≤ i) ⟨same_upd hL, [], upd_same, Nat.le_refl _⟩ (fun i H' _ h => SqL.of (h.1 _ _ hnp)) ?_ ?_
  · rintro i y H' hi ⟨s3, acc, hv, hal⟩
    rw [List.getElem?_map] at hi
    cases hti : (hallD D).titles[i]? with
    | none => rw [hti] at hi; cases hi
    | some z =>
      rw [hti] at hi
      have hi' : sv z = y := Option.some.inj hi
      subst hi'
      have hil : i < (hallD D).titles.length := (List.getElem?_eq_some_iff.mp hti).1
      have hln := hokh.1
      have s3' := s2'.trans s3
      obtain ⟨c, hc⟩ := valV_bl (k := Sum.inr (SX.S z)) h4
      refine ⟨rfl, ?_⟩
      refine ⟨_, rfl, d, A.desk, dx, _, _, rfl, s3' _ _ h1, T.desk.c, T.desk.n _ (by simp), rfl, mk, rfl, .inl ⟨kvs, .inl (s3' _ _ h3)⟩, _, rfl, _, DGet.k (k := Sum.inr (SX.S z)) (s3' _ _ h3), c, hc, ?_⟩
      cases c with
      | true => exact iteT ⟨_, rfl, acc, hv, by rw [sizeLine_eq]; omega, same_off s3 hL, _, upd_same, by simp; omega⟩
      | false => exact iteF ⟨s3, acc, hv, by omega⟩
  rintro H3 ⟨s3, acc, hv, hal⟩
  have s3' := s2'.trans s3
  have hh3 := (hh0.mono s2).mono s3
  have hp3 := s3' _ _ hp
  -- best
  refine ⟨_, rfl, rfl, _, rfl, ?_⟩
  rw [sv_eq, decide_eq_false hb]
  refine iteF ⟨_, rfl, rfl, _, rfl, ?_⟩
  rw [sv_eq]
  have qe : (∃ e, toldM (hallD D) wd rest = some e ∧ rest ≠ [] ∧ (wd = lw "bounds" → rest.length = 2) ∧ Rz A H3 E e) ∨ (wd = lw "show" ∧ SmH (hallD D) ∧ ∀ H', Same H H' → Q (sv (showText (hallD D))) H') := by
    rcases q with ⟨e, a1, a2, a3, a4⟩ | q
    · exact .inl ⟨e, a1, a2, a3, a4.mono s3'⟩
    · exact .inr q
  clear q
  refine ite2 (fun b1 => ?_) (fun b1 => ?_)
  · have b1' := of_decide_eq_true b1
    rcases qe with ⟨e, he, hne, hbd, qz⟩ | ⟨hs, _⟩
    · unfold toldM at he
      rw [if_pos b1'] at he
      exact ⟨_, rfl, _, rfl, _, _, hallD D, rest, e, rfl, hh3, hokh, ⟨p, rfl, hp3⟩, he, qz⟩
    · rw [hs] at b1'; exact absurd b1' (by decide +kernel)
  have b1' : ¬ wd = lw "worth" := fun z => b1 (decide_eq_true z)
  have e0 : ∀ e, toldM (hallD D) wd rest = some e → (if wd = lw "most" ∨ wd = lw "least" then (if rest.getD 0 [] ∈ (hallD D).titles then none else some (Rf.room (rest.getD 0 [])))
    else if wd = lw "bounds" then boundsRef (hallD D).titles (rest.getD 0 []) (rest.getD 1 [])
    else if wd = lw "run" then runRef (hallD D).titles (rest.getD 0 []) (rest.drop 1) else none) = some e := fun e he => by
    unfold toldM at he
    rw [if_neg b1'] at he
    exact he
  have ch : wd = lw "most" ∨ wd = lw "least" → (tCallX (spChance A) E (tCons (tVar 3) (tCons (tVar 4) (tCons (tVar 1) (tCons (tOp (rIxL K) (tVar 2) (tC (V.int 0))) tNil))))) [some (.ref d), some (sv wd), some (.ref p), some (.ref ha), some (.ref L), none] H3 Q := fun b2 => by
    rcases qe with ⟨e, he, hne, hbd, qz⟩ | ⟨hs, _⟩
    · have he' := e0 e he
      rw [if_pos b2] at he'
      match rest, hne, he', hp3 with
      | r0 :: rt, _, he', hp3 =>
      have he2 : (if r0 ∈ (hallD D).titles then none else some (Rf.room r0)) = some e := he'
      by_cases hm : r0 ∈ (hallD D).titles
      · rw [if_pos hm] at he2; cases he2
      rw [if_neg hm] at he2
      cases he2
      exact ⟨_, rfl, _, rfl, _, rfl, _, rfl, p, _, _, _, rfl, rfl, SqL.of hp3, atI_nat (j := 0) rfl, _, _, _, r0, hallD D, rfl, hh3, hokh, hm, qz⟩
    · exfalso
      rw [hs] at b2
      rcases b2 with b2 | b2 <;> exact absurd b2 (by decide +kernel)
  refine ⟨_, rfl, rfl, _, rfl, ?_⟩
  rw [sv_eq]
  refine ite2 (fun b2 => ?_) (fun b2 => ?_)
  · exact iteT (ch (.inl (of_decide_eq_true b2)))
  refine ⟨_, rfl, rfl, _, rfl, ?_⟩
  rw [sv_eq]
  refine ite2 (fun b3 => ?_) (fun b3 => ?_)
  · exact ch (.inr (of_decide_eq_true b3))
  have b23 : ¬ (wd = lw "most" ∨ wd = lw "least") := fun z => z.elim (fun z => b2 (decide_eq_true z)) fun z => b3 (decide_eq_true z)
  refine ⟨_, rfl, rfl, _, rfl, ?_⟩
  rw [sv_eq, decide_eq_false hlo]
  refine iteF ⟨_, rfl, rfl, _, rfl, ?_⟩
  rw [sv_eq]
  refine ite2 (fun b4 => ?_) (fun b4 => ?_)
  · have b4' := of_decide_eq_true b4
    rcases qe with ⟨e, he, hne, hbd, qz⟩ | ⟨hs, _⟩
    · have he' := e0 e he
      rw [if_neg b23, if_pos b4'] at he'
      match rest, hbd b4', he', hp3, hl2 with
      | [r0, r1], _, he', hp3, hl2 =>
      exact ⟨_, rfl, _, rfl, _, _, hallD D, r0, r1, e, rfl, hh3, hokh, ⟨p, rfl, hp3⟩, hl2 r0 (by simp), he', qz⟩
    · rw [hs] at b4'; exact absurd b4' (by decide +kernel)
  have b4' : ¬ wd = lw "bounds" := fun z => b4 (decide_eq_true z)
  refine ⟨_, rfl, rfl, _, rfl, ?_⟩
  rw [sv_eq]
  refine ite2 (fun b5 => ?_) (fun b5 => ?_)
  · have b5' := of_decide_eq_true b5
    rcases qe with ⟨e, he, hne, hbd, qz⟩ | ⟨hs, _⟩
    · have he' := e0 e he
      rw [if_neg b23, if_neg b4', if_pos b5'] at he'
      match rest, hne, he', hp3, hl2, hl with
      | r0 :: rt, _, he', hp3, hl2, hl =>
      exact ⟨_, rfl, _, rfl, _, _, hallD D, r0, rt, e, rfl, hh3, hokh, ⟨p, rfl, hp3⟩, by simp at hl; omega, fun w hw => hl2 w (by simp [hw]), he', qz⟩
    · rw [hs] at b5'; exact absurd b5' (by decide +kernel)
  have b5' : ¬ wd = lw "run" := fun z => b5 (decide_eq_true z)
  rcases qe with ⟨e, he, hne, hbd, qz⟩ | ⟨hs, hsm, qs⟩
  · have he' := e0 e he
    rw [if_neg b23, if_neg b4', if_neg b5'] at he'
    cases he'
  · exact ⟨_, rfl, _, hallD D, rfl, hh3, hsm, fun H' s' => qs _ (s3'.trans s')⟩
theorem met_say (F : Mth K A.desk "say" "Desk.say" s_Desk_say) (B : Blt mg) (T : Tx K mg A) (c_row_fits : CalX P w K mg base 2 "row_fits" spRowFits) (R_NoRow : RaX P w K mg base "NoRow" A.row (spXi A.row "row")) (m_Desk_done : MetX P w K mg base 10 A.desk "done" (spDone A)) (m_Desk_told : MetX P w K mg base 9 A.desk "told" (spTold A)) : MetX P w K mg base 11 A.desk "say" (spSay A K) := by
  refine metx F sc_Desk_say (fun _ _ _ _ _ _ us hl => match us, hl with | [_, _], _ => rfl) (fun vs H Q E h => by obtain ⟨x, _, _, _, _, rfl, _⟩ := h; rfl) ?_
  intro f cdv A' outer s H vs Q E hr hT hx hu h
  refine ⟨_, (pss_cons (ps_if (pt_not (pt_val (pe_callB call_isi (by rfl) B.isinstance (by decide +kernel) (pa_cons (pv 1) (pa_cons (pe_bltn (v := .ty "str") (u := .type "str") rfl B.str (by decide +kernel) rfl) pa_nil))))) (pss_one (ps_raise rfl hT (pmk_f R_NoRow (hr.mono (by decide)) rfl (pa_cons pe_non pa_nil)))) pss_nil)
      (pss_cons (ps_set (i := 2) sc_Desk_say.nd rfl (Or.inl rfl) (pe_split (pv 1) pe_lit))
      (pss_cons (ps_if (pt_not (pt_val (pe_cx c_row_fits hr (by decide) rfl hx (pa_cons (pv 2) pa_nil)))) (pss_one (ps_raise rfl hT (pmk_f R_NoRow (hr.mono (by decide)) rfl (pa_cons pe_non pa_nil)))) pss_nil)
      (pss_cons (ps_if (pt_cmpR op_in_seq (pe_ix ix_list (pv 2) pe_int (fun _ _ => rfl)) (pe_lst (pa_cons pe_lit (pa_cons pe_lit (pa_cons pe_lit (pa_cons pe_lit (pa_cons pe_lit (pa_cons pe_lit pa_nil))))))) (by rfl)) (pss_cons (ps_expr (pe_mx (pv 0) m_Desk_done hr (by decide) hx (pa_cons (pe_ix ix_list (pv 2) pe_int (fun _ _ => rfl)) (pa_cons (pe_slice sl_list (pv 2) (po_some pe_int) po_none) pa_nil))))
        (pss_one (ps_ret pe_lit))) pss_nil)
      (pss_one (ps_ret (pe_mx (pv 0) m_Desk_told hr (by decide) hx (pa_cons (pe_ix ix_list (pv 2) pe_int (fun _ _ => rfl)) (pa_cons (pe_slice sl_list (pv 2) (po_some pe_int) po_none) pa_nil))))))))), ?_⟩
  obtain ⟨d, rl, mk, D, rv, rfl, hD, hok, q⟩ := h
  have hD0 := hD
  obtain ⟨dx, fv, rvs, kvs, h1, h2, h3, h4, h5, h5', h6, h7⟩ := hD
  rcases q with ⟨t, hty, hkt, qz⟩ | ⟨wd, rest, rfl, hws, hrl, q⟩
  · refine ⟨_, rfl, _, _, t, _, false, rfl, .ty _, hty, hkt, _, rfl, ?_⟩
    exact iteT (mkx fun H' d s hd => rz_fld qz s rfl rfl rfl hd)
  have hjl : (TL.joinL [32] (wd :: rest)).length ≤ 60000 := by
    have := joinL_len (s := 32) (c := 1000) (wd :: rest) fun y hy => (hws y hy).2
    simp only [List.length_cons] at this
    omega
  refine ⟨_, rfl, _, _, _, _, true, rfl, .ty _, .base (.str _), kit_ty (r := true) (by decide +kernel), _, rfl, ?_⟩
  refine iteF ?_
  refine ⟨_, rfl, ⟨_, rfl⟩, _, _, rfl, rfl, by rw [SX.S_len]; decide +kernel, by rw [SX.S_len, sizeLine_eq]; omega, ?_⟩
  have hsp : Txt.split (SX.S (TL.joinL [32] (wd :: rest))) (SX.S (lw " ")) = (wd :: rest).map SX.S := by
    rw [show lw " " = [32] from by decide +kernel, SX.split_S (by decide) (by decide), SX.spl_join (by simp) fun p hp => (hws p hp).1]
  rw [hsp]
  intro p hp
  rw [show ((wd :: rest).map SX.S).map V.str = (wd :: rest).map sv from by rw [List.map_map]; rfl]
  have s1 := same_upd (o := .lst ((wd :: rest).map sv)) hp
  have hp1 : (L2.upd H p (.lst ((wd :: rest).map sv))) p = some (.lst ((wd :: rest).map sv)) := upd_same
  refine ⟨_, rfl, _, _, rfl, ⟨p, rfl, hp1⟩, by simp; omega, by simp, fun H2 s2 => ⟨_, rfl, ?_⟩⟩
  have s2' := s1.trans s2
  rcases q with ⟨hf, qz⟩ | ⟨hf, hdw, hne, hpre, q1, q2⟩ | ⟨hf, hdw, hb, hlo, q⟩
  · rw [hf]
    exact iteT (mkx fun H' d s hd => rz_fld qz (s2'.trans s) rfl rfl rfl hd)
  · rw [hf]
    refine iteF ⟨_, rfl, p, _, _, _, rfl, rfl, SqL.of (s2 _ _ hp1), atI_nat (j := 0) rfl, by show 6 ≤ sizeLine; decide, fun l hl => ?_⟩
    have s3 := s2'.trans (same_upd (o := .lst ((["share", "room", "door", "shut", "goal", "plain"].map lw).map sv)) hl)
    refine ⟨l, _, rfl, .inl (SqL.of (xs := (["share", "room", "door", "shut", "goal", "plain"].map lw).map sv) upd_same), rfl, flat_sv _, _, rfl, ?_⟩
    refine ifT ?_ ?_
    · show inV (sv wd) ((["share", "room", "door", "shut", "goal", "plain"].map lw).map sv) = true
      rw [inV_sv]
      exact decide_eq_true hdw
    have hp3 := (same_upd (o := .lst ((["share", "room", "door", "shut", "goal", "plain"].map lw).map sv)) hl) _ _ (s2 _ _ hp1)
    refine ⟨_, rfl, d, dx, _, rfl, s3 _ _ h1, rfl, _, rfl, p, _, _, _, rfl, rfl, SqL.of hp3, atI_nat (j := 0) rfl, _, rfl, _, rfl, p, _, rfl, SqL.of hp3, fun l2 hl2 => ?_⟩
    rw [cut1]
    have s4 := s3.trans (same_upd (o := .lst (((wd :: rest).drop 1).map sv)) hl2)
    refine ⟨_, rl, mk, D, wd, _, rest, rfl, hD0.mono s4, hok, ⟨l2, rfl, upd_same⟩, hne, by omega, fun x hx => (hws x (by simp [hx])).2, hpre, hdw, fun e he => (q1 e he).mono s4, fun D' hD' H' k hd => ?_⟩
    exact q2 D' hD' H' (fun b o a1 a2 a3 e => k b o a1 a2 a3 (s4 _ _ e)) hd
  · rw [hf]
    refine iteF ⟨_, rfl, p, _, _, _, rfl, rfl, SqL.of (s2 _ _ hp1), atI_nat (j := 0) rfl, by show 6 ≤ sizeLine; decide, fun l hl => ?_⟩
    have s3 := s2'.trans (same_upd (o := .lst ((["share", "room", "door", "shut", "goal", "plain"].map lw).map sv)) hl)
    refine ⟨l, _, rfl, .inl (SqL.of (xs := (["share", "room", "door", "shut", "goal", "plain"].map lw).map sv) upd_same), rfl, flat_sv _, _, rfl, ?_⟩
    refine ifF ?_ ?_
    · show inV (sv wd) ((["share", "room", "door", "shut", "goal", "plain"].map lw).map sv) = false
      rw [inV_sv]
      exact decide_eq_false hdw
    have hp3 := (same_upd (o := .lst ((["share", "room", "door", "shut", "goal", "plain"].map lw).map sv)) hl) _ _ (s2 _ _ hp1)
    refine ⟨_, rfl, d, dx, _, rfl, s3 _ _ h1, rfl, _, rfl, p, _, _, _, rfl, rfl, SqL.of hp3, atI_nat (j := 0) rfl, _, rfl, _, rfl, p, _, rfl, SqL.of hp3, fun l2 hl2 => ?_⟩
    rw [cut1]
    have s4 := s3.trans (same_upd (o := .lst (((wd :: rest).drop 1).map sv)) hl2)
    refine ⟨_, rl, mk, D, wd, _, rest, rfl, hD0.mono s4, hok, ⟨l2, rfl, upd_same⟩, by omega, fun x hx => (hws x (by simp [hx])).2, hb, hlo, ?_⟩
    rcases q with ⟨e, a1, a2, a3, a4⟩ | ⟨a1, a2, a3⟩
    · exact .inl ⟨e, a1, a2, a3, a4.mono s4⟩
    · exact .inr ⟨a1, a2, fun H' s' => a3 _ (s4.trans s')⟩
end
end Dk
/-! the law's helpers -/
namespace Dk
open PySem PySem.Spec PyProof.Rows L2
local macro_rules | `(tactic| walk_at "rd") => `(tactic| repeat (first | refine ⟨_, rfl, ?_⟩ | refine ⟨_, _, rfl, rfl, ?_⟩ | refine iteT ?_ | refine iteF ?_ | refine ⟨_, _, _, _, rfl, rfl, SqT.of (by assumption), rfl, ?_⟩ | refine ⟨rfl, ?_⟩ | refine ⟨_, _, rfl, lenS (by assumption), ?_⟩ | refine ⟨_, _, rfl, lenT (by assumption), ?_⟩ | refine ⟨_, _, rfl, lenL (by assumption), ?_⟩ | refine ⟨⟨_, SqL.of (by assumption)⟩, ?_⟩ | refine ⟨_, _, rfl, ?_⟩ | refine ⟨(by show (0 : Int) < _; decide), ?_⟩ | refine ⟨.inr ⟨by decide, by decide⟩, ?_⟩ | refine ⟨.inl ⟨by decide, by decide⟩, ?_⟩ | refine ⟨⟨by decide, by decide⟩, ?_⟩ | refine ⟨Nat.zero_le _, ?_⟩))
theorem sc__law_cell : FnScope ["_law_script", "_law_k"] ["_law_script", "_law_k"] (defScope s__law_cell) := ⟨rfl, rfl, rfl, by decide +kernel, rfl, by decide +kernel, by decide +kernel⟩
theorem sc__law_stream : FnScope ["_law_cell_here", "_law_many", "_law_found", "_law_number_here", "_law_digits", "_law_k"] ["_law_cell_here", "_law_many"] (defScope s__law_stream) := ⟨rfl, rfl, rfl, by decide +kernel, rfl, by decide +kernel, by decide +kernel⟩
theorem sc__law_gcd : FnScope ["_law_one", "_law_other", "_law_low", "_law_high"] ["_law_one", "_law_other"] (defScope s__law_gcd) := ⟨rfl, rfl, rfl, by decide +kernel, rfl, by decide +kernel, by decide +kernel⟩
theorem sc__law_lowest : FnScope ["_law_top", "_law_bottom", "_law_common"] ["_law_top", "_law_bottom"] (defScope s__law_lowest) := ⟨rfl, rfl, rfl, by decide +kernel, rfl, by decide +kernel, by decide +kernel⟩
theorem sc__law_number : FnScope ["_law_one"] ["_law_one"] (defScope s__law_number) := ⟨rfl, rfl, rfl, by decide +kernel, rfl, by decide +kernel, by decide +kernel⟩
theorem sc__law_words : FnScope ["_law_cell_here", "_law_many", "_law_letters", "_law_head", "_law_k"] ["_law_cell_here", "_law_many"] (defScope s__law_words) := ⟨rfl, rfl, rfl, by decide +kernel, rfl, by decide +kernel, by decide +kernel⟩
theorem sc__law_doors : FnScope ["_law_cell_here", "_law_k", "_law_many", "_law_xs", "_law_doors_here", "_law_j", "_law_ways", "_law_i", "_law_room", "_law_pay"] ["_law_cell_here", "_law_k", "_law_many"] (defScope s__law_doors) := ⟨rfl, rfl, rfl, by decide +kernel, rfl, by decide +kernel, by decide +kernel⟩
theorem sc__law_drawn : FnScope ["_law_script", "_law_at", "_law_most", "_law_xs", "_law_many", "_law_bottom", "_law_rooms", "_law_k"] ["_law_script", "_law_at", "_law_most"] (defScope s__law_drawn) := ⟨rfl, rfl, rfl, by decide +kernel, rfl, by decide +kernel, by decide +kernel⟩
theorem sc__law_chances : FnScope ["_law_ways", "_law_bottom", "_law_room", "_law_weight"] ["_law_ways"] (defScope s__law_chances) := ⟨rfl, rfl, rfl, by decide +kernel, rfl, by decide +kernel, by decide +kernel⟩
theorem sc__law_rows : FnScope ["_law_share", "_law_rooms", "_law_names", "_law_found", "_law_k", "_law_j", "_law_pay", "_law_ways", "_law_row", "_law_room", "_law_chance", "_law_name"] ["_law_share", "_law_rooms", "_law_names"] (defScope s__law_rows) := ⟨rfl, rfl, rfl, by decide +kernel, rfl, by decide +kernel, by decide +kernel⟩
section
variable {P : Program} {w : World} {K : PySem.W.Frag} {mg : Str → Option Value} {base : Heap} {A : Ad}
theorem pe_litc {X : Cx} {s : String} {j p} {l : Wd} (h : lw s = l) : PE X (.Constant (.str (Str.ofString s)) j p) (tC (sv l)) := by
  rw [← h]
  exact pe_lit
abbrev RDoor := Frac × List (Nat × Int)
def IsIW (H : Hp) (v : V) (x : Nat × Int) : Prop := ∃ p, v = .ref p ∧ H p = some (.tup [.int (x.1 : Nat), .int x.2])
def IsIWs (H : Hp) (v : V) (ws : List (Nat × Int)) : Prop := ∃ p vs, v = .ref p ∧ H p = some (.lst vs) ∧ Paired (IsIW H) vs ws
def IsRD (H : Hp) (v : V) (x : RDoor) : Prop := ∃ p fv wv, v = .ref p ∧ H p = some (.tup [fv, wv]) ∧ IsF H fv x.1 ∧ IsIWs H wv x.2
def IsRDs (H : Hp) (v : V) (xs : List RDoor) : Prop := ∃ p vs, v = .ref p ∧ H p = some (.lst vs) ∧ Paired (IsRD H) vs xs
def IsRR (H : Hp) (v : V) (xs : List (List RDoor)) : Prop := ∃ p vs, v = .ref p ∧ H p = some (.lst vs) ∧ Paired (IsRDs H) vs xs
section
variable {H H' : Hp} {v : V}
theorem IsIW.mono {x} (s : Same H H') (h : IsIW H v x) : IsIW H' v x := let ⟨p, e, q⟩ := h; ⟨p, e, s _ _ q⟩
theorem IsIWs.mono {x} (s : Same H H') (h : IsIWs H v x) : IsIWs H' v x := let ⟨p, fv, e, q, r⟩ := h; ⟨p, fv, e, s _ _ q, r.mono fun _ _ => IsIW.mono s⟩
theorem IsRD.mono {x} (s : Same H H') (h : IsRD H v x) : IsRD H' v x := let ⟨p, fv, wv, e, q, r, t⟩ := h; ⟨p, fv, wv, e, s _ _ q, r.mono s, t.mono s⟩
theorem IsRDs.mono {x} (s : Same H H') (h : IsRDs H v x) : IsRDs H' v x := let ⟨p, fv, e, q, r⟩ := h; ⟨p, fv, e, s _ _ q, r.mono fun _ _ => IsRD.mono s⟩
theorem IsRR.mono {x} (s : Same H H') (h : IsRR H v x) : IsRR H' v x := let ⟨p, fv, e, q, r⟩ := h; ⟨p, fv, e, s _ _ q, r.mono fun _ _ => IsRDs.mono s⟩
end
/-- a drawn fraction: lowest terms, of bounded size -/
def OkF (B : Int) (f : Frac) : Prop := isFracF f = true ∧ f.2 ≤ B ∧ f.1.natAbs < 10 ^ 29
def OkRD (n : Nat) (x : RDoor) : Prop := OkF 1000 x.1 ∧ x.2 ≠ [] ∧ x.2.length ≤ 3 ∧ (x.2.map (·.1)).Nodup ∧ (∀ y ∈ x.2, y.1 < n ∧ 1 ≤ y.2) ∧ (x.2.map (·.2)).sum ≤ 18
def OkRR (rs : List (List RDoor)) : Prop := 1 ≤ rs.length ∧ rs.length ≤ 3 ∧ ∀ r ∈ rs, r.length ≤ 3 ∧ ∀ x ∈ r, OkRD rs.length x
def OkSh (f : Frac) : Prop := isFracF f = true ∧ f.2 ≤ 100 ∧ 0 ≤ f.1 ∧ f.1 < f.2
def spCell (K : PySem.W.Frag) : Sp := fun vs H Q _ => ∃ sc, ∃ ns : List Int, ∃ k : Nat, vs = [.ref sc, .int k] ∧ SqL K H sc (ns.map V.int) ∧ ns.length ≤ 1000 ∧ ∀ (i : Int) H', Same H H' → Q (.int i) H'
def spStream : Sp := fun vs H Q _ => ∃ c : Int, ∃ n : Nat, vs = [.int c, .int n] ∧ n ≤ 100 ∧ ∀ (p : Addr) (xs : List Int) H', Same H H' → H' p = some (.lst (xs.map V.int)) → xs.length = n → (∀ x ∈ xs, 0 ≤ x ∧ x < 2 ^ 31) → Q (.ref p) H'
def spGcd : Sp := fun vs H Q _ => ∃ a b : Int, vs = [.int a, .int b] ∧ ∀ H', Same H H' → Q (.int (Int.gcd a b : Nat)) H'
def spLowest : Sp := fun vs H Q _ => ∃ t b : Int, vs = [.int t, .int b] ∧ (0 < b ∧ b < 2 ^ 30) ∧ ∀ v H', Same H H' → IsF H' v (mkF t b) → Q v H'
def spWordsL : Sp := fun vs H Q _ => ∃ c : Int, ∃ n : Nat, vs = [.int c, .int n] ∧ n ≤ 5 ∧ ∀ (p : Addr) (ws : List Wd) H', Same H H' → H p = none → H' p = some (.lst (ws.map sv)) → ws.length = n → ws.Nodup → (∀ x ∈ ws, isWordS x = true ∧ x.length ≤ 3) → Q (.ref p) H'
def spDoorsL : Sp := fun vs H Q _ => ∃ c : Int, ∃ k n : Nat, vs = [.int c, .int k, .int n] ∧ k ≤ 3 ∧ 1 ≤ n ∧ n ≤ 3 ∧ ∀ v ds H', Same H H' → IsRDs (nw H H') v ds → ds.length ≤ 3 → (∀ x ∈ ds, OkRD n x) → Q v H'
def spDrawn (K : PySem.W.Frag) : Sp := fun vs H Q _ => ∃ sc, ∃ ns : List Int, vs = [.ref sc, .int 0, .int 3] ∧ SqL K H sc (ns.map V.int) ∧ ns.length ≤ 1000 ∧ ∀ p fv rv f rs H', Same H H' → H' p = some (.tup [fv, rv]) → IsF H' fv f → IsRR H' rv rs → OkSh f → OkRR rs → Q (.ref p) H'
def chancesM (ws : List (Nat × Int)) : List (Nat × Frac) := ws.map fun x => (x.1, mkF x.2 (ws.map (·.2)).sum)
def spChances : Sp := fun vs H Q _ => ∃ v ws, vs = [v] ∧ IsIWs H v ws ∧ ws.length ≤ 100 ∧ (0 < (ws.map (·.2)).sum ∧ (ws.map (·.2)).sum < 2 ^ 30) ∧ ∀ v H', Same H H' → IsWays H' v (chancesM ws) → Q v H'
def gdab : Wd := [103, 100, 97, 98]
def doorRow (names : List Wd) (k j : Nat) (x : RDoor) : Wd := ([100, 111, 111, 114, 32] : Wd) ++ names.getD k [] ++ [32] ++ [gdab.getD j 0] ++ [32] ++ numText x.1 ++ ([32, 109, 105, 120, 101, 100] : Wd) ++ ((chancesM x.2).map fun c => [32] ++ names.getD c.1 [] ++ [32] ++ numText c.2).flatten
def lawRows (f : Frac) (rs : List (List RDoor)) (names : List Wd) : List Wd := (([115, 104, 97, 114, 101, 32] : Wd) ++ numText f) :: names.map (([114, 111, 111, 109, 32] : Wd) ++ ·) ++ ((List.range rs.length).map fun k => (List.range (rs.getD k []).length).map fun j => doorRow names k j ((rs.getD k []).getD j ((0, 1), []))).flatten
def spRows : Sp := fun vs H Q _ => ∃ fv rv nv f rs names, vs = [fv, rv, nv] ∧ IsF H fv f ∧ IsRR H rv rs ∧ IsWs H nv names ∧ OkSh f ∧ OkRR rs ∧ names.length = rs.length ∧ (∀ x ∈ names, x.length ≤ 3) ∧
  ∀ p H', Same H H' → H p = none → H' p = some (.lst ((lawRows f rs names).map sv)) → Q (.ref p) H'
theorem cut_int (ns : List Int) (lo hi : Option Int) : ∃ ms : List Int, cutV (ns.map V.int) lo hi = ms.map V.int ∧ ms.length ≤ ns.length := by
  refine ⟨(ns.drop (HT.sIx (ns.map V.int).length 0 lo)).take (HT.sIx (ns.map V.int).length (ns.map V.int).length hi - HT.sIx (ns.map V.int).length 0 lo), ?_, ?_⟩
  · unfold cutV
    rw [List.map_take, List.map_drop]
  · rw [List.length_take, List.length_drop]; omega
theorem atI_int {xs : List Int} {i : Int} (h0 : 0 ≤ i) (h1 : i < xs.length) : ∃ x ∈ xs, atI (xs.map V.int) i = some (.int x) := by
  obtain ⟨k, rfl⟩ : ∃ k : Nat, i = k := ⟨i.toNat, by omega⟩
  have hk : k < xs.length := by omega
  exact ⟨xs[k], List.getElem_mem hk, atI_nat (by rw [List.getElem?_map, List.getElem?_eq_getElem hk]; rfl)⟩
def abc : Wd := [97, 98, 99, 100, 101, 102, 103, 104, 105, 106, 107, 108, 109, 110, 111, 112, 113, 114, 115, 116, 117, 118, 119, 120, 121, 122]
theorem abc_at {i : Int} (h0 : 0 ≤ i) (h1 : i < 26) : atI (SX.S abc).cps.toList i = some (97 + i.toNat) := by
  obtain ⟨k, rfl⟩ : ∃ k : Nat, i = k := ⟨i.toNat, by omega⟩
  refine atI_nat ?_
  have h : ∀ k : Fin 26, abc[(k : Nat)]? = some (97 + (k : Nat)) := by decide
  have := h ⟨k, by omega⟩
  rw [Int.toNat_natCast]
  exact this
theorem rep_cases {c : Nat} {n : Int} (h : n = 0 ∨ n = 1 ∨ n = 2) : repS ⟨#[c]⟩ n = SX.S (List.replicate n.toNat c) := by
  rcases h with rfl | rfl | rfl <;> rfl
theorem cal_cell (F : Fn K mg "_law_cell" s__law_cell) (B : Blt mg) : CalX P w K mg base 1 "_law_cell" (spCell K) := by
  refine calx F sc__law_cell (fun _ _ _ _ _ _ us hl => match us, hl with | [_, _], _ => rfl) (fun vs H Q E h => by obtain ⟨x, _, _, rfl, _⟩ := h; rfl) ?_
  intro f cdv A' outer s H vs Q E hr hT hx hu h
  refine ⟨_, (pss_one (ps_ret (pe_ix ix_list (pe_op op_cat (pe_slice sl_list (pv 0) (po_some (pv 1)) (po_some (pe_op op_add (pv 1) pe_int))) (pe_lst (pa_cons pe_int pa_nil))) pe_int (fun _ _ => rfl)))), ?_⟩
  obtain ⟨sc, ns, k, rfl, hs, hn, q⟩ := h
  obtain ⟨ms, hms, hml⟩ := cut_int ns (some k) (some (k + 1))
  refine ⟨_, rfl, _, rfl, _, rfl, _, rfl, _, _, rfl, rfl, _, rfl, sc, _, rfl, hs, fun l hl => ?_⟩
  refine ⟨by show 1 ≤ sizeLine; decide, fun z hz => ?_⟩
  have s1 := same_upd (o := .lst (cutV (ns.map V.int) (some k) (some (k + 1)))) hl
  have s2 := same_upd (o := .lst [.int 0]) hz
  refine ⟨l, z, _, _, rfl, rfl, s2 _ _ upd_same, upd_same, ?_, fun p hp => ?_⟩
  · rw [hms, List.length_map, sizeLine_eq]; simp; omega
  have e : ∃ i rest, cutV (ns.map V.int) (some (k : Int)) (some ((k : Int) + 1)) ++ [V.int 0] = V.int i :: rest := by
    rw [hms]
    cases ms with
    | nil => exact ⟨0, [], rfl⟩
    | cons m ms => exact ⟨m, _, rfl⟩
  obtain ⟨i, rest, e⟩ := e
  rw [e]
  refine ⟨p, _, _, .int i, rfl, rfl, SqL.of upd_same, atI_nat (j := 0) rfl, q _ _ ((s1.trans s2).trans (same_upd hp))⟩
theorem cal_stream (F : Fn K mg "_law_stream" s__law_stream) (B : Blt mg) : CalX P w K mg base 1 "_law_stream" spStream := by
  refine calx F sc__law_stream (fun _ _ _ _ _ _ us hl => match us, hl with | [_, _], _ => rfl) (fun vs H Q E h => by obtain ⟨x, _, rfl, _⟩ := h; rfl) ?_
  intro f cdv A' outer s H vs Q E hr hT hx hu h
  refine ⟨_, (pss_cons (ps_set (i := 2) sc__law_stream.nd rfl (Or.inl rfl) (pe_lst pa_nil))
      (pss_cons (ps_set (i := 3) sc__law_stream.nd rfl (Or.inl rfl) (pe_op op_mod (pe_op op_mul (pe_op op_add (pe_op op_mod (pv 0) pe_int) pe_int) pe_int) pe_int))
      (pss_cons (ps_set (i := 4) sc__law_stream.nd rfl (Or.inl rfl) pe_int)
      (pss_cons (ps_if (PW.pt (pw_or (pt_cmpR op_lt (pv 0) pe_int (nomark _)) (pw_or1 (pt_cmpR op_ge (pv 0) (pe_op op_pow pe_int pe_int) (nomark _))))) (pss_one (ps_set (i := 4) sc__law_stream.nd rfl (Or.inl rfl) (pe_callB call_abs (by rfl) B.abs (by decide +kernel) (pa_cons (pv 0) pa_nil)))) pss_nil)
      (pss_cons (ps_for (passes_of rfl) rfl (pi_range1 rfl B.range (pa_cons (pv 1) pa_nil)) (pg_name (i := 5) sc__law_stream.nd rfl (Or.inl rfl))
        (pss_cons (ps_set (i := 3) sc__law_stream.nd rfl (Or.inl rfl) (pe_op op_mod (pe_op op_add (pe_op op_add (pe_op op_mul (pv 3) (pe_op op_add (pe_op op_mod (pv 3) pe_int) pe_int)) (pe_op op_mul pe_int (pv 5))) pe_int) pe_int))
        (pss_cons (ps_expr (pe_bm PySem.F.plainAttrs_list PySem.F.slot_list_append PySem.F.type_list_append mt_append (pv 2) (pa_cons (pe_ix ix_list (pe_lst (pa_cons (pv 3) (pa_cons (pe_op op_mod (pv 4) pe_int) pa_nil))) (pe_callTy call_int1 (by rfl) B.int boot_int (pa_cons (pe_cmpR op_gt (pv 4) pe_int (nomark _)) pa_nil)) (fun _ _ => rfl)) pa_nil)))
        (pss_one (ps_set (i := 4) sc__law_stream.nd rfl (Or.inl rfl) (pe_op op_fdiv (pv 4) pe_int))))))
      (pss_one (ps_ret (pv 2)))))))), ?_⟩
  obtain ⟨c, n, rfl, hn, q⟩ := h
  refine ⟨Nat.zero_le _, fun fp hfp => ?_⟩
  walk_at "rd"
  have m0 : ∀ z : Int, 0 ≤ z % 1999999973 ∧ z % 1999999973 < 1999999973 := fun z => ⟨Int.emod_nonneg _ (by decide), Int.emod_lt_of_pos _ (by decide)⟩
  have start : ∀ (num dg : Int), 0 ≤ num → num < 1999999973 → 0 ≤ dg → (tSeq
            (tFor (iRng1 (tCons (tVar 1) tNil)) (gName 5)
              (tSeq
                (tAsg
                  (tOp (rI (fun x j => 0 < j) fun i j => V.int (i % j))
                    (tOp (rI0 fun i j => V.int (i + j))
                      (tOp (rI0 fun i j => V.int (i + j))
                        (tOp (rI CMul fun i j => V.int (i * j)) (tVar 3)
                          (tOp (rI0 fun i j => V.int (i + j))
                            (tOp (rI (fun x j => 0 < j) fun i j => V.int (i % j)) (tVar 3) (tC (V.int 65521)))
                            (tC (V.int 40487))))
                        (tOp (rI CMul fun i j => V.int (i * j)) (tC (V.int 7)) (tVar 5)))
                      (tC (V.int 5)))
                    (tC (V.int 1999999973)))
                  (gName 3))
                (tSeq
                  (tDrop
                    (tBM K "list" rAppend (tVar 2)
                      (tCons
                        (tOp (rIxL K)
                          (tLst
                            (tCons (tVar 3)
                              (tCons
                                (tOp (rI (fun x j => 0 < j) fun i j => V.int (i % j)) (tVar 4) (tC (V.int 1000000)))
                                tNil)))
                          (tCB
                            (fun xs H Q =>
                              (∃ i, xs = [V.int i] ∧ Q (V.int i) H) ∨
                                ∃ k, xs = [V.bl k] ∧ Q (V.int (if k = true then 1 else 0)) H)
                            (tCons (tOp (rI0 fun i j => V.bl (decide (j < i))) (tVar 4) (tC (V.int 0))) tNil)))
                        tNil)))
                  (tAsg (tOp (rI CDiv fun i j => V.int (i / j)) (tVar 4) (tC (V.int 1000000))) (gName 4)))))
            (tRet (tVar 2))) { nx := fun x H' => Q V.non H', rt := Q } [some (.int c), some (.int n), some (.ref fp), some (.int num), some (.int dg), none] (L2.upd H fp (.lst [])) := by
    intro num dg hn0 hn1 hd
    refine ⟨_, rfl, _, rfl, by omega, by omega, ?_⟩
    rw [Int.toNat_natCast]
    refine for_range (n := n) (fun i σ H' => Same H H' ∧ (∃ num dg o5, σ = [some (.int c), some (.int n), some (.ref fp), some (.int num), some (.int dg), o5] ∧ 0 ≤ num ∧ num < 1999999973 ∧ 0 ≤ dg) ∧ ∃ xs : List Int, H' fp = some (.lst (xs.map V.int)) ∧ xs.length = i ∧ ∀ x ∈ xs, 0 ≤ x ∧ x < 2 ^ 31)
      ⟨same_upd hfp, ⟨num, dg, none, rfl, hn0, hn1, hd⟩, [], upd_same, rfl, by simp⟩ ?_ ?_
    · rintro i σ H' hi ⟨s1, ⟨num, dg, o5, rfl, hn0, hn1, hd⟩, xs, hx, hxl, hxb⟩
      walk_at "rd"
      refine ⟨.inl ⟨by omega, by omega⟩, ?_⟩
      walk_at "rd"
      have hm := m0 (num * (num % 65521 + 40487) + 7 * (0 + (i : Nat)) + 5)
      refine ⟨tyL hx, ?_⟩
      walk_at "rd"
      refine ⟨by show 2 ≤ sizeLine; decide, fun l hl => ?_⟩
      walk_at "rd"
      refine .inr ⟨_, rfl, ?_⟩
      have hmd : 0 ≤ dg % 1000000 ∧ dg % 1000000 < 1000000 := ⟨Int.emod_nonneg _ (by decide), Int.emod_lt_of_pos _ (by decide)⟩
      have hv : ∃ y : Int, atI [V.int ((num * (num % 65521 + 40487) + 7 * (0 + (i : Nat)) + 5) % 1999999973), V.int (dg % 1000000)] (if decide ((0 : Int) < dg) = true then 1 else 0) = some (.int y) ∧ 0 ≤ y ∧ y < 2 ^ 31 := by
        by_cases h : 0 < dg
        · rw [decide_eq_true h]
          exact ⟨_, rfl, hmd.1, by omega⟩
        · rw [decide_eq_false h]
          exact ⟨_, rfl, hm.1, by omega⟩
      obtain ⟨y, hy, hy0, hy1⟩ := hv
      have s2 := same_upd (o := .lst [V.int ((num * (num % 65521 + 40487) + 7 * (0 + (i : Nat)) + 5) % 1999999973), V.int (dg % 1000000)]) hl
      refine ⟨l, _, _, .int y, rfl, rfl, SqL.of upd_same, hy, fp, _, _, rfl, rfl, s2 _ _ hx, by rw [List.length_map, sizeLine_eq]; omega, ?_⟩
      walk_at "rd"
      have hnone : H fp = none := hfp
      exact ⟨same_off (s1.trans s2) hfp, ⟨_, _, _, rfl, hm.1, hm.2, Int.ediv_nonneg hd (by decide)⟩, xs ++ [y], by rw [upd_same]; simp, by simp [hxl], fun x hx' => by
        rcases List.mem_append.mp hx' with h | h
        · exact hxb x h
        · simp at h; subst h; exact ⟨hy0, hy1⟩⟩
    · rintro σ H' ⟨s1, ⟨num, dg, o5, rfl, hn0, hn1, hd⟩, xs, hx, hxl, hxb⟩
      exact ⟨_, rfl, q fp xs _ s1 hx hxl hxb⟩
  refine ite2 (fun h1 => ?_) (fun h1 => ?_)
  · refine ifT (b := true) rfl ?_
    refine ⟨_, rfl, _, rfl, start _ _ (m0 _).1 (m0 _).2 ?_⟩
    split <;> omega
  · walk_at "rd"
    refine ite2 (fun h2 => ?_) (fun h2 => ?_)
    · refine ⟨_, rfl, _, rfl, start _ _ (m0 _).1 (m0 _).2 ?_⟩
      split <;> omega
    · exact start _ _ (m0 _).1 (m0 _).2 (Int.le_refl _)
theorem cal_gcd (F : Fn K mg "_law_gcd" s__law_gcd) (B : Blt mg) : CalX P w K mg base 1 "_law_gcd" spGcd := by
  refine calx F sc__law_gcd (fun _ _ _ _ _ _ us hl => match us, hl with | [_, _], _ => rfl) (fun vs H Q E h => by obtain ⟨x, _, rfl, _⟩ := h; rfl) ?_
  intro f cdv A' outer s H vs Q E hr hT hx hu h
  refine ⟨_, (pss_cons (ps_asg (pe_callB cr_sorted (by rfl) B.sorted (by decide +kernel) (pa_cons (pe_lst (pa_cons (pe_callB call_abs (by rfl) B.abs (by decide +kernel) (pa_cons (pv 0) pa_nil)) (pa_cons (pe_callB call_abs (by rfl) B.abs (by decide +kernel) (pa_cons (pv 1) pa_nil)) pa_nil))) pa_nil)) (pg_lst rfl (pgs_cons (pg_name (i := 2) sc__law_gcd.nd rfl (Or.inl rfl)) (pgs_cons (pg_name (i := 3) sc__law_gcd.nd rfl (Or.inl rfl)) pgs_nil))))
      (pss_cons (ps_while (passes_of rfl) (pt_cmpR op_gt (pv 2) pe_int (nomark _)) (pss_one (ps_par (i := 2) (j := 3) rfl sc__law_gcd.nd rfl rfl (by decide) rfl rfl (pa_cons (pe_op op_modN (pv 3) (pv 2)) (pa_cons (pv 2) pa_nil)) (by rfl))))
      (pss_one (ps_ret (pv 3))))), ?_⟩
  obtain ⟨a, b, rfl, q⟩ := h
  refine ⟨_, rfl, _, rfl, _, rfl, _, rfl, by show 2 ≤ sizeLine; decide, fun l hl => ?_⟩
  have hx : (if a < 0 then -a else a) = (a.natAbs : Int) := by split <;> omega
  have hy : (if b < 0 then -b else b) = (b.natAbs : Int) := by split <;> omega
  rw [hx, hy]
  refine ⟨l, [(a.natAbs : Int), (b.natAbs : Int)], rfl, SqL.of upd_same, by show 2 < 64; decide, fun ns' p hperm _ hp => ?_⟩
  have s1 := (same_upd (o := .lst [.int (a.natAbs : Int), .int (b.natAbs : Int)]) hl).trans (same_upd (o := .lst (ns'.map V.int)) hp)
  obtain ⟨u, v, rfl, hu, hv, hg⟩ : ∃ u v : Int, ns' = [u, v] ∧ 0 ≤ u ∧ 0 ≤ v ∧ Int.gcd u v = Int.gcd a b := by
    have hl2 := hperm.length_eq
    match ns', hl2, hperm with
    | [u, v], _, hperm =>
      have hm : u ∈ [(a.natAbs : Int), (b.natAbs : Int)] := hperm.mem_iff.mp (by simp)
      simp at hm
      rcases hm with rfl | rfl
      · have := List.Perm.cons_inv hperm
        rw [List.perm_singleton] at this
        cases this
        exact ⟨_, _, rfl, by omega, by omega, by simp [Int.gcd]⟩
      · have := List.Perm.cons_inv (hperm.trans (List.Perm.swap _ _ _))
        rw [List.perm_singleton] at this
        cases this
        exact ⟨_, _, rfl, by omega, by omega, by rw [Int.gcd_comm]; simp [Int.gcd]⟩
  refine ⟨p, _, rfl, SqL.of upd_same, rfl, _, _, rfl, _, _, rfl, rfl, ?_⟩
  refine ⟨fun m σ H' => Same H H' ∧ ∃ x y : Int, σ = [some (.int a), some (.int b), some (.int x), some (.int y)] ∧ 0 ≤ x ∧ 0 ≤ y ∧ Int.gcd x y = Int.gcd a b ∧ m = x.natAbs, ⟨_, s1, u, v, rfl, hu, hv, hg, rfl⟩, ?_⟩
  rintro m σ H' ⟨s2, x, y, rfl, hx0, hy0, hg, rfl⟩
  refine ⟨_, rfl, _, _, rfl, rfl, _, rfl, ?_⟩
  by_cases hx1 : 0 < x
  · refine ifT (by simp [hx1]) ?_
    refine ⟨fun σ' H'' => ∃ m', m' < x.natAbs ∧ Same H H'' ∧ ∃ x y : Int, σ' = [some (.int a), some (.int b), some (.int x), some (.int y)] ∧ 0 ≤ x ∧ 0 ≤ y ∧ Int.gcd x y = Int.gcd a b ∧ m' = x.natAbs, fun _ _ h => h, ?_⟩
    refine ⟨_, rfl, _, rfl, _, _, rfl, rfl, (by omega : x ≠ 0), _, rfl, ?_⟩
    refine ⟨_, _, rfl, _, fmod_small y x (by omega), s2, _, x, rfl, Int.fmod_nonneg hy0 hx0, hx0, ?_, rfl⟩
    rw [Int.gcd_comm, gcd_step, Int.gcd_comm, hg]
  · refine ifF (by simp; omega) ?_
    have hx2 : x = 0 := by omega
    subst hx2
    refine ⟨_, rfl, ?_⟩
    rw [Int.gcd_zero_left] at hg
    have e : y = ((Int.gcd a b : Nat) : Int) := by omega
    rw [e]
    exact q _ s2
theorem cal_lowest (F : Fn K mg "_law_lowest" s__law_lowest) (B : Blt mg) (c__law_gcd : CalX P w K mg base 1 "_law_gcd" spGcd) : CalX P w K mg base 2 "_law_lowest" spLowest := by
  refine calx F sc__law_lowest (fun _ _ _ _ _ _ us hl => match us, hl with | [_, _], _ => rfl) (fun vs H Q E h => by obtain ⟨x, _, rfl, _⟩ := h; rfl) ?_
  intro f cdv A' outer s H vs Q E hr hT hx hu h
  refine ⟨_, (pss_cons (ps_set (i := 2) sc__law_lowest.nd rfl (Or.inl rfl) (pe_cx c__law_gcd hr (by decide) rfl hx (pa_cons (pv 0) (pa_cons (pv 1) pa_nil))))
      (pss_one (ps_ret (pe_tup (pa_cons (pe_op op_fdiv (pv 0) (pv 2)) (pa_cons (pe_op op_fdiv (pv 1) (pv 2)) pa_nil)))))), ?_⟩
  obtain ⟨t, b, rfl, hb, q⟩ := h
  have g1 := gcd_pos (t := t) hb.1
  have g2 := gcd_le (t := t) hb.1
  refine ⟨_, rfl, _, rfl, _, _, rfl, fun H' s1 => ?_⟩
  refine ⟨_, rfl, _, rfl, _, _, rfl, rfl, ⟨g1, by omega⟩, _, rfl, _, rfl, _, _, rfl, rfl, ⟨g1, by omega⟩, by show 2 ≤ sizeLine; decide, fun p hp => ?_⟩
  exact q _ _ (s1.trans (same_upd hp)) ⟨p, rfl, upd_same⟩
theorem cal_number (F : Fn K mg "_law_number" s__law_number) (B : Blt mg) : CalX P w K mg base 1 "_law_number" spNumText := by
  refine calx F sc__law_number (fun _ _ _ _ _ _ us hl => match us, hl with | [_], _ => rfl) (fun vs H Q E h => by obtain ⟨x, _, rfl, _⟩ := h; rfl) ?_
  intro f cdv A' outer s H vs Q E hr hT hx hu h
  refine ⟨_, (pss_cons (ps_if (pt_cmpR op_eq (pe_ix ix_tup (pv 0) pe_int (fun _ _ => rfl)) pe_int (nomark _)) (pss_one (ps_ret (pe_callTy call_str_int (by rfl) B.str (by decide +kernel) (pa_cons (pe_ix ix_tup (pv 0) pe_int (fun _ _ => rfl)) pa_nil)))) pss_nil)
      (pss_one (ps_ret (pe_op op_add_w (pe_op op_add_w (pe_callTy call_str_int (by rfl) B.str (by decide +kernel) (pa_cons (pe_ix ix_tup (pv 0) pe_int (fun _ _ => rfl)) pa_nil)) (pe_litc (l := [47]) (by decide +kernel))) (pe_callTy call_str_int (by rfl) B.str (by decide +kernel) (pa_cons (pe_ix ix_tup (pv 0) pe_int (fun _ _ => rfl)) pa_nil)))))), ?_⟩
  obtain ⟨v, fr, rfl, ⟨p, rfl, hp⟩, h1, h2, q⟩ := h
  have g1 : fr.1.natAbs.log2 < 1920 := log_small h1
  have g2 : fr.2.natAbs.log2 < 1920 := log_small h2
  have e1 : V.str (Str.ofString (toString fr.1)) = sv (intW fr.1) := (congrArg V.str (SX.S_tl _)).symm
  have e2 : V.str (Str.ofString (toString fr.2)) = sv (intW fr.2) := (congrArg V.str (SX.S_tl _)).symm
  have l1 := intW_len h1
  have l2 := intW_len h2
  walk_at "rd"
  refine ite2 (fun hb => ?_) (fun hb => ?_)
  · walk_at "rd"
    refine ⟨g1, ?_⟩
    have e : numText fr = intW fr.1 := if_pos (by simpa using hb)
    rw [e, ← e1] at q
    exact q
  · have e : numText fr = intW fr.1 ++ ([47] ++ intW fr.2) := if_neg (by simpa using hb)
    rw [e, ← List.append_assoc] at q
    refine ⟨_, rfl, _, _, _, _, rfl, rfl, SqT.of hp, rfl, _, rfl, g1, _, _, e1, rfl, by rw [sizeLine_eq]; simp; omega, ?_⟩
    refine ⟨_, rfl, _, _, _, _, rfl, rfl, SqT.of hp, rfl, _, rfl, g2, _, _, rfl, e2, by rw [sizeLine_eq]; simp; omega, q⟩
theorem cal_words (F : Fn K mg "_law_words" s__law_words) (B : Blt mg) : CalX P w K mg base 1 "_law_words" spWordsL := by
  refine calx F sc__law_words (fun _ _ _ _ _ _ us hl => match us, hl with | [_, _], _ => rfl) (fun vs H Q E h => by obtain ⟨x, _, rfl, _⟩ := h; rfl) ?_
  intro f cdv A' outer s H vs Q E hr hT hx hu h
  refine ⟨_, (pss_cons (ps_set (i := 2) sc__law_words.nd rfl (Or.inr rfl) (pe_litc (l := [97, 98, 99, 100, 101, 102, 103, 104, 105, 106, 107, 108, 109, 110, 111, 112, 113, 114, 115, 116, 117, 118, 119, 120, 121, 122]) (by decide +kernel)))
      (pss_cons (ps_set (i := 3) sc__law_words.nd rfl (Or.inr rfl) (pe_op op_mul_str (pe_ix ix_str (pv 2) (pe_op op_mod (pe_op op_fdiv (pv 0) pe_int) pe_int) (fun _ _ => rfl)) (pe_op op_mod (pe_op op_fdiv (pv 0) pe_int) pe_int)))
      (pss_one (ps_ret (pe_lc (own := [("_law_k", 4)]) rfl sc__law_words.nd (pi_range1 rfl B.range (pa_cons (pv 1) pa_nil)) (blkOk_by (own := [("_law_k", 4)]) (N := ["_law_cell_here", "_law_many", "_law_letters", "_law_head", "_law_k"]) (sc := defScope s__law_words) (by decide +kernel)) (fun _ _ _ _ _ => (pg_name (i := 4) sc__law_words.nd rfl (Or.inl rfl))) (fun _ _ _ _ _ => pts_nil) (fun _ _ _ _ _ => (pe_op op_add_w (pv 3) (pe_ix ix_str (pv 2) (pe_op op_mod (pe_op op_add (pv 0) (pe_op op_mul pe_int (pv 4))) pe_int) (fun _ _ => rfl))))))))), ?_⟩
  obtain ⟨c, n, rfl, hn, q⟩ := h
  have i1 : 0 ≤ c / 26 % 26 ∧ c / 26 % 26 < 26 := ⟨Int.emod_nonneg _ (by decide), Int.emod_lt_of_pos _ (by decide)⟩
  have i2 : 0 ≤ c / 676 % 3 ∧ c / 676 % 3 < 3 := ⟨Int.emod_nonneg _ (by decide), Int.emod_lt_of_pos _ (by decide)⟩
  have hS : (SX.S abc).length ≤ sizeLine := by rw [SX.S_len, sizeLine_eq]; decide
  walk_at "rd"
  refine ⟨_, _, _, rfl, rfl, hS, abc_at i1.1 i1.2, ?_⟩
  walk_at "rd"
  refine ⟨⟨i2.1, by omega, by show 1 ≤ 1000; decide⟩, ?_⟩
  rw [rep_cases (by omega)]
  walk_at "rd"
  refine ⟨by omega, by omega, ?_⟩
  rw [Int.toNat_natCast]
  intro D hD
  generalize hh : List.replicate (c / 676 % 3).toNat (97 + (c / 26 % 26).toNat) = hd
  have hdl : hd.length ≤ 2 ∧ hd.all isLet = true := by
    rw [← hh]
    refine ⟨by rw [List.length_replicate]; omega, ?_⟩
    rw [List.all_eq_true]
    intro x hx
    rw [List.eq_of_mem_replicate hx]
    unfold isLet
    rw [Bool.and_eq_true]
    exact ⟨decide_eq_true (by omega), decide_eq_true (by omega)⟩
  refine lc_it (walk_range (lo := 0) (n := n)) (fun i H' => H' = L2.upd H D (.lst (((List.range i).map fun j => hd ++ [97 + ((c + 5 * (j : Nat)) % 26).toNat]).map sv))) rfl (fun _ _ _ _ => trivial) ?_ ?_
  · rintro i _ _ _ hi rfl ⟨rfl, rfl⟩
    have i3 : 0 ≤ (c + 5 * (0 + (i : Nat))) % 26 ∧ (c + 5 * (0 + (i : Nat))) % 26 < 26 := ⟨Int.emod_nonneg _ (by decide), Int.emod_lt_of_pos _ (by decide)⟩
    walk_at "rd"
    refine ⟨_, _, _, rfl, rfl, hS, abc_at i3.1 i3.2, ?_⟩
    refine ⟨hd, [97 + ((c + 5 * (0 + (i : Nat))) % 26).toNat], rfl, rfl, by rw [sizeLine_eq]; simp; omega, ?_⟩
    refine ⟨_, upd_same, by simp only [List.length_map, List.length_range]; rw [sizeLine_eq]; omega, ?_⟩
    rw [upd_upd, List.range_succ, List.map_append, List.map_append, Int.zero_add]
    rfl
  · rintro _ rfl
    refine q D _ _ (same_upd hD) hD upd_same (by simp) ?_ ?_
    · have : ∀ i j, i < n → j < n → hd ++ [97 + ((c + 5 * (i : Nat)) % 26).toNat] = hd ++ [97 + ((c + 5 * (j : Nat)) % 26).toNat] → i = j := fun i j hi hj e => by
        have e' := List.append_cancel_left e
        simp at e'
        omega
      rw [List.nodup_iff_pairwise_ne, List.pairwise_map]
      refine List.Pairwise.imp_of_mem ?_ List.nodup_range
      intro i j hi hj hne e
      exact hne (this i j (List.mem_range.mp hi) (List.mem_range.mp hj) e)
    · intro x hx
      obtain ⟨j, hj, rfl⟩ := List.mem_map.mp hx
      refine ⟨?_, by simp; omega⟩
      have i3 : 0 ≤ (c + 5 * (j : Nat)) % 26 ∧ (c + 5 * (j : Nat)) % 26 < 26 := ⟨Int.emod_nonneg _ (by decide), Int.emod_lt_of_pos _ (by decide)⟩
      unfold isWordS
      rw [List.all_append, hdl.2, List.length_append]
      have : isLet (97 + ((c + 5 * (j : Nat)) % 26).toNat) = true := by
        unfold isLet
        rw [Bool.and_eq_true]
        exact ⟨decide_eq_true (by omega), decide_eq_true (by omega)⟩
      simp [this]
      omega
def encW (x : Nat × Int) : Key × V := (Sum.inl (x.1 : Int), V.int x.2)
def getW : List (Nat × Int) → Nat → Int
  | [], _ => 0
  | x :: t, r => if x.1 = r then x.2 else getW t r
def putW : List (Nat × Int) → Nat → Int → List (Nat × Int)
  | [], r, w => [(r, w)]
  | x :: t, r, w => if x.1 = r then (x.1, w) :: t else x :: putW t r w
theorem enc_ne {a r : Nat} (h : a ≠ r) : ¬ (Sum.inl (a : Int) : Key) = Sum.inl (r : Int) := fun z => h (by have := Sum.inl.inj z; omega)
theorem enc_ne' {x : Nat × Int} {r : Nat} (h : x.1 ≠ r) : ¬ (encW x).1 = (Sum.inl (r : Int) : Key) := enc_ne h
theorem valW (r : Nat) : ∀ ws : List (Nat × Int), (valV (ws.map encW) (Sum.inl (r : Int) : Key)).getD (.int 0) = .int (getW ws r)
  | [] => rfl
  | x :: t => by
    by_cases h : x.1 = r
    · rw [List.map_cons, valV_pos (by show (Sum.inl (x.1 : Int) : Key) = _; rw [h])]
      unfold getW
      rw [if_pos h]; rfl
    · rw [List.map_cons, valV_neg (enc_ne h)]
      unfold getW
      rw [if_neg h]
      exact valW r t
theorem mapW_id (r : Nat) (v : V) : ∀ ws : List (Nat × Int), r ∉ ws.map (·.1) → (ws.map encW).map (fun kv => if kv.1 = (Sum.inl (r : Int) : Key) then (kv.1, v) else kv) = ws.map encW
  | [], _ => rfl
  | x :: t, h => by
    simp only [List.map_cons, List.mem_cons, not_or] at h
    rw [List.map_cons, List.map_cons, if_neg (enc_ne' (Ne.symm h.1)), mapW_id r v t h.2]
theorem putW_eq (r : Nat) (w : Int) : ∀ ws : List (Nat × Int), (ws.map (·.1)).Nodup → putK (ws.map encW) (Sum.inl (r : Int) : Key) (.int w) = (putW ws r w).map encW
  | [], _ => rfl
  | x :: t, hn => by
    rw [List.map_cons, List.nodup_cons] at hn
    have ih := putW_eq r w t hn.2
    by_cases h : x.1 = r
    · unfold putK putW
      rw [if_pos h, if_pos (by simp [encW, h])]
      rw [List.map_cons, List.map_cons, List.map_cons, if_pos (by show (Sum.inl (x.1 : Int) : Key) = _; rw [h]), mapW_id r _ t (h ▸ hn.1)]
      rfl
    · have hne := enc_ne h
      unfold putW
      rw [if_neg h, List.map_cons, List.map_cons, ← ih]
      unfold putK
      by_cases ha : ((t.map encW).any fun kv => decide (kv.1 = (Sum.inl (r : Int) : Key))) = true
      · rw [if_pos (by rw [List.any_cons, ha, Bool.or_true]), if_pos ha, List.map_cons, if_neg (enc_ne' h)]
      · rw [if_neg (by rw [List.any_cons, show decide ((encW x).1 = (Sum.inl (r : Int) : Key)) = false from decide_eq_false hne, Bool.false_or]; exact ha), if_neg ha]
        rfl
theorem putW_keys (r : Nat) (w : Int) : ∀ ws : List (Nat × Int), ∀ k, k ∈ (putW ws r w).map (·.1) → k = r ∨ k ∈ ws.map (·.1)
  | [], k, h => by simp [putW] at h; exact .inl h
  | x :: t, k, h => by
    unfold putW at h
    split at h
    · simp at h ⊢
      rcases h with h | h
      · exact .inr (.inl h)
      · exact .inr (.inr h)
    · simp only [List.map_cons, List.mem_cons] at h ⊢
      rcases h with h | h
      · exact .inr (.inl h)
      · rcases putW_keys r w t k h with h | h
        · exact .inl h
        · exact .inr (.inr h)
theorem putW_nodup (r : Nat) (w : Int) : ∀ ws : List (Nat × Int), (ws.map (·.1)).Nodup → ((putW ws r w).map (·.1)).Nodup
  | [], _ => by simp [putW]
  | x :: t, hn => by
    unfold putW
    split
    · exact hn
    · rename_i h
      rw [List.map_cons, List.nodup_cons] at hn ⊢
      exact ⟨fun hm => (putW_keys r w t _ hm).elim h hn.1, putW_nodup r w t hn.2⟩
theorem putW_sum (r : Nat) (d : Int) : ∀ ws : List (Nat × Int), ((putW ws r (getW ws r + d)).map (·.2)).sum = (ws.map (·.2)).sum + d
  | [] => by simp [putW, getW]
  | x :: t => by
    unfold putW getW
    by_cases h : x.1 = r
    · rw [if_pos h, if_pos h]
      simp only [List.map_cons, List.sum_cons]; omega
    · rw [if_neg h, if_neg h]
      have := putW_sum r d t
      simp only [List.map_cons, List.sum_cons]; omega
theorem putW_mem (r : Nat) (w : Int) : ∀ ws : List (Nat × Int), ∀ y, y ∈ putW ws r w → y = (r, w) ∨ y ∈ ws
  | [], y, h => by simp [putW] at h; exact .inl h
  | x :: t, y, h => by
    unfold putW at h
    split at h
    · rename_i hx
      rcases List.mem_cons.mp h with h | h
      · exact .inl (by rw [h, hx])
      · exact .inr (List.mem_cons_of_mem _ h)
    · rcases List.mem_cons.mp h with h | h
      · exact .inr (by rw [h]; exact List.mem_cons_self)
      · rcases putW_mem r w t y h with h | h
        · exact .inl h
        · exact .inr (List.mem_cons_of_mem _ h)
theorem putW_len (r : Nat) (w : Int) : ∀ ws : List (Nat × Int), (putW ws r w).length ≤ ws.length + 1 ∧ putW ws r w ≠ []
  | [] => by simp [putW]
  | x :: t => by
    unfold putW
    split
    · simp
    · have := putW_len r w t
      simp; omega
theorem getW_nonneg {r : Nat} : ∀ {ws : List (Nat × Int)}, (∀ y ∈ ws, 1 ≤ y.2) → 0 ≤ getW ws r
  | [], _ => by simp [getW]
  | x :: t, h => by
    unfold getW
    split
    · have := h x (by simp); omega
    · exact getW_nonneg fun y hy => h y (by simp [hy])
theorem isFrac_mk {t b : Int} (hb : 0 < b) : isFracF (mkF t b) = true := by
  have g1 := gcd_pos (t := t) hb
  have h1 : 0 < b / (Int.gcd t b : Int) := Int.ediv_pos_of_pos_of_dvd hb (by omega) (Int.gcd_dvd_right t b)
  unfold isFracF mkF
  rw [Bool.and_eq_true]
  exact ⟨decide_eq_true h1, decide_eq_true (Int.gcd_ediv_gcd_ediv_gcd (by omega))⟩
theorem okF_mk {t b : Int} (hb : 0 < b) (hb2 : b ≤ 1000) (ht : t.natAbs < 10 ^ 29) : OkF 1000 (mkF t b) := by
  have g1 := gcd_pos (t := t) hb
  refine ⟨isFrac_mk hb, ?_, ?_⟩
  · show b / (Int.gcd t b : Int) ≤ 1000
    have : b / (Int.gcd t b : Int) ≤ b := Int.ediv_le_self _ (by omega)
    omega
  · show (t / (Int.gcd t b : Int)).natAbs < 10 ^ 29
    exact Nat.lt_of_le_of_lt (Int.natAbs_ediv_le_natAbs _ _) ht
theorem isiw_gd {H H' : Hp} {kn fo : Addr} {v : V} {f} {xs ys} (h : IsIW H' v f) (s : Same H H') (h1 : H' kn = some (.lst xs)) (h2 : H' fo = some (.lst ys)) : IsIW (gd H kn fo H') v f := by
  obtain ⟨p, e, q⟩ := h
  refine ⟨p, e, ?_⟩
  unfold gd
  rw [if_neg (fun z => z.elim (ne_of q h1 fun z => by cases z) (ne_of q h2 fun z => by cases z)), nw_tup s q]
theorem paired_iw {H G : Hp} : ∀ {ts : List Addr} {ws : List (Nat × Int)}, Paired (fun (t : Addr) (q : Key × V) => H t = some (.tup [kV q.1, q.2])) ts (ws.map encW) → (∀ t (x : Nat × Int), H t = some (.tup [.int (x.1 : Nat), .int x.2]) → IsIW G (.ref t) x) → Paired (IsIW G) (ts.map V.ref) ws
  | [], [], _, _ => .nil
  | _ :: _, _ :: _, .cons r t, h => .cons (h _ _ r) (paired_iw t h)
theorem cal_doors (F : Fn K mg "_law_doors" s__law_doors) (B : Blt mg) (c__law_stream : CalX P w K mg base 1 "_law_stream" spStream) (c__law_lowest : CalX P w K mg base 2 "_law_lowest" spLowest) : CalX P w K mg base 3 "_law_doors" spDoorsL := by
  refine calx F sc__law_doors (fun _ _ _ _ _ _ us hl => match us, hl with | [_, _, _], _ => rfl) (fun vs H Q E h => by obtain ⟨x, _, _, rfl, _⟩ := h; rfl) ?_
  intro f cdv A' outer s H vs Q E hr hT hx hu h
  refine ⟨_, (pss_cons (ps_set (i := 3) sc__law_doors.nd rfl (Or.inl rfl) (pe_cx c__law_stream hr (by decide) rfl hx (pa_cons (pe_op op_add (pv 0) (pe_op op_mul (pe_op op_mul pe_int (pv 1)) (pv 1))) (pa_cons pe_int pa_nil))))
      (pss_cons (ps_set (i := 4) sc__law_doors.nd rfl (Or.inl rfl) (pe_lst pa_nil))
      (pss_cons (ps_for (passes_of rfl) rfl (pi_range1 rfl B.range (pa_cons (pe_ix ix_list (pe_lst (pa_cons pe_int (pa_cons pe_int (pa_cons pe_int (pa_cons pe_int (pa_cons pe_int pa_nil)))))) (pe_op op_mod (pe_ix ix_list (pv 3) pe_int (fun _ _ => rfl)) pe_int) (fun _ _ => rfl)) pa_nil)) (pg_name (i := 5) sc__law_doors.nd rfl (Or.inl rfl))
        (pss_cons (ps_set (i := 6) sc__law_doors.nd rfl (Or.inl rfl) pe_dnewK)
        (pss_cons (ps_for (passes_of rfl) rfl (pi_range1 rfl B.range (pa_cons (pe_op op_add pe_int (pe_op op_mod (pe_ix ix_list (pv 3) (pe_op op_add pe_int (pv 5)) (fun _ _ => rfl)) pe_int)) pa_nil)) (pg_name (i := 7) sc__law_doors.nd rfl (Or.inl rfl))
          (pss_cons (ps_set (i := 8) sc__law_doors.nd rfl (Or.inl rfl) (pe_op op_mod (pe_ix ix_list (pv 3) (pe_op op_add (pe_op op_add pe_int (pe_op op_mul pe_int (pv 5))) (pv 7)) (fun _ _ => rfl)) (pv 2)))
          (pss_one (ps_dput hu (pv 6) (pv 8) (pe_op op_add (pe_op op_add (pe_dget2 hu (pv 6) (pv 8) pe_int ⟨rfl, rfl, rfl, rfl⟩) pe_int) (pe_op op_mod (pe_ix ix_list (pv 3) (pe_op op_add (pe_op op_add pe_int (pe_op op_mul pe_int (pv 5))) (pv 7)) (fun _ _ => rfl)) pe_int)) rfl))))
        (pss_cons (ps_set (i := 9) sc__law_doors.nd rfl (Or.inl rfl) (pe_cx c__law_lowest hr (by decide) rfl hx (pa_cons (pe_op op_sub (pe_op op_mod (pe_ix ix_list (pv 3) (pe_op op_add pe_int (pv 5)) (fun _ _ => rfl)) pe_int) pe_int) (pa_cons (pe_op op_add pe_int (pe_op op_mod (pe_ix ix_list (pv 3) (pe_op op_add pe_int (pv 5)) (fun _ _ => rfl)) pe_int)) pa_nil))))
        (pss_cons (ps_if (pt_cmpR op_eq (pe_op op_mod (pe_ix ix_list (pv 3) pe_int (fun _ _ => rfl)) pe_int) pe_int (nomark _)) (pss_one (ps_set (i := 9) sc__law_doors.nd rfl (Or.inl rfl) (pe_cx c__law_lowest hr (by decide) rfl hx (pa_cons (pe_op op_sub (pe_op op_mul (pe_op op_mul (pe_ix ix_list (pv 3) (pe_op op_add pe_int (pv 5)) (fun _ _ => rfl)) (pe_ix ix_list (pv 3) pe_int (fun _ _ => rfl))) (pe_ix ix_list (pv 3) pe_int (fun _ _ => rfl))) (pe_op op_pow pe_int pe_int)) (pa_cons (pe_op op_add pe_int (pe_op op_mod (pe_ix ix_list (pv 3) (pe_op op_add pe_int (pv 5)) (fun _ _ => rfl)) pe_int)) pa_nil))))) pss_nil)
        (pss_one (ps_expr (pe_bm PySem.F.plainAttrs_list PySem.F.slot_list_append PySem.F.type_list_append mt_append (pv 4) (pa_cons (pe_tup (pa_cons (pv 9) (pa_cons (LiI.pe_listItems rfl (pv 6) rfl B.list (by decide +kernel)) pa_nil))) pa_nil)))))))))
      (pss_one (ps_ret (pv 4)))))), ?_⟩
  obtain ⟨c, k, n, rfl, hk, hn1, hn3, q⟩ := h
  refine ⟨_, rfl, _, rfl, _, _, rfl, rfl, .inl ⟨by decide, by decide⟩, _, rfl, _, _, rfl, rfl, .inr ⟨by omega, by omega⟩, _, _, rfl, rfl, _, 30, rfl, by decide, fun xp xs H1 s1 hx hxl hxb => ?_⟩
  have hat : ∀ i : Int, 0 ≤ i → i < 30 → ∃ x : Int, atI (xs.map V.int) i = some (.int x) ∧ 0 ≤ x ∧ x < 2 ^ 31 := fun i h0 h1 => by
    obtain ⟨x, hm, e⟩ := atI_int (xs := xs) (i := i) h0 (by omega)
    exact ⟨x, e, hxb x hm⟩
  have mdd : ∀ z m : Int, 0 < m → 0 ≤ z % m ∧ z % m < m := fun z m hm => ⟨Int.emod_nonneg _ (by omega), Int.emod_lt_of_pos _ hm⟩
  refine ⟨Nat.zero_le _, fun dh hdh => ?_⟩
  have hHdh : H dh = none := s1.free hdh
  have hxd : xp ≠ dh := ne_of_none hx hdh
  have s2 := s1.trans (same_upd (o := .lst []) hdh)
  have hx2 := (same_upd (o := .lst []) hdh) _ _ hx
  refine ⟨by show 5 ≤ sizeLine; decide, fun l5 hl5 => ?_⟩
  have s3 := s2.trans (same_upd (o := .lst [.int 1, .int 2, .int 3, .int 2, .int 0]) hl5)
  have hx3 := (same_upd (o := .lst [.int 1, .int 2, .int 3, .int 2, .int 0]) hl5) _ _ hx2
  have hd3 := (same_upd (o := .lst [.int 1, .int 2, .int 3, .int 2, .int 0]) hl5) _ _ (upd_same (H := H1) (a := dh) (o := .lst []))
  obtain ⟨x0, hx0, _, _⟩ := hat 0 (by decide) (by decide)
  obtain ⟨m, hm, hm0, hm3⟩ : ∃ m : Int, atI [V.int 1, V.int 2, V.int 3, V.int 2, V.int 0] (x0 % 5) = some (.int m) ∧ 0 ≤ m ∧ m ≤ 3 := by
    have := mdd x0 5 (by decide)
    have h5 : x0 % 5 = 0 ∨ x0 % 5 = 1 ∨ x0 % 5 = 2 ∨ x0 % 5 = 3 ∨ x0 % 5 = 4 := by omega
    rcases h5 with h | h | h | h | h <;> rw [h]
    · exact ⟨1, rfl, by decide, by decide⟩
    · exact ⟨2, rfl, by decide, by decide⟩
    · exact ⟨3, rfl, by decide, by decide⟩
    · exact ⟨2, rfl, by decide, by decide⟩
    · exact ⟨0, rfl, by decide, by decide⟩
  refine ⟨_, rfl, xp, _, _, _, rfl, rfl, SqL.of hx3, hx0, _, _, rfl, rfl, (by show (0 : Int) < 5; decide), l5, _, _, _, rfl, rfl, SqL.of upd_same, hm, _, rfl, by omega, by omega, ?_⟩
  refine for_range (n := m.toNat) (fun j σ H' => Same H H' ∧ H' xp = some (.lst (xs.map V.int)) ∧ (∃ o5 o6 o7 o8 o9, σ = [some (.int c), some (.int k), some (.int n), some (.ref xp), some (.ref dh), o5, o6, o7, o8, o9]) ∧
      ∃ vs ds, H' dh = some (.lst vs) ∧ Paired (IsRD (gd H dh dh H')) vs ds ∧ ds.length = j ∧ ∀ x ∈ ds, OkRD n x)
    ⟨s3, hx3, ⟨_, _, _, _, _, rfl⟩, [], [], hd3, .nil, rfl, by simp⟩ ?_ ?_
  · rintro j σ H4 hj ⟨s4, hx4, ⟨o5, o6, o7, o8, o9, rfl⟩, vs, ds, hd4, hds, hdl, hdo⟩
    have hj3 : j < 3 := by omega
    have hzj : (0 : Int) + (j : Nat) = ((j : Nat) : Int) := Int.zero_add _
    rw [hzj]
    intro dk hdk
    have hHdk : H dk = none := s4.free hdk
    have hkd : dk ≠ dh := fun e => by rw [e, hd4] at hdk; cases hdk
    have s5 := same_upd (o := .dK []) hdk
    have hx5 := s5 _ _ hx4
    obtain ⟨x1, hx1, _, _⟩ := hat (1 + j) (by omega) (by omega)
    have t1 := mdd x1 3 (by decide)
    have hxk : xp ≠ dk := ne_of_none hx4 hdk
    refine ⟨_, rfl, _, rfl, _, _, rfl, rfl, xp, _, _, _, rfl, rfl, SqL.of hx5, hx1, _, _, rfl, rfl, (by show (0 : Int) < 3; decide), _, _, rfl, rfl, _, rfl, by omega, by omega, ?_⟩
    refine for_range (n := (1 + x1 % 3).toNat) (fun i σ H' => (∃ o7 o8, σ = [some (.int c), some (.int k), some (.int n), some (.ref xp), some (.ref dh), some (.int j), some (.ref dk), o7, o8, o9]) ∧
        ∃ ws : List (Nat × Int), H' = L2.upd H4 dk (.dK (ws.map encW)) ∧ (ws.map (·.1)).Nodup ∧ (∀ y ∈ ws, y.1 < n ∧ 1 ≤ y.2) ∧ (ws.map (·.2)).sum ≤ 6 * (i : Nat) ∧ ws.length ≤ i ∧ (0 < i → ws ≠ []))
      ⟨⟨_, _, rfl⟩, [], rfl, by simp, by simp, by simp, by simp, by simp⟩ ?_ ?_
    · rintro i σ _ hi ⟨⟨o7, o8, rfl⟩, ws, rfl, w1, w2, w3, w4, w5⟩
      have hi3 : i < 3 := by omega
      have hzi : (0 : Int) + (i : Nat) = ((i : Nat) : Int) := Int.zero_add _
      rw [hzi]
      obtain ⟨x2, hx2', _, _⟩ := hat (4 + 3 * j + i) (by omega) (by omega)
      obtain ⟨x3, hx3', _, _⟩ := hat (13 + 3 * j + i) (by omega) (by omega)
      have t2 := mdd x2 n (by omega)
      have t3 := mdd x3 6 (by decide)
      have hx6 : (L2.upd H4 dk (.dK (ws.map encW))) xp = _ := (upd_ne hxk).trans hx4
      obtain ⟨r, hr⟩ : ∃ r : Nat, x2 % n = r := ⟨(x2 % n).toNat, by omega⟩
      refine ⟨_, rfl, _, rfl, _, _, rfl, rfl, .inl ⟨by decide, by decide⟩, _, _, rfl, rfl, _, rfl, _, _, rfl, rfl, xp, _, _, _, rfl, rfl, SqL.of hx6, hx2', _, rfl, _, _, rfl, rfl, (by show (0 : Int) < n; omega), ?_⟩
      show gName 8 (V.int (x2 % n)) _ _ _
      rw [hr]
      refine ⟨_, rfl, dk, rfl, .inl ⟨_, .inl upd_same⟩, _, rfl, _, DGet.k (k := Sum.inl (r : Int)) upd_same, ?_⟩
      rw [valW r ws]
      refine ⟨_, _, rfl, rfl, _, rfl, _, rfl, _, _, rfl, rfl, .inl ⟨by decide, by decide⟩, _, _, rfl, rfl, _, rfl, _, _, rfl, rfl, xp, _, _, _, rfl, rfl, SqL.of hx6, hx3', _, _, rfl, rfl, (by show (0 : Int) < 6; decide), _, _, rfl, rfl, ?_⟩
      refine ⟨_, rfl, _, rfl, dk, _, rfl, DPut.k (k := Sum.inl (r : Int)) upd_same (by rw [List.length_map, sizeLine_eq]; omega), ?_⟩
      have ep := putW_eq r (getW ws r + (1 + x3 % 6)) ws w1
      have ew : getW ws r + 1 + x3 % 6 = getW ws r + (1 + x3 % 6) := by omega
      refine ⟨⟨_, _, rfl⟩, putW ws r (getW ws r + (1 + x3 % 6)), ?_, putW_nodup _ _ _ w1, fun y hy => ?_, ?_, ?_, fun _ => (putW_len _ _ _).2⟩
      · show L2.upd (L2.upd H4 dk _) dk (.dK (putK _ _ (.int (getW ws r + 1 + x3 % 6)))) = _
        rw [upd_upd, ew, ep]
      · rcases putW_mem _ _ _ y hy with h | h
        · rw [h]
          have := getW_nonneg (r := r) fun y hy => (w2 y hy).2
          exact ⟨by show r < n; omega, by show 1 ≤ getW ws r + (1 + x3 % 6); omega⟩
        · exact w2 y h
      · rw [putW_sum]; omega
      · have := (putW_len r (getW ws r + (1 + x3 % 6)) ws).1; omega
    · rintro σ _ ⟨⟨o7, o8, rfl⟩, ws, rfl, w1, w2, w3, w4, w5⟩
      have hx6 : (L2.upd H4 dk (.dK (ws.map encW))) xp = _ := (upd_ne hxk).trans hx4
      have s6 : Same H (L2.upd H4 dk (.dK (ws.map encW))) := same_off s4 hHdk
      have hd6 : (L2.upd H4 dk (.dK (ws.map encW))) dh = _ := (upd_ne hkd.symm).trans hd4
      have hk6 : (L2.upd H4 dk (.dK (ws.map encW))) dk = _ := upd_same
      have hb6 : ∀ b o, b ≠ dh → H4 b = some o → (L2.upd H4 dk (.dK (ws.map encW))) b = some o := fun b o _ e => (upd_ne (ne_of_none e hdk)).trans e
      generalize L2.upd H4 dk (.dK (ws.map encW)) = H6 at hx6 s6 hd6 hk6 hb6 ⊢
      obtain ⟨x22, hx22, b22, c22⟩ := hat (22 + j) (by omega) (by omega)
      obtain ⟨x25, hx25, _, _⟩ := hat (25 + j) (by omega) (by omega)
      obtain ⟨x28, hx28, b28, c28⟩ := hat 28 (by decide) (by decide)
      obtain ⟨x29, hx29, b29, c29⟩ := hat 29 (by decide) (by decide)
      have t4 := mdd x22 25 (by decide)
      have t5 := mdd x25 4 (by decide)
      have t6 := mdd x25 1000 (by decide)
      refine ⟨_, rfl, _, rfl, _, _, rfl, rfl, xp, _, _, _, rfl, rfl, SqL.of hx6, hx22, _, _, rfl, rfl, (by show (0 : Int) < 25; decide), _, _, rfl, rfl, _, rfl, _, rfl, _, _, rfl, rfl, xp, _, _, _, rfl, rfl, SqL.of hx6, hx25, _, _, rfl, rfl, (by show (0 : Int) < 4; decide), _, _, rfl, rfl, _, _, rfl, ⟨by omega, by omega⟩, fun pv H7 s7 hpv => ?_⟩
      have fin : ∀ (pv : V) (f : Frac) (H8 : Hp), Same H6 H8 → IsF H8 pv f → OkF 1000 f → (tDrop (tBM K "list" rAppend (tVar 4) (tCons (tTup (tCons (tVar 9) (tCons (LiI.tListItems (tVar 6)) tNil))) tNil)))
          { nx := fun σ H' => Same H H' ∧ H' xp = some (.lst (xs.map V.int)) ∧ (∃ o5 o6 o7 o8 o9, σ = [some (.int c), some (.int k), some (.int n), some (.ref xp), some (.ref dh), o5, o6, o7, o8, o9]) ∧
            ∃ vs ds, H' dh = some (.lst vs) ∧ Paired (IsRD (gd H dh dh H')) vs ds ∧ ds.length = j + 1 ∧ ∀ x ∈ ds, OkRD n x, rt := fun _ _ => False }
          [some (.int c), some (.int k), some (.int n), some (.ref xp), some (.ref dh), some (.int j), some (.ref dk), o7, o8, some pv] H8 := by
        intro pv f H8 s8 hpv hof
        have hx8 := s8 _ _ hx6
        have hd8 := s8 _ _ hd6
        have hk8 := s8 _ _ hk6
        have s8' := s6.trans s8
        refine ⟨_, rfl, tyL hd8, _, rfl, _, rfl, dk, _, rfl, hk8, fun H9 p ts s9 hp hts hpt hp9 hpd => ?_⟩
        refine ⟨by show 2 ≤ sizeLine; decide, fun T' hT' => ?_⟩
        have s9' : Same H8 H9 := s9
        have s10 := s9'.trans (same_upd (o := .tup [pv, .ref p]) hT')
        have hd10 := s10 _ _ hd8
        have hpdh : p ≠ dh := fun e => by rw [e, hd8] at hp; cases hp
        have hTdh : T' ≠ dh := fun e => by rw [e, s9' _ _ hd8] at hT'; cases hT'
        have hvl := hds.length
        refine ⟨dh, vs, _, rfl, rfl, hd10, by rw [hvl, hdl, sizeLine_eq]; omega, ?_⟩
        have s11 := same_off (o := .lst (vs ++ [.ref T'])) (s8'.trans s10) hHdh
        have hd11 : (L2.upd (L2.upd H9 T' (.tup [pv, .ref p])) dh (.lst (vs ++ [.ref T']))) dh = _ := upd_same
        refine ⟨s11, ?_, ⟨_, _, _, _, _, rfl⟩, _, ds ++ [(f, ws)], hd11, ?_, by simp [hdl], fun x hx => ?_⟩
        · rw [upd_ne hxd]
          exact s10 _ _ hx8
        · refine (hds.mono fun a b c => IsRD.mono (gd_mono fun b o h1 _ e => ?_) c).snoc ⟨T', pv, .ref p, rfl, ?_, ?_, p, ts.map V.ref, rfl, ?_, ?_⟩
          · rw [upd_ne h1]
            exact s10 _ _ (s8 _ _ (hb6 b o h1 e))
          · rw [gd_at (s8'.free (s9'.free hT')) hTdh hTdh, upd_ne hTdh]; exact upd_same
          · exact isf_gd ((hpv.mono s10).upd hd10 nt_lst) s11 hd11 hd11
          · rw [gd_at (s8'.free hp) hpdh hpdh, upd_ne hpdh]
            exact (same_upd hT') _ _ hp9
          · exact paired_iw hpd fun t x ht => isiw_gd ⟨t, rfl, by rw [upd_ne (ne_of ((same_upd (o := .tup [pv, .ref p]) hT') _ _ ht) hd10 fun z => by cases z)]; exact (same_upd hT') _ _ ht⟩ s11 hd11 hd11
        · rcases List.mem_append.mp hx with h | h
          · exact hdo x h
          · simp at h
            subst h
            have hi1 : 0 < (1 + x1 % 3).toNat := by omega
            exact ⟨hof, w5 hi1, by show ws.length ≤ 3; omega, w1, w2, by show (ws.map (·.2)).sum ≤ 18; omega⟩
      refine ⟨_, rfl, xp, _, _, _, rfl, rfl, SqL.of (s7 _ _ hx6), hx28, _, _, rfl, rfl, (by show (0 : Int) < 6; decide), rfl, _, rfl, ?_⟩
      refine ite2 (fun h1 => ?_) (fun h1 => ?_)
      · refine ⟨_, rfl, _, rfl, _, _, rfl, rfl, xp, _, _, _, rfl, rfl, SqL.of (s7 _ _ hx6), hx22, _, rfl, xp, _, _, _, rfl, rfl, SqL.of (s7 _ _ hx6), hx29, _, _, rfl, rfl, .inl ⟨by omega, by omega⟩, _, rfl, xp, _, _, _, rfl, rfl, SqL.of (s7 _ _ hx6), hx28, _, _, rfl, rfl, .inr ⟨by omega, by omega⟩, ?_⟩
        refine ⟨_, _, rfl, rfl, ⟨by decide, by decide, by decide⟩, _, _, rfl, rfl, _, rfl, _, rfl, _, _, rfl, rfl, xp, _, _, _, rfl, rfl, SqL.of (s7 _ _ hx6), hx25, _, _, rfl, rfl, (by show (0 : Int) < 1000; decide), _, _, rfl, rfl, _, _, rfl, ⟨by omega, by omega⟩, fun pv2 H8 s8 hpv2 => ?_⟩
        refine fin pv2 _ H8 (s7.trans s8) hpv2 (okF_mk (by omega) (by omega) ?_)
        have a1 : x22 * x29 ≤ 2 ^ 31 * 2 ^ 31 := Int.mul_le_mul (by omega) (by omega) (by omega) (by omega)
        have a0 : 0 ≤ x22 * x29 := Int.mul_nonneg (by omega) (by omega)
        have a2 : x22 * x29 * x28 ≤ 2 ^ 31 * 2 ^ 31 * 2 ^ 31 := Int.mul_le_mul a1 (by omega) (by omega) (by omega)
        have a3 : 0 ≤ x22 * x29 * x28 := Int.mul_nonneg a0 (by omega)
        have e27 : (10 : Int) ^ (27 : Int).toNat = 1000000000000000000000000000 := by decide +kernel
        show (x22 * x29 * x28 - 10 ^ (27 : Int).toNat).natAbs < 10 ^ 29
        rw [e27]
        omega
      · exact fin pv _ H7 s7 hpv (okF_mk (by omega) (by omega) (by omega))
  · rintro σ H4 ⟨s4, hx4, ⟨o5, o6, o7, o8, o9, rfl⟩, vs, ds, hd4, hds, hdl, hdo⟩
    exact ⟨_, rfl, q _ ds _ s4 ⟨dh, vs, rfl, by rw [nw_new hHdh]; exact hd4, hds.mono fun a b c => IsRD.mono gd_le c⟩ (by omega) hdo⟩
theorem okSh_mk {t b : Int} (hb : 0 < b) (hb2 : b ≤ 100) (h0 : 0 ≤ t) (h1 : t < b) : OkSh (mkF t b) := by
  have g1 := gcd_pos (t := t) hb
  refine ⟨isFrac_mk hb, ?_, Int.ediv_nonneg h0 (by omega), ?_⟩
  · show b / (Int.gcd t b : Int) ≤ 100
    have : b / (Int.gcd t b : Int) ≤ b := Int.ediv_le_self _ (by omega)
    omega
  · show t / (Int.gcd t b : Int) < b / (Int.gcd t b : Int)
    obtain ⟨u, hu⟩ := Int.gcd_dvd_left t b
    obtain ⟨v, hv⟩ := Int.gcd_dvd_right t b
    generalize (Int.gcd t b : Int) = g at g1 hu hv ⊢
    rw [hu, hv, Int.mul_ediv_cancel_left _ (by omega), Int.mul_ediv_cancel_left _ (by omega)]
    rw [hu, hv] at h1
    exact Int.lt_of_mul_lt_mul_left h1 (by omega)
theorem cal_drawn (F : Fn K mg "_law_drawn" s__law_drawn) (B : Blt mg) (c__law_cell : CalX P w K mg base 1 "_law_cell" (spCell K)) (c__law_stream : CalX P w K mg base 1 "_law_stream" spStream) (c__law_lowest : CalX P w K mg base 2 "_law_lowest" spLowest) (c__law_doors : CalX P w K mg base 3 "_law_doors" spDoorsL) : CalX P w K mg base 4 "_law_drawn" (spDrawn K) := by
  refine calx F sc__law_drawn (fun _ _ _ _ _ _ us hl => match us, hl with | [_, _, _], _ => rfl) (fun vs H Q E h => by obtain ⟨x, _, rfl, _⟩ := h; rfl) ?_
  intro f cdv A' outer s H vs Q E hr hT hx hu h
  refine ⟨_, (pss_cons (ps_set (i := 3) sc__law_drawn.nd rfl (Or.inl rfl) (pe_cx c__law_stream hr (by decide) rfl hx (pa_cons (pe_cx c__law_cell hr (by decide) rfl hx (pa_cons (pv 0) (pa_cons (pv 1) pa_nil))) (pa_cons pe_int pa_nil))))
      (pss_cons (ps_set (i := 4) sc__law_drawn.nd rfl (Or.inr rfl) (pe_op op_add pe_int (pe_op op_mod (pe_ix ix_list (pv 3) pe_int (fun _ _ => rfl)) (pv 2))))
      (pss_cons (ps_set (i := 5) sc__law_drawn.nd rfl (Or.inl rfl) (pe_op op_add pe_int (pe_op op_mod (pe_ix ix_list (pv 3) pe_int (fun _ _ => rfl)) (pe_ix ix_list (pe_lst (pa_cons pe_int (pa_cons pe_int pa_nil))) (pe_op op_mod (pe_ix ix_list (pv 3) pe_int (fun _ _ => rfl)) pe_int) (fun _ _ => rfl)))))
      (pss_cons (ps_setLc (i := 6) (own := [("_law_k", 7)]) rfl sc__law_drawn.nd rfl rfl (sw_true rfl rfl rfl (by decide +kernel)) (pi_range1 rfl B.range (pa_cons (pv 4) pa_nil)) (blkOk_by (own := [("_law_k", 7)]) (N := ["_law_script", "_law_at", "_law_most", "_law_xs", "_law_many", "_law_bottom", "_law_rooms", "_law_k"]) (sc := defScope s__law_drawn) (by decide +kernel)) (fun _ _ _ _ _ => (pg_name (i := 7) sc__law_drawn.nd rfl (Or.inl rfl))) (fun _ _ _ _ _ => pts_nil) (fun _ _ _ _ _ => (pe_cx c__law_doors hr (by decide) rfl passL (pa_cons (pe_cx c__law_cell hr (by decide) rfl passL (pa_cons (pv 0) (pa_cons (pe_op op_add (pe_op op_add (pv 1) pe_int) (pv 7)) pa_nil))) (pa_cons (pv 7) (pa_cons (pv 4) pa_nil))))))
      (pss_one (ps_ret (pe_tup (pa_cons (pe_cx c__law_lowest hr (by decide) rfl hx (pa_cons (pe_op op_mod (pe_ix ix_list (pv 3) pe_int (fun _ _ => rfl)) (pv 5)) (pa_cons (pv 5) pa_nil))) (pa_cons (pv 6) pa_nil))))))))), ?_⟩
  obtain ⟨sc, ns, rfl, hs, hn, q⟩ := h
  have mdd : ∀ z m : Int, 0 < m → 0 ≤ z % m ∧ z % m < m := fun z m hm => ⟨Int.emod_nonneg _ (by omega), Int.emod_lt_of_pos _ hm⟩
  refine ⟨_, rfl, _, rfl, _, ns, 0, rfl, hs, hn, fun c0 H1 s1 => ?_⟩
  refine ⟨c0, 4, rfl, by decide, fun xp xs H2 s2 hx hxl hxb => ?_⟩
  have hat : ∀ i : Int, 0 ≤ i → i < 4 → ∃ x : Int, atI (xs.map V.int) i = some (.int x) ∧ 0 ≤ x ∧ x < 2 ^ 31 := fun i h0 h1 => by
    obtain ⟨x, hm, e⟩ := atI_int (xs := xs) (i := i) h0 (by omega)
    exact ⟨x, e, hxb x hm⟩
  obtain ⟨x0, hx0, _, _⟩ := hat 0 (by decide) (by decide)
  obtain ⟨x1, hx1, _, _⟩ := hat 1 (by decide) (by decide)
  obtain ⟨x2, hx2, _, _⟩ := hat 2 (by decide) (by decide)
  obtain ⟨x3, hx3, _, _⟩ := hat 3 (by decide) (by decide)
  have s12 := s1.trans s2
  have t0 := mdd x0 3 (by decide)
  have t2 := mdd x2 2 (by decide)
  refine ⟨_, rfl, xp, _, _, _, rfl, rfl, SqL.of hx, hx0, _, rfl, _, _, rfl, rfl, (by show (0 : Int) < 3; decide), _, _, rfl, rfl, ?_⟩
  obtain ⟨m, hm⟩ : ∃ m : Nat, 1 + x0 % 3 = m := ⟨(1 + x0 % 3).toNat, by omega⟩
  have hm1 : 1 ≤ m ∧ m ≤ 3 := by omega
  show gName 4 (V.int (1 + x0 % 3)) _ _ _
  rw [hm]
  refine ⟨_, rfl, xp, _, _, _, rfl, rfl, SqL.of hx, hx1, by show 2 ≤ sizeLine; decide, fun l hl => ?_⟩
  have s3 := same_upd (o := .lst [.int 12, .int 100]) hl
  obtain ⟨bd, hbd, hb0, hb1⟩ : ∃ bd : Int, atI [V.int 12, V.int 100] (x2 % 2) = some (.int bd) ∧ 0 < bd ∧ bd ≤ 100 := by
    have h2 : x2 % 2 = 0 ∨ x2 % 2 = 1 := by omega
    rcases h2 with h | h <;> rw [h]
    · exact ⟨12, rfl, by decide, by decide⟩
    · exact ⟨100, rfl, by decide, by decide⟩
  have t1 := mdd x1 bd hb0
  refine ⟨_, rfl, xp, _, _, _, rfl, rfl, SqL.of (s3 _ _ hx), hx2, _, _, rfl, rfl, (by show (0 : Int) < 2; decide), l, _, _, _, rfl, rfl, SqL.of upd_same, hbd, _, _, rfl, rfl, hb0, _, _, rfl, rfl, ?_⟩
  have s13 := s12.trans s3
  have hxx := s3 _ _ hx
  have hsS : SqL K (L2.upd H2 l (.lst [.int 12, .int 100])) sc (ns.map V.int) := s13.seq hs
  generalize L2.upd H2 l (.lst [.int 12, .int 100]) = H3 at s13 hxx hsS ⊢
  refine ⟨_, rfl, _, rfl, by omega, by omega, ?_⟩
  rw [Int.toNat_natCast]
  intro D hD
  have hHD : H D = none := s13.free hD
  have hxD : xp ≠ D := ne_of_none hxx hD
  refine lc_it (walk_range (lo := 0) (n := m)) (fun i H' => Same H3 H' ∧ ∃ vs rs, H' D = some (.lst vs) ∧ Paired (IsRDs (L2.del H' D)) vs rs ∧ rs.length = i ∧ ∀ r ∈ rs, r.length ≤ 3 ∧ ∀ x ∈ r, OkRD m x)
    ⟨same_upd hD, [], [], upd_same, .nil, rfl, by simp⟩ (fun _ _ _ _ => trivial) ?_ ?_
  · rintro i _ H4 _ hi ⟨s4, vs, rs, hv, hps, hrl, hro⟩ ⟨rfl, rfl⟩
    have hzi : (0 : Int) + (i : Nat) = ((i : Nat) : Int) := Int.zero_add _
    show gName 7 (V.int (0 + (i : Nat))) _ _ _
    rw [hzi]
    refine ⟨rfl, ?_⟩
    refine ⟨_, rfl, _, rfl, _, _, rfl, rfl, _, rfl, _, _, rfl, rfl, _, ns, 0 + 1 + i, by simp, s4.seq hsS, hn, fun ci H5 s5 => ?_⟩
    refine ⟨_, rfl, _, rfl, ci, i, m, rfl, by omega, hm1.1, hm1.2, fun v ds H6 s6 hv6 hdl hdo => ?_⟩
    have s7 := s5.trans s6
    have hv7 := s7 _ _ hv
    refine ⟨vs, hv7, by rw [hps.length, hrl, sizeLine_eq]; omega, same_off (s4.trans s7) hD, vs ++ [v], rs ++ [ds], upd_same, ?_, by simp [hrl], fun r hr => ?_⟩
    · rw [del_upd]
      refine (hps.mono fun a b c => IsRDs.mono (same_dels s7) c).snoc (IsRDs.mono (fun b o e => ?_) hv6)
      have n1 : b ≠ D := fun z => by rw [z] at e; unfold nw at e; rw [s5 _ _ hv] at e; cases e
      rw [del_ne n1]
      exact nw_le _ _ e
    · rcases List.mem_append.mp hr with h | h
      · exact hro r h
      · simp at h; subst h; exact ⟨hdl, hdo⟩
  · rintro H4 ⟨s4, vs, rs, hv, hps, hrl, hro⟩
    have s14 := s13.trans s4
    have hb3 : 0 < 1 + x1 % bd := by omega
    have t3 := mdd x3 (1 + x1 % bd) hb3
    refine ⟨_, rfl, xp, _, _, _, rfl, rfl, SqL.of (s4 _ _ hxx), hx3, _, rfl, _, _, rfl, rfl, hb3, _, rfl, _, _, rfl, ⟨hb3, by show 1 + x1 % bd < 2 ^ 30; omega⟩, fun fv H5 s5 hfv => ?_⟩
    refine ⟨_, rfl, by show 2 ≤ sizeLine; decide, fun p hp => ?_⟩
    have s6 := same_upd (o := .tup [fv, .ref D]) hp
    have s7 := s5.trans s6
    refine q p fv (.ref D) _ rs _ (s14.trans s7) upd_same (hfv.mono s6) ⟨D, vs, rfl, s7 _ _ hv, hps.mono fun a b c => IsRDs.mono (del_le.trans s7) c⟩ (okSh_mk hb3 (by omega) t3.1 t3.2) ⟨by omega, by omega, fun r hr => ?_⟩
    rw [hrl]
    exact hro r hr
theorem cal_chances (F : Fn K mg "_law_chances" s__law_chances) (B : Blt mg) (c__law_lowest : CalX P w K mg base 2 "_law_lowest" spLowest) : CalX P w K mg base 3 "_law_chances" spChances := by
  refine calx F sc__law_chances (fun _ _ _ _ _ _ us hl => match us, hl with | [_], _ => rfl) (fun vs H Q E h => by obtain ⟨x, _, rfl, _⟩ := h; rfl) ?_
  intro f cdv A' outer s H vs Q E hr hT hx hu h
  refine ⟨_, (pss_cons (ps_set (i := 1) sc__law_chances.nd rfl (Or.inr rfl) (pe_callB (cr_sum rfl) (by rfl) B.sum (by decide +kernel) (pa_cons (pe_lc (own := [("_law_room", 2), ("_law_weight", 3)]) rfl sc__law_chances.nd (pi_list (pv 0)) (blkOk_by (own := [("_law_room", 2), ("_law_weight", 3)]) (N := ["_law_ways", "_law_bottom", "_law_room", "_law_weight"]) (sc := defScope s__law_chances) (by decide +kernel)) (fun _ _ _ _ _ => (show PG _ _ (gTup K 2 _) from pg_tup rfl (pgs_cons (pg_name (i := 2) sc__law_chances.nd rfl (Or.inl rfl)) (pgs_cons (pg_name (i := 3) sc__law_chances.nd rfl (Or.inl rfl)) pgs_nil)))) (fun _ _ _ _ _ => pts_nil) (fun _ _ _ _ _ => (pv 3))) pa_nil)))
      (pss_one (ps_ret (pe_lc (own := [("_law_room", 2), ("_law_weight", 3)]) rfl sc__law_chances.nd (pi_list (pv 0)) (blkOk_by (own := [("_law_room", 2), ("_law_weight", 3)]) (N := ["_law_ways", "_law_bottom", "_law_room", "_law_weight"]) (sc := defScope s__law_chances) (by decide +kernel)) (fun _ _ _ _ _ => (show PG _ _ (gTup K 2 _) from pg_tup rfl (pgs_cons (pg_name (i := 2) sc__law_chances.nd rfl (Or.inl rfl)) (pgs_cons (pg_name (i := 3) sc__law_chances.nd rfl (Or.inl rfl)) pgs_nil)))) (fun _ _ _ _ _ => pts_nil) (fun _ _ _ _ _ => (pe_tup (pa_cons (pv 2) (pa_cons (pe_cx c__law_lowest hr (by decide) rfl passL (pa_cons (pv 3) (pa_cons (pv 1) pa_nil))) pa_nil)))))))), ?_⟩
  obtain ⟨v, ws, rfl, hw, hl, hb, q⟩ := h
  obtain ⟨p, vs, rfl, hp, hps⟩ := hw
  have hvl := hps.length
  refine ⟨_, rfl, p, rfl, ⟨_, SqL.of hp⟩, fun D hD => ?_⟩
  refine lc_list (xs := vs) (fun i H' => H' = L2.upd H D (.lst (((ws.take i).map (·.2)).map V.int))) rfl (fun i H' _ h => by rw [h]; exact SqL.of ((upd_ne (ne_of_none hp hD)).trans hp)) ?_ ?_
  · rintro i y _ hi rfl
    obtain ⟨x, hx, t, rfl, ht⟩ := paired_get hps hi
    refine ⟨_, _, rfl, SqT.of ((upd_ne (ne_of_none ht hD)).trans ht), rfl, ?_⟩
    walk_at "rd"
    refine ⟨_, upd_same, by simp only [List.length_map, List.length_take]; rw [sizeLine_eq]; omega, ?_⟩
    rw [upd_upd, take_snoc hx]
    simp
  · rintro _ rfl
    rw [hvl, List.take_length]
    have s1 := same_upd (o := .lst ((ws.map (·.2)).map V.int)) hD
    refine ⟨D, _, rfl, SqL.of upd_same, ?_⟩
    refine ⟨_, rfl, p, rfl, ⟨_, SqL.of (s1 _ _ hp)⟩, fun D2 hD2 => ?_⟩
    refine lc_list (xs := vs) (fun i H' => Same H H' ∧ H D2 = none ∧ ∃ us, H' D2 = some (.lst us) ∧ Paired (IsWay H') us ((chancesM ws).take i)) ⟨s1.trans (same_upd hD2), s1.free hD2, [], upd_same, .nil⟩ (fun i H' _ h => SqL.of (h.1 _ _ hp)) ?_ ?_
    · rintro i y H' hi ⟨s2, hn2, us, hu, hus⟩
      obtain ⟨x, hx, t, rfl, ht⟩ := paired_get hps hi
      have hcx : (chancesM ws)[i]? = some (x.1, mkF x.2 (ws.map (·.2)).sum) := by unfold chancesM; rw [List.getElem?_map, hx]; rfl
      refine ⟨_, _, rfl, SqT.of (s2 _ _ ht), rfl, ?_⟩
      refine ⟨_, _, rfl, _, _, rfl, rfl, rfl, ?_⟩
      refine ⟨_, rfl, _, rfl, _, rfl, x.2, (ws.map (·.2)).sum, rfl, hb, fun v H3 s3 hv => ?_⟩
      refine ⟨by show 2 ≤ sizeLine; decide, fun t2 ht2 => ?_⟩
      have s4 := s3.trans (same_upd (o := .tup [.int (x.1 : Nat), v]) ht2)
      have hu4 := s4 _ _ hu
      refine ⟨us, hu4, by rw [hus.length, List.length_take, sizeLine_eq]; unfold chancesM; rw [List.length_map]; omega, same_off (s2.trans s4) hn2, hn2, _, upd_same, ?_⟩
      rw [take_snoc hcx]
      exact (hus.mono fun a b k => (IsWay.mono s4 k).upd hu4 nt_lst).snoc (IsWay.upd ⟨t2, v, rfl, upd_same, hv.mono (same_upd ht2)⟩ hu4 nt_lst)
    · rintro H' ⟨s2, hn2, us, hu, hus⟩
      rw [hvl, List.take_of_length_le (by unfold chancesM; rw [List.length_map]; exact Nat.le_refl _)] at hus
      exact q _ _ s2 ⟨D2, us, rfl, hu, hus⟩
theorem le_sumW : ∀ {ws : List (Nat × Int)}, (∀ y ∈ ws, 1 ≤ y.2) → ∀ y ∈ ws, y.2 ≤ (ws.map (·.2)).sum
  | [], _, y, h => by cases h
  | x :: t, h, y, hy => by
    have h0 := h x (by simp)
    have ht : 0 ≤ (t.map (·.2)).sum := sum_nn t fun z hz => h z (by simp [hz])
    rw [List.map_cons, List.sum_cons]
    rcases List.mem_cons.mp hy with e | hy
    · rw [e]; omega
    · have := le_sumW (fun z hz => h z (by simp [hz])) y hy; omega
where
  sum_nn : ∀ t : List (Nat × Int), (∀ y ∈ t, 1 ≤ y.2) → 0 ≤ (t.map (·.2)).sum
    | [], _ => by simp
    | x :: t, h => by
      have h0 := h x (by simp)
      have := sum_nn t fun z hz => h z (by simp [hz])
      rw [List.map_cons, List.sum_cons]; omega
theorem mk_small {t b : Int} (h : t.natAbs < 1000) (hb : 0 < b) (hb2 : b ≤ 1000) : (mkF t b).1.natAbs < 1000 ∧ 0 < (mkF t b).2 ∧ (mkF t b).2 ≤ 1000 := by
  have g1 := gcd_pos (t := t) hb
  refine ⟨Nat.lt_of_le_of_lt (Int.natAbs_ediv_le_natAbs _ _) h, Int.ediv_pos_of_pos_of_dvd hb (by omega) (Int.gcd_dvd_right t b), ?_⟩
  show b / (Int.gcd t b : Int) ≤ 1000
  have : b / (Int.gcd t b : Int) ≤ b := Int.ediv_le_self _ (by omega)
  omega
def rows0 (f : Frac) (names : List Wd) : List Wd := (([115, 104, 97, 114, 101, 32] : Wd) ++ numText f) :: names.map (([114, 111, 111, 109, 32] : Wd) ++ ·)
def rowsR (rs : List (List RDoor)) (names : List Wd) (k : Nat) : List Wd := ((List.range k).map fun k => (List.range (rs.getD k []).length).map fun j => doorRow names k j ((rs.getD k []).getD j ((0, 1), []))).flatten
theorem rowsR_len {rs : List (List RDoor)} {names : List Wd} (hok : OkRR rs) : ∀ k, k ≤ rs.length → (rowsR rs names k).length ≤ 3 * k
  | 0, _ => by simp [rowsR]
  | k + 1, h => by
    have ih := rowsR_len hok (names := names) k (by omega)
    unfold rowsR at ih ⊢
    rw [List.range_succ, List.map_append, List.flatten_append, List.length_append]
    have e : rs.getD k [] = rs[k] := by rw [List.getD_eq_getElem?_getD, List.getElem?_eq_getElem (by omega)]; rfl
    have := (hok.2.2 rs[k] (List.getElem_mem (by omega))).1
    simp only [List.map_cons, List.map_nil, List.flatten_cons, List.flatten_nil, List.append_nil, List.length_map, List.length_range]
    rw [e]
    omega
theorem flat_len {c : Nat} : ∀ l : List Wd, (∀ y ∈ l, y.length ≤ c) → l.flatten.length ≤ l.length * c
  | [], _ => by simp
  | y :: l, h => by
    have h1 := h y (by simp)
    have h2 := flat_len l fun z hz => h z (by simp [hz])
    rw [List.flatten_cons, List.length_append, List.length_cons, Nat.succ_mul]
    omega
theorem cal_rows (F : Fn K mg "_law_rows" s__law_rows) (B : Blt mg) (c__law_number : CalX P w K mg base 1 "_law_number" spNumText) (c__law_chances : CalX P w K mg base 3 "_law_chances" spChances) : CalX P w K mg base 4 "_law_rows" spRows := by
  refine calx F sc__law_rows (fun _ _ _ _ _ _ us hl => match us, hl with | [_, _, _], _ => rfl) (fun vs H Q E h => by obtain ⟨x, _, _, _, _, _, rfl, _⟩ := h; rfl) ?_
  intro f cdv A' outer s H vs Q E hr hT hx hu h
  refine ⟨_, (pss_cons (ps_set (i := 3) sc__law_rows.nd rfl (Or.inl rfl) (pe_op op_cat (pe_lst (pa_cons (pe_op op_add_w (pe_litc (l := [115, 104, 97, 114, 101, 32]) (by decide +kernel)) (pe_cx c__law_number hr (by decide) rfl hx (pa_cons (pv 0) pa_nil))) pa_nil)) (pe_lc (own := [("_law_name", 11)]) rfl sc__law_rows.nd (pi_list (pv 2)) (blkOk_by (own := [("_law_name", 11)]) (N := ["_law_share", "_law_rooms", "_law_names", "_law_found", "_law_k", "_law_j", "_law_pay", "_law_ways", "_law_row", "_law_room", "_law_chance", "_law_name"]) (sc := defScope s__law_rows) (by decide +kernel)) (fun _ _ _ _ _ => (pg_name (i := 11) sc__law_rows.nd rfl (Or.inl rfl))) (fun _ _ _ _ _ => pts_nil) (fun _ _ _ _ _ => (pe_op op_add_w (pe_litc (l := [114, 111, 111, 109, 32]) (by decide +kernel)) (pv 11))))))
      (pss_cons (ps_for (passes_of rfl) rfl (pi_range1 rfl B.range (pa_cons (pe_callB call_len (by rfl) B.len (by decide +kernel) (pa_cons (pv 1) pa_nil)) pa_nil)) (pg_name (i := 4) sc__law_rows.nd rfl (Or.inl rfl))
        (pss_one (ps_for (passes_of rfl) rfl (pi_range1 rfl B.range (pa_cons (pe_callB call_len (by rfl) B.len (by decide +kernel) (pa_cons (pe_ix ix_list (pv 1) (pv 4) (fun _ _ => rfl)) pa_nil)) pa_nil)) (pg_name (i := 5) sc__law_rows.nd rfl (Or.inl rfl))
          (pss_cons (ps_asg (pe_ix ix_list (pe_ix ix_list (pv 1) (pv 4) (fun _ _ => rfl)) (pv 5) (fun _ _ => rfl)) (pg_tup rfl (pgs_cons (pg_name (i := 6) sc__law_rows.nd rfl (Or.inl rfl)) (pgs_cons (pg_name (i := 7) sc__law_rows.nd rfl (Or.inl rfl)) pgs_nil))))
          (pss_cons (ps_set (i := 8) sc__law_rows.nd rfl (Or.inl rfl) (pe_op op_add_w (pe_op op_add_w (pe_op op_add_w (pe_op op_add_w (pe_op op_add_w (pe_op op_add_w (pe_litc (l := [100, 111, 111, 114, 32]) (by decide +kernel)) (pe_ix ix_list (pv 2) (pv 4) (fun _ _ => rfl))) (pe_litc (l := [32]) (by decide +kernel))) (pe_ix ix_str (pe_litc (l := [103, 100, 97, 98]) (by decide +kernel)) (pv 5) (fun _ _ => rfl))) (pe_litc (l := [32]) (by decide +kernel))) (pe_cx c__law_number hr (by decide) rfl hx (pa_cons (pv 6) pa_nil))) (pe_litc (l := [32, 109, 105, 120, 101, 100]) (by decide +kernel))))
          (pss_cons (ps_for (passes_of rfl) rfl (pi_list (pe_cx c__law_chances hr (by decide) rfl hx (pa_cons (pv 7) pa_nil))) (pg_tup rfl (pgs_cons (pg_name (i := 9) sc__law_rows.nd rfl (Or.inl rfl)) (pgs_cons (pg_name (i := 10) sc__law_rows.nd rfl (Or.inl rfl)) pgs_nil)))
            (pss_one (ps_set (i := 8) sc__law_rows.nd rfl (Or.inl rfl) (pe_op op_add_w (pe_op op_add_w (pe_op op_add_w (pe_op op_add_w (pv 8) (pe_litc (l := [32]) (by decide +kernel))) (pe_ix ix_list (pv 2) (pv 9) (fun _ _ => rfl))) (pe_litc (l := [32]) (by decide +kernel))) (pe_cx c__law_number hr (by decide) rfl hx (pa_cons (pv 10) pa_nil))))))
          (pss_one (ps_expr (pe_bm PySem.F.plainAttrs_list PySem.F.slot_list_append PySem.F.type_list_append mt_append (pv 3) (pa_cons (pv 8) pa_nil))))))))))
      (pss_one (ps_ret (pv 3))))), ?_⟩
  obtain ⟨fv, rv, nv, fr, rs, names, rfl, hf, hr', hn, hsh, hok, hnl, hn3, q⟩ := h
  obtain ⟨rp, rvs, rfl, hrp, hrs⟩ := hr'
  obtain ⟨np, rfl, hnp⟩ := hn
  obtain ⟨hr1, hr3, hro⟩ := hok
  obtain ⟨sh1, sh2, sh3, sh4⟩ := hsh
  have hrn := hrs.length
  have b200 : (10 : Nat) ^ 29 < 2 ^ 200 := by decide +kernel
  have c200 : (1000 : Nat) < 2 ^ 200 := by decide +kernel
  have hsn := numText_len (f := fr) (by omega) (by omega)
  refine ⟨_, rfl, _, fr, rfl, hf, by omega, by omega, _, _, rfl, rfl, by rw [sizeLine_eq]; simp only [List.length_cons, List.length_nil]; omega, by show 1 ≤ sizeLine; decide, fun l1 hl1 => ?_⟩
  have s1 := same_upd (o := .lst [sv (([115, 104, 97, 114, 101, 32] : Wd) ++ numText fr)]) hl1
  refine ⟨_, rfl, np, rfl, ⟨_, SqL.of (s1 _ _ hnp)⟩, fun D hD => ?_⟩
  have s2 := fun o => s1.trans (same_upd (o := o) hD)
  refine lc_list (xs := names.map sv) (fun i H' => H' = L2.upd (L2.upd H l1 (.lst [sv (([115, 104, 97, 114, 101, 32] : Wd) ++ numText fr)])) D (.lst ((names.take i).map fun x => sv (([114, 111, 111, 109, 32] : Wd) ++ x)))) rfl (fun i H' _ h => by rw [h]; exact SqL.of (s2 _ _ _ hnp)) ?_ ?_
  · rintro i y _ hi rfl
    rw [List.getElem?_map] at hi
    cases hti : names[i]? with
    | none => rw [hti] at hi; cases hi
    | some z =>
      rw [hti] at hi
      have hi' : sv z = y := Option.some.inj hi
      subst hi'
      have hzl := hn3 z (mem_at hti)
      refine ⟨rfl, ?_⟩
      refine ⟨_, rfl, _, _, rfl, rfl, by rw [sizeLine_eq]; simp only [List.length_cons, List.length_nil]; omega, ?_⟩
      refine ⟨_, upd_same, by simp only [List.length_map, List.length_take]; rw [sizeLine_eq]; omega, ?_⟩
      rw [upd_upd, take_snoc hti]
      simp
  rintro _ rfl
  rw [List.length_map, List.take_length]
  have hl1D : l1 ≠ D := ne_of_none upd_same hD
  refine ⟨l1, D, _, _, rfl, rfl, (upd_ne hl1D).trans upd_same, upd_same, by simp only [List.length_cons, List.length_nil, List.length_map]; rw [sizeLine_eq]; omega, fun fp hfp => ?_⟩
  have e0 : [sv (([115, 104, 97, 114, 101, 32] : Wd) ++ numText fr)] ++ names.map (fun x => sv (([114, 111, 111, 109, 32] : Wd) ++ x)) = (rows0 fr names ++ rowsR rs names 0).map sv := by
    unfold rows0 rowsR
    simp
  rw [e0]
  have s3 := fun o => (s2 (.lst (names.map fun x => sv (([114, 111, 111, 109, 32] : Wd) ++ x)))).trans (same_upd (o := o) hfp)
  have hHfp : H fp = none := (s2 _).free hfp
  have hf3 : (L2.upd (L2.upd (L2.upd H l1 (.lst [sv (([115, 104, 97, 114, 101, 32] : Wd) ++ numText fr)])) D (.lst (names.map fun x => sv (([114, 111, 111, 109, 32] : Wd) ++ x)))) fp (.lst ((rows0 fr names ++ rowsR rs names 0).map sv))) fp = some (.lst ((rows0 fr names ++ rowsR rs names 0).map sv)) := upd_same
  have s3' := s3 (.lst ((rows0 fr names ++ rowsR rs names 0).map sv))
  show gName 3 (V.ref fp) _ _ _
  generalize L2.upd (L2.upd (L2.upd H l1 (.lst [sv (([115, 104, 97, 114, 101, 32] : Wd) ++ numText fr)])) D (.lst (names.map fun x => sv (([114, 111, 111, 109, 32] : Wd) ++ x)))) fp (.lst ((rows0 fr names ++ rowsR rs names 0).map sv)) = H3 at hf3 s3' ⊢
  refine ⟨_, rfl, _, _, rfl, lenL (s3' _ _ hrp), _, rfl, by omega, by omega, ?_⟩
  rw [Int.toNat_natCast, hrn]
  have hr0l : (rows0 fr names).length = 1 + names.length := by unfold rows0; simp; omega
  refine for_range (n := rs.length) (fun k σ H' => Same H H' ∧ (∃ o4 o5 o6 o7 o8 o9 oA oB, σ = [some fv, some (.ref rp), some (.ref np), some (.ref fp), o4, o5, o6, o7, o8, o9, oA, oB]) ∧ H' fp = some (.lst ((rows0 fr names ++ rowsR rs names k).map sv)))
    ⟨s3', ⟨_, _, _, _, _, _, _, _, rfl⟩, hf3⟩ ?_ ?_
  · rintro k σ H4 hk ⟨s4, ⟨o4, o5, o6, o7, o8, o9, oA, oB, rfl⟩, hf4⟩
    rw [show (0 : Int) + (k : Nat) = ((k : Nat) : Int) from Int.zero_add _]
    have hrk : rs[k]? = some rs[k] := List.getElem?_eq_getElem hk
    have hgd : rs.getD k [] = rs[k] := by rw [List.getD_eq_getElem?_getD, hrk]; rfl
    obtain ⟨hr4, hx4⟩ := hro _ (mem_at hrk)
    generalize rs[k] = r at hrk hgd hr4 hx4
    obtain ⟨_, hvk, dp, dvs, rfl, hdp, hdvs⟩ := paired_get' hrs hrk
    have hdn := hdvs.length
    have hRl := rowsR_len (names := names) ⟨hr1, hr3, hro⟩ k (by omega)
    have hkn : k < names.length := by omega
    have hnk : names[k]? = some names[k] := List.getElem?_eq_getElem hkn
    have hgn : names.getD k [] = names[k] := by rw [List.getD_eq_getElem?_getD, hnk]; rfl
    have hnk3 := hn3 _ (mem_at hnk)
    rw [← hgn] at hnk hnk3
    refine ⟨_, rfl, _, rfl, rp, _, _, _, rfl, rfl, SqL.of (s4 _ _ hrp), atI_nat hvk, _, _, rfl, lenL (s4 _ _ hdp), _, rfl, by omega, by omega, ?_⟩
    rw [Int.toNat_natCast, hdn]
    refine for_range (n := r.length) (fun j σ H' => Same H H' ∧ (∃ o5 o6 o7 o8 o9 oA oB, σ = [some fv, some (.ref rp), some (.ref np), some (.ref fp), some (.int k), o5, o6, o7, o8, o9, oA, oB]) ∧ H' fp = some (.lst ((rows0 fr names ++ rowsR rs names k ++ (List.range j).map fun j => doorRow names k j (r.getD j ((0, 1), []))).map sv)))
      ⟨s4, ⟨_, _, _, _, _, _, _, rfl⟩, by rw [hf4]; simp⟩ ?_ ?_
    · rintro j σ H5 hj ⟨s5, ⟨o5, o6, o7, o8, o9, oA, oB, rfl⟩, hf5⟩
      rw [show (0 : Int) + (j : Nat) = ((j : Nat) : Int) from Int.zero_add _]
      have hj3 : j < 3 := by omega
      have hrj : r[j]? = some r[j] := List.getElem?_eq_getElem hj
      have hgj : r.getD j ((0, 1), []) = r[j] := by rw [List.getD_eq_getElem?_getD, hrj]; rfl
      obtain ⟨⟨k1, k2, k3⟩, k4, k5, k6, k7, k8⟩ := hx4 _ (mem_at hrj)
      generalize r[j] = x at hrj hgj k1 k2 k3 k4 k5 k6 k7 k8
      obtain ⟨_, hvj, t, pv, wv, rfl, ht, hpv, hwv⟩ := paired_get' hdvs hrj
      have hpos : 0 < x.1.2 := by unfold isFracF at k1; simp at k1; exact k1.1
      have q1 : x.1.1.natAbs < 2 ^ 200 := Nat.lt_trans k3 b200
      have q2 : x.1.2.natAbs < 2 ^ 200 := by omega
      have hpl := numText_len q1 q2
      refine ⟨_, rfl, _, rfl, rp, _, _, _, rfl, rfl, SqL.of (s5 _ _ hrp), atI_nat hvk, _, rfl, dp, _, _, _, rfl, rfl, SqL.of (s5 _ _ hdp), atI_nat hvj, _, _, rfl, SqT.of (s5 _ _ ht), rfl, ?_⟩
      refine ⟨_, _, rfl, _, _, rfl, rfl, ?_⟩
      have hgat : atI (SX.S gdab).cps.toList ((j : Nat) : Int) = some (gdab.getD j 0) := by
        refine atI_nat ?_
        have : ∀ j : Fin 3, gdab[(j : Nat)]? = some (gdab.getD (j : Nat) 0) := by decide
        exact this ⟨j, hj3⟩
      refine ⟨_, rfl, _, rfl, np, _, _, _, rfl, rfl, SqL.of (s5 _ _ hnp), atI_nat (j := k) (by rw [List.getElem?_map, hnk]; rfl), _, _, rfl, rfl, by rw [sizeLine_eq]; simp only [List.length_cons, List.length_nil]; omega, ?_⟩
      refine ⟨_, _, rfl, rfl, by rw [sizeLine_eq]; simp only [List.length_append, List.length_cons, List.length_nil]; omega, ?_⟩
      refine ⟨_, rfl, SX.S gdab, _, gdab.getD j 0, rfl, rfl, by show 4 ≤ sizeLine; decide, hgat, _, [gdab.getD j 0], rfl, rfl, by rw [sizeLine_eq]; simp only [List.length_append, List.length_cons, List.length_nil]; omega, ?_⟩
      refine ⟨_, _, rfl, rfl, by rw [sizeLine_eq]; simp only [List.length_append, List.length_cons, List.length_nil]; omega, ?_⟩
      refine ⟨_, rfl, _, x.1, rfl, hpv.mono s5, q1, q2, _, _, rfl, rfl, by rw [sizeLine_eq]; simp only [List.length_append, List.length_cons, List.length_nil]; omega, ?_⟩
      refine ⟨_, _, rfl, rfl, by rw [sizeLine_eq]; simp only [List.length_append, List.length_cons, List.length_nil]; omega, ?_⟩
      have hsum0 : 0 < (x.2.map (·.2)).sum := by
        obtain ⟨y, hy⟩ := List.exists_mem_of_ne_nil _ k4
        have := le_sumW (fun y hy => (k7 y hy).2) y hy
        have := (k7 y hy).2
        omega
      refine ⟨_, rfl, wv, x.2, rfl, hwv.mono s5, by omega, ⟨hsum0, by omega⟩, ?_⟩
      rintro _ H6 s6 ⟨cp, cvs, rfl, hcp, hcs⟩
      have s6' := s5.trans s6
      have hcn := hcs.length
      have hcl : (chancesM x.2).length ≤ 3 := by unfold chancesM; rw [List.length_map]; exact k5
      have hcc : ∀ c ∈ chancesM x.2, c.1 < names.length ∧ c.2.1.natAbs < 2 ^ 200 ∧ c.2.2.natAbs < 2 ^ 200 := fun c hc => by
        unfold chancesM at hc
        obtain ⟨y, hy, rfl⟩ := List.mem_map.mp hc
        have h1 := le_sumW (fun y hy => (k7 y hy).2) y hy
        have h2 := k7 y hy
        have h3 := mk_small (t := y.2) (b := (x.2.map (·.2)).sum) (by omega) hsum0 (by omega)
        exact ⟨by show y.1 < names.length; omega, by show (mkF y.2 _).1.natAbs < _; omega, by show (mkF y.2 _).2.natAbs < _; omega⟩
      refine ⟨cp, rfl, ⟨_, SqL.of hcp⟩, ?_⟩
      refine for_list (xs := cvs) (fun i σ H' => H6 = H' ∧ ∃ o9 oA, σ = [some fv, some (.ref rp), some (.ref np), some (.ref fp), some (.int k), some (.int j), some pv, some wv, some (sv (([100, 111, 111, 114, 32] : Wd) ++ names.getD k [] ++ [32] ++ [gdab.getD j 0] ++ [32] ++ numText x.1 ++ ([32, 109, 105, 120, 101, 100] : Wd) ++ (((chancesM x.2).take i).map fun c => [32] ++ names.getD c.1 [] ++ [32] ++ numText c.2).flatten)), o9, oA, oB])
        ⟨rfl, o9, oA, by simp [L2.start]⟩ (fun i σ H' _ h => by rw [← h.1]; exact SqL.of hcp) ?_ ?_
      · rintro i y σ H' hi ⟨rfl, o9, oA, rfl⟩
        obtain ⟨c, hc, t2, fv2, rfl, ht2, hf2⟩ := paired_get hcs hi
        obtain ⟨c1, c2, c3⟩ := hcc c (mem_at hc)
        have hnl2 := numText_len c2 c3
        have hnc : names[c.1]? = some names[c.1] := List.getElem?_eq_getElem c1
        have hgc : names.getD c.1 [] = names[c.1] := by rw [List.getD_eq_getElem?_getD, hnc]; rfl
        have hnc3 := hn3 _ (mem_at hnc)
        rw [← hgc] at hnc hnc3
        have hfl : ((((chancesM x.2).take i).map fun c => [32] ++ names.getD c.1 [] ++ [32] ++ numText c.2).flatten).length ≤ 3 * 135 := by
          refine Nat.le_trans (flat_len (c := 135) _ fun y hy => ?_) ?_
          · obtain ⟨c', hc', rfl⟩ := List.mem_map.mp hy
            have hm := List.mem_of_mem_take hc'
            obtain ⟨d1, d2, d3⟩ := hcc c' hm
            have e1 := numText_len d2 d3
            have e2 : (names.getD c'.1 []).length ≤ 3 := by rw [List.getD_eq_getElem?_getD, List.getElem?_eq_getElem d1]; exact hn3 _ (List.getElem_mem d1)
            simp only [List.length_append, List.length_cons, List.length_nil]; omega
          · rw [List.length_map, List.length_take]
            exact Nat.mul_le_mul_right _ (by omega)
        refine ⟨_, _, rfl, SqT.of ht2, rfl, ?_⟩
        refine ⟨_, _, rfl, _, _, rfl, rfl, ?_⟩
        refine ⟨_, rfl, _, _, rfl, rfl, by rw [sizeLine_eq]; simp only [List.length_append, List.length_cons, List.length_nil]; omega, ?_⟩
        refine ⟨_, rfl, _, rfl, np, _, _, _, rfl, rfl, SqL.of (s6' _ _ hnp), atI_nat (j := c.1) (by rw [List.getElem?_map, hnc]; rfl), _, _, rfl, rfl, by rw [sizeLine_eq]; simp only [List.length_append, List.length_cons, List.length_nil]; omega, ?_⟩
        refine ⟨_, _, rfl, rfl, by rw [sizeLine_eq]; simp only [List.length_append, List.length_cons, List.length_nil]; omega, ?_⟩
        refine ⟨_, rfl, _, c.2, rfl, hf2, c2, c3, _, _, rfl, rfl, by rw [sizeLine_eq]; simp only [List.length_append, List.length_cons, List.length_nil]; omega, ?_⟩
        refine ⟨rfl, some (.int (c.1 : Nat)), some fv2, ?_⟩
        rw [take_snoc hc]
        simp only [List.map_append, List.flatten_append, List.map_cons, List.map_nil, List.flatten_cons, List.flatten_nil, List.append_nil, List.append_assoc]
        rfl
      · rintro σ H' ⟨rfl, o9, oA, rfl⟩
        rw [hcn, List.take_length]
        refine ⟨_, rfl, tyL (s6 _ _ hf5), _, rfl, fp, _, _, rfl, rfl, s6 _ _ hf5, ?_, ?_⟩
        · simp only [List.length_map, List.length_append, List.length_range]; rw [sizeLine_eq]; omega
        refine ⟨same_off s6' hHfp, ⟨_, _, _, _, _, _, _, rfl⟩, ?_⟩
        rw [upd_same, List.range_succ]
        simp only [List.map_append, List.map_cons, List.map_nil, List.append_assoc]
        rw [hgj]
        unfold doorRow
        simp only [List.append_assoc]
    · rintro σ H5 ⟨s5, ⟨o5, o6, o7, o8, o9, oA, oB, rfl⟩, hf5⟩
      refine ⟨s5, ⟨_, _, _, _, _, _, _, _, rfl⟩, ?_⟩
      rw [hf5]
      have : rowsR rs names (k + 1) = rowsR rs names k ++ (List.range r.length).map fun j => doorRow names k j (r.getD j ((0, 1), [])) := by
        unfold rowsR
        rw [List.range_succ, List.map_append, List.flatten_append]
        simp only [List.map_cons, List.map_nil, List.flatten_cons, List.flatten_nil, List.append_nil, hgd]
      rw [this, List.append_assoc]
  · rintro σ H4 ⟨s4, ⟨o4, o5, o6, o7, o8, o9, oA, oB, rfl⟩, hf4⟩
    exact ⟨_, rfl, q fp _ s4 hHfp hf4⟩
end
end Dk
/-! the law's menus -/
namespace Dk
open PySem PySem.Spec PyProof.Rows L2
local macro_rules | `(tactic| walk_at "rd") => `(tactic| repeat (first | refine ⟨_, rfl, ?_⟩ | refine ⟨_, _, rfl, rfl, ?_⟩ | refine iteT ?_ | refine iteF ?_ | refine ⟨_, _, _, _, rfl, rfl, SqT.of (by assumption), rfl, ?_⟩ | refine ⟨rfl, ?_⟩ | refine ⟨_, _, rfl, lenS (by assumption), ?_⟩ | refine ⟨_, _, rfl, lenT (by assumption), ?_⟩ | refine ⟨_, _, rfl, lenL (by assumption), ?_⟩ | refine ⟨⟨_, SqL.of (by assumption)⟩, ?_⟩ | refine ⟨_, _, rfl, ?_⟩))
def noDoors_0 (a q : Wd) : List (Wd × Rf) := [(((([100, 111, 111, 114, 32] : Wd) ++ q) ++ ([32, 88, 32, 49, 47, 49, 32, 115, 117, 114, 101, 32, 65] : Wd)), (.room q)),
  ((((([100, 111, 111, 114, 32] : Wd) ++ a) ++ ([32] : Wd)) ++ ([88, 32, 49, 47, 49, 32, 115, 117, 114, 101, 32, 65] : Wd)), .name)]
def noDoors_1 (a q : Wd) : List (Wd × Rf) := [((((([100, 111, 111, 114, 32] : Wd) ++ a) ++ ([32] : Wd)) ++ ([120, 32, 49, 47, 49, 32, 115, 117, 114, 101, 32, 65] : Wd)), .num),
  ((((([100, 111, 111, 114, 32] : Wd) ++ a) ++ ([32] : Wd)) ++ ([120, 32, 49, 32, 115, 117, 114, 101, 32, 65] : Wd)), .name)]
def noDoors_2 (a q : Wd) : Wd × Rf := (((((((([100, 111, 111, 114, 32] : Wd) ++ a) ++ ([32] : Wd)) ++ ([120, 32, 49, 32, 116, 111, 115, 115, 32, 50, 32] : Wd)) ++ a) ++ ([32] : Wd)) ++ q), .chance)
def noDoors_3 (a q : Wd) : Wd × Rf := (((((((([100, 111, 111, 114, 32] : Wd) ++ a) ++ ([32] : Wd)) ++ ([120, 32, 49, 32, 116, 111, 115, 115, 32, 49, 47, 50, 32] : Wd)) ++ a) ++ ([32] : Wd)) ++ q), (.room q))
def noDoors_4 (a q : Wd) : Wd × Rf := ((((((([100, 111, 111, 114, 32] : Wd) ++ a) ++ ([32] : Wd)) ++ ([120, 32, 49, 32, 109, 105, 120, 101, 100, 32] : Wd)) ++ a) ++ ([32, 49, 47, 50] : Wd)), .chance)
def noDoors_5 (a q : Wd) : List (Wd × Rf) := [(((((([100, 111, 111, 114, 32] : Wd) ++ a) ++ ([32] : Wd)) ++ ([120, 32, 49, 47, 49, 32, 116, 111, 115, 115, 32, 50, 32, 65, 32] : Wd)) ++ q), .num),
  ((((([100, 111, 111, 114, 32] : Wd) ++ a) ++ ([32] : Wd)) ++ ([120, 32, 49, 32, 109, 105, 120, 101, 100, 32, 65, 32, 122] : Wd)), .name)]
def noDoors_6 (a q : Wd) : Wd × Rf := ((((((([100, 111, 111, 114, 32] : Wd) ++ a) ++ ([32] : Wd)) ++ ([120, 32, 49, 32, 109, 105, 120, 101, 100, 32] : Wd)) ++ a) ++ ([32, 122] : Wd)), .num)
def noDoors_7 (a q : Wd) : Wd × Rf := ((((((([100, 111, 111, 114, 32] : Wd) ++ a) ++ ([32] : Wd)) ++ ([120, 32, 49, 32, 109, 105, 120, 101, 100, 32] : Wd)) ++ a) ++ ([32, 50, 32, 65, 32, 49] : Wd)), .name)
def noDoors_8 (a q : Wd) : Wd × Rf := ((((((([100, 111, 111, 114, 32] : Wd) ++ a) ++ ([32] : Wd)) ++ ([120, 32, 49, 32, 101, 118, 101, 110, 32] : Wd)) ++ a) ++ ([32] : Wd)), .name)
def noDoors_9 (a q : Wd) : Wd × Rf := ((((((((([100, 111, 111, 114, 32] : Wd) ++ a) ++ ([32] : Wd)) ++ ([120, 32, 49, 32, 109, 105, 120, 101, 100, 32] : Wd)) ++ a) ++ ([32, 50, 32] : Wd)) ++ q) ++ ([32, 45, 49] : Wd)), .chance)
def noDoorsM (a q : Wd) : List (Wd × Rf) := (((((((((noDoors_0 a q) ++ noDoors_1 a q) ++ [noDoors_2 a q]) ++ [noDoors_3 a q]) ++ [noDoors_4 a q]) ++ noDoors_5 a q) ++ [noDoors_6 a q]) ++ [noDoors_7 a q]) ++ [noDoors_8 a q]) ++ [noDoors_9 a q]
def noDoorsW (a q : Wd) : List (List Wd × Rf) := [([([100, 111, 111, 114] : Wd), q, ([88] : Wd), ([49, 47, 49] : Wd), ([115, 117, 114, 101] : Wd), ([65] : Wd)], (.room q)),
  ([([100, 111, 111, 114] : Wd), a, ([88] : Wd), ([49, 47, 49] : Wd), ([115, 117, 114, 101] : Wd), ([65] : Wd)], .name),
  ([([100, 111, 111, 114] : Wd), a, ([120] : Wd), ([49, 47, 49] : Wd), ([115, 117, 114, 101] : Wd), ([65] : Wd)], .num),
  ([([100, 111, 111, 114] : Wd), a, ([120] : Wd), ([49] : Wd), ([115, 117, 114, 101] : Wd), ([65] : Wd)], .name),
  ([([100, 111, 111, 114] : Wd), a, ([120] : Wd), ([49] : Wd), ([116, 111, 115, 115] : Wd), ([50] : Wd), a, q], .chance),
  ([([100, 111, 111, 114] : Wd), a, ([120] : Wd), ([49] : Wd), ([116, 111, 115, 115] : Wd), ([49, 47, 50] : Wd), a, q], (.room q)),
  ([([100, 111, 111, 114] : Wd), a, ([120] : Wd), ([49] : Wd), ([109, 105, 120, 101, 100] : Wd), a, ([49, 47, 50] : Wd)], .chance),
  ([([100, 111, 111, 114] : Wd), a, ([120] : Wd), ([49, 47, 49] : Wd), ([116, 111, 115, 115] : Wd), ([50] : Wd), ([65] : Wd), q], .num),
  ([([100, 111, 111, 114] : Wd), a, ([120] : Wd), ([49] : Wd), ([109, 105, 120, 101, 100] : Wd), ([65] : Wd), ([122] : Wd)], .name),
  ([([100, 111, 111, 114] : Wd), a, ([120] : Wd), ([49] : Wd), ([109, 105, 120, 101, 100] : Wd), a, ([122] : Wd)], .num),
  ([([100, 111, 111, 114] : Wd), a, ([120] : Wd), ([49] : Wd), ([109, 105, 120, 101, 100] : Wd), a, ([50] : Wd), ([65] : Wd), ([49] : Wd)], .name),
  ([([100, 111, 111, 114] : Wd), a, ([120] : Wd), ([49] : Wd), ([101, 118, 101, 110] : Wd), a, ([] : Wd)], .name),
  ([([100, 111, 111, 114] : Wd), a, ([120] : Wd), ([49] : Wd), ([109, 105, 120, 101, 100] : Wd), a, ([50] : Wd), q, ([45, 49] : Wd)], .chance)]
theorem noDoors_eq (a q : Wd) : noDoorsM a q = (noDoorsW a q).map fun x => (TL.joinL [32] x.1, x.2) := by
  simp [noDoorsM, noDoorsW, noDoors_0, noDoors_1, noDoors_2, noDoors_3, noDoors_4, noDoors_5, noDoors_6, noDoors_7, noDoors_8, noDoors_9, TL.joinL]
def others_0 (a q : Wd) : List (Wd × Rf) := [(([115, 104, 97, 114, 101, 32, 120] : Wd), .num),
  (([115, 104, 97, 114, 101, 32, 50, 47, 52] : Wd), .num),
  (([115, 104, 97, 114, 101, 32, 49] : Wd), .share),
  (([115, 104, 97, 114, 101, 32, 45, 49, 47, 50] : Wd), .share)]
def others_1 (a q : Wd) : List (Wd × Rf) := [(([114, 111, 111, 109, 32, 65] : Wd), .name),
  (([114, 111, 111, 109, 32] : Wd), .name),
  ((([114, 111, 111, 109, 32] : Wd) ++ a), .name)]
def others_2 (a q : Wd) : List (Wd × Rf) := [(((([115, 104, 117, 116, 32] : Wd) ++ q) ++ ([32, 88] : Wd)), (.room q)),
  (((([115, 104, 117, 116, 32] : Wd) ++ a) ++ ([32, 88] : Wd)), (.door ([88] : Wd))),
  ((([103, 111, 97, 108, 32] : Wd) ++ q), (.room q))]
def others_3 (a q : Wd) : List (Wd × Rf) := [((([112, 108, 97, 105, 110, 32] : Wd) ++ q), (.room q)),
  ((([109, 111, 115, 116, 32] : Wd) ++ q), (.room q)),
  (([108, 101, 97, 115, 116, 32, 65] : Wd), (.room ([65] : Wd)))]
def others_4 (a q : Wd) : Wd × Rf := ((([108, 101, 97, 115, 116, 32] : Wd) ++ q), (.room q))
def others_5 (a q : Wd) : List (Wd × Rf) := [((([98, 111, 117, 110, 100, 115, 32, 48, 32] : Wd) ++ a), .num),
  ((([98, 111, 117, 110, 100, 115, 32, 52, 49, 32] : Wd) ++ q), .num)]
def others_6 (a q : Wd) : List (Wd × Rf) := [((([98, 111, 117, 110, 100, 115, 32, 49, 47, 50, 32] : Wd) ++ a), .num),
  ((([98, 111, 117, 110, 100, 115, 32, 45, 51, 32] : Wd) ++ a), .num)]
def others_7 (a q : Wd) : Wd × Rf := ((((([98, 111, 117, 110, 100, 115, 32] : Wd) ++ ([48, 53] : Wd)) ++ ([32] : Wd)) ++ a), .num)
def others_8 (a q : Wd) : Wd × Rf := ((((([98, 111, 117, 110, 100, 115, 32] : Wd) ++ ([43, 51] : Wd)) ++ ([32] : Wd)) ++ a), .num)
def others_9 (a q : Wd) : Wd × Rf := ((((([98, 111, 117, 110, 100, 115, 32] : Wd) ++ ([49, 95, 48] : Wd)) ++ ([32] : Wd)) ++ a), .num)
def others_10 (a q : Wd) : Wd × Rf := ((((([98, 111, 117, 110, 100, 115, 32] : Wd) ++ ([120] : Wd)) ++ ([32] : Wd)) ++ a), .num)
def others_11 (a q : Wd) : Wd × Rf := ((((([98, 111, 117, 110, 100, 115, 32] : Wd) ++ ([51, 47, 49] : Wd)) ++ ([32] : Wd)) ++ a), .num)
def others_12 (a q : Wd) : List (Wd × Rf) := [((([98, 111, 117, 110, 100, 115, 32, 52, 48, 32] : Wd) ++ q), (.room q)),
  (((([114, 117, 110, 32] : Wd) ++ q) ++ ([32, 120] : Wd)), (.room q))]
def others_13 (a q : Wd) : List (Wd × Rf) := [(((([114, 117, 110, 32] : Wd) ++ a) ++ ([32, 49, 47, 50, 32, 120] : Wd)), .num),
  (((([114, 117, 110, 32] : Wd) ++ a) ++ ([32] : Wd)), .num)]
def bw : List Wd := [[48, 53], [43, 51], [49, 95, 48], [120], [51, 47, 49]]
def othersL (a : Wd) : List (Wd × Rf) := bw.map fun w => ((((([98, 111, 117, 110, 100, 115, 32] : Wd) ++ w) ++ ([32] : Wd)) ++ a), .num)
def othersM (a q : Wd) : List (Wd × Rf) := (((((((((others_0 a q) ++ others_1 a q) ++ others_2 a q) ++ others_3 a q) ++ [others_4 a q]) ++ others_5 a q) ++ others_6 a q) ++ othersL a) ++ others_12 a q) ++ others_13 a q
def othersW (a q : Wd) : List (List Wd × Rf) := [([([115, 104, 97, 114, 101] : Wd), ([120] : Wd)], .num),
  ([([115, 104, 97, 114, 101] : Wd), ([50, 47, 52] : Wd)], .num),
  ([([115, 104, 97, 114, 101] : Wd), ([49] : Wd)], .share),
  ([([115, 104, 97, 114, 101] : Wd), ([45, 49, 47, 50] : Wd)], .share),
  ([([114, 111, 111, 109] : Wd), ([65] : Wd)], .name),
  ([([114, 111, 111, 109] : Wd), ([] : Wd)], .name),
  ([([114, 111, 111, 109] : Wd), a], .name),
  ([([115, 104, 117, 116] : Wd), q, ([88] : Wd)], (.room q)),
  ([([115, 104, 117, 116] : Wd), a, ([88] : Wd)], (.door ([88] : Wd))),
  ([([103, 111, 97, 108] : Wd), q], (.room q)),
  ([([112, 108, 97, 105, 110] : Wd), q], (.room q)),
  ([([109, 111, 115, 116] : Wd), q], (.room q)),
  ([([108, 101, 97, 115, 116] : Wd), ([65] : Wd)], (.room ([65] : Wd))),
  ([([108, 101, 97, 115, 116] : Wd), q], (.room q)),
  ([([98, 111, 117, 110, 100, 115] : Wd), ([48] : Wd), a], .num),
  ([([98, 111, 117, 110, 100, 115] : Wd), ([52, 49] : Wd), q], .num),
  ([([98, 111, 117, 110, 100, 115] : Wd), ([49, 47, 50] : Wd), a], .num),
  ([([98, 111, 117, 110, 100, 115] : Wd), ([45, 51] : Wd), a], .num),
  ([([98, 111, 117, 110, 100, 115] : Wd), ([48, 53] : Wd), a], .num),
  ([([98, 111, 117, 110, 100, 115] : Wd), ([43, 51] : Wd), a], .num),
  ([([98, 111, 117, 110, 100, 115] : Wd), ([49, 95, 48] : Wd), a], .num),
  ([([98, 111, 117, 110, 100, 115] : Wd), ([120] : Wd), a], .num),
  ([([98, 111, 117, 110, 100, 115] : Wd), ([51, 47, 49] : Wd), a], .num),
  ([([98, 111, 117, 110, 100, 115] : Wd), ([52, 48] : Wd), q], (.room q)),
  ([([114, 117, 110] : Wd), q, ([120] : Wd)], (.room q)),
  ([([114, 117, 110] : Wd), a, ([49, 47, 50] : Wd), ([120] : Wd)], .num),
  ([([114, 117, 110] : Wd), a, ([] : Wd)], .num)]
theorem others_eq (a q : Wd) : othersM a q = (othersW a q).map fun x => (TL.joinL [32] x.1, x.2) := by
  simp [othersM, othersW, others_0, others_1, others_2, others_3, others_4, others_5, others_6, others_7, others_8, others_9, others_10, others_11, others_12, others_13, TL.joinL, othersL, bw]
def noRows_0 (a : Wd) : List (Option Wd) := [none, none, none, none, some ([] : Wd), some ([32] : Wd), some ([98, 101, 115, 116, 115] : Wd), some ([98, 101, 115, 116, 32] : Wd), some ([32, 98, 101, 115, 116] : Wd)]
def noRows_1 (a : Wd) : List (Option Wd) := [some (([98, 101, 115, 116, 32] : Wd) ++ a), some (([115, 104, 111, 119, 32] : Wd) ++ a), some (([108, 111, 116, 115, 32] : Wd) ++ a)]
def noRows_2 (a : Wd) : List (Option Wd) := [some ([115, 104, 97, 114, 101] : Wd), some ([115, 104, 97, 114, 101, 32, 49, 47, 50, 32, 49, 47, 50] : Wd), some ([114, 111, 111, 109] : Wd), some (([114, 111, 111, 109] : Wd) ++ (((([32] : Wd) ++ a) ++ ([32] : Wd)) ++ a)), some (([115, 104, 117, 116, 32] : Wd) ++ a), some ([103, 111, 97, 108] : Wd), some (([103, 111, 97, 108, 32, 32] : Wd) ++ a)]
def noRows_3 (a : Wd) : List (Option Wd) := [some ([109, 111, 115, 116] : Wd), some (([108, 101, 97, 115, 116] : Wd) ++ (((([32] : Wd) ++ a) ++ ([32] : Wd)) ++ a)), some ([98, 111, 117, 110, 100, 115, 32, 49] : Wd), some (([98, 111, 117, 110, 100, 115, 32, 49] : Wd) ++ (((([32] : Wd) ++ a) ++ ([32] : Wd)) ++ a)), some ([114, 117, 110] : Wd), some ([100, 111, 111, 114] : Wd), some (([100, 111, 111, 114, 32] : Wd) ++ a)]
def noRows_4 (a : Wd) : List (Option Wd) := [some (((([100, 111, 111, 114, 32] : Wd) ++ a) ++ ([32, 120, 32, 49, 32] : Wd)) ++ ([115, 117, 114, 101] : Wd)), some ((((([100, 111, 111, 114, 32] : Wd) ++ a) ++ ([32, 120, 32, 49, 32] : Wd)) ++ ([101, 118, 110, 32] : Wd)) ++ a), some ((((([100, 111, 111, 114, 32] : Wd) ++ a) ++ ([32, 120, 32, 49, 32] : Wd)) ++ ([109, 105, 120, 101, 100, 32] : Wd)) ++ a), some ((((([100, 111, 111, 114, 32] : Wd) ++ a) ++ ([32, 120, 32, 49, 32] : Wd)) ++ ([116, 111, 115, 115, 32, 49, 47, 50, 32] : Wd)) ++ a)]
def noRows_5 (a : Wd) : List (Option Wd) := [some ((((([100, 111, 111, 114, 32] : Wd) ++ a) ++ ([32, 120, 32, 49, 32] : Wd)) ++ ([115, 117, 114, 101] : Wd)) ++ (((([32] : Wd) ++ a) ++ ([32] : Wd)) ++ a)), some (((((([100, 111, 111, 114, 32] : Wd) ++ a) ++ ([32, 120, 32, 49, 32] : Wd)) ++ ([116, 111, 115, 115, 32, 49, 47, 50, 32] : Wd)) ++ a) ++ (((([32] : Wd) ++ a) ++ ([32] : Wd)) ++ a)), some ((((((([100, 111, 111, 114, 32] : Wd) ++ a) ++ ([32, 120, 32, 49, 32] : Wd)) ++ ([109, 105, 120, 101, 100, 32] : Wd)) ++ a) ++ ([32, 49, 32] : Wd)) ++ a)]
def noRows_6 (a : Wd) : List (Option Wd) := [some ((([115, 104, 117, 116, 32] : Wd) ++ a) ++ ([32, 103, 32, 103] : Wd)), some (([112, 108, 97, 105, 110] : Wd) ++ (((([32] : Wd) ++ a) ++ ([32] : Wd)) ++ a)), some (([109, 111, 115, 116] : Wd) ++ (((([32] : Wd) ++ a) ++ ([32] : Wd)) ++ a)), some (([103, 111, 97, 108] : Wd) ++ (((([32] : Wd) ++ a) ++ ([32] : Wd)) ++ a))]
def noRows_7 (a : Wd) : List (Option Wd) := [some ([66, 101, 115, 116] : Wd), some ([119, 111, 114, 116, 104, 115] : Wd), some ([112, 108, 97, 105, 110] : Wd), some ([98, 101, 115, 116, 10] : Wd)]
def noRowsM (a : Wd) : List (Option Wd) := (((((((noRows_0 a) ++ noRows_1 a) ++ noRows_2 a) ++ noRows_3 a) ++ noRows_4 a) ++ noRows_5 a) ++ noRows_6 a) ++ noRows_7 a
def noRowsW (a : Wd) : List (Option (List Wd)) := [none,
  none,
  none,
  none,
  some [([] : Wd)],
  some [([] : Wd), ([] : Wd)],
  some [([98, 101, 115, 116, 115] : Wd)],
  some [([98, 101, 115, 116] : Wd), ([] : Wd)],
  some [([] : Wd), ([98, 101, 115, 116] : Wd)],
  some [([98, 101, 115, 116] : Wd), a],
  some [([115, 104, 111, 119] : Wd), a],
  some [([108, 111, 116, 115] : Wd), a],
  some [([115, 104, 97, 114, 101] : Wd)],
  some [([115, 104, 97, 114, 101] : Wd), ([49, 47, 50] : Wd), ([49, 47, 50] : Wd)],
  some [([114, 111, 111, 109] : Wd)],
  some [([114, 111, 111, 109] : Wd), a, a],
  some [([115, 104, 117, 116] : Wd), a],
  some [([103, 111, 97, 108] : Wd)],
  some [([103, 111, 97, 108] : Wd), ([] : Wd), a],
  some [([109, 111, 115, 116] : Wd)],
  some [([108, 101, 97, 115, 116] : Wd), a, a],
  some [([98, 111, 117, 110, 100, 115] : Wd), ([49] : Wd)],
  some [([98, 111, 117, 110, 100, 115] : Wd), ([49] : Wd), a, a],
  some [([114, 117, 110] : Wd)],
  some [([100, 111, 111, 114] : Wd)],
  some [([100, 111, 111, 114] : Wd), a],
  some [([100, 111, 111, 114] : Wd), a, ([120] : Wd), ([49] : Wd), ([115, 117, 114, 101] : Wd)],
  some [([100, 111, 111, 114] : Wd), a, ([120] : Wd), ([49] : Wd), ([101, 118, 110] : Wd), a],
  some [([100, 111, 111, 114] : Wd), a, ([120] : Wd), ([49] : Wd), ([109, 105, 120, 101, 100] : Wd), a],
  some [([100, 111, 111, 114] : Wd), a, ([120] : Wd), ([49] : Wd), ([116, 111, 115, 115] : Wd), ([49, 47, 50] : Wd), a],
  some [([100, 111, 111, 114] : Wd), a, ([120] : Wd), ([49] : Wd), ([115, 117, 114, 101] : Wd), a, a],
  some [([100, 111, 111, 114] : Wd), a, ([120] : Wd), ([49] : Wd), ([116, 111, 115, 115] : Wd), ([49, 47, 50] : Wd), a, a, a],
  some [([100, 111, 111, 114] : Wd), a, ([120] : Wd), ([49] : Wd), ([109, 105, 120, 101, 100] : Wd), a, ([49] : Wd), a],
  some [([115, 104, 117, 116] : Wd), a, ([103] : Wd), ([103] : Wd)],
  some [([112, 108, 97, 105, 110] : Wd), a, a],
  some [([109, 111, 115, 116] : Wd), a, a],
  some [([103, 111, 97, 108] : Wd), a, a],
  some [([66, 101, 115, 116] : Wd)],
  some [([119, 111, 114, 116, 104, 115] : Wd)],
  some [([112, 108, 97, 105, 110] : Wd)],
  some [([98, 101, 115, 116, 10] : Wd)]]
theorem noRows_eq (a : Wd) : noRowsM a = (noRowsW a).map fun x => x.map (TL.joinL [32]) := by
  simp [noRowsM, noRowsW, noRows_0, noRows_1, noRows_2, noRows_3, noRows_4, noRows_5, noRows_6, noRows_7, TL.joinL]
theorem sc__law_no_rows : FnScope ["_law_a", "_law_some", "_law_two", "_law_door", "_law_row"] ["_law_a"] (defScope s__law_no_rows) := ⟨rfl, rfl, rfl, by decide +kernel, rfl, by decide +kernel, by decide +kernel⟩
theorem sc__law_no_doors : FnScope ["_law_a", "_law_q", "_law_door", "_law_found"] ["_law_a", "_law_q"] (defScope s__law_no_doors) := ⟨rfl, rfl, rfl, by decide +kernel, rfl, by decide +kernel, by decide +kernel⟩
theorem sc__law_others : FnScope ["_law_a", "_law_q", "_law_found", "_law_word"] ["_law_a", "_law_q"] (defScope s__law_others) := ⟨rfl, rfl, rfl, by decide +kernel, rfl, by decide +kernel, by decide +kernel⟩
theorem sc__law_plans : FnScope ["_law_rooms", "_law_names", "_law_plan", "_law_some", "_law_found", "_law_k", "_law_head", "_law_last", "_law_other", "_law_door"] ["_law_rooms", "_law_names"] (defScope s__law_plans) := ⟨rfl, rfl, rfl, by decide +kernel, rfl, by decide +kernel, by decide +kernel⟩
section
variable {P : Program} {w : World} {K : PySem.W.Frag} {mg : Str → Option Value} {base : Heap} {A : Ad}
/-! ### makers -/
def Pure (σ : L2.St) (te : TE) (v : V) : Prop := ∀ H Q, Q v H → te σ H Q
theorem pureC {σ : L2.St} {v : V} : Pure σ (tC v) v := fun _ _ q => q
theorem pureV {σ : L2.St} {i : Nat} {v : V} (h : σ[i]? = some (some v)) : Pure σ (tVar i) v := fun _ _ q => ⟨v, h, q⟩
theorem pureAdd {σ : L2.St} {ta tb : TE} {a b : Wd} (ha : Pure σ ta (sv a)) (hb : Pure σ tb (sv b)) (hl : a.length + b.length ≤ 10000) :
    Pure σ (tOp (fun x y H Q => ∃ a b : Wd, x = sv a ∧ y = sv b ∧ a.length + b.length ≤ sizeLine ∧ Q (sv (a ++ b)) H) ta tb) (sv (a ++ b)) := fun H Q q => ha _ _ (hb _ _ ⟨a, b, rfl, rfl, by rw [sizeLine_eq]; omega, q⟩)
def IsRow (H : Hp) (v : V) (x : Wd × Rf) : Prop := ∃ t, v = .ref t ∧ H t = some (.tup [sv x.1, .int x.2.at_, x.2.val])
theorem IsRow.mono {H H' : Hp} {v : V} {x} (s : Same H H') (h : IsRow H v x) : IsRow H' v x := let ⟨t, e, q⟩ := h; ⟨t, e, s _ _ q⟩
theorem IsRow.upd {H : Hp} {x : Addr} {o o' : HO} {v : V} {f} (h : IsRow H v f) (hx : H x = some o') (hk : NT o') : IsRow (L2.upd H x o) v f := let ⟨p, e, q⟩ := h; ⟨p, e, by rw [upd_ne (ne_of q hx fun z => hk _ z.symm)]; exact q⟩
def Maker (σ : L2.St) (te : TE) (x : Wd × Rf) : Prop := ∀ H Q, (∀ v H', Same H H' → IsRow H' v x → Q v H') → te σ H Q
def MakerA (σ : L2.St) (ta : TA) (xs : List (Wd × Rf)) : Prop := ∀ H Q, (∀ vs H', Same H H' → Paired (IsRow H') vs xs → Q vs H') → ta σ H Q
theorem rowMk {σ : L2.St} {t1 t3 : TE} {n : Int} {x : Wd × Rf} (h1 : Pure σ t1 (sv x.1)) (h3 : Pure σ t3 x.2.val) (hn : n = x.2.at_) : Maker σ (tTup (tCons t1 (tCons (tC (.int n)) (tCons t3 tNil)))) x := fun H Q q =>
  h1 _ _ (h3 _ _ ⟨by show 3 ≤ sizeLine; decide, fun p hp => q _ _ (same_upd hp) ⟨p, rfl, by rw [hn]; exact upd_same⟩⟩)
theorem mkNil {σ : L2.St} : MakerA σ tNil [] := fun H Q q => q [] H (Same.refl _) .nil
theorem mkCons {σ : L2.St} {te : TE} {ta : TA} {x : Wd × Rf} {xs : List (Wd × Rf)} (h : Maker σ te x) (t : MakerA σ ta xs) : MakerA σ (tCons te ta) (x :: xs) := fun H Q q =>
  h _ _ fun v H1 s1 hv => t _ _ fun vs H2 s2 hvs => q _ _ (s1.trans s2) (.cons (hv.mono s2) hvs)
/-- a list of rows at p, p not of the ground -/
def RowsAt (G H : Hp) (p : Addr) (xs : List (Wd × Rf)) : Prop := Same G H ∧ G p = none ∧ ∃ vs, H p = some (.lst vs) ∧ Paired (IsRow H) vs xs
theorem stNew {σ : L2.St} {G H : Hp} {i : Nat} {ta : TA} {xs : List (Wd × Rf)} {nx : L2.St → Hp → Prop} (s : Same G H) (m : MakerA σ ta xs) (hl : xs.length ≤ 1000) (q : ∀ p H', RowsAt G H' p xs → nx (σ.set i (some (.ref p))) H') : tLst ta σ H (fun x H1 => gName i x σ H1 nx) :=
  m _ _ fun vs H1 s1 hv => ⟨by rw [hv.length, sizeLine_eq]; omega, fun p hp => q p _ ⟨(s.trans s1).trans (same_upd hp), (s.trans s1).free hp, vs, upd_same, hv.mono fun _ _ k => k.mono (same_upd hp)⟩⟩
theorem stCat {σ : L2.St} {G H : Hp} {i : Nat} {p : Addr} {ta : TA} {xs ys : List (Wd × Rf)} {nx : L2.St → Hp → Prop} (r : RowsAt G H p xs) (hi : σ[i]? = some (some (.ref p))) (m : MakerA σ ta ys) (hl : xs.length + ys.length ≤ 1000) (q : ∀ p H', RowsAt G H' p (xs ++ ys) → nx (σ.set i (some (.ref p))) H') :
    tOp rCat (tVar i) (tLst ta) σ H (fun x H1 => gName i x σ H1 nx) := by
  obtain ⟨s, n, vs, hv, hps⟩ := r
  refine ⟨_, hi, m _ _ fun us H1 s1 hu => ⟨by rw [hu.length, sizeLine_eq]; omega, fun l hl' => ?_⟩⟩
  have s2 := s1.trans (same_upd (o := .lst us) hl')
  refine ⟨p, l, vs, us, rfl, rfl, s2 _ _ hv, upd_same, by rw [hps.length, hu.length, sizeLine_eq]; omega, fun p2 hp2 => ?_⟩
  have s3 := s2.trans (same_upd (o := .lst (vs ++ us)) hp2)
  exact q p2 _ ⟨s.trans s3, (s.trans s2).free hp2, _, upd_same, paired_app (hps.mono fun _ _ k => k.mono s3) (hu.mono fun _ _ k => k.mono ((same_upd hl').trans (same_upd hp2)))⟩
where
  paired_app {α β : Type} {R : α → β → Prop} : ∀ {a : List α} {b : List β} {c : List α} {d : List β}, Paired R a b → Paired R c d → Paired R (a ++ c) (b ++ d)
    | _, _, _, _, .nil, h => h
    | _, _, _, _, .cons r t, h => .cons r (paired_app t h)
theorem stApp {σ : L2.St} {G H : Hp} {i : Nat} {p : Addr} {te : TE} {xs : List (Wd × Rf)} {x : Wd × Rf} {nx : L2.St → Hp → Prop} (r : RowsAt G H p xs) (hi : σ[i]? = some (some (.ref p))) (m : Maker σ te x) (hl : xs.length ≤ 1000) (q : ∀ H', RowsAt G H' p (xs ++ [x]) → nx σ H') :
    tBM K "list" rAppend (tVar i) (tCons te tNil) σ H (fun _ H1 => nx σ H1) := by
  obtain ⟨s, n, vs, hv, hps⟩ := r
  refine ⟨_, hi, tyL hv, m _ _ fun u H1 s1 hu => ?_⟩
  have hv1 := s1 _ _ hv
  refine ⟨p, vs, u, rfl, rfl, hv1, by rw [hps.length, sizeLine_eq]; omega, q _ ⟨same_off (s.trans s1) n, n, _, upd_same, ?_⟩⟩
  exact (hps.mono fun _ _ k => (IsRow.mono s1 k).upd hv1 nt_lst).snoc (hu.upd hv1 nt_lst)
local macro_rules | `(tactic| walk_at "mk") => `(tactic| repeat' (first | exact mkNil | refine mkCons ?_ ?_ | refine rowMk ?_ ?_ rfl | exact pureC | exact pureV rfl | refine pureAdd ?_ ?_ ?_ | (simp only [List.length_append, List.length_cons, List.length_nil]; omega)))
def spMenu2 (M : Wd → Wd → List (Wd × Rf)) : Sp := fun vs H Q _ => ∃ a q : Wd, vs = [sv a, sv q] ∧ a.length ≤ 3 ∧ q.length ≤ 3 ∧ ∀ p H', RowsAt H H' p (M a q) → Q (.ref p) H'
theorem gName_go {i : Nat} {v : V} {σ : L2.St} {H : Hp} {Q : L2.St → Hp → Prop} (h : Q (σ.set i (some v)) H) : gName i v σ H Q := h
theorem seq_go {t u : TS} {D : Ends} {σ : L2.St} {H : Hp} (h : t { D with nx := u D } σ H) : tSeq t u D σ H := h
theorem stAppK {σ : L2.St} {G H : Hp} {i : Nat} {p : Addr} {te : TE} {xs : List (Wd × Rf)} {x : Wd × Rf} {nx : L2.St → Hp → Prop} (r : RowsAt G H p xs) (hi : σ[i]? = some (some (.ref p))) (m : Maker σ te x) (hl : xs.length ≤ 1000) (q : ∀ H', (∀ b o, b ≠ p → H b = some o → H' b = some o) → RowsAt G H' p (xs ++ [x]) → nx σ H') :
    tBM K "list" rAppend (tVar i) (tCons te tNil) σ H (fun _ H1 => nx σ H1) := by
  obtain ⟨s, n, vs, hv, hps⟩ := r
  refine ⟨_, hi, tyL hv, m _ _ fun u H1 s1 hu => ?_⟩
  have hv1 := s1 _ _ hv
  refine ⟨p, vs, u, rfl, rfl, hv1, by rw [hps.length, sizeLine_eq]; omega, q _ (fun b o hb e => by rw [upd_ne hb]; exact s1 _ _ e) ⟨same_off (s.trans s1) n, n, _, upd_same, ?_⟩⟩
  exact (hps.mono fun _ _ k => (IsRow.mono s1 k).upd hv1 nt_lst).snoc (hu.upd hv1 nt_lst)
theorem cal_no_doors (F : Fn K mg "_law_no_doors" s__law_no_doors) (B : Blt mg) : CalX P w K mg base 1 "_law_no_doors" (spMenu2 noDoorsM) := by
  refine calx F sc__law_no_doors (fun _ _ _ _ _ _ us hl => match us, hl with | [_, _], _ => rfl) (fun vs H Q E h => by obtain ⟨x, _, rfl, _⟩ := h; rfl) ?_
  intro f cdv A' outer s H vs Q E hr hT hx hu h
  refine ⟨_, (pss_cons (ps_set (i := 2) sc__law_no_doors.nd rfl (Or.inl rfl) (pe_op op_add_w (pe_op op_add_w (pe_litc (l := [100, 111, 111, 114, 32]) (by decide +kernel)) (pv 0)) (pe_litc (l := [32]) (by decide +kernel))))
      (pss_cons (ps_set (i := 3) sc__law_no_doors.nd rfl (Or.inl rfl) (pe_lst (pa_cons (pe_tup (pa_cons (pe_op op_add_w (pe_op op_add_w (pe_litc (l := [100, 111, 111, 114, 32]) (by decide +kernel)) (pv 1)) (pe_litc (l := [32, 88, 32, 49, 47, 49, 32, 115, 117, 114, 101, 32, 65]) (by decide +kernel))) (pa_cons pe_int (pa_cons (pv 1) pa_nil)))) (pa_cons (pe_tup (pa_cons (pe_op op_add_w (pv 2) (pe_litc (l := [88, 32, 49, 47, 49, 32, 115, 117, 114, 101, 32, 65]) (by decide +kernel))) (pa_cons pe_int (pa_cons pe_non pa_nil)))) pa_nil))))
      (pss_cons (ps_set (i := 3) sc__law_no_doors.nd rfl (Or.inl rfl) (pe_op op_cat (pv 3) (pe_lst (pa_cons (pe_tup (pa_cons (pe_op op_add_w (pv 2) (pe_litc (l := [120, 32, 49, 47, 49, 32, 115, 117, 114, 101, 32, 65]) (by decide +kernel))) (pa_cons pe_int (pa_cons pe_non pa_nil)))) (pa_cons (pe_tup (pa_cons (pe_op op_add_w (pv 2) (pe_litc (l := [120, 32, 49, 32, 115, 117, 114, 101, 32, 65]) (by decide +kernel))) (pa_cons pe_int (pa_cons pe_non pa_nil)))) pa_nil)))))
      (pss_cons (ps_expr (pe_bm PySem.F.plainAttrs_list PySem.F.slot_list_append PySem.F.type_list_append mt_append (pv 3) (pa_cons (pe_tup (pa_cons (pe_op op_add_w (pe_op op_add_w (pe_op op_add_w (pe_op op_add_w (pv 2) (pe_litc (l := [120, 32, 49, 32, 116, 111, 115, 115, 32, 50, 32]) (by decide +kernel))) (pv 0)) (pe_litc (l := [32]) (by decide +kernel))) (pv 1)) (pa_cons pe_int (pa_cons pe_non pa_nil)))) pa_nil)))
      (pss_cons (ps_expr (pe_bm PySem.F.plainAttrs_list PySem.F.slot_list_append PySem.F.type_list_append mt_append (pv 3) (pa_cons (pe_tup (pa_cons (pe_op op_add_w (pe_op op_add_w (pe_op op_add_w (pe_op op_add_w (pv 2) (pe_litc (l := [120, 32, 49, 32, 116, 111, 115, 115, 32, 49, 47, 50, 32]) (by decide +kernel))) (pv 0)) (pe_litc (l := [32]) (by decide +kernel))) (pv 1)) (pa_cons pe_int (pa_cons (pv 1) pa_nil)))) pa_nil)))
      (pss_cons (ps_expr (pe_bm PySem.F.plainAttrs_list PySem.F.slot_list_append PySem.F.type_list_append mt_append (pv 3) (pa_cons (pe_tup (pa_cons (pe_op op_add_w (pe_op op_add_w (pe_op op_add_w (pv 2) (pe_litc (l := [120, 32, 49, 32, 109, 105, 120, 101, 100, 32]) (by decide +kernel))) (pv 0)) (pe_litc (l := [32, 49, 47, 50]) (by decide +kernel))) (pa_cons pe_int (pa_cons pe_non pa_nil)))) pa_nil)))
      (pss_cons (ps_set (i := 3) sc__law_no_doors.nd rfl (Or.inl rfl) (pe_op op_cat (pv 3) (pe_lst (pa_cons (pe_tup (pa_cons (pe_op op_add_w (pe_op op_add_w (pv 2) (pe_litc (l := [120, 32, 49, 47, 49, 32, 116, 111, 115, 115, 32, 50, 32, 65, 32]) (by decide +kernel))) (pv 1)) (pa_cons pe_int (pa_cons pe_non pa_nil)))) (pa_cons (pe_tup (pa_cons (pe_op op_add_w (pv 2) (pe_litc (l := [120, 32, 49, 32, 109, 105, 120, 101, 100, 32, 65, 32, 122]) (by decide +kernel))) (pa_cons pe_int (pa_cons pe_non pa_nil)))) pa_nil)))))
      (pss_cons (ps_expr (pe_bm PySem.F.plainAttrs_list PySem.F.slot_list_append PySem.F.type_list_append mt_append (pv 3) (pa_cons (pe_tup (pa_cons (pe_op op_add_w (pe_op op_add_w (pe_op op_add_w (pv 2) (pe_litc (l := [120, 32, 49, 32, 109, 105, 120, 101, 100, 32]) (by decide +kernel))) (pv 0)) (pe_litc (l := [32, 122]) (by decide +kernel))) (pa_cons pe_int (pa_cons pe_non pa_nil)))) pa_nil)))
      (pss_cons (ps_expr (pe_bm PySem.F.plainAttrs_list PySem.F.slot_list_append PySem.F.type_list_append mt_append (pv 3) (pa_cons (pe_tup (pa_cons (pe_op op_add_w (pe_op op_add_w (pe_op op_add_w (pv 2) (pe_litc (l := [120, 32, 49, 32, 109, 105, 120, 101, 100, 32]) (by decide +kernel))) (pv 0)) (pe_litc (l := [32, 50, 32, 65, 32, 49]) (by decide +kernel))) (pa_cons pe_int (pa_cons pe_non pa_nil)))) pa_nil)))
      (pss_cons (ps_expr (pe_bm PySem.F.plainAttrs_list PySem.F.slot_list_append PySem.F.type_list_append mt_append (pv 3) (pa_cons (pe_tup (pa_cons (pe_op op_add_w (pe_op op_add_w (pe_op op_add_w (pv 2) (pe_litc (l := [120, 32, 49, 32, 101, 118, 101, 110, 32]) (by decide +kernel))) (pv 0)) (pe_litc (l := [32]) (by decide +kernel))) (pa_cons pe_int (pa_cons pe_non pa_nil)))) pa_nil)))
      (pss_cons (ps_expr (pe_bm PySem.F.plainAttrs_list PySem.F.slot_list_append PySem.F.type_list_append mt_append (pv 3) (pa_cons (pe_tup (pa_cons (pe_op op_add_w (pe_op op_add_w (pe_op op_add_w (pe_op op_add_w (pe_op op_add_w (pv 2) (pe_litc (l := [120, 32, 49, 32, 109, 105, 120, 101, 100, 32]) (by decide +kernel))) (pv 0)) (pe_litc (l := [32, 50, 32]) (by decide +kernel))) (pv 1)) (pe_litc (l := [32, 45, 49]) (by decide +kernel))) (pa_cons pe_int (pa_cons pe_non pa_nil)))) pa_nil)))
      (pss_one (ps_ret (pv 3)))))))))))))), ?_⟩
  obtain ⟨a, q, rfl, ha, hq, qq⟩ := h
  refine ⟨_, rfl, _, _, rfl, rfl, by rw [sizeLine_eq]; simp only [List.length_cons, List.length_nil]; omega, ?_⟩
  refine ⟨_, _, rfl, rfl, by rw [sizeLine_eq]; simp only [List.length_append, List.length_cons, List.length_nil]; omega, ?_⟩
  refine gName_go ?_
  dsimp only
  show tSeq _ _ _ _ _
  refine stNew (xs := noDoors_0 a q) (Same.refl _) (by walk_at "mk") (by simp [noDoors_0]) (fun p H0 r0 => ?_)
  refine stCat (ys := noDoors_1 a q) r0 rfl (by walk_at "mk") (by simp [noDoors_0, noDoors_1]) (fun p H1 r1 => ?_)
  refine stApp (x := noDoors_2 a q) r1 rfl (by walk_at "mk") (by simp [noDoors_0, noDoors_1, noDoors_2]) (fun H2 r2 => ?_)
  refine stApp (x := noDoors_3 a q) r2 rfl (by walk_at "mk") (by simp [noDoors_0, noDoors_1, noDoors_2, noDoors_3]) (fun H3 r3 => ?_)
  refine stApp (x := noDoors_4 a q) r3 rfl (by walk_at "mk") (by simp [noDoors_0, noDoors_1, noDoors_2, noDoors_3, noDoors_4]) (fun H4 r4 => ?_)
  refine stCat (ys := noDoors_5 a q) r4 rfl (by walk_at "mk") (by simp [noDoors_0, noDoors_1, noDoors_2, noDoors_3, noDoors_4, noDoors_5]) (fun p H5 r5 => ?_)
  refine stApp (x := noDoors_6 a q) r5 rfl (by walk_at "mk") (by simp [noDoors_0, noDoors_1, noDoors_2, noDoors_3, noDoors_4, noDoors_5, noDoors_6]) (fun H6 r6 => ?_)
  refine stApp (x := noDoors_7 a q) r6 rfl (by walk_at "mk") (by simp [noDoors_0, noDoors_1, noDoors_2, noDoors_3, noDoors_4, noDoors_5, noDoors_6, noDoors_7]) (fun H7 r7 => ?_)
  refine stApp (x := noDoors_8 a q) r7 rfl (by walk_at "mk") (by simp [noDoors_0, noDoors_1, noDoors_2, noDoors_3, noDoors_4, noDoors_5, noDoors_6, noDoors_7, noDoors_8]) (fun H8 r8 => ?_)
  refine stApp (x := noDoors_9 a q) r8 rfl (by walk_at "mk") (by simp [noDoors_0, noDoors_1, noDoors_2, noDoors_3, noDoors_4, noDoors_5, noDoors_6, noDoors_7, noDoors_8, noDoors_9]) (fun H9 r9 => ?_)
  exact ⟨_, rfl, qq _ _ r9⟩
theorem cal_others (F : Fn K mg "_law_others" s__law_others) (B : Blt mg) : CalX P w K mg base 1 "_law_others" (spMenu2 othersM) := by
  refine calx F sc__law_others (fun _ _ _ _ _ _ us hl => match us, hl with | [_, _], _ => rfl) (fun vs H Q E h => by obtain ⟨x, _, rfl, _⟩ := h; rfl) ?_
  intro f cdv A' outer s H vs Q E hr hT hx hu h
  refine ⟨_, (pss_cons (ps_set (i := 2) sc__law_others.nd rfl (Or.inl rfl) (pe_lst (pa_cons (pe_tup (pa_cons (pe_litc (l := [115, 104, 97, 114, 101, 32, 120]) (by decide +kernel)) (pa_cons pe_int (pa_cons pe_non pa_nil)))) (pa_cons (pe_tup (pa_cons (pe_litc (l := [115, 104, 97, 114, 101, 32, 50, 47, 52]) (by decide +kernel)) (pa_cons pe_int (pa_cons pe_non pa_nil)))) (pa_cons (pe_tup (pa_cons (pe_litc (l := [115, 104, 97, 114, 101, 32, 49]) (by decide +kernel)) (pa_cons pe_int (pa_cons pe_non pa_nil)))) (pa_cons (pe_tup (pa_cons (pe_litc (l := [115, 104, 97, 114, 101, 32, 45, 49, 47, 50]) (by decide +kernel)) (pa_cons pe_int (pa_cons pe_non pa_nil)))) pa_nil))))))
      (pss_cons (ps_set (i := 2) sc__law_others.nd rfl (Or.inl rfl) (pe_op op_cat (pv 2) (pe_lst (pa_cons (pe_tup (pa_cons (pe_litc (l := [114, 111, 111, 109, 32, 65]) (by decide +kernel)) (pa_cons pe_int (pa_cons pe_non pa_nil)))) (pa_cons (pe_tup (pa_cons (pe_litc (l := [114, 111, 111, 109, 32]) (by decide +kernel)) (pa_cons pe_int (pa_cons pe_non pa_nil)))) (pa_cons (pe_tup (pa_cons (pe_op op_add_w (pe_litc (l := [114, 111, 111, 109, 32]) (by decide +kernel)) (pv 0)) (pa_cons pe_int (pa_cons pe_non pa_nil)))) pa_nil))))))
      (pss_cons (ps_set (i := 2) sc__law_others.nd rfl (Or.inl rfl) (pe_op op_cat (pv 2) (pe_lst (pa_cons (pe_tup (pa_cons (pe_op op_add_w (pe_op op_add_w (pe_litc (l := [115, 104, 117, 116, 32]) (by decide +kernel)) (pv 1)) (pe_litc (l := [32, 88]) (by decide +kernel))) (pa_cons pe_int (pa_cons (pv 1) pa_nil)))) (pa_cons (pe_tup (pa_cons (pe_op op_add_w (pe_op op_add_w (pe_litc (l := [115, 104, 117, 116, 32]) (by decide +kernel)) (pv 0)) (pe_litc (l := [32, 88]) (by decide +kernel))) (pa_cons pe_int (pa_cons (pe_litc (l := [88]) (by decide +kernel)) pa_nil)))) (pa_cons (pe_tup (pa_cons (pe_op op_add_w (pe_litc (l := [103, 111, 97, 108, 32]) (by decide +kernel)) (pv 1)) (pa_cons pe_int (pa_cons (pv 1) pa_nil)))) pa_nil))))))
      (pss_cons (ps_set (i := 2) sc__law_others.nd rfl (Or.inl rfl) (pe_op op_cat (pv 2) (pe_lst (pa_cons (pe_tup (pa_cons (pe_op op_add_w (pe_litc (l := [112, 108, 97, 105, 110, 32]) (by decide +kernel)) (pv 1)) (pa_cons pe_int (pa_cons (pv 1) pa_nil)))) (pa_cons (pe_tup (pa_cons (pe_op op_add_w (pe_litc (l := [109, 111, 115, 116, 32]) (by decide +kernel)) (pv 1)) (pa_cons pe_int (pa_cons (pv 1) pa_nil)))) (pa_cons (pe_tup (pa_cons (pe_litc (l := [108, 101, 97, 115, 116, 32, 65]) (by decide +kernel)) (pa_cons pe_int (pa_cons (pe_litc (l := [65]) (by decide +kernel)) pa_nil)))) pa_nil))))))
      (pss_cons (ps_expr (pe_bm PySem.F.plainAttrs_list PySem.F.slot_list_append PySem.F.type_list_append mt_append (pv 2) (pa_cons (pe_tup (pa_cons (pe_op op_add_w (pe_litc (l := [108, 101, 97, 115, 116, 32]) (by decide +kernel)) (pv 1)) (pa_cons pe_int (pa_cons (pv 1) pa_nil)))) pa_nil)))
      (pss_cons (ps_set (i := 2) sc__law_others.nd rfl (Or.inl rfl) (pe_op op_cat (pv 2) (pe_lst (pa_cons (pe_tup (pa_cons (pe_op op_add_w (pe_litc (l := [98, 111, 117, 110, 100, 115, 32, 48, 32]) (by decide +kernel)) (pv 0)) (pa_cons pe_int (pa_cons pe_non pa_nil)))) (pa_cons (pe_tup (pa_cons (pe_op op_add_w (pe_litc (l := [98, 111, 117, 110, 100, 115, 32, 52, 49, 32]) (by decide +kernel)) (pv 1)) (pa_cons pe_int (pa_cons pe_non pa_nil)))) pa_nil)))))
      (pss_cons (ps_set (i := 2) sc__law_others.nd rfl (Or.inl rfl) (pe_op op_cat (pv 2) (pe_lst (pa_cons (pe_tup (pa_cons (pe_op op_add_w (pe_litc (l := [98, 111, 117, 110, 100, 115, 32, 49, 47, 50, 32]) (by decide +kernel)) (pv 0)) (pa_cons pe_int (pa_cons pe_non pa_nil)))) (pa_cons (pe_tup (pa_cons (pe_op op_add_w (pe_litc (l := [98, 111, 117, 110, 100, 115, 32, 45, 51, 32]) (by decide +kernel)) (pv 0)) (pa_cons pe_int (pa_cons pe_non pa_nil)))) pa_nil)))))
      (pss_cons (ps_for (passes_of rfl) rfl (pi_list (pe_lst (pa_cons (pe_litc (l := [48, 53]) (by decide +kernel)) (pa_cons (pe_litc (l := [43, 51]) (by decide +kernel)) (pa_cons (pe_litc (l := [49, 95, 48]) (by decide +kernel)) (pa_cons (pe_litc (l := [120]) (by decide +kernel)) (pa_cons (pe_litc (l := [51, 47, 49]) (by decide +kernel)) pa_nil))))))) (pg_name (i := 3) sc__law_others.nd rfl (Or.inl rfl))
        (pss_one (ps_expr (pe_bm PySem.F.plainAttrs_list PySem.F.slot_list_append PySem.F.type_list_append mt_append (pv 2) (pa_cons (pe_tup (pa_cons (pe_op op_add_w (pe_op op_add_w (pe_op op_add_w (pe_litc (l := [98, 111, 117, 110, 100, 115, 32]) (by decide +kernel)) (pv 3)) (pe_litc (l := [32]) (by decide +kernel))) (pv 0)) (pa_cons pe_int (pa_cons pe_non pa_nil)))) pa_nil)))))
      (pss_cons (ps_set (i := 2) sc__law_others.nd rfl (Or.inl rfl) (pe_op op_cat (pv 2) (pe_lst (pa_cons (pe_tup (pa_cons (pe_op op_add_w (pe_litc (l := [98, 111, 117, 110, 100, 115, 32, 52, 48, 32]) (by decide +kernel)) (pv 1)) (pa_cons pe_int (pa_cons (pv 1) pa_nil)))) (pa_cons (pe_tup (pa_cons (pe_op op_add_w (pe_op op_add_w (pe_litc (l := [114, 117, 110, 32]) (by decide +kernel)) (pv 1)) (pe_litc (l := [32, 120]) (by decide +kernel))) (pa_cons pe_int (pa_cons (pv 1) pa_nil)))) pa_nil)))))
      (pss_cons (ps_set (i := 2) sc__law_others.nd rfl (Or.inl rfl) (pe_op op_cat (pv 2) (pe_lst (pa_cons (pe_tup (pa_cons (pe_op op_add_w (pe_op op_add_w (pe_litc (l := [114, 117, 110, 32]) (by decide +kernel)) (pv 0)) (pe_litc (l := [32, 49, 47, 50, 32, 120]) (by decide +kernel))) (pa_cons pe_int (pa_cons pe_non pa_nil)))) (pa_cons (pe_tup (pa_cons (pe_op op_add_w (pe_op op_add_w (pe_litc (l := [114, 117, 110, 32]) (by decide +kernel)) (pv 0)) (pe_litc (l := [32]) (by decide +kernel))) (pa_cons pe_int (pa_cons pe_non pa_nil)))) pa_nil)))))
      (pss_one (ps_ret (pv 2))))))))))))), ?_⟩
  obtain ⟨a, q, rfl, ha, hq, qq⟩ := h
  refine stNew (xs := others_0 a q) (Same.refl _) (by walk_at "mk") (by simp [others_0, othersL, bw]) (fun p H0 r0 => ?_)
  refine stCat (ys := others_1 a q) r0 rfl (by walk_at "mk") (by simp [others_0, others_1, othersL, bw]) (fun p H1 r1 => ?_)
  refine stCat (ys := others_2 a q) r1 rfl (by walk_at "mk") (by simp [others_0, others_1, others_2, othersL, bw]) (fun p H2 r2 => ?_)
  refine stCat (ys := others_3 a q) r2 rfl (by walk_at "mk") (by simp [others_0, others_1, others_2, others_3, othersL, bw]) (fun p H3 r3 => ?_)
  refine stApp (x := others_4 a q) r3 rfl (by walk_at "mk") (by simp [others_0, others_1, others_2, others_3, others_4, othersL, bw]) (fun H4 r4 => ?_)
  refine stCat (ys := others_5 a q) r4 rfl (by walk_at "mk") (by simp [others_0, others_1, others_2, others_3, others_4, others_5, othersL, bw]) (fun p H5 r5 => ?_)
  refine stCat (ys := others_6 a q) r5 rfl (by walk_at "mk") (by simp [others_0, others_1, others_2, others_3, others_4, others_5, others_6, othersL, bw]) (fun p H6 r6 => ?_)
  have lw5 : ∀ w ∈ bw, w.length ≤ 3 := by decide
  refine ⟨by show 5 ≤ sizeLine; decide, fun lp hlp => ?_⟩
  obtain ⟨sg, sn, vs6, hv6, hps6⟩ := id r6
  have hpl : p ≠ lp := ne_of_none hv6 hlp
  have r7 : RowsAt H (L2.upd H6 lp (.lst (bw.map sv))) p ((((((((others_0 a q) ++ others_1 a q) ++ others_2 a q) ++ others_3 a q) ++ [others_4 a q]) ++ others_5 a q) ++ others_6 a q)) :=
    ⟨sg.trans (same_upd hlp), sn, vs6, (upd_ne hpl).trans hv6, hps6.mono fun _ _ k => k.mono (same_upd hlp)⟩
  refine ⟨lp, rfl, ⟨_, SqL.of (xs := bw.map sv) upd_same⟩, ?_⟩
  refine for_list (xs := bw.map sv) (fun i σ H' => (∃ o, σ = [some (sv a), some (sv q), some (.ref p), o]) ∧ H' lp = some (.lst (bw.map sv)) ∧ RowsAt H H' p ((((((((others_0 a q) ++ others_1 a q) ++ others_2 a q) ++ others_3 a q) ++ [others_4 a q]) ++ others_5 a q) ++ others_6 a q) ++ (othersL a).take i))
    ⟨⟨_, rfl⟩, upd_same, by rw [List.take_zero, List.append_nil]; exact r7⟩ (fun i σ H' _ h => SqL.of h.2.1) ?_ ?_
  · rintro i y σ H' hi ⟨⟨o, rfl⟩, hl', r8⟩
    rw [List.getElem?_map] at hi
    cases hwi : bw[i]? with
    | none => rw [hwi] at hi; cases hi
    | some w1 =>
      rw [hwi] at hi
      have hi' : sv w1 = y := Option.some.inj hi
      subst hi'
      have hw3 := lw5 w1 (mem_at hwi)
      have hr : (othersL a)[i]? = some ((((([98, 111, 117, 110, 100, 115, 32] : Wd) ++ w1) ++ ([32] : Wd)) ++ a), .num) := by unfold othersL; rw [List.getElem?_map, hwi]; rfl
      refine stAppK (x := ((((([98, 111, 117, 110, 100, 115, 32] : Wd) ++ w1) ++ ([32] : Wd)) ++ a), .num)) r8 rfl (by walk_at "mk") (by simp [others_0, others_1, others_2, others_3, others_4, others_5, others_6, othersL, bw]; omega) (fun H7 k7 r9 => ?_)
      refine ⟨⟨_, rfl⟩, k7 _ _ hpl.symm hl', ?_⟩
      rw [take_snoc hr, ← List.append_assoc]
      exact r9
  rintro σ H11 ⟨⟨o, rfl⟩, hl', r11⟩
  rw [show (bw.map sv).length = (othersL a).length from by simp [othersL], List.take_length] at r11
  refine stCat (ys := others_12 a q) r11 rfl (by walk_at "mk") (by simp [others_0, others_1, others_2, others_3, others_4, others_5, others_6, others_7, others_8, others_9, others_10, others_11, others_12, othersL, bw]) (fun p H12 r12 => ?_)
  refine stCat (ys := others_13 a q) r12 rfl (by walk_at "mk") (by simp [others_0, others_1, others_2, others_3, others_4, others_5, others_6, others_7, others_8, others_9, others_10, others_11, others_12, others_13, othersL, bw]) (fun p H13 r13 => ?_)
  exact ⟨_, rfl, qq _ _ r13⟩
/-! ### the rows that are none -/
def NotText (H : Hp) (v : V) : Prop := v = .non ∨ (∃ i, v = .int i) ∨ (∃ b, v = .bl b) ∨ ∃ p xs, v = .ref p ∧ H p = some (.lst xs)
theorem NotText.mono {H H' : Hp} {v : V} (s : Same H H') (h : NotText H v) : NotText H' v := by
  rcases h with h | h | h | ⟨p, xs, e, q⟩
  · exact .inl h
  · exact .inr (.inl h)
  · exact .inr (.inr (.inl h))
  · exact .inr (.inr (.inr ⟨p, xs, e, s _ _ q⟩))
def IsE (H : Hp) (v : V) : Option Wd → Prop
  | none => NotText H v
  | some t => v = sv t
theorem IsE.mono {H H' : Hp} {v : V} {x : Option Wd} (s : Same H H') (h : IsE H v x) : IsE H' v x := by
  cases x with
  | none => exact NotText.mono s h
  | some t => exact h
def MakerE (σ : L2.St) (te : TE) (x : Option Wd) : Prop := ∀ H Q, (∀ v H', Same H H' → IsE H' v x → Q v H') → te σ H Q
def MakerEs (σ : L2.St) (ta : TA) (xs : List (Option Wd)) : Prop := ∀ H Q, (∀ vs H', Same H H' → Paired (IsE H') vs xs → Q vs H') → ta σ H Q
theorem mkEs {σ : L2.St} {te : TE} {t : Wd} (h : Pure σ te (sv t)) : MakerE σ te (some t) := fun H Q q => h _ _ (q _ _ (Same.refl _) rfl)
theorem mkEn {σ : L2.St} : MakerE σ (tC .non) none := fun H Q q => q _ _ (Same.refl _) (.inl rfl)
theorem mkEi {σ : L2.St} {i : Int} : MakerE σ (tC (.int i)) none := fun H Q q => q _ _ (Same.refl _) (.inr (.inl ⟨_, rfl⟩))
theorem mkEb {σ : L2.St} {b : Bool} : MakerE σ (tC (.bl b)) none := fun H Q q => q _ _ (Same.refl _) (.inr (.inr (.inl ⟨_, rfl⟩)))
theorem mkEl {σ : L2.St} {v : V} : MakerE σ (tLst (tCons (tC v) tNil)) none := fun H Q q => ⟨by show 1 ≤ sizeLine; decide, fun p hp => q _ _ (same_upd hp) (.inr (.inr (.inr ⟨p, _, rfl, upd_same⟩)))⟩
theorem mkENil {σ : L2.St} : MakerEs σ tNil [] := fun H Q q => q [] H (Same.refl _) .nil
theorem mkECons {σ : L2.St} {te : TE} {ta : TA} {x : Option Wd} {xs : List (Option Wd)} (h : MakerE σ te x) (t : MakerEs σ ta xs) : MakerEs σ (tCons te ta) (x :: xs) := fun H Q q =>
  h _ _ fun v H1 s1 hv => t _ _ fun vs H2 s2 hvs => q _ _ (s1.trans s2) (.cons (hv.mono s2) hvs)
def EsAt (G H : Hp) (p : Addr) (xs : List (Option Wd)) : Prop := Same G H ∧ ∃ vs, H p = some (.lst vs) ∧ Paired (IsE H) vs xs
theorem eNew {σ : L2.St} {G H : Hp} {i : Nat} {ta : TA} {xs : List (Option Wd)} {nx : L2.St → Hp → Prop} (s : Same G H) (m : MakerEs σ ta xs) (hl : xs.length ≤ 1000) (q : ∀ p H', EsAt G H' p xs → nx (σ.set i (some (.ref p))) H') : tLst ta σ H (fun x H1 => gName i x σ H1 nx) :=
  m _ _ fun vs H1 s1 hv => ⟨by rw [hv.length, sizeLine_eq]; omega, fun p hp => q p _ ⟨(s.trans s1).trans (same_upd hp), vs, upd_same, hv.mono fun _ _ k => k.mono (same_upd hp)⟩⟩
theorem eCat {σ : L2.St} {G H : Hp} {i : Nat} {p : Addr} {ta : TA} {xs ys : List (Option Wd)} {nx : L2.St → Hp → Prop} (r : EsAt G H p xs) (hi : σ[i]? = some (some (.ref p))) (m : MakerEs σ ta ys) (hl : xs.length + ys.length ≤ 1000) (q : ∀ p H', EsAt G H' p (xs ++ ys) → nx (σ.set i (some (.ref p))) H') :
    tOp rCat (tVar i) (tLst ta) σ H (fun x H1 => gName i x σ H1 nx) := by
  obtain ⟨s, vs, hv, hps⟩ := r
  refine ⟨_, hi, m _ _ fun us H1 s1 hu => ⟨by rw [hu.length, sizeLine_eq]; omega, fun l hl' => ?_⟩⟩
  have s2 := s1.trans (same_upd (o := .lst us) hl')
  refine ⟨p, l, vs, us, rfl, rfl, s2 _ _ hv, upd_same, by rw [hps.length, hu.length, sizeLine_eq]; omega, fun p2 hp2 => ?_⟩
  have s3 := s2.trans (same_upd (o := .lst (vs ++ us)) hp2)
  exact q p2 _ ⟨s.trans s3, _, upd_same, stCat.paired_app (hps.mono fun _ _ k => k.mono s3) (hu.mono fun _ _ k => k.mono ((same_upd hl').trans (same_upd hp2)))⟩
local macro_rules | `(tactic| walk_at "me") => `(tactic| repeat' (first | exact mkENil | refine mkECons ?_ ?_ | exact mkEn | exact mkEi | exact mkEb | exact mkEl | refine mkEs ?_ | exact pureC | exact pureV rfl | refine pureAdd ?_ ?_ ?_ | (simp only [List.length_append, List.length_cons, List.length_nil]; omega)))
def IsNo (H : Hp) (v : V) (x : Option Wd) : Prop := ∃ t rv, v = .ref t ∧ H t = some (.tup [rv, .int 5, .non]) ∧ IsE H rv x
theorem IsNo.mono {H H' : Hp} {v : V} {x} (s : Same H H') (h : IsNo H v x) : IsNo H' v x := let ⟨t, rv, e, q, r⟩ := h; ⟨t, rv, e, s _ _ q, r.mono s⟩
def spNoRows : Sp := fun vs H Q _ => ∃ a : Wd, vs = [sv a] ∧ a.length ≤ 3 ∧ ∀ p vs H', Same H H' → H' p = some (.lst vs) → Paired (IsNo H') vs (noRowsM a) → Q (.ref p) H'
theorem cal_no_rows (F : Fn K mg "_law_no_rows" s__law_no_rows) (B : Blt mg) : CalX P w K mg base 1 "_law_no_rows" spNoRows := by
  refine calx F sc__law_no_rows (fun _ _ _ _ _ _ us hl => match us, hl with | [_], _ => rfl) (fun vs H Q E h => by obtain ⟨x, rfl, _⟩ := h; rfl) ?_
  intro f cdv A' outer s H vs Q E hr hT hx hu h
  refine ⟨_, (pss_cons (ps_set (i := 1) sc__law_no_rows.nd rfl (Or.inl rfl) (pe_lst (pa_cons pe_non (pa_cons pe_int (pa_cons (pe_lst (pa_cons (pe_litc (l := [98, 101, 115, 116]) (by decide +kernel)) pa_nil)) (pa_cons pe_bl (pa_cons (pe_litc (l := []) (by decide +kernel)) (pa_cons (pe_litc (l := [32]) (by decide +kernel)) (pa_cons (pe_litc (l := [98, 101, 115, 116, 115]) (by decide +kernel)) (pa_cons (pe_litc (l := [98, 101, 115, 116, 32]) (by decide +kernel)) (pa_cons (pe_litc (l := [32, 98, 101, 115, 116]) (by decide +kernel)) pa_nil)))))))))))
      (pss_cons (ps_set (i := 1) sc__law_no_rows.nd rfl (Or.inl rfl) (pe_op op_cat (pv 1) (pe_lst (pa_cons (pe_op op_add_w (pe_litc (l := [98, 101, 115, 116, 32]) (by decide +kernel)) (pv 0)) (pa_cons (pe_op op_add_w (pe_litc (l := [115, 104, 111, 119, 32]) (by decide +kernel)) (pv 0)) (pa_cons (pe_op op_add_w (pe_litc (l := [108, 111, 116, 115, 32]) (by decide +kernel)) (pv 0)) pa_nil))))))
      (pss_cons (ps_set (i := 2) sc__law_no_rows.nd rfl (Or.inl rfl) (pe_op op_add_w (pe_op op_add_w (pe_op op_add_w (pe_litc (l := [32]) (by decide +kernel)) (pv 0)) (pe_litc (l := [32]) (by decide +kernel))) (pv 0)))
      (pss_cons (ps_set (i := 1) sc__law_no_rows.nd rfl (Or.inl rfl) (pe_op op_cat (pv 1) (pe_lst (pa_cons (pe_litc (l := [115, 104, 97, 114, 101]) (by decide +kernel)) (pa_cons (pe_litc (l := [115, 104, 97, 114, 101, 32, 49, 47, 50, 32, 49, 47, 50]) (by decide +kernel)) (pa_cons (pe_litc (l := [114, 111, 111, 109]) (by decide +kernel)) (pa_cons (pe_op op_add_w (pe_litc (l := [114, 111, 111, 109]) (by decide +kernel)) (pv 2)) (pa_cons (pe_op op_add_w (pe_litc (l := [115, 104, 117, 116, 32]) (by decide +kernel)) (pv 0)) (pa_cons (pe_litc (l := [103, 111, 97, 108]) (by decide +kernel)) (pa_cons (pe_op op_add_w (pe_litc (l := [103, 111, 97, 108, 32, 32]) (by decide +kernel)) (pv 0)) pa_nil))))))))))
      (pss_cons (ps_set (i := 1) sc__law_no_rows.nd rfl (Or.inl rfl) (pe_op op_cat (pv 1) (pe_lst (pa_cons (pe_litc (l := [109, 111, 115, 116]) (by decide +kernel)) (pa_cons (pe_op op_add_w (pe_litc (l := [108, 101, 97, 115, 116]) (by decide +kernel)) (pv 2)) (pa_cons (pe_litc (l := [98, 111, 117, 110, 100, 115, 32, 49]) (by decide +kernel)) (pa_cons (pe_op op_add_w (pe_litc (l := [98, 111, 117, 110, 100, 115, 32, 49]) (by decide +kernel)) (pv 2)) (pa_cons (pe_litc (l := [114, 117, 110]) (by decide +kernel)) (pa_cons (pe_litc (l := [100, 111, 111, 114]) (by decide +kernel)) (pa_cons (pe_op op_add_w (pe_litc (l := [100, 111, 111, 114, 32]) (by decide +kernel)) (pv 0)) pa_nil))))))))))
      (pss_cons (ps_set (i := 3) sc__law_no_rows.nd rfl (Or.inl rfl) (pe_op op_add_w (pe_op op_add_w (pe_litc (l := [100, 111, 111, 114, 32]) (by decide +kernel)) (pv 0)) (pe_litc (l := [32, 120, 32, 49, 32]) (by decide +kernel))))
      (pss_cons (ps_set (i := 1) sc__law_no_rows.nd rfl (Or.inl rfl) (pe_op op_cat (pv 1) (pe_lst (pa_cons (pe_op op_add_w (pv 3) (pe_litc (l := [115, 117, 114, 101]) (by decide +kernel))) (pa_cons (pe_op op_add_w (pe_op op_add_w (pv 3) (pe_litc (l := [101, 118, 110, 32]) (by decide +kernel))) (pv 0)) (pa_cons (pe_op op_add_w (pe_op op_add_w (pv 3) (pe_litc (l := [109, 105, 120, 101, 100, 32]) (by decide +kernel))) (pv 0)) (pa_cons (pe_op op_add_w (pe_op op_add_w (pv 3) (pe_litc (l := [116, 111, 115, 115, 32, 49, 47, 50, 32]) (by decide +kernel))) (pv 0)) pa_nil)))))))
      (pss_cons (ps_set (i := 1) sc__law_no_rows.nd rfl (Or.inl rfl) (pe_op op_cat (pv 1) (pe_lst (pa_cons (pe_op op_add_w (pe_op op_add_w (pv 3) (pe_litc (l := [115, 117, 114, 101]) (by decide +kernel))) (pv 2)) (pa_cons (pe_op op_add_w (pe_op op_add_w (pe_op op_add_w (pv 3) (pe_litc (l := [116, 111, 115, 115, 32, 49, 47, 50, 32]) (by decide +kernel))) (pv 0)) (pv 2)) (pa_cons (pe_op op_add_w (pe_op op_add_w (pe_op op_add_w (pe_op op_add_w (pv 3) (pe_litc (l := [109, 105, 120, 101, 100, 32]) (by decide +kernel))) (pv 0)) (pe_litc (l := [32, 49, 32]) (by decide +kernel))) (pv 0)) pa_nil))))))
      (pss_cons (ps_set (i := 1) sc__law_no_rows.nd rfl (Or.inl rfl) (pe_op op_cat (pv 1) (pe_lst (pa_cons (pe_op op_add_w (pe_op op_add_w (pe_litc (l := [115, 104, 117, 116, 32]) (by decide +kernel)) (pv 0)) (pe_litc (l := [32, 103, 32, 103]) (by decide +kernel))) (pa_cons (pe_op op_add_w (pe_litc (l := [112, 108, 97, 105, 110]) (by decide +kernel)) (pv 2)) (pa_cons (pe_op op_add_w (pe_litc (l := [109, 111, 115, 116]) (by decide +kernel)) (pv 2)) (pa_cons (pe_op op_add_w (pe_litc (l := [103, 111, 97, 108]) (by decide +kernel)) (pv 2)) pa_nil)))))))
      (pss_cons (ps_set (i := 1) sc__law_no_rows.nd rfl (Or.inl rfl) (pe_op op_cat (pv 1) (pe_lst (pa_cons (pe_litc (l := [66, 101, 115, 116]) (by decide +kernel)) (pa_cons (pe_litc (l := [119, 111, 114, 116, 104, 115]) (by decide +kernel)) (pa_cons (pe_litc (l := [112, 108, 97, 105, 110]) (by decide +kernel)) (pa_cons (pe_litc (l := [98, 101, 115, 116, 10]) (by decide +kernel)) pa_nil)))))))
      (pss_one (ps_ret (pe_lc (own := [("_law_row", 4)]) rfl sc__law_no_rows.nd (pi_list (pv 1)) (blkOk_by (own := [("_law_row", 4)]) (N := ["_law_a", "_law_some", "_law_two", "_law_door", "_law_row"]) (sc := defScope s__law_no_rows) (by decide +kernel)) (fun _ _ _ _ _ => (pg_name (i := 4) sc__law_no_rows.nd rfl (Or.inl rfl))) (fun _ _ _ _ _ => pts_nil) (fun _ _ _ _ _ => (pe_tup (pa_cons (pv 4) (pa_cons pe_int (pa_cons pe_non pa_nil)))))))))))))))))), ?_⟩
  obtain ⟨a, rfl, ha, qq⟩ := h
  refine eNew (xs := noRows_0 a) (Same.refl _) (by walk_at "me") (by simp [noRows_0]) (fun p H0 r0 => ?_)
  refine eCat (ys := noRows_1 a) r0 rfl (by walk_at "me") (by simp [noRows_0, noRows_1]) (fun p H1 r1 => ?_)
  refine ⟨_, rfl, _, _, rfl, rfl, by rw [sizeLine_eq]; simp only [List.length_cons, List.length_nil]; omega, ?_⟩
  refine ⟨_, _, rfl, rfl, by rw [sizeLine_eq]; simp only [List.length_append, List.length_cons, List.length_nil]; omega, ?_⟩
  refine ⟨_, rfl, _, _, rfl, rfl, by rw [sizeLine_eq]; simp only [List.length_append, List.length_cons, List.length_nil]; omega, ?_⟩
  refine gName_go ?_
  dsimp only
  refine eCat (ys := noRows_2 a) r1 rfl (by walk_at "me") (by simp [noRows_0, noRows_1, noRows_2]) (fun p H2 r2 => ?_)
  refine eCat (ys := noRows_3 a) r2 rfl (by walk_at "me") (by simp [noRows_0, noRows_1, noRows_2, noRows_3]) (fun p H3 r3 => ?_)
  refine ⟨_, rfl, _, _, rfl, rfl, by rw [sizeLine_eq]; simp only [List.length_cons, List.length_nil]; omega, ?_⟩
  refine ⟨_, _, rfl, rfl, by rw [sizeLine_eq]; simp only [List.length_append, List.length_cons, List.length_nil]; omega, ?_⟩
  refine gName_go ?_
  dsimp only
  refine eCat (ys := noRows_4 a) r3 rfl (by walk_at "me") (by simp [noRows_0, noRows_1, noRows_2, noRows_3, noRows_4]) (fun p H4 r4 => ?_)
  refine eCat (ys := noRows_5 a) r4 rfl (by walk_at "me") (by simp [noRows_0, noRows_1, noRows_2, noRows_3, noRows_4, noRows_5]) (fun p H5 r5 => ?_)
  refine eCat (ys := noRows_6 a) r5 rfl (by walk_at "me") (by simp [noRows_0, noRows_1, noRows_2, noRows_3, noRows_4, noRows_5, noRows_6]) (fun p H6 r6 => ?_)
  refine eCat (ys := noRows_7 a) r6 rfl (by walk_at "me") (by simp [noRows_0, noRows_1, noRows_2, noRows_3, noRows_4, noRows_5, noRows_6, noRows_7]) (fun p H7 r7 => ?_)
  have r8 : EsAt H H7 p (noRowsM a) := r7
  obtain ⟨s8, us, hus, hps⟩ := r8
  have hml : (noRowsM a).length ≤ 100 := by simp [noRowsM, noRows_0, noRows_1, noRows_2, noRows_3, noRows_4, noRows_5, noRows_6, noRows_7]
  refine ⟨_, rfl, p, rfl, ⟨_, SqL.of hus⟩, fun D hD => ?_⟩
  refine lc_list (xs := us) (fun i H' => Same H7 H' ∧ ∃ vs, H' D = some (.lst vs) ∧ Paired (IsNo (L2.del H' D)) vs ((noRowsM a).take i)) ⟨same_upd hD, [], upd_same, .nil⟩ (fun i H' _ h => SqL.of (h.1 _ _ hus)) ?_ ?_
  · rintro i y H' hi ⟨s9, vs, hv, hvs⟩
    obtain ⟨x, hxi, hx⟩ := paired_get hps hi
    refine ⟨rfl, ?_⟩
    refine ⟨_, rfl, by show 3 ≤ sizeLine; decide, fun t ht => ?_⟩
    have s10 := same_upd (o := .tup [y, .int 5, .non]) ht
    have hv2 := s10 _ _ hv
    have htD : t ≠ D := fun e => by rw [e, hv] at ht; cases ht
    refine ⟨vs, hv2, by rw [hvs.length, List.length_take, sizeLine_eq]; omega, same_off (s9.trans s10) hD, _, upd_same, ?_⟩
    rw [del_upd, take_snoc hxi]
    exact (hvs.mono fun _ _ k => k.mono (same_dels s10)).snoc ⟨t, y, rfl, (del_ne htD).trans upd_same, hx.mono (same_del (s9.trans s10) hD)⟩
  · rintro H' ⟨s9, vs, hv, hvs⟩
    rw [hps.length, List.take_length] at hvs
    exact qq D vs H' (s8.trans s9) hv (hvs.mono fun _ _ k => k.mono del_le)
/-! ### the plans' menu -/
def PureH (σ : L2.St) (H : Hp) (te : TE) (v : V) : Prop := ∀ Q, Q v H → te σ H Q
theorem pureHC {σ : L2.St} {H : Hp} {v : V} : PureH σ H (tC v) v := fun _ q => q
theorem pureHV {σ : L2.St} {H : Hp} {i : Nat} {v : V} (h : σ[i]? = some (some v)) : PureH σ H (tVar i) v := fun _ q => ⟨v, h, q⟩
theorem pureHAdd {σ : L2.St} {H : Hp} {ta tb : TE} {a b : Wd} (ha : PureH σ H ta (sv a)) (hb : PureH σ H tb (sv b)) (hl : a.length + b.length ≤ 10000) :
    PureH σ H (tOp (fun x y H Q => ∃ a b : Wd, x = sv a ∧ y = sv b ∧ a.length + b.length ≤ sizeLine ∧ Q (sv (a ++ b)) H) ta tb) (sv (a ++ b)) := fun Q q => ha _ (hb _ ⟨a, b, rfl, rfl, by rw [sizeLine_eq]; omega, q⟩)
theorem pureHIx {σ : L2.St} {H : Hp} {i j : Nat} {p : Addr} {k : Int} {xs : List V} {v : V} (h1 : σ[i]? = some (some (.ref p))) (h2 : σ[j]? = some (some (.int k))) (h3 : H p = some (.lst xs)) (h4 : atI xs k = some v) : PureH σ H (tOp (rIxL K) (tVar i) (tVar j)) v :=
  fun Q q => ⟨_, h1, _, h2, p, xs, k, v, rfl, rfl, SqL.of h3, h4, q⟩
def ListMk (σ : L2.St) (H : Hp) (tl : TE) (ws : List Wd) : Prop := ∀ Q, (∀ l H', Same H H' → H' l = some (.lst (ws.map sv)) → Q (.ref l) H') → tl σ H Q
theorem lmCat {σ : L2.St} {H : Hp} {i : Nat} {p : Addr} {te : TE} {ws : List Wd} {w : Wd} (hi : σ[i]? = some (some (.ref p))) (hp : H p = some (.lst (ws.map sv))) (h : PureH σ H te (sv w)) (hl : ws.length ≤ 1000) : ListMk σ H (tOp rCat (tVar i) (tLst (tCons te tNil))) (ws ++ [w]) := fun Q q =>
  ⟨_, hi, h _ ⟨by show 1 ≤ sizeLine; decide, fun l hl' => ⟨p, l, _, _, rfl, rfl, (same_upd hl') _ _ hp, upd_same, by show (ws.map sv).length + 1 ≤ sizeLine; rw [List.length_map, sizeLine_eq]; omega, fun l2 hl2 =>
    q l2 _ ((same_upd hl').trans (same_upd hl2)) (by rw [upd_same, List.map_append]; rfl)⟩⟩⟩
theorem lmCat2 {σ : L2.St} {H : Hp} {ta : TE} {j : Nat} {p : Addr} {ws us : List Wd} (h : ListMk σ H ta ws) (hj : σ[j]? = some (some (.ref p))) (hp : H p = some (.lst (us.map sv))) (hl : ws.length + us.length ≤ 1000) : ListMk σ H (tOp rCat ta (tVar j)) (ws ++ us) := fun Q q =>
  h _ fun l H1 s1 hl1 => ⟨_, hj, l, p, _, _, rfl, rfl, hl1, s1 _ _ hp, by rw [List.length_map, List.length_map, sizeLine_eq]; omega, fun l2 hl2 => q l2 _ (s1.trans (same_upd hl2)) (by rw [upd_same, List.map_append])⟩
def MakerH (σ : L2.St) (H : Hp) (te : TE) (x : Wd × Rf) : Prop := ∀ Q, (∀ v H', Same H H' → IsRow H' v x → Q v H') → te σ H Q
theorem mkhJoin {σ : L2.St} {H : Hp} {tl t3 : TE} {n : Int} {ws : List Wd} {e : Rf} (h : ListMk σ H tl ws) (h3 : Pure σ t3 e.val) (hn : n = e.at_) (hl : ws.length ≤ 20 ∧ ∀ w ∈ ws, w.length ≤ 100) :
    MakerH σ H (tTup (tCons (tM1 (fun x xs H Q => ∃ a p, ∃ ys : List Str, x = .str a ∧ xs = [.ref p] ∧ (SqL K H p (ys.map V.str) ∨ SqT K H p (ys.map V.str)) ∧ (ys.map (·.length)).sum + ys.length * a.length ≤ 16777216 ∧ Q (.str (Txt.join a ys)) H) (tC (sv [32])) tl) (tCons (tC (.int n)) (tCons t3 tNil)))) (TL.joinL [32] ws, e) := fun Q q => by
  refine ⟨⟨_, rfl⟩, h _ fun l H1 s1 hl1 => ?_⟩
  have hl1' : H1 l = some (.lst ((ws.map SX.S).map V.str)) := by rw [hl1, List.map_map]; rfl
  refine ⟨SX.S [32], l, _, rfl, rfl, .inl (SqL.of hl1'), ?_, ?_⟩
  · have := sum_len (c := 100) ws hl.2
    rw [SX.S_len, List.length_map, show ([32] : Wd).length = 1 from rfl]; omega
  rw [SX.join_S]
  exact h3 _ _ ⟨by show 3 ≤ sizeLine; decide, fun p hp => q _ _ (s1.trans (same_upd hp)) ⟨p, rfl, by rw [hn]; exact upd_same⟩⟩
theorem mkhText {σ : L2.St} {H : Hp} {t1 t3 : TE} {n : Int} {x : Wd × Rf} (h1 : PureH σ H t1 (sv x.1)) (h3 : Pure σ t3 x.2.val) (hn : n = x.2.at_) : MakerH σ H (tTup (tCons t1 (tCons (tC (.int n)) (tCons t3 tNil)))) x := fun Q q =>
  h1 _ (h3 _ _ ⟨by show 3 ≤ sizeLine; decide, fun p hp => q _ _ (same_upd hp) ⟨p, rfl, by rw [hn]; exact upd_same⟩⟩)
theorem stAppH {σ : L2.St} {G H : Hp} {i : Nat} {p : Addr} {te : TE} {xs : List (Wd × Rf)} {x : Wd × Rf} {nx : L2.St → Hp → Prop} (r : RowsAt G H p xs) (hi : σ[i]? = some (some (.ref p))) (m : MakerH σ H te x) (hl : xs.length ≤ 1000) (q : ∀ H', (∀ b o, b ≠ p → H b = some o → H' b = some o) → RowsAt G H' p (xs ++ [x]) → nx σ H') :
    tBM K "list" rAppend (tVar i) (tCons te tNil) σ H (fun _ H1 => nx σ H1) := by
  obtain ⟨s, n, vs, hv, hps⟩ := r
  refine ⟨_, hi, tyL hv, m _ fun u H1 s1 hu => ?_⟩
  have hv1 := s1 _ _ hv
  refine ⟨p, vs, u, rfl, rfl, hv1, by rw [hps.length, sizeLine_eq]; omega, q _ (fun b o hb e => by rw [upd_ne hb]; exact s1 _ _ e) ⟨same_off (s.trans s1) n, n, _, upd_same, ?_⟩⟩
  exact (hps.mono fun _ _ k => (IsRow.mono s1 k).upd hv1 nt_lst).snoc (hu.upd hv1 nt_lst)
theorem stNew1 {σ : L2.St} {G H : Hp} {i : Nat} {te : TE} {x : Wd × Rf} {nx : L2.St → Hp → Prop} (s : Same G H) (m : MakerH σ H te x) (q : ∀ p H', Same H H' → H p = none → RowsAt G H' p [x] → nx (σ.set i (some (.ref p))) H') : tLst (tCons te tNil) σ H (fun x H1 => gName i x σ H1 nx) :=
  m _ fun v H1 s1 hv => ⟨by show 1 ≤ sizeLine; decide, fun p hp => q p _ (s1.trans (same_upd hp)) (s1.free hp) ⟨(s.trans s1).trans (same_upd hp), (s.trans s1).free hp, [v], upd_same, .cons (hv.mono (same_upd hp)) .nil⟩⟩
theorem stIf {σ : L2.St} {G H : Hp} {p : Addr} {xs : List (Wd × Rf)} {x : Wd × Rf} {b : Bool} {nx : L2.St → Hp → Prop} {Ap : Prop} (r : RowsAt G H p xs) (hA : (∀ H', (∀ b o, b ≠ p → H b = some o → H' b = some o) → RowsAt G H' p (xs ++ [x]) → nx σ H') → Ap)
    (q : ∀ H', (∀ b o, b ≠ p → H b = some o → H' b = some o) → RowsAt G H' p (xs ++ if b = true then [x] else []) → nx σ H') : if b = true then Ap else nx σ H := by
  cases b with
  | true => rw [if_pos rfl]; exact hA fun H' k r' => q H' k (by rw [if_pos rfl]; exact r')
  | false => rw [if_neg (by simp)]; exact q H (fun _ _ _ e => e) (by rw [if_neg (by simp), List.append_nil]; exact r)
def planC (r : List RDoor) : Wd := if 0 < r.length then [103] else [45]
def planW (rs : List (List RDoor)) : List Wd := [119, 111, 114, 116, 104] :: rs.map planC
def plansK (rs : List (List RDoor)) (names : List Wd) (k : Nat) : List (Wd × Rf) :=
  [(TL.joinL [32] ((planW rs).take (k + 1) ++ [if 0 < (rs.getD k []).length then [45] else [103]] ++ (planW rs).drop (k + 2)), .plan (some k))] ++
  (if 0 < (rs.getD k []).length then [(TL.joinL [32] ((planW rs).take (k + 1) ++ [[88]] ++ (planW rs).drop (k + 2)), .door [88]),
    ((((((([100, 111, 111, 114, 32] : Wd) ++ names.getD k []) ++ ([32, 103, 32, 49, 32] : Wd)) ++ ([116, 111, 115, 115, 32, 50, 32] : Wd)) ++ names.getD k []) ++ ([32] : Wd)) ++ names.getD k [], .chance),
    ((((([100, 111, 111, 114, 32] : Wd) ++ names.getD k []) ++ ([32, 103, 32, 49, 32] : Wd)) ++ ([115, 117, 114, 101, 32] : Wd)) ++ names.getD (names.length - 1) [], .name)] else [])
def plans0 (rs : List (List RDoor)) : List (Wd × Rf) := [(TL.joinL [32] (planW rs ++ [[103]]), .plan none)] ++ (if 1 < rs.length then [(TL.joinL [32] ((planW rs).take ((planW rs).length - 1)), .plan none)] else [])
def plansU (rs : List (List RDoor)) (names : List Wd) (k : Nat) : List (Wd × Rf) := plans0 rs ++ ((List.range k).map (plansK rs names)).flatten
theorem plans_len {rs : List (List RDoor)} {names : List Wd} : ∀ k, (plansU rs names k).length ≤ 2 + 4 * k
  | 0 => by unfold plansU plans0; split <;> simp
  | k + 1 => by
    have ih := plans_len (rs := rs) (names := names) k
    unfold plansU at ih ⊢
    rw [List.range_succ, List.map_append, List.flatten_append, ← List.append_assoc, List.length_append]
    have : (plansK rs names k).length ≤ 4 := by unfold plansK; split <;> simp
    simp only [List.map_cons, List.map_nil, List.flatten_cons, List.flatten_nil, List.append_nil]
    omega
theorem cut_to (n : Nat) (ws : List Wd) : cutV (ws.map sv) none (some (n : Int)) = (ws.take n).map sv := by
  unfold cutV
  rw [HT.sIx_nat, HT.sIx_none, List.length_map, List.map_take, Nat.sub_zero, List.drop_zero]
  by_cases h : n ≤ ws.length
  · rw [Nat.min_eq_left h]
  · rw [Nat.min_eq_right (by omega), List.take_of_length_le (by simp), List.take_of_length_le (by simp; omega)]
theorem cut_last (ws : List Wd) : cutV (ws.map sv) none (some (-1)) = (ws.take (ws.length - 1)).map sv := by
  unfold cutV
  rw [HT.sIx_none, List.length_map, List.map_take, Nat.sub_zero, List.drop_zero]
  congr 1
  show (if (-1 : Int) < 0 then ((-1 : Int) + (ws.length : Int)).toNat else min (-1 : Int).toNat ws.length) = _
  rw [if_pos (by decide)]; omega
theorem planW_len (rs : List (List RDoor)) : (planW rs).length = rs.length + 1 := by simp [planW]
theorem planW_short {rs : List (List RDoor)} : ∀ w ∈ planW rs, w.length ≤ 5 := by
  intro w hw
  rcases List.mem_cons.mp hw with rfl | hw
  · decide
  · obtain ⟨r, _, rfl⟩ := List.mem_map.mp hw
    unfold planC; split <;> decide
theorem atI_last {names : List Wd} {w : Wd} (h : names[names.length - 1]? = some w) (hn : 1 ≤ names.length) : atI (names.map sv) (-1) = some (sv w) := by
  unfold atI ixN
  rw [if_neg (by decide), List.length_map, if_pos (by omega)]
  show (names.map sv)[(-1 + (names.length : Int)).toNat]? = _
  rw [show (-1 + (names.length : Int)).toNat = names.length - 1 by omega, List.getElem?_map, h]
  rfl
def spPlans : Sp := fun vs H Q _ => ∃ rv nv rs names, vs = [rv, nv] ∧ IsRR H rv rs ∧ IsWs H nv names ∧ names.length = rs.length + 1 ∧ 1 ≤ rs.length ∧ rs.length ≤ 3 ∧ (∀ x ∈ names, x.length ≤ 3) ∧ ∀ p H', RowsAt H H' p (plansU rs names rs.length) → Q (.ref p) H'
theorem cal_plans (F : Fn K mg "_law_plans" s__law_plans) (B : Blt mg) : CalX P w K mg base 1 "_law_plans" spPlans := by
  refine calx F sc__law_plans (fun _ _ _ _ _ _ us hl => match us, hl with | [_, _], _ => rfl) (fun vs H Q E h => by obtain ⟨x, _, _, _, rfl, _⟩ := h; rfl) ?_
  intro f cdv A' outer s H vs Q E hr hT hx hu h
  refine ⟨_, (pss_cons (ps_set (i := 2) sc__law_plans.nd rfl (Or.inl rfl) (pe_lst (pa_cons (pe_litc (l := [119, 111, 114, 116, 104]) (by decide +kernel)) pa_nil)))
      (pss_cons (ps_for (passes_of rfl) rfl (pi_list (pv 0)) (pg_name (i := 3) sc__law_plans.nd rfl (Or.inl rfl))
        (pss_one (ps_expr (pe_bm PySem.F.plainAttrs_list PySem.F.slot_list_append PySem.F.type_list_append mt_append (pv 2) (pa_cons (pe_ix ix_list (pe_lst (pa_cons (pe_litc (l := [45]) (by decide +kernel)) (pa_cons (pe_litc (l := [103]) (by decide +kernel)) pa_nil))) (pe_callTy call_int1 (by rfl) B.int boot_int (pa_cons (pe_cmpR op_gt (pe_callB call_len (by rfl) B.len (by decide +kernel) (pa_cons (pv 3) pa_nil)) pe_int (nomark _)) pa_nil)) (fun _ _ => rfl)) pa_nil)))))
      (pss_cons (ps_set (i := 4) sc__law_plans.nd rfl (Or.inl rfl) (pe_lst (pa_cons (pe_tup (pa_cons (pe_join (pe_litc (l := [32]) (by decide +kernel)) (pe_op op_cat (pv 2) (pe_lst (pa_cons (pe_litc (l := [103]) (by decide +kernel)) pa_nil)))) (pa_cons pe_int (pa_cons pe_non pa_nil)))) pa_nil)))
      (pss_cons (ps_if (pt_cmpR op_gt (pe_callB call_len (by rfl) B.len (by decide +kernel) (pa_cons (pv 0) pa_nil)) pe_int (nomark _)) (pss_one (ps_expr (pe_bm PySem.F.plainAttrs_list PySem.F.slot_list_append PySem.F.type_list_append mt_append (pv 4) (pa_cons (pe_tup (pa_cons (pe_join (pe_litc (l := [32]) (by decide +kernel)) (pe_slice sl_list (pv 2) po_none (po_some (pe_un un_neg pe_int)))) (pa_cons pe_int (pa_cons pe_non pa_nil)))) pa_nil)))) pss_nil)
      (pss_cons (ps_for (passes_of rfl) rfl (pi_range1 rfl B.range (pa_cons (pe_callB call_len (by rfl) B.len (by decide +kernel) (pa_cons (pv 0) pa_nil)) pa_nil)) (pg_name (i := 5) sc__law_plans.nd rfl (Or.inl rfl))
        (pss_cons (ps_set (i := 6) sc__law_plans.nd rfl (Or.inl rfl) (pe_slice sl_list (pv 2) po_none (po_some (pe_op op_add (pv 5) pe_int))))
        (pss_cons (ps_set (i := 7) sc__law_plans.nd rfl (Or.inl rfl) (pe_slice sl_list (pv 2) (po_some (pe_op op_add (pv 5) pe_int)) po_none))
        (pss_cons (ps_set (i := 8) sc__law_plans.nd rfl (Or.inl rfl) (pe_ix ix_list (pe_lst (pa_cons (pe_litc (l := [103]) (by decide +kernel)) (pa_cons (pe_litc (l := [45]) (by decide +kernel)) pa_nil))) (pe_callTy call_int1 (by rfl) B.int boot_int (pa_cons (pe_cmpR op_gt (pe_callB call_len (by rfl) B.len (by decide +kernel) (pa_cons (pe_ix ix_list (pv 0) (pv 5) (fun _ _ => rfl)) pa_nil)) pe_int (nomark _)) pa_nil)) (fun _ _ => rfl)))
        (pss_cons (ps_expr (pe_bm PySem.F.plainAttrs_list PySem.F.slot_list_append PySem.F.type_list_append mt_append (pv 4) (pa_cons (pe_tup (pa_cons (pe_join (pe_litc (l := [32]) (by decide +kernel)) (pe_op op_cat (pe_op op_cat (pv 6) (pe_lst (pa_cons (pv 8) pa_nil))) (pv 7))) (pa_cons pe_int (pa_cons (pv 5) pa_nil)))) pa_nil)))
        (pss_one (ps_if (pt_cmpR op_gt (pe_callB call_len (by rfl) B.len (by decide +kernel) (pa_cons (pe_ix ix_list (pv 0) (pv 5) (fun _ _ => rfl)) pa_nil)) pe_int (nomark _)) (pss_cons (ps_expr (pe_bm PySem.F.plainAttrs_list PySem.F.slot_list_append PySem.F.type_list_append mt_append (pv 4) (pa_cons (pe_tup (pa_cons (pe_join (pe_litc (l := [32]) (by decide +kernel)) (pe_op op_cat (pe_op op_cat (pv 6) (pe_lst (pa_cons (pe_litc (l := [88]) (by decide +kernel)) pa_nil))) (pv 7))) (pa_cons pe_int (pa_cons (pe_litc (l := [88]) (by decide +kernel)) pa_nil)))) pa_nil)))
          (pss_cons (ps_set (i := 9) sc__law_plans.nd rfl (Or.inl rfl) (pe_op op_add_w (pe_op op_add_w (pe_litc (l := [100, 111, 111, 114, 32]) (by decide +kernel)) (pe_ix ix_list (pv 1) (pv 5) (fun _ _ => rfl))) (pe_litc (l := [32, 103, 32, 49, 32]) (by decide +kernel))))
          (pss_cons (ps_expr (pe_bm PySem.F.plainAttrs_list PySem.F.slot_list_append PySem.F.type_list_append mt_append (pv 4) (pa_cons (pe_tup (pa_cons (pe_op op_add_w (pe_op op_add_w (pe_op op_add_w (pe_op op_add_w (pv 9) (pe_litc (l := [116, 111, 115, 115, 32, 50, 32]) (by decide +kernel))) (pe_ix ix_list (pv 1) (pv 5) (fun _ _ => rfl))) (pe_litc (l := [32]) (by decide +kernel))) (pe_ix ix_list (pv 1) (pv 5) (fun _ _ => rfl))) (pa_cons pe_int (pa_cons pe_non pa_nil)))) pa_nil)))
          (pss_one (ps_expr (pe_bm PySem.F.plainAttrs_list PySem.F.slot_list_append PySem.F.type_list_append mt_append (pv 4) (pa_cons (pe_tup (pa_cons (pe_op op_add_w (pe_op op_add_w (pv 9) (pe_litc (l := [115, 117, 114, 101, 32]) (by decide +kernel))) (pe_ix ix_list (pv 1) (pe_un un_neg pe_int) (fun _ _ => rfl))) (pa_cons pe_int (pa_cons pe_non pa_nil)))) pa_nil))))))) pss_nil)))))))
      (pss_one (ps_ret (pv 4)))))))), ?_⟩
  obtain ⟨rv, nv, rs, names, rfl, ⟨rp, rvs, rfl, hrp, hrs⟩, ⟨np, rfl, hnp⟩, hnl, hr1, hr3, hn3, qq⟩ := h
  have hrn := hrs.length
  have hpl := planW_len rs
  have hps := planW_short (rs := rs)
  refine ⟨by show 1 ≤ sizeLine; decide, fun pp hpp => ?_⟩
  have hHpp : H pp = none := hpp
  refine ⟨_, rfl, rp, rfl, ⟨_, SqL.of ((same_upd hpp) _ _ hrp)⟩, ?_⟩
  refine for_list (xs := rvs) (fun i σ H' => Same H H' ∧ (∃ o3, σ = [some (.ref rp), some (.ref np), some (.ref pp), o3, none, none, none, none, none, none]) ∧ H' pp = some (.lst (([119, 111, 114, 116, 104] :: (rs.take i).map planC).map sv)))
    ⟨same_upd hpp, ⟨_, rfl⟩, upd_same⟩ (fun i σ H' _ h => SqL.of (h.1 _ _ hrp)) ?_ ?_
  · rintro i y σ H' hi ⟨s1, ⟨o3, rfl⟩, hp1⟩
    obtain ⟨r, hri, dp, dvs, rfl, hdp, hdvs⟩ := paired_get hrs hi
    have hdn := hdvs.length
    refine ⟨_, rfl, tyL hp1, by show 2 ≤ sizeLine; decide, fun l hl => ?_⟩
    have s2 := same_upd (o := .lst [sv [45], sv [103]]) hl
    refine ⟨_, rfl, _, _, rfl, lenL (s2 _ _ (s1 _ _ hdp)), _, _, rfl, rfl, .inr ⟨_, rfl, ?_⟩⟩
    have hv : atI [sv [45], sv [103]] (if decide ((0 : Int) < ((dvs.length : Nat) : Int)) = true then 1 else 0) = some (sv (planC r)) := by
      unfold planC
      by_cases h : 0 < r.length
      · rw [decide_eq_true (by omega), if_pos h]; rfl
      · rw [decide_eq_false (by omega), if_neg h]; rfl
    have hp2 := s2 _ _ hp1
    refine ⟨l, _, _, _, rfl, rfl, SqL.of upd_same, hv, pp, _, _, rfl, rfl, hp2, by simp only [List.length_map, List.length_cons, List.length_take]; rw [sizeLine_eq]; omega, ?_⟩
    refine ⟨same_off (s1.trans s2) hHpp, ⟨_, rfl⟩, ?_⟩
    rw [upd_same, take_snoc hri]; simp
  rintro σ H1 ⟨s1, ⟨o3, rfl⟩, hp1⟩
  rw [hrn, List.take_length] at hp1
  have hp1 : H1 pp = some (.lst ((planW rs).map sv)) := hp1
  have m0 : ListMk [some (.ref rp), some (.ref np), some (.ref pp), o3, none, none, none, none, none, none] H1 (tOp rCat (tVar 2) (tLst (tCons (tC (sv [103])) tNil))) (planW rs ++ [[103]]) := lmCat rfl hp1 pureHC (by omega)
  have b0 : (planW rs ++ [[103]]).length ≤ 20 ∧ ∀ w ∈ planW rs ++ [[103]], w.length ≤ 100 := by
    refine ⟨by simp; omega, fun w hw => ?_⟩
    rcases List.mem_append.mp hw with h | h
    · have := hps w h; omega
    · simp at h; subst h; decide
  dsimp only
  refine stNew1 (x := (TL.joinL [32] (planW rs ++ [[103]]), .plan none)) s1 (mkhJoin m0 pureC rfl b0) fun fp H3 s13 hfp r3 => ?_
  have s3 := s1.trans s13
  have hp3 := s13 _ _ hp1
  have hfpp : pp ≠ fp := ne_of_none hp1 hfp
  refine ⟨_, rfl, _, _, rfl, lenL (s3 _ _ hrp), _, _, rfl, rfl, _, rfl, ?_⟩
  have m1 : ListMk [some (.ref rp), some (.ref np), some (.ref pp), o3, some (.ref fp), none, none, none, none, none] H3 (tSl (rSlL K) (tVar 2) tNoPart (tPart (tUn (rU fun i => V.int (-i)) (tC (V.int 1))))) ((planW rs).take ((planW rs).length - 1)) := fun Q' q' => by
    refine ⟨_, rfl, _, rfl, _, rfl, pp, _, rfl, SqL.of hp3, fun l hl => ?_⟩
    show Q' (.ref l) (L2.upd H3 l (.lst (cutV ((planW rs).map sv) none (some (-1)))))
    rw [cut_last]
    exact q' l _ (same_upd hl) upd_same
  have b1 : ((planW rs).take ((planW rs).length - 1)).length ≤ 20 ∧ ∀ w ∈ (planW rs).take ((planW rs).length - 1), w.length ≤ 100 := by
    refine ⟨by rw [List.length_take]; omega, fun w hw => ?_⟩
    have := hps w (List.mem_of_mem_take hw); omega
  refine stIf (x := (TL.joinL [32] ((planW rs).take ((planW rs).length - 1)), .plan none)) r3 (stAppH r3 rfl (mkhJoin m1 pureC rfl b1) (by simp)) fun H4 k4 r4 => ?_
  have hp4 := k4 _ _ hfpp hp3
  have e4 : RowsAt H H4 fp (plansU rs names 0) := by
    have e : plansU rs names 0 = [(TL.joinL [32] (planW rs ++ [[103]]), .plan none)] ++ if decide ((1 : Int) < ((rvs.length : Nat) : Int)) = true then [(TL.joinL [32] ((planW rs).take ((planW rs).length - 1)), .plan none)] else [] := by
      unfold plansU plans0
      rw [List.range_zero, List.map_nil, List.flatten_nil, List.append_nil]
      congr 1
      by_cases h : 1 < rs.length
      · rw [if_pos h, if_pos (decide_eq_true (by omega))]
      · rw [if_neg h, if_neg (by simp; omega)]
    rw [e]
    exact r4
  have s4 := e4.1
  refine ⟨_, rfl, _, _, rfl, lenL (s4 _ _ hrp), _, rfl, by omega, by omega, ?_⟩
  rw [Int.toNat_natCast, hrn]
  refine for_range (n := rs.length) (fun k σ H' => (∃ o5 o6 o7 o8 o9, σ = [some (.ref rp), some (.ref np), some (.ref pp), o3, some (.ref fp), o5, o6, o7, o8, o9]) ∧ H' pp = some (.lst ((planW rs).map sv)) ∧ RowsAt H H' fp (plansU rs names k))
    ⟨⟨_, _, _, _, _, rfl⟩, hp4, e4⟩ ?_ ?_
  · rintro k σ H5 hk ⟨⟨o5, o6, o7, o8, o9, rfl⟩, hp5, r5⟩
    rw [show (0 : Int) + (k : Nat) = ((k : Nat) : Int) from Int.zero_add _]
    have s5 := r5.1
    obtain ⟨_, hHf, _, hf5, _⟩ := id r5
    have hrk : rs[k]? = some rs[k] := List.getElem?_eq_getElem hk
    have hgd : rs.getD k [] = rs[k] := by rw [List.getD_eq_getElem?_getD, hrk]; rfl
    obtain ⟨_, hvk, dp, dvs, rfl, hdp, hdvs⟩ := paired_get' hrs hrk
    have hdn := hdvs.length
    have hnk : names[k]? = some (names.getD k []) := by rw [List.getD_eq_getElem?_getD, List.getElem?_eq_getElem (by omega)]; rfl
    have hnl' : names[names.length - 1]? = some (names.getD (names.length - 1) []) := by rw [List.getD_eq_getElem?_getD, List.getElem?_eq_getElem (by omega)]; rfl
    have hnk3 := hn3 _ (mem_at hnk)
    have hnl3 := hn3 _ (mem_at hnl')
    have hul := plans_len (rs := rs) (names := names) k
    -- head, last, other
    refine ⟨_, rfl, _, rfl, _, _, rfl, rfl, _, rfl, pp, _, rfl, SqL.of hp5, fun hd hhd => ?_⟩
    have ec1 : cutV ((planW rs).map sv) none (some (((k : Nat) : Int) + 1)) = ((planW rs).take (k + 1)).map sv := cut_to (k + 1) (planW rs)
    rw [ec1]
    have s6 := same_upd (o := .lst (((planW rs).take (k + 1)).map sv)) hhd
    refine ⟨_, rfl, _, rfl, _, _, rfl, rfl, _, rfl, pp, _, rfl, SqL.of (s6 _ _ hp5), fun la hla => ?_⟩
    have ec2 : cutV ((planW rs).map sv) (some (((k : Nat) : Int) + 2)) none = ((planW rs).drop (k + 2)).map sv := cut_from (k + 2) (planW rs)
    rw [ec2]
    have s7 := same_upd (o := .lst (((planW rs).drop (k + 2)).map sv)) hla
    refine ⟨by show 2 ≤ sizeLine; decide, fun l hl => ?_⟩
    have s8 := same_upd (o := .lst [sv [103], sv [45]]) hl
    have s58 := (s6.trans s7).trans s8
    refine ⟨_, rfl, _, rfl, rp, _, _, _, rfl, rfl, SqL.of (s58 _ _ (s5 _ _ hrp)), atI_nat hvk, _, _, rfl, lenL (s58 _ _ (s5 _ _ hdp)), _, _, rfl, rfl, .inr ⟨_, rfl, ?_⟩⟩
    have hv : atI [sv [103], sv [45]] (if decide ((0 : Int) < ((dvs.length : Nat) : Int)) = true then 1 else 0) = some (sv (if 0 < (rs.getD k []).length then [45] else [103])) := by
      rw [hgd]
      by_cases h : 0 < rs[k].length
      · rw [decide_eq_true (by omega), if_pos h]; rfl
      · rw [decide_eq_false (by omega), if_neg h]; rfl
    refine ⟨l, _, _, _, rfl, rfl, SqL.of upd_same, hv, ?_⟩
    have r8 : RowsAt H (L2.upd (L2.upd (L2.upd H5 hd (.lst (((planW rs).take (k + 1)).map sv))) la (.lst (((planW rs).drop (k + 2)).map sv))) l (.lst [sv [103], sv [45]])) fp (plansU rs names k) := by
      obtain ⟨_, _, vs, hv, hps⟩ := r5
      exact ⟨s5.trans s58, hHf, vs, s58 _ _ hv, hps.mono fun _ _ k => k.mono s58⟩
    have hd8 := s8 _ _ (s7 _ _ (upd_same (H := H5) (a := hd) (o := .lst (((planW rs).take (k + 1)).map sv))))
    have la8 := s8 _ _ (upd_same (H := L2.upd H5 hd (.lst (((planW rs).take (k + 1)).map sv))) (a := la) (o := .lst (((planW rs).drop (k + 2)).map sv)))
    have pp8 := s58 _ _ hp5
    have nhd : hd ≠ fp := fun e => by rw [e, hf5] at hhd; cases hhd
    have nla : la ≠ fp := fun e => by rw [e, s6 _ _ hf5] at hla; cases hla
    refine gName_go ?_
    dsimp only
    generalize L2.upd (L2.upd (L2.upd H5 hd (.lst (((planW rs).take (k + 1)).map sv))) la (.lst (((planW rs).drop (k + 2)).map sv))) l (.lst [sv [103], sv [45]]) = H8 at r8 hd8 la8 pp8 ⊢
    have bq : ∀ w : Wd, w.length ≤ 100 → ((planW rs).take (k + 1) ++ [w] ++ (planW rs).drop (k + 2)).length ≤ 20 ∧ ∀ x ∈ (planW rs).take (k + 1) ++ [w] ++ (planW rs).drop (k + 2), x.length ≤ 100 := fun w hw => by
      refine ⟨by simp only [List.length_append, List.length_take, List.length_drop, List.length_cons, List.length_nil]; omega, fun x hx => ?_⟩
      rcases List.mem_append.mp hx with h | h
      · rcases List.mem_append.mp h with h | h
        · have := hps x (List.mem_of_mem_take h); omega
        · simp at h; rw [h]; exact hw
      · have := hps x (List.mem_of_mem_drop h); omega
    have how : (if 0 < (rs.getD k []).length then [45] else [103] : Wd).length ≤ 100 := by split <;> decide
    have m2 : ListMk [some (.ref rp), some (.ref np), some (.ref pp), o3, some (.ref fp), some (.int (k : Nat)), some (.ref hd), some (.ref la), some (sv (if 0 < (rs.getD k []).length then [45] else [103])), o9] H8 (tOp rCat (tOp rCat (tVar 6) (tLst (tCons (tVar 8) tNil))) (tVar 7)) ((planW rs).take (k + 1) ++ [if 0 < (rs.getD k []).length then [45] else [103]] ++ (planW rs).drop (k + 2)) :=
      lmCat2 (lmCat rfl hd8 (pureHV rfl) (by rw [List.length_take]; omega)) rfl la8 (by simp only [List.length_append, List.length_take, List.length_drop, List.length_cons, List.length_nil]; omega)
    refine stAppH (x := (TL.joinL [32] ((planW rs).take (k + 1) ++ [if 0 < (rs.getD k []).length then [45] else [103]] ++ (planW rs).drop (k + 2)), .plan (some k))) r8 rfl (mkhJoin m2 (pureV rfl) rfl (bq _ how)) (by omega) fun H9 k9 r9 => ?_
    have hd9 := k9 _ _ nhd hd8
    have la9 := k9 _ _ nla la8
    have pp9 := k9 _ _ hfpp pp8
    have s9 := r9.1
    have eU : plansU rs names (k + 1) = plansU rs names k ++ plansK rs names k := by
      unfold plansU
      rw [List.range_succ, List.map_append, List.flatten_append, List.append_assoc]
      simp
    dsimp only
    refine ⟨_, rfl, _, rfl, rp, _, _, _, rfl, rfl, SqL.of (s9 _ _ hrp), atI_nat hvk, _, _, rfl, lenL (s9 _ _ hdp), _, _, rfl, rfl, _, rfl, ?_⟩
    refine ite2 (fun hc => ?_) (fun hc => ?_)
    · have hc' : 0 < (rs.getD k []).length := by rw [hgd]; have := of_decide_eq_true hc; omega
      have m3 : ListMk [some (.ref rp), some (.ref np), some (.ref pp), o3, some (.ref fp), some (.int (k : Nat)), some (.ref hd), some (.ref la), some (sv (if 0 < (rs.getD k []).length then [45] else [103])), o9] H9 (tOp rCat (tOp rCat (tVar 6) (tLst (tCons (tC (sv [88])) tNil))) (tVar 7)) ((planW rs).take (k + 1) ++ [[88]] ++ (planW rs).drop (k + 2)) :=
        lmCat2 (lmCat rfl hd9 pureHC (by rw [List.length_take]; omega)) rfl la9 (by simp only [List.length_append, List.length_take, List.length_drop, List.length_cons, List.length_nil]; omega)
      refine stAppH (x := (TL.joinL [32] ((planW rs).take (k + 1) ++ [[88]] ++ (planW rs).drop (k + 2)), .door [88])) r9 rfl (mkhJoin m3 pureC rfl (bq _ (by decide))) (by simp only [List.length_append, List.length_cons, List.length_nil]; omega) fun HA kA rA => ?_
      have ppA := kA _ _ hfpp pp9
      have sA := rA.1
      have npA := sA _ _ hnp
      have ixA : atI (names.map sv) ((k : Nat) : Int) = some (sv (names.getD k [])) := atI_nat (by rw [List.getElem?_map, hnk]; rfl)
      dsimp only
      refine ⟨_, rfl, _, rfl, np, _, _, _, rfl, rfl, SqL.of npA, ixA, _, _, rfl, rfl, by rw [sizeLine_eq]; simp only [List.length_cons, List.length_nil]; omega, ?_⟩
      refine ⟨_, _, rfl, rfl, by rw [sizeLine_eq]; simp only [List.length_append, List.length_cons, List.length_nil]; omega, ?_⟩
      refine gName_go ?_
      dsimp only
      refine stAppH (x := ((((((([100, 111, 111, 114, 32] : Wd) ++ names.getD k []) ++ ([32, 103, 32, 49, 32] : Wd)) ++ ([116, 111, 115, 115, 32, 50, 32] : Wd)) ++ names.getD k []) ++ ([32] : Wd)) ++ names.getD k [], .chance)) rA rfl
        (mkhText (pureHAdd (pureHAdd (pureHAdd (pureHAdd (pureHV rfl) pureHC (by simp only [List.length_append, List.length_cons, List.length_nil]; omega)) (pureHIx rfl rfl npA ixA) (by simp only [List.length_append, List.length_cons, List.length_nil]; omega)) pureHC (by simp only [List.length_append, List.length_cons, List.length_nil]; omega)) (pureHIx rfl rfl npA ixA) (by simp only [List.length_append, List.length_cons, List.length_nil]; omega)) pureC rfl)
        (by simp only [List.length_append, List.length_cons, List.length_nil]; omega) fun HB kB rB => ?_
      have ppB := kB _ _ hfpp ppA
      have npB := rB.1 _ _ hnp
      dsimp only
      have lastMk : PureH [some (.ref rp), some (.ref np), some (.ref pp), o3, some (.ref fp), some (.int (k : Nat)), some (.ref hd), some (.ref la), some (sv (if 0 < (rs.getD k []).length then [45] else [103])), some (sv (([100, 111, 111, 114, 32] : Wd) ++ names.getD k [] ++ ([32, 103, 32, 49, 32] : Wd)))] HB (tOp (rIxL K) (tVar 1) (tUn (rU fun i => V.int (-i)) (tC (V.int 1)))) (sv (names.getD (names.length - 1) [])) := fun Q' q' =>
        ⟨_, rfl, _, rfl, np, _, _, _, rfl, rfl, SqL.of npB, atI_last hnl' (by omega), q'⟩
      refine stAppH (x := ((((([100, 111, 111, 114, 32] : Wd) ++ names.getD k []) ++ ([32, 103, 32, 49, 32] : Wd)) ++ ([115, 117, 114, 101, 32] : Wd)) ++ names.getD (names.length - 1) [], .name)) rB rfl
        (mkhText (pureHAdd (pureHAdd (pureHV rfl) pureHC (by simp only [List.length_append, List.length_cons, List.length_nil]; omega)) lastMk (by simp only [List.length_append, List.length_cons, List.length_nil]; omega)) pureC rfl)
        (by simp only [List.length_append, List.length_cons, List.length_nil]; omega) fun HC kC rC => ?_
      refine ⟨⟨_, _, _, _, _, rfl⟩, kC _ _ hfpp ppB, ?_⟩
      rw [eU]
      unfold plansK
      refine Eq.mpr (congrArg (fun z => RowsAt H HC fp (plansU rs names k ++ (_ ++ z))) (if_pos hc')) ?_
      simpa using rC
    · have hc' : ¬ 0 < (rs.getD k []).length := by rw [hgd]; intro h; exact hc (decide_eq_true (by omega))
      refine ⟨⟨_, _, _, _, _, rfl⟩, pp9, ?_⟩
      rw [eU]
      unfold plansK
      refine Eq.mpr (congrArg (fun z => RowsAt H H9 fp (plansU rs names k ++ (_ ++ z))) (if_neg hc')) ?_
      rw [List.append_nil]
      exact r9
  · rintro σ H5 ⟨⟨o5, o6, o7, o8, o9, rfl⟩, hp5, r5⟩
    exact ⟨_, rfl, qq fp H5 r5⟩
end
end Dk
/-! the law -/
namespace Dk
open PySem PySem.Spec PyProof.Rows L2
local macro_rules | `(tactic| walk_at "rd") => `(tactic| repeat (first | refine ⟨_, rfl, ?_⟩ | refine ⟨_, _, rfl, rfl, ?_⟩ | refine iteT ?_ | refine iteF ?_ | refine ⟨_, _, _, _, rfl, rfl, SqT.of (by assumption), rfl, ?_⟩ | refine ⟨rfl, ?_⟩ | refine ⟨_, _, rfl, lenS (by assumption), ?_⟩ | refine ⟨_, _, rfl, lenT (by assumption), ?_⟩ | refine ⟨_, _, rfl, lenL (by assumption), ?_⟩ | refine ⟨⟨_, SqL.of (by assumption)⟩, ?_⟩ | refine ⟨_, _, rfl, ?_⟩))
theorem sc__law_only : FnScope ["_law_e", "_law_at", "_law_kinds", "_law_k"] ["_law_e", "_law_at"] (defScope s__law_only) := ⟨rfl, rfl, rfl, by decide +kernel, rfl, by decide +kernel, by decide +kernel⟩
theorem sc__law_refused : FnScope ["_law_desk", "_law_row", "_law_at", "_law_field", "_law_refused_here", "_law_e"] ["_law_desk", "_law_row", "_law_at", "_law_field"] (defScope s__law_refused) := ⟨rfl, rfl, rfl, by decide +kernel, rfl, by decide +kernel, by decide +kernel⟩
theorem sc_law : FnScope ["_law_script", "_law_share", "_law_rooms", "_law_many", "_law_names", "_law_desk", "_law_rows_here", "_law_row", "_law_text", "_law_a", "_law_menus", "_law_cell_here", "_law_menu", "_law_at", "_law_field"] ["_law_script"] (defScope s_law) := ⟨rfl, rfl, rfl, by decide +kernel, rfl, by decide +kernel, by decide +kernel⟩
section
variable {P : Program} {w : World} {K : PySem.W.Frag} {mg : Str → Option Value} {base : Heap} {A : Ad}
/-- facts that the law's own defs want -/
structure LF (K : PySem.W.Frag) (mg : Str → Option Value) (A : Ad) : Prop where
  noText : mg "NoText" = some (.ref A.text)
  exc : ∀ e : Rf, ExcC K (e.cls A)
  ve : ∀ e : Rf, PySem.W.kitOne K (.ref (e.cls A)) (.type "ValueError") = some true
  k0 : ∀ e : Rf, PySem.W.kitOne K (.ref (e.cls A)) (.ref A.num) = some (decide (e.at_ = 0))
  k1 : ∀ e : Rf, PySem.W.kitOne K (.ref (e.cls A)) (.ref A.name) = some (decide (e.at_ = 1))
  k2 : ∀ e : Rf, PySem.W.kitOne K (.ref (e.cls A)) (.ref A.chance) = some (decide (e.at_ = 2))
  k3 : ∀ e : Rf, PySem.W.kitOne K (.ref (e.cls A)) (.ref A.share) = some (decide (e.at_ = 3))
  k4 : ∀ e : Rf, PySem.W.kitOne K (.ref (e.cls A)) (.ref A.text) = some (decide (e.at_ = 4))
  k5 : ∀ e : Rf, PySem.W.kitOne K (.ref (e.cls A)) (.ref A.row) = some (decide (e.at_ = 5))
  k6 : ∀ e : Rf, PySem.W.kitOne K (.ref (e.cls A)) (.ref A.room) = some (decide (e.at_ = 6))
  k7 : ∀ e : Rf, PySem.W.kitOne K (.ref (e.cls A)) (.ref A.door) = some (decide (e.at_ = 7))
  k8 : ∀ e : Rf, PySem.W.kitOne K (.ref (e.cls A)) (.ref A.plan) = some (decide (e.at_ = 8))
  ex : ∀ e : Rf, PySem.W.exmOne K (.ref (e.cls A)) (.ref A.hallE) = some true
def tMethXS (C : Addr) (m : Str) (sp : Sp) (E : L2.St → XK) (ta : TE) (t : TA) : TE := fun σ H Q => ta σ H fun x H1 => ∃ a dx fs, x = .ref a ∧ H1 a = some (.ins C dx fs) ∧ fs.lookup m = none ∧
  t σ H1 fun vs H2 => sp (x :: vs) H2 Q (E σ)
theorem pe_mxS {X : Cx} {j k : Nat} {C : Addr} {sp : Sp} {E : L2.St → XK} {m : Str} {pos apos : Pos} {e o : Expr} {es : List Expr} {ta : TE} {t : TA} {pl : Sem Bool} (he : PE X o ta) (c : MetX X.prog X.w X.K X.mg X.base k C m sp) (hr : Room j X.A) (hk : k ≤ j) (hx : ∀ σ, PassesAt (L2.CX X.prog X.w) X σ (E σ)) (ha : PA X (e :: es) t)
    (hst : starEach (e :: es) X.env = (false, eval e X.env) :: starEach es X.env := by rfl) (hpl : (backTo pos (starEach es X.env)).any (·.1) = false := by rfl)
    (ht : eval (.Call (.Attribute o m apos) (e :: es) [] pos) X.env = (do
      let ov ← eval o X.env
      standAt apos.atName
      let (f, first) ← holding [ov] (getMethod ov m pl)
      callWith pos f first (backTo pos (starEach (e :: es) X.env)) (backToKw pos (keywordEach [] X.env))) := by rfl) :
    PE X (.Call (.Attribute o m apos) (e :: es) [] pos) (tMethXS C m sp E ta t) := by
  obtain ⟨f, fd, ps, hm, hb, F⟩ := c.ex
  refine ⟨fun pins s σ H Q I h => ?_⟩
  refine PySem.W.methodCall_KW (pl := pl) (thn (he.run pins s σ H _ I h) fun u s1 ⟨x, H1, I1, rx, a, dx, fs, ex, ea, l, q⟩ => ?_) ht
  subst ex
  obtain rfl : u = Value.ref a := rx
  refine getmeth_ok I1 ea c.cls hm l ?_
  refine PySem.W.callWith_K (first := [.ref a]) (h₀ := X.base) I1.ok.mod.kin hm.kp (thn (ha.run pos pins s1 σ H1 _ I1 q) fun us s2 ⟨vs, H2, I2, r, q2⟩ => ⟨I2.kIn, ?_⟩) hst hpl
  exact run_fnS (E := E) (us := .ref a :: us) (vs := .ref a :: vs) F (hr.mono hk) hb (hx σ) I2 (.cons rfl r) q2
theorem DictAt.mono {H H' : Hp} {d : Option Addr} (s : Same H H') (h : DictAt H d) : DictAt H' d := h.elim .inl fun ⟨dd, fs, e, q⟩ => .inr ⟨dd, fs, e, s _ _ q⟩
theorem RepE.dict {e : Rf} {cls : Value} {d : Option Addr} {H : Hp} (h : RepE A e cls d H) : DictAt H d := by
  rcases h.2 with ⟨_, h⟩ | ⟨f, dd, _, h1, h2⟩
  · exact .inl h
  · exact .inr ⟨dd, _, h1, h2⟩
def spOnly (A : Ad) : Sp := fun vs H Q E => ∃ (a : Addr) (d : Option Addr) (e : Rf), vs = [.ref a, .int e.at_] ∧ H a = some (ExK (.ref (e.cls A)) d a) ∧ DictAt H d ∧ ∀ H', Same H H' → Q (.bl true) H'
def kinds (n : Int) : List V := [.bl (decide (n = 0)), .bl (decide (n = 1)), .bl (decide (n = 2)), .bl (decide (n = 3)), .bl (decide (n = 4)), .bl (decide (n = 5)), .bl (decide (n = 6)), .bl (decide (n = 7)), .bl (decide (n = 8))]
theorem kinds_at (n : Int) : ∀ {i : Nat}, i < 9 → (kinds n)[i]? = some (.bl (decide (n = (i : Int))))
  | 0, _ => rfl | 1, _ => rfl | 2, _ => rfl | 3, _ => rfl | 4, _ => rfl | 5, _ => rfl | 6, _ => rfl | 7, _ => rfl | 8, _ => rfl
  | n + 9, h => by omega
theorem dp_kinds {H : Hp} (n : Int) : DpAll K H (kinds n) [.bool (decide (n = 0)), .bool (decide (n = 1)), .bool (decide (n = 2)), .bool (decide (n = 3)), .bool (decide (n = 4)), .bool (decide (n = 5)), .bool (decide (n = 6)), .bool (decide (n = 7)), .bool (decide (n = 8))] :=
  .cons (.bl _) (.cons (.bl _) (.cons (.bl _) (.cons (.bl _) (.cons (.bl _) (.cons (.bl _) (.cons (.bl _) (.cons (.bl _) (.cons (.bl _) .nil))))))))
theorem cal_only (F : Fn K mg "_law_only" s__law_only) (B : Blt mg) (T : Tx K mg A) (L : LF K mg A) : CalX P w K mg base 1 "_law_only" (spOnly A) := by
  refine calx F sc__law_only (fun _ _ _ _ _ _ us hl => match us, hl with | [_, _], _ => rfl) (fun vs H Q E h => by obtain ⟨x, _, _, rfl, _⟩ := h; rfl) ?_
  intro f cdv A' outer s H vs Q E hr hT hx hu h
  refine ⟨_, (pss_cons (ps_set (i := 2) sc__law_only.nd rfl (Or.inl rfl) (pe_lst (pa_cons (pe_callB call_isK (by rfl) B.isinstance (by decide +kernel) (pa_cons (pv 0) (pa_cons (pe_glob (v := .ref A.num) rfl T.NoNumber.g rfl) pa_nil))) (pa_cons (pe_callB call_isK (by rfl) B.isinstance (by decide +kernel) (pa_cons (pv 0) (pa_cons (pe_glob (v := .ref A.name) rfl T.NoName.g rfl) pa_nil))) (pa_cons (pe_callB call_isK (by rfl) B.isinstance (by decide +kernel) (pa_cons (pv 0) (pa_cons (pe_glob (v := .ref A.chance) rfl T.NoChance.g rfl) pa_nil))) pa_nil)))))
      (pss_cons (ps_set (i := 2) sc__law_only.nd rfl (Or.inl rfl) (pe_op op_cat (pv 2) (pe_lst (pa_cons (pe_callB call_isK (by rfl) B.isinstance (by decide +kernel) (pa_cons (pv 0) (pa_cons (pe_glob (v := .ref A.share) rfl T.NoShare.g rfl) pa_nil))) (pa_cons (pe_callB call_isK (by rfl) B.isinstance (by decide +kernel) (pa_cons (pv 0) (pa_cons (pe_glob (v := .ref A.text) rfl L.noText rfl) pa_nil))) (pa_cons (pe_callB call_isK (by rfl) B.isinstance (by decide +kernel) (pa_cons (pv 0) (pa_cons (pe_glob (v := .ref A.row) rfl T.NoRow.g rfl) pa_nil))) pa_nil))))))
      (pss_cons (ps_set (i := 2) sc__law_only.nd rfl (Or.inl rfl) (pe_op op_cat (pv 2) (pe_lst (pa_cons (pe_callB call_isK (by rfl) B.isinstance (by decide +kernel) (pa_cons (pv 0) (pa_cons (pe_glob (v := .ref A.room) rfl T.NoRoom.g rfl) pa_nil))) (pa_cons (pe_callB call_isK (by rfl) B.isinstance (by decide +kernel) (pa_cons (pv 0) (pa_cons (pe_glob (v := .ref A.door) rfl T.NoDoor.g rfl) pa_nil))) (pa_cons (pe_callB call_isK (by rfl) B.isinstance (by decide +kernel) (pa_cons (pv 0) (pa_cons (pe_glob (v := .ref A.plan) rfl T.NoPlan.g rfl) pa_nil))) pa_nil))))))
      (pss_one (ps_ret (pe_and (pe_callB call_isK (by rfl) B.isinstance (by decide +kernel) (pa_cons (pv 0) (pa_cons (pe_bltn (v := .ty "ValueError") (u := .type "ValueError") rfl B.ValueError (by decide +kernel) rfl) pa_nil))) (pe_one (pe_cmpR (op_eqD hr.units) (pv 2) (pe_lc (own := [("_law_k", 3)]) rfl sc__law_only.nd (pi_range1 rfl B.range (pa_cons pe_int pa_nil)) (blkOk_by (own := [("_law_k", 3)]) (N := ["_law_e", "_law_at", "_law_kinds", "_law_k"]) (sc := defScope s__law_only) (by decide +kernel)) (fun _ _ _ _ _ => (pg_name (i := 3) sc__law_only.nd rfl (Or.inl rfl))) (fun _ _ _ _ _ => pts_nil) (fun _ _ _ _ _ => (pe_cmpR op_eq (pv 3) (pv 1) (nomark _)))) (nomark _))))))))), ?_⟩
  obtain ⟨a, d, e, rfl, ha, hd, q⟩ := h
  refine ⟨_, rfl, a, e.cls A, d, _, _, _, rfl, ha, hd, L.exc e, .own _, L.k0 e, _, rfl, a, e.cls A, d, _, _, _, rfl, ha, hd, L.exc e, .own _, L.k1 e, _, rfl, a, e.cls A, d, _, _, _, rfl, ha, hd, L.exc e, .own _, L.k2 e, by show 3 ≤ sizeLine; decide, fun l1 hl1 => ?_⟩
  have s1 := same_upd (o := .lst [.bl (decide (e.at_ = 0)), .bl (decide (e.at_ = 1)), .bl (decide (e.at_ = 2))]) hl1
  refine ⟨_, rfl, _, rfl, a, e.cls A, d, _, _, _, rfl, s1 _ _ ha, hd.mono s1, L.exc e, .own _, L.k3 e, _, rfl, a, e.cls A, d, _, _, _, rfl, s1 _ _ ha, hd.mono s1, L.exc e, .own _, L.k4 e, _, rfl, a, e.cls A, d, _, _, _, rfl, s1 _ _ ha, hd.mono s1, L.exc e, .own _, L.k5 e, by show 3 ≤ sizeLine; decide, fun l2 hl2 => ?_⟩
  have s2 := s1.trans (same_upd (o := .lst [.bl (decide (e.at_ = 3)), .bl (decide (e.at_ = 4)), .bl (decide (e.at_ = 5))]) hl2)
  refine ⟨l1, l2, _, _, rfl, rfl, (same_upd hl2) _ _ upd_same, upd_same, by show 3 + 3 ≤ sizeLine; decide, fun l3 hl3 => ?_⟩
  have s3 := s2.trans (same_upd (o := .lst ([.bl (decide (e.at_ = 0)), .bl (decide (e.at_ = 1)), .bl (decide (e.at_ = 2))] ++ [.bl (decide (e.at_ = 3)), .bl (decide (e.at_ = 4)), .bl (decide (e.at_ = 5))])) hl3)
  refine ⟨_, rfl, _, rfl, a, e.cls A, d, _, _, _, rfl, s3 _ _ ha, hd.mono s3, L.exc e, .own _, L.k6 e, _, rfl, a, e.cls A, d, _, _, _, rfl, s3 _ _ ha, hd.mono s3, L.exc e, .own _, L.k7 e, _, rfl, a, e.cls A, d, _, _, _, rfl, s3 _ _ ha, hd.mono s3, L.exc e, .own _, L.k8 e, by show 3 ≤ sizeLine; decide, fun l4 hl4 => ?_⟩
  have s4 := s3.trans (same_upd (o := .lst [.bl (decide (e.at_ = 6)), .bl (decide (e.at_ = 7)), .bl (decide (e.at_ = 8))]) hl4)
  refine ⟨l3, l4, _, _, rfl, rfl, (same_upd hl4) _ _ upd_same, upd_same, by show 6 + 3 ≤ sizeLine; decide, fun l5 hl5 => ?_⟩
  have h5 : (L2.upd (L2.upd (L2.upd (L2.upd (L2.upd H l1 (.lst [.bl (decide (e.at_ = 0)), .bl (decide (e.at_ = 1)), .bl (decide (e.at_ = 2))])) l2 (.lst [.bl (decide (e.at_ = 3)), .bl (decide (e.at_ = 4)), .bl (decide (e.at_ = 5))])) l3 (.lst ([.bl (decide (e.at_ = 0)), .bl (decide (e.at_ = 1)), .bl (decide (e.at_ = 2))] ++ [.bl (decide (e.at_ = 3)), .bl (decide (e.at_ = 4)), .bl (decide (e.at_ = 5))]))) l4 (.lst [.bl (decide (e.at_ = 6)), .bl (decide (e.at_ = 7)), .bl (decide (e.at_ = 8))])) l5 (.lst (kinds e.at_))) l5 = some (.lst (kinds e.at_)) := upd_same
  have s5 := s4.trans (same_upd (o := .lst (kinds e.at_)) hl5)
  have ha5 := s5 _ _ ha
  have hd5 := hd.mono s5
  show gName 2 (V.ref l5) _ (L2.upd _ l5 (.lst (kinds e.at_))) _
  refine gName_go ?_
  generalize (L2.upd (L2.upd (L2.upd (L2.upd (L2.upd H l1 (.lst [.bl (decide (e.at_ = 0)), .bl (decide (e.at_ = 1)), .bl (decide (e.at_ = 2))])) l2 (.lst [.bl (decide (e.at_ = 3)), .bl (decide (e.at_ = 4)), .bl (decide (e.at_ = 5))])) l3 (.lst ([.bl (decide (e.at_ = 0)), .bl (decide (e.at_ = 1)), .bl (decide (e.at_ = 2))] ++ [.bl (decide (e.at_ = 3)), .bl (decide (e.at_ = 4)), .bl (decide (e.at_ = 5))]))) l4 (.lst [.bl (decide (e.at_ = 6)), .bl (decide (e.at_ = 7)), .bl (decide (e.at_ = 8))])) l5 (.lst (kinds e.at_))) = H5 at h5 s5 ha5 hd5 ⊢
  dsimp only
  refine ⟨_, rfl, a, e.cls A, d, _, _, _, rfl, ha5, hd5, L.exc e, .ty _, L.ve e, true, rfl, ?_⟩
  refine iteT ?_
  refine ⟨_, rfl, _, rfl, by decide, by decide, fun D hD => ?_⟩
  refine lc_it (walk_range (lo := 0) (n := 9)) (fun i H' => H' = L2.upd H5 D (.lst ((kinds e.at_).take i))) rfl (fun _ _ _ _ => trivial) ?_ ?_
  · rintro i _ _ _ hi rfl ⟨rfl, rfl⟩
    refine ⟨rfl, ?_⟩
    have hk : (kinds e.at_)[i]? = some (.bl (decide (V.int (0 + (i : Nat)) = V.int e.at_))) := by
      rw [kinds_at e.at_ hi]
      congr 2
      simp only [Int.zero_add, V.int.injEq, decide_eq_decide]
      exact ⟨fun z => z.symm, fun z => z.symm⟩
    refine ⟨_, rfl, _, rfl, rfl, _, upd_same, by rw [List.length_take, sizeLine_eq]; omega, ?_⟩
    rw [upd_upd, take_snoc hk]
  · rintro _ rfl
    have h9 : (kinds e.at_).take 9 = kinds e.at_ := rfl
    rw [h9]
    refine ⟨_, _, .lst (SqL.of ((upd_ne (ne_of_none h5 hD)).trans h5)) (dp_kinds _), .lst (SqL.of upd_same) (dp_kinds _), rfl, rfl, ?_⟩
    rw [PySem.SeqAt.eqv_refl _ rfl]
    exact q _ (s5.trans (same_upd hD))
def NoTextOk (D : PDesk) (H : Hp) (rv : V) (e : Rf) : Prop := NotText H rv ∧ e = .row
def Refuses (D : PDesk) (wd : Wd) (rest : List Wd) (e : Rf) : Prop := (rowFits (wd :: rest) = false ∧ e = .row) ∨
  (rowFits (wd :: rest) = true ∧ wd ∈ ["share", "room", "door", "shut", "goal", "plain"].map lw ∧ rest ≠ [] ∧ DonePre D wd rest ∧ doneM D wd rest = .error e) ∨
  (rowFits (wd :: rest) = true ∧ wd ∉ ["share", "room", "door", "shut", "goal", "plain"].map lw ∧ wd ≠ lw "best" ∧ wd ≠ lw "lots" ∧ rest ≠ [] ∧ (wd = lw "bounds" → rest.length = 2) ∧ toldM (hallD D) wd rest = some e)
def Plain (wd : Wd) (rest : List Wd) : Prop := (∀ x ∈ wd :: rest, 32 ∉ x ∧ x.length ≤ 1000) ∧ rest.length ≤ 50
/-- the row at rv is refused with e -/
def RowV (D : PDesk) (H : Hp) (rv : V) (e : Rf) : Prop := (NotText H rv ∧ e = .row) ∨ ∃ wd rest, rv = sv (TL.joinL [32] (wd :: rest)) ∧ Plain wd rest ∧ Refuses D wd rest e
theorem rowSay {D : PDesk} {H : Hp} {rv : V} {e : Rf} {E : XK} {d rl mk : Addr} {R : Hp → Prop} {S : Prop} (h : RowV D H rv e) (z : Rz A H E e) : (∃ t, TyX K H rv t ∧ PySem.W.kitOne K t (.type "str") = some false ∧ Rz A H E .row) ∨
  ∃ wd rest, rv = sv (TL.joinL [32] (wd :: rest)) ∧ (∀ x ∈ wd :: rest, 32 ∉ x ∧ x.length ≤ 1000) ∧ rest.length ≤ 50 ∧
    ((rowFits (wd :: rest) = false ∧ Rz A H E .row) ∨
     (rowFits (wd :: rest) = true ∧ wd ∈ ["share", "room", "door", "shut", "goal", "plain"].map lw ∧ rest ≠ [] ∧ DonePre D wd rest ∧ Res A H E d rl mk R (doneM D wd rest)) ∨
     (rowFits (wd :: rest) = true ∧ wd ∉ ["share", "room", "door", "shut", "goal", "plain"].map lw ∧ wd ≠ lw "best" ∧ wd ≠ lw "lots" ∧
      ((∃ e, toldM (hallD D) wd rest = some e ∧ rest ≠ [] ∧ (wd = lw "bounds" → rest.length = 2) ∧ Rz A H E e) ∨ (wd = lw "show" ∧ SmH (hallD D) ∧ S)))) := by
  rcases h with ⟨h, rfl⟩ | ⟨wd, rest, rfl, ⟨p1, p2⟩, h⟩
  · rcases h with rfl | ⟨i, rfl⟩ | ⟨b, rfl⟩ | ⟨p, xs, rfl, hp⟩
    · exact .inl ⟨_, .base .non, kit_ty (r := false) (by decide +kernel), z⟩
    · exact .inl ⟨_, .base (.int i), kit_ty (r := false) (by decide +kernel), z⟩
    · exact .inl ⟨_, .base (.bl b), kit_ty (r := false) (by decide +kernel), z⟩
    · exact .inl ⟨_, .base (.lst hp), kit_ty (r := false) (by decide +kernel), z⟩
  · refine .inr ⟨wd, rest, rfl, p1, p2, ?_⟩
    rcases h with ⟨h1, rfl⟩ | ⟨h1, h2, h3, h4, h5⟩ | ⟨h1, h2, h3, h4, h5, h6, h7⟩
    · exact .inl ⟨h1, z⟩
    · refine .inr (.inl ⟨h1, h2, h3, h4, ?_, ?_⟩)
      · intro e' he; rw [h5] at he; cases he; exact z
      · intro D' he; rw [h5] at he; cases he
    · exact .inr (.inr ⟨h1, h2, h3, h4, .inl ⟨e, h7, h5, h6, z⟩⟩)
def spRefused (A : Ad) : Sp := fun vs H Q E => ∃ d rl mk D rv e, vs = [.ref d, rv, .int e.at_, e.val] ∧ IsDesk A H d rl mk D ∧ OkD D ∧ RowV D H rv e ∧ ∀ H', Same H H' → Q (.bl true) H'
theorem cal_refused (F : Fn K mg "_law_refused" s__law_refused) (B : Blt mg) (T : Tx K mg A) (L : LF K mg A) (c__law_only : CalX P w K mg base 1 "_law_only" (spOnly A)) (m_Desk_say : MetX P w K mg base 11 A.desk "say" (spSay A K)) : CalX P w K mg base 12 "_law_refused" (spRefused A) := by
  refine calx F sc__law_refused (fun _ _ _ _ _ _ us hl => match us, hl with | [_, _, _, _], _ => rfl) (fun vs H Q E h => by obtain ⟨x, _, _, _, _, _, rfl, _⟩ := h; rfl) ?_
  intro f cdv A' outer s H vs Q E hr hT hx hu h
  refine ⟨_, (pss_cons (ps_set (i := 4) sc__law_refused.nd rfl (Or.inl rfl) pe_non)
      (pss_cons (ps_try_keep (i := 5) rfl rfl rfl sc__law_refused.nd rfl rfl ⟨rfl, by decide, .inl T.hallE_m⟩ hT (fun W pn xe tk _ => (pss_one (ps_expr (pe_mxS (pv 0) m_Desk_say hr (by decide) (fun σ => passAt tk σ) (pa_cons (pv 1) pa_nil))))) (fun a oe cls d pn hz hf => (pss_one (ps_set (i := 4) sc__law_refused.nd rfl (Or.inl rfl) (pv 5)))))
      (pss_cons (ps_if (PW.pt (pw_or (pt_cmp (pc_isN (pv 4))) (pw_or1 (pt_not (pt_val (pe_cx c__law_only hr (by decide) rfl hx (pa_cons (pv 4) (pa_cons (pv 2) pa_nil)))))))) (pss_one (ps_ret pe_bl)) pss_nil)
      (pss_cons (ps_if (pt_cmpR op_eq (pv 2) pe_int (nomark _)) (pss_one (ps_ret (pe_cmp (pc_isN (pe_xk (pv 4)))))) pss_nil)
      (pss_cons (ps_if (PW.pt (pw_or (pt_cmpR op_eq (pv 2) pe_int (nomark _)) (pw_or1 (pt_cmpR op_eq (pv 2) pe_int (nomark _))))) (pss_one (ps_ret (pe_cmpR op_eq (pe_xk (pv 4)) (pv 3) (nomark _)))) pss_nil)
      (pss_one (ps_ret (pe_or (pe_cmpR op_ne (pv 2) pe_int (nomark _)) (pe_one (pe_cmpR op_eq (pe_xk (pv 4)) (pv 3) (nomark _))))))))))), ?_⟩
  obtain ⟨dk, rl, mk, D, rv, e, rfl, hD, hok, hrow, q⟩ := h
  have hD0 := hD
  obtain ⟨dx, fv, rvs, kvs, h1, h2, h3, h4, h5, h5', h6, h7⟩ := hD
  refine ⟨_, rfl, dk, dx, _, rfl, h1, rfl, _, rfl, dk, rl, mk, D, rv, rfl, hD0, hok, rowSay hrow ?_⟩
  rintro cls d H1 s1 hr
  have hdict := hr.dict
  obtain ⟨rfl, hrd⟩ := hr
  refine ⟨true, L.ex e, fun _ a ha => ⟨_, rfl, fun hn => ?_⟩, fun z => by cases z⟩
  have s2 := same_upd (o := ExK (.ref (e.cls A)) d a) hn
  have hA : (L2.upd H1 a (ExK (.ref (e.cls A)) d a)) a = some (ExK (.ref (e.cls A)) d a) := upd_same
  have hd2 := hdict.mono s2
  have hrd2 : ((e.fld = none ∧ d = none) ∨ ∃ f dd, e.fld = some f ∧ d = some dd ∧ (L2.upd H1 a (ExK (.ref (e.cls A)) d a)) dd = some (.xd [(f, e.val)])) := hrd.imp id fun ⟨f, dd, a1, a2, a3⟩ => ⟨f, dd, a1, a2, s2 _ _ a3⟩
  have s12 := s1.trans s2
  generalize L2.upd H1 a (ExK (.ref (e.cls A)) d a) = H2 at hA hd2 hrd2 s12 ⊢
  refine ⟨_, rfl, _, rfl, ?_⟩
  refine iteF ⟨_, rfl, _, rfl, a, d, e, rfl, hA, hd2, fun H3 s3 => ⟨_, rfl, ?_⟩⟩
  refine iteF ?_
  have hA3 := s3 _ _ hA
  have s13 := s12.trans s3
  have hrd3 : ((e.fld = none ∧ d = none) ∨ ∃ f dd, e.fld = some f ∧ d = some dd ∧ H3 dd = some (.xd [(f, e.val)])) := hrd2.imp id fun ⟨f, dd, a1, a2, a3⟩ => ⟨f, dd, a1, a2, s3 _ _ a3⟩
  have qf := q H3 s13
  cases e with
  | num => exact ⟨_, rfl, rfl, _, rfl, iteF ⟨_, rfl, rfl, _, rfl, iteF ⟨_, rfl, rfl, _, rfl, iteF ⟨_, rfl, rfl, _, rfl, iteT qf⟩⟩⟩⟩
  | name => exact ⟨_, rfl, rfl, _, rfl, iteF ⟨_, rfl, rfl, _, rfl, iteF ⟨_, rfl, rfl, _, rfl, iteF ⟨_, rfl, rfl, _, rfl, iteT qf⟩⟩⟩⟩
  | chance => exact ⟨_, rfl, rfl, _, rfl, iteF ⟨_, rfl, rfl, _, rfl, iteF ⟨_, rfl, rfl, _, rfl, iteF ⟨_, rfl, rfl, _, rfl, iteT qf⟩⟩⟩⟩
  | share => exact ⟨_, rfl, rfl, _, rfl, iteF ⟨_, rfl, rfl, _, rfl, iteF ⟨_, rfl, rfl, _, rfl, iteF ⟨_, rfl, rfl, _, rfl, iteT qf⟩⟩⟩⟩
  | row =>
    obtain ⟨f, dd, e1, rfl, hx⟩ : ∃ f dd, Rf.row.fld = some f ∧ d = some dd ∧ H3 dd = some (.xd [(f, Rf.row.val)]) := hrd3.elim (fun z => by cases z.1) id
    cases e1
    exact ⟨_, rfl, rfl, _, rfl, iteT ⟨_, rfl, a, A.row, dd, _, .non, rfl, hA3, hx, T.NoRow.xf, T.NoRow.nf, rfl, qf⟩⟩
  | room z =>
    obtain ⟨f, dd, e1, rfl, hx⟩ : ∃ f dd, (Rf.room z).fld = some f ∧ d = some dd ∧ H3 dd = some (.xd [(f, (Rf.room z).val)]) := hrd3.elim (fun z => by cases z.1) id
    cases e1
    refine ⟨_, rfl, rfl, _, rfl, iteF ⟨_, rfl, rfl, _, rfl, iteT (iteT ⟨_, rfl, a, A.room, dd, _, _, rfl, hA3, hx, T.NoRoom.xf, T.NoRoom.nf, rfl, _, rfl, rfl, ?_⟩)⟩⟩
    show Q (.bl (decide (sv z = sv z))) H3
    rw [decide_eq_true rfl]
    exact qf
  | door z =>
    obtain ⟨f, dd, e1, rfl, hx⟩ : ∃ f dd, (Rf.door z).fld = some f ∧ d = some dd ∧ H3 dd = some (.xd [(f, (Rf.door z).val)]) := hrd3.elim (fun z => by cases z.1) id
    cases e1
    refine ⟨_, rfl, rfl, _, rfl, iteF ⟨_, rfl, rfl, _, rfl, iteF ⟨_, rfl, rfl, _, rfl, iteF ⟨_, rfl, rfl, _, rfl, iteF ⟨_, rfl, a, A.door, dd, _, _, rfl, hA3, hx, T.NoDoor.xf, T.NoDoor.nf, rfl, _, rfl, rfl, ?_⟩⟩⟩⟩⟩
    show Q (.bl (decide (sv z = sv z))) H3
    rw [decide_eq_true rfl]
    exact qf
  | plan k =>
    obtain ⟨f, dd, e1, rfl, hx⟩ : ∃ f dd, (Rf.plan k).fld = some f ∧ d = some dd ∧ H3 dd = some (.xd [(f, (Rf.plan k).val)]) := hrd3.elim (fun z => by cases z.1) id
    cases e1
    refine ⟨_, rfl, rfl, _, rfl, iteF ⟨_, rfl, rfl, _, rfl, iteF ⟨_, rfl, rfl, _, rfl, iteT ⟨_, rfl, a, A.plan, dd, _, _, rfl, hA3, hx, T.NoPlan.xf, T.NoPlan.nf, rfl, _, rfl, by cases k <;> rfl, ?_⟩⟩⟩⟩
    show Q (.bl (decide ((Rf.plan k).val = (Rf.plan k).val))) H3
    rw [decide_eq_true rfl]
    exact qf
/-! ### the law -/
/-- a chain of rows that are taken -/
def Good (D : PDesk) (ws : List Wd) (D' : PDesk) : Prop := ∃ wd rest, ws = wd :: rest ∧ Plain wd rest ∧ rowFits (wd :: rest) = true ∧ wd ∈ ["share", "room", "door", "shut", "goal", "plain"].map lw ∧ rest ≠ [] ∧ DonePre D wd rest ∧ doneM D wd rest = .ok D'
inductive Chain : PDesk → List (List Wd) → PDesk → Prop
  | nil {D} : Chain D [] D
  | cons {D ws D1 rs D2} (ok : OkD D) (g : Good D ws D1) (t : Chain D1 rs D2) : Chain D (ws :: rs) D2
/-- what the plain part gives the law -/
structure PlainLaw (f : Frac) (rs : List (List RDoor)) (names : List Wd) : Prop where
  start : OkD ⟨(0, 1), [], 0⟩
  rows : ∀ c, c < rs.length → ∃ D rws, (lawRows f rs (names.take rs.length) ++ [([103, 111, 97, 108, 32] : Wd) ++ names.getD c []]) = rws.map (TL.joinL [32]) ∧ Chain ⟨(0, 1), [], 0⟩ rws D ∧ OkD D ∧ SmH (hallD D) ∧
    (∀ a q, a ∈ names.take rs.length → q = names.getD rs.length [] →
      (∀ x ∈ noRowsM a, ∀ t, x = some t → ∃ wd rest, t = TL.joinL [32] (wd :: rest) ∧ Plain wd rest ∧ Refuses D wd rest .row) ∧
      (∀ x ∈ noDoorsM a q, ∃ wd rest, x.1 = TL.joinL [32] (wd :: rest) ∧ Plain wd rest ∧ Refuses D wd rest x.2) ∧
      (∀ x ∈ othersM a q, ∃ wd rest, x.1 = TL.joinL [32] (wd :: rest) ∧ Plain wd rest ∧ Refuses D wd rest x.2) ∧
      (∀ x ∈ plansU rs names rs.length, ∃ wd rest, x.1 = TL.joinL [32] (wd :: rest) ∧ Plain wd rest ∧ Refuses D wd rest x.2) ∧
      (∃ wd rest, ((((([100, 111, 111, 114, 32] : Wd) ++ a) ++ ([32, 120, 32, 49, 32, 116, 111, 115, 115, 32, 49, 47, 50, 32] : Wd)) ++ a) ++ ([32] : Wd)) ++ q = TL.joinL [32] (wd :: rest) ∧ Plain wd rest ∧ Refuses D wd rest (.room q) ∧
        ∃ D1 D2 D3, Good D [[114, 111, 111, 109], q] D1 ∧ OkD D1 ∧ Good D1 (wd :: rest) D2 ∧ OkD D2 ∧ Good D2 [[103, 111, 97, 108], q] D3 ∧ OkD D3 ∧ SmH (hallD D3) ∧ showText (hallD D3) ≠ showText (hallD D)))
theorem sayT {E : XK} {σ : L2.St} {i : Nat} {ta : TE} {rv : V} {d rl mk : Addr} {D : PDesk} {H : Hp} {Q : VK} (hi : σ[i]? = some (some (.ref d))) (hp : Pure σ ta rv) (hD : IsDesk A H d rl mk D) (h : spSay A K [.ref d, rv] H Q E) : tMethX A.desk "say" (spSay A K) E (tVar i) (tCons ta tNil) σ H Q := by
  obtain ⟨dx, fv, rvs, kvs, h1, -⟩ := hD
  exact ⟨_, hi, d, dx, _, rfl, h1, rfl, hp _ _ h⟩
theorem say_ok {E : XK} {d rl mk : Addr} {D D' : PDesk} {ws : List Wd} {H : Hp} {Q : VK} (h : IsDesk A H d rl mk D) (hok : OkD D) (g : Good D ws D') (q : ∀ H', Keeps d rl mk H H' → IsDesk A H' d rl mk D' → Q (sv [111, 107]) H') : spSay A K [.ref d, sv (TL.joinL [32] ws)] H Q E := by
  obtain ⟨wd, rest, rfl, ⟨p1, p2⟩, g1, g2, g3, g4, g5⟩ := g
  refine ⟨d, rl, mk, D, _, rfl, h, hok, .inr ⟨wd, rest, rfl, p1, p2, .inr (.inl ⟨g1, g2, g3, g4, ?_, ?_⟩)⟩⟩
  · intro e he; rw [g5] at he; cases he
  · intro D1 he H' k hD
    rw [g5] at he
    cases he
    rw [show lw "ok" = [111, 107] by decide +kernel]
    exact q H' k hD
theorem say_show {E : XK} {d rl mk : Addr} {D : PDesk} {H : Hp} {Q : VK} (h : IsDesk A H d rl mk D) (hok : OkD D) (sm : SmH (hallD D)) (q : ∀ H', Same H H' → Q (sv (showText (hallD D))) H') : spSay A K [.ref d, sv [115, 104, 111, 119]] H Q E := by
  have e : lw "show" = [115, 104, 111, 119] := by decide +kernel
  refine ⟨d, rl, mk, D, _, rfl, h, hok, .inr ⟨[115, 104, 111, 119], [], rfl, ?_, by decide, .inr (.inr ⟨by decide +kernel, by decide +kernel, by decide +kernel, by decide +kernel, .inr ⟨e.symm, sm, q⟩⟩)⟩⟩
  intro x hx
  rw [List.mem_singleton.mp hx]
  decide
theorem sayH {E : XK} {σ : L2.St} {i : Nat} {ta : TE} {rv : V} {d rl mk : Addr} {D : PDesk} {H : Hp} {Q : VK} (hi : σ[i]? = some (some (.ref d))) (hp : ∀ Q : VK, Q rv H → ta σ H Q) (hD : IsDesk A H d rl mk D) (h : spSay A K [.ref d, rv] H Q E) : tMethX A.desk "say" (spSay A K) E (tVar i) (tCons ta tNil) σ H Q := by
  obtain ⟨dx, fv, rvs, kvs, h1, -⟩ := hD
  exact ⟨_, hi, d, dx, _, rfl, h1, rfl, hp _ h⟩
theorem okH {E : XK} {σ : L2.St} {i : Nat} {ta : TE} {d rl mk : Addr} {D D' : PDesk} {ws : List Wd} {H : Hp} {Q : Bool → Hp → Prop} (hi : σ[i]? = some (some (.ref d))) (hp : ∀ Q : VK, Q (sv (TL.joinL [32] ws)) H → ta σ H Q) (hD : IsDesk A H d rl mk D) (hok : OkD D) (g : Good D ws D')
    (q : ∀ H', Keeps d rl mk H H' → IsDesk A H' d rl mk D' → Q false H') : tTest (tOp rNe (tMethX A.desk "say" (spSay A K) E (tVar i) (tCons ta tNil)) (tC (sv [111, 107]))) σ H Q :=
  sayH hi hp hD (say_ok hD hok g fun H' k hD' => ⟨rfl, _, rfl, by rw [decide_eq_true rfl]; exact q H' k hD'⟩)
theorem okT {E : XK} {σ : L2.St} {i : Nat} {ta : TE} {d rl mk : Addr} {D D' : PDesk} {ws : List Wd} {H : Hp} {Q : Bool → Hp → Prop} (hi : σ[i]? = some (some (.ref d))) (hp : Pure σ ta (sv (TL.joinL [32] ws))) (hD : IsDesk A H d rl mk D) (hok : OkD D) (g : Good D ws D')
    (q : ∀ H', Keeps d rl mk H H' → IsDesk A H' d rl mk D' → Q false H') : tTest (tOp rNe (tMethX A.desk "say" (spSay A K) E (tVar i) (tCons ta tNil)) (tC (sv [111, 107]))) σ H Q :=
  okH hi (fun _ q => hp _ _ q) hD hok g q
theorem asg_go {te : TE} {g : TG} {D : Ends} {σ : L2.St} {H : Hp} (h : te σ H fun x H1 => g x σ H1 D.nx) : tAsg te g D σ H := h
theorem next_go {D : Ends} {σ : L2.St} {H : Hp} (h : D.nx σ H) : tNext D σ H := h
theorem op_go {r : R2} {ta tb : TE} {σ : L2.St} {H : Hp} {Q : VK} (h : ta σ H fun x H1 => tb σ H1 fun y H2 => r x y H2 Q) : tOp r ta tb σ H Q := h
abbrev rAddS : R2 := fun x y H Q => ∃ a b : Wd, x = sv a ∧ y = sv b ∧ a.length + b.length ≤ sizeLine ∧ Q (sv (a ++ b)) H
theorem rowPure {σ : L2.St} {a : Wd} (h : σ[9]? = some (some (sv a))) (ha : a.length ≤ 3) : Pure σ (tOp rAddS (tOp rAddS (tOp rAddS (tOp rAddS (tC (sv [100, 111, 111, 114, 32])) (tVar 9)) (tC (sv [32, 120, 32, 49, 32, 116, 111, 115, 115, 32, 49, 47, 50, 32]))) (tVar 9)) (tC (sv [32])))
    (sv ((((([100, 111, 111, 114, 32] : Wd) ++ a) ++ ([32, 120, 32, 49, 32, 116, 111, 115, 115, 32, 49, 47, 50, 32] : Wd)) ++ a) ++ ([32] : Wd))) := by
  refine pureAdd (pureAdd (pureAdd (pureAdd pureC (pureV h) ?_) pureC ?_) (pureV h) ?_) pureC ?_ <;> (simp only [List.length_append, List.length_cons, List.length_nil]; omega)
theorem nameAt {E : XK} {σ : L2.St} {sc np : Addr} {ns : List Int} {names : List Wd} {n k : Nat} {H : Hp} {Q : VK} (h0 : σ[0]? = some (some (.ref sc))) (h3 : σ[3]? = some (some (.int n))) (h4 : σ[4]? = some (some (.ref np))) (hs : SqL K H sc (ns.map V.int)) (hn : ns.length ≤ 1000)
    (hnp : H np = some (.lst (names.map sv))) (h1 : 1 ≤ n) (hl : n ≤ names.length) (q : ∀ c, c < n → ∀ H', Same H H' → Q (sv (names.getD c [])) H') :
    tOp (rIxL K) (tVar 4) (tOp (rI (fun _ j => 0 < j) fun i j => V.int (i % j)) (tCallX (spCell K) E (tCons (tVar 0) (tCons (tC (V.int k)) tNil))) (tVar 3)) σ H Q := by
  refine ⟨_, h4, _, h0, sc, ns, k, rfl, hs, hn, fun c H1 s1 => ⟨_, h3, c, n, rfl, rfl, by omega, ?_⟩⟩
  have a0 := Int.emod_nonneg c (b := (n : Int)) (by omega)
  have a1 := Int.emod_lt_of_pos c (b := (n : Int)) (by omega)
  obtain ⟨m, hm⟩ : ∃ m : Nat, c % (n : Int) = m := ⟨(c % (n : Int)).toNat, by omega⟩
  have hmn : m < n := by omega
  refine ⟨np, _, _, _, rfl, rfl, SqL.of (s1 _ _ hnp), ?_, q m hmn _ s1⟩
  rw [hm]
  refine atI_nat ?_
  rw [List.getElem?_map, List.getElem?_eq_getElem (by omega), List.getD_eq_getElem?_getD, List.getElem?_eq_getElem (by omega)]
  rfl
theorem lastAt {σ : L2.St} {np : Addr} {names : List Wd} {n : Nat} {H : Hp} {Q : VK} (h3 : σ[3]? = some (some (.int n))) (h4 : σ[4]? = some (some (.ref np))) (hnp : H np = some (.lst (names.map sv))) (hl : n < names.length) (q : Q (sv (names.getD n [])) H) :
    tOp (rIxL K) (tVar 4) (tVar 3) σ H Q := by
  refine ⟨_, h4, _, h3, np, _, _, _, rfl, rfl, SqL.of hnp, ?_, q⟩
  refine atI_nat ?_
  rw [List.getElem?_map, List.getElem?_eq_getElem (by omega), List.getD_eq_getElem?_getD, List.getElem?_eq_getElem (by omega)]
  rfl
/-- a menu of rows that the desk D refuses -/
def MenuAt (D : PDesk) (H : Hp) (p : Addr) : Prop := ∃ vs, H p = some (.lst vs) ∧ 0 < vs.length ∧ ∀ v ∈ vs, ∃ t rv e, v = .ref t ∧ H t = some (.tup [rv, .int e.at_, e.val]) ∧ RowV D H rv e
theorem RowV.mono {D : PDesk} {H H' : Hp} {rv : V} {e : Rf} (s : Same H H') (h : RowV D H rv e) : RowV D H' rv e := h.imp (fun h => ⟨h.1.mono s, h.2⟩) id
theorem MenuAt.mono {D : PDesk} {H H' : Hp} {p : Addr} (s : Same H H') (h : MenuAt D H p) : MenuAt D H' p := by
  obtain ⟨vs, h1, h2, h3⟩ := h
  refine ⟨vs, s _ _ h1, h2, fun v hv => ?_⟩
  obtain ⟨t, rv, e, a, b, c⟩ := h3 v hv
  exact ⟨t, rv, e, a, s _ _ b, c.mono s⟩
theorem menuRows {D : PDesk} {G H : Hp} {p : Addr} {xs : List (Wd × Rf)} (h : RowsAt G H p xs) (hne : xs ≠ []) (hx : ∀ x ∈ xs, ∃ wd rest, x.1 = TL.joinL [32] (wd :: rest) ∧ Plain wd rest ∧ Refuses D wd rest x.2) : MenuAt D H p := by
  obtain ⟨_, _, vs, hv, hp⟩ := h
  refine ⟨vs, hv, by rw [hp.length]; exact Nat.pos_of_ne_zero fun z => hne (List.eq_nil_of_length_eq_zero z), fun v hm => ?_⟩
  obtain ⟨i, hi⟩ := List.getElem?_of_mem hm
  obtain ⟨x, hxi, t, e, ht⟩ := paired_get hp hi
  obtain ⟨wd, rest, h1, h2, h3⟩ := hx x (mem_at hxi)
  exact ⟨t, _, _, e, ht, .inr ⟨wd, rest, by rw [h1], h2, h3⟩⟩
theorem menuNo {D : PDesk} {H : Hp} {p : Addr} {vs : List V} {xs : List (Option Wd)} (hv : H p = some (.lst vs)) (hp : Paired (IsNo H) vs xs) (hne : xs ≠ []) (hx : ∀ x ∈ xs, ∀ t, x = some t → ∃ wd rest, t = TL.joinL [32] (wd :: rest) ∧ Plain wd rest ∧ Refuses D wd rest .row) : MenuAt D H p := by
  refine ⟨vs, hv, by rw [hp.length]; exact Nat.pos_of_ne_zero fun z => hne (List.eq_nil_of_length_eq_zero z), fun v hm => ?_⟩
  obtain ⟨i, hi⟩ := List.getElem?_of_mem hm
  obtain ⟨x, hxi, t, rv, e, ht, hr⟩ := paired_get hp hi
  refine ⟨t, rv, .row, e, ht, ?_⟩
  cases x with
  | none => exact .inl ⟨hr, rfl⟩
  | some w =>
    obtain ⟨wd, rest, h1, h2, h3⟩ := hx _ (mem_at hxi) w rfl
    refine .inr ⟨wd, rest, ?_, h2, h3⟩
    rw [← h1]; exact hr
theorem flat_le {n : Nat} : ∀ (xs : List (List Wd)), (∀ x ∈ xs, x.length ≤ n) → xs.flatten.length ≤ n * xs.length
  | [], _ => by simp
  | x :: xs, h => by
    have ih := flat_le (n := n) xs fun y hy => h y (List.mem_cons_of_mem _ hy)
    have hx := h x (List.mem_cons_self ..)
    rw [List.flatten_cons, List.length_append, List.length_cons, Nat.mul_add]
    omega
theorem lawRows_le {f : Frac} {rs : List (List RDoor)} {names : List Wd} (h3 : rs.length ≤ 3) (hr : ∀ r ∈ rs, r.length ≤ 3) (hn : names.length ≤ 3) : (lawRows f rs names).length ≤ 1000 := by
  have := flat_le (n := 3) ((List.range rs.length).map fun k => (List.range (rs.getD k []).length).map fun j => doorRow names k j ((rs.getD k []).getD j ((0, 1), []))) (by
    intro x hx
    obtain ⟨k, hk, rfl⟩ := List.mem_map.mp hx
    have hk := List.mem_range.mp hk
    rw [List.length_map, List.length_range, List.getD_eq_getElem?_getD, List.getElem?_eq_getElem hk]
    exact hr _ (List.getElem_mem hk))
  rw [List.length_map, List.length_range] at this
  unfold lawRows
  rw [List.length_append, List.length_cons, List.length_map]
  omega
theorem keep_same {G H H' : Hp} {d rl mk : Addr} (s : Same G H) (h1 : G d = none) (h2 : G rl = none) (h3 : G mk = none) (k : Keeps d rl mk H H') : Same G H' := fun b o e => k b o (ne_of_none e h1) (ne_of_none e h2) (ne_of_none e h3) (s b o e)
def spLaw (K : PySem.W.Frag) : Sp := fun vs H Q _ => ∃ (a : Addr) (ns : List Int), vs = [.ref a] ∧ SqL K H a (ns.map V.int) ∧ ns.length ≤ 1000 ∧ ∀ H', Q (.bl true) H'
theorem body_law (B : Blt mg) (T : Tx K mg A) (L : LF K mg A) (pl : ∀ f rs names, OkSh f → OkRR rs → names.length = rs.length + 1 → names.Nodup → (∀ x ∈ names, isWordS x = true ∧ x.length ≤ 3) → PlainLaw f rs names)
    (c__law_cell : CalX P w K mg base 1 "_law_cell" (spCell K)) (c__law_drawn : CalX P w K mg base 4 "_law_drawn" (spDrawn K)) (c__law_words : CalX P w K mg base 1 "_law_words" spWordsL) (c__law_rows : CalX P w K mg base 4 "_law_rows" spRows)
    (c__law_no_rows : CalX P w K mg base 1 "_law_no_rows" spNoRows) (c__law_no_doors : CalX P w K mg base 1 "_law_no_doors" (spMenu2 noDoorsM)) (c__law_others : CalX P w K mg base 1 "_law_others" (spMenu2 othersM)) (c__law_plans : CalX P w K mg base 1 "_law_plans" spPlans)
    (k_Desk : MakX P w K mg base 1 "Desk" A.desk (spDeskInit A)) (m_Desk_say : MetX P w K mg base 11 A.desk "say" (spSay A K)) (c__law_refused : CalX P w K mg base 12 "_law_refused" (spRefused A)) : BodyOk P w K mg base 12 ["_law_script", "_law_share", "_law_rooms", "_law_many", "_law_names", "_law_desk", "_law_rows_here", "_law_row", "_law_text", "_law_a", "_law_menus", "_law_cell_here", "_law_menu", "_law_at", "_law_field"] "law" s_law (spLaw K) := by
  intro f cdv A' outer s H vs Q E hr hT hx hu h
  refine ⟨_, (pss_cons (ps_asg (pe_cx c__law_drawn hr (by decide) rfl hx (pa_cons (pv 0) (pa_cons pe_int (pa_cons pe_int pa_nil)))) (pg_tup rfl (pgs_cons (pg_name (i := 1) sc_law.nd rfl (Or.inl rfl)) (pgs_cons (pg_name (i := 2) sc_law.nd rfl (Or.inl rfl)) pgs_nil))))
      (pss_cons (ps_set (i := 3) sc_law.nd rfl (Or.inl rfl) (pe_callB call_len (by rfl) B.len (by decide +kernel) (pa_cons (pv 2) pa_nil)))
      (pss_cons (ps_set (i := 4) sc_law.nd rfl (Or.inl rfl) (pe_cx c__law_words hr (by decide) rfl hx (pa_cons (pe_cx c__law_cell hr (by decide) rfl hx (pa_cons (pv 0) (pa_cons pe_int pa_nil))) (pa_cons (pe_op op_add (pv 3) pe_int) pa_nil))))
      (pss_cons (ps_set (i := 5) sc_law.nd rfl (Or.inl rfl) (pe_kx0 k_Desk hr (by decide) rfl hx))
      (pss_cons (ps_set (i := 6) sc_law.nd rfl (Or.inl rfl) (pe_cx c__law_rows hr (by decide) rfl hx (pa_cons (pv 1) (pa_cons (pv 2) (pa_cons (pe_slice sl_list (pv 4) po_none (po_some (pv 3))) pa_nil)))))
      (pss_cons (ps_expr (pe_bm PySem.F.plainAttrs_list PySem.F.slot_list_append PySem.F.type_list_append mt_append (pv 6) (pa_cons (pe_op op_add_w (pe_litc (l := [103, 111, 97, 108, 32]) (by decide +kernel)) (pe_ix ix_list (pv 4) (pe_op op_mod (pe_cx c__law_cell hr (by decide) rfl hx (pa_cons (pv 0) (pa_cons pe_int pa_nil))) (pv 3)) (fun _ _ => rfl))) pa_nil)))
      (pss_cons (ps_for (passes_of rfl) rfl (pi_list (pv 6)) (pg_name (i := 7) sc_law.nd rfl (Or.inl rfl))
        (pss_one (ps_if (pt_cmpR op_ne (pe_mx (pv 5) m_Desk_say hr (by decide) hx (pa_cons (pv 7) pa_nil)) (pe_litc (l := [111, 107]) (by decide +kernel)) (nomark _)) pss_never pss_nil)))
      (pss_cons (ps_set (i := 8) sc_law.nd rfl (Or.inl rfl) (pe_mx (pv 5) m_Desk_say hr (by decide) hx (pa_cons (pe_litc (l := [115, 104, 111, 119]) (by decide +kernel)) pa_nil)))
      (pss_cons (ps_set (i := 9) sc_law.nd rfl (Or.inl rfl) (pe_ix ix_list (pv 4) (pe_op op_mod (pe_cx c__law_cell hr (by decide) rfl hx (pa_cons (pv 0) (pa_cons pe_int pa_nil))) (pv 3)) (fun _ _ => rfl)))
      (pss_cons (ps_set (i := 10) sc_law.nd rfl (Or.inl rfl) (pe_lst (pa_cons (pe_cx c__law_no_rows hr (by decide) rfl hx (pa_cons (pv 9) pa_nil)) (pa_cons (pe_cx c__law_no_doors hr (by decide) rfl hx (pa_cons (pv 9) (pa_cons (pe_ix ix_list (pv 4) (pv 3) (fun _ _ => rfl)) pa_nil))) pa_nil))))
      (pss_cons (ps_set (i := 10) sc_law.nd rfl (Or.inl rfl) (pe_op op_cat (pv 10) (pe_lst (pa_cons (pe_cx c__law_others hr (by decide) rfl hx (pa_cons (pv 9) (pa_cons (pe_ix ix_list (pv 4) (pv 3) (fun _ _ => rfl)) pa_nil))) (pa_cons (pe_cx c__law_plans hr (by decide) rfl hx (pa_cons (pv 2) (pa_cons (pv 4) pa_nil))) pa_nil)))))
      (pss_cons (ps_for (passes_of rfl) rfl (pi_list (pe_slice sl_list (pv 0) (po_some pe_int) (po_some pe_int))) (pg_name (i := 11) sc_law.nd rfl (Or.inl rfl))
        (pss_cons (ps_set (i := 12) sc_law.nd rfl (Or.inl rfl) (pe_ix ix_list (pv 10) (pe_op op_mod (pv 11) pe_int) (fun _ _ => rfl)))
        (pss_cons (ps_asg (pe_ix ix_list (pv 12) (pe_op op_mod (pe_op op_fdiv (pv 11) pe_int) (pe_callB call_len (by rfl) B.len (by decide +kernel) (pa_cons (pv 12) pa_nil))) (fun _ _ => rfl)) (pg_tup rfl (pgs_cons (pg_name (i := 7) sc_law.nd rfl (Or.inl rfl)) (pgs_cons (pg_name (i := 13) sc_law.nd rfl (Or.inl rfl)) (pgs_cons (pg_name (i := 14) sc_law.nd rfl (Or.inl rfl)) pgs_nil)))))
        (pss_one (ps_if (pt_not (pt_val (pe_cx c__law_refused hr (by decide) rfl hx (pa_cons (pv 5) (pa_cons (pv 7) (pa_cons (pv 13) (pa_cons (pv 14) pa_nil))))))) pss_never pss_nil)))))
      (pss_cons (ps_if (pt_cmpR op_ne (pe_mx (pv 5) m_Desk_say hr (by decide) hx (pa_cons (pe_litc (l := [115, 104, 111, 119]) (by decide +kernel)) pa_nil)) (pv 8) (nomark _)) pss_never pss_nil)
      (pss_cons (ps_set (i := 7) sc_law.nd rfl (Or.inl rfl) (pe_op op_add_w (pe_op op_add_w (pe_op op_add_w (pe_op op_add_w (pe_op op_add_w (pe_litc (l := [100, 111, 111, 114, 32]) (by decide +kernel)) (pv 9)) (pe_litc (l := [32, 120, 32, 49, 32, 116, 111, 115, 115, 32, 49, 47, 50, 32]) (by decide +kernel))) (pv 9)) (pe_litc (l := [32]) (by decide +kernel))) (pe_ix ix_list (pv 4) (pv 3) (fun _ _ => rfl))))
      (pss_cons (ps_if (PW.pt (pw_or (pt_not (pt_val (pe_cx c__law_refused hr (by decide) rfl hx (pa_cons (pv 5) (pa_cons (pv 7) (pa_cons pe_int (pa_cons (pe_ix ix_list (pv 4) (pv 3) (fun _ _ => rfl)) pa_nil))))))) (pw_or1 (pt_cmpR op_ne (pe_mx (pv 5) m_Desk_say hr (by decide) hx (pa_cons (pe_op op_add_w (pe_litc (l := [114, 111, 111, 109, 32]) (by decide +kernel)) (pe_ix ix_list (pv 4) (pv 3) (fun _ _ => rfl))) pa_nil)) (pe_litc (l := [111, 107]) (by decide +kernel)) (nomark _))))) pss_never pss_nil)
      (pss_cons (ps_if (PW.pt (pw_or (pt_cmpR op_ne (pe_mx (pv 5) m_Desk_say hr (by decide) hx (pa_cons (pv 7) pa_nil)) (pe_litc (l := [111, 107]) (by decide +kernel)) (nomark _)) (pw_or1 (pt_cmpR op_ne (pe_mx (pv 5) m_Desk_say hr (by decide) hx (pa_cons (pe_op op_add_w (pe_litc (l := [103, 111, 97, 108, 32]) (by decide +kernel)) (pe_ix ix_list (pv 4) (pv 3) (fun _ _ => rfl))) pa_nil)) (pe_litc (l := [111, 107]) (by decide +kernel)) (nomark _))))) pss_never pss_nil)
      (pss_one (ps_ret (pe_cmpR op_ne (pe_mx (pv 5) m_Desk_say hr (by decide) hx (pa_cons (pe_litc (l := [115, 104, 111, 119]) (by decide +kernel)) pa_nil)) (pv 8) (nomark _)))))))))))))))))))), ?_⟩
  obtain ⟨sc, ns, rfl, hs, hn, q⟩ := h
  refine ⟨_, rfl, sc, ns, rfl, hs, hn, fun dp fv rv fr rs H1 s1 hdp hf hr' hsh hok => ?_⟩
  refine ⟨_, _, rfl, SqT.of hdp, rfl, _, _, rfl, _, _, rfl, rfl, ?_⟩
  have hrr := hr'
  obtain ⟨rp, rvs, rfl, hrp, hrs⟩ := hr'
  have hr1 := hok.1
  have hr3 := hok.2.1
  refine ⟨_, rfl, _, rvs.length, rfl, lenL hrp, ?_⟩
  rw [hrs.length]
  refine ⟨_, rfl, sc, ns, 5, rfl, s1.seq hs, hn, fun c5 H2 s2 => ⟨_, rfl, _, _, rfl, rfl, c5, rs.length + 1, rfl, by omega, fun np names G s3 hnp0 hnp hnl hnd hnw => ?_⟩⟩
  have s13 := (s1.trans s2).trans s3
  have hs := s13.seq hs
  have hf := hf.mono (s2.trans s3)
  have hrr := hrr.mono (s2.trans s3)
  have pl0 := pl fr rs names hsh hok hnl hnd hnw
  clear hrs hrp hdp s13 s1 s2 s3
  intro d dx hd hdx hne
  refine ⟨d, dx, rfl, upd_same, fun H4 rl mk k4 hrl hmk hD => ⟨rfl, ?_⟩⟩
  have nn : ∀ b, (L2.upd (L2.upd G dx (.own d)) d (.ins A.desk dx [])) b = none → G b = none := fun b hb => by
    have b1 : b ≠ d := fun z => by subst z; rw [upd_same] at hb; cases hb
    rw [upd_ne b1] at hb
    have b2 : b ≠ dx := fun z => by subst z; rw [upd_same] at hb; cases hb
    rwa [upd_ne b2] at hb
  have grl := nn _ hrl
  have gmk := nn _ hmk
  have s4 : Same G H4 := fun b o e => k4 b o (ne_of_none e hd) (by rw [upd_ne (ne_of_none e hd), upd_ne (ne_of_none e hdx)]; exact e)
  clear nn k4 hrl hmk
  have hsz : ∀ x ∈ names, x.length ≤ 3 := fun x hx => (hnw x hx).2
  have hgd : ∀ c, c < names.length → (names.getD c []).length ≤ 3 := fun c hc => by
    rw [List.getD_eq_getElem?_getD, List.getElem?_eq_getElem hc]
    exact hsz _ (List.getElem_mem hc)
  refine ⟨_, rfl, _, rfl, _, rfl, _, rfl, _, rfl, np, _, rfl, SqL.of (s4 _ _ hnp), fun cp hcp => ?_⟩
  refine ⟨fv, .ref rp, .ref cp, fr, rs, names.take rs.length, rfl, hf.mono (same_off s4 (s4.free hcp)), hrr.mono (same_off s4 (s4.free hcp)), ⟨cp, rfl, by rw [upd_same, cut_to]⟩, hsh, hok, by rw [List.length_take]; omega, fun x hx => hsz x (List.mem_of_mem_take hx), fun p H5 s5 hpn hp => ?_⟩
  have s45 : Same H4 H5 := (same_upd hcp).trans s5
  have hp4 : H4 p = none := (same_upd (o := .lst (cutV (names.map sv) none (some (rs.length : Int)))) hcp).free hpn
  have hpG : G p = none := s4.free hp4
  have s5' := s4.trans s45
  refine ⟨_, rfl, tyL hp, nameAt (k := 6) rfl rfl rfl (s5'.seq hs) hn (s5' _ _ hnp) hr1 (by omega) (fun c hc H6 s6 => ?_)⟩
  have hc3 := hgd c (by omega)
  have hll : (lawRows fr rs (names.take rs.length)).length ≤ 1000 := lawRows_le hr3 (fun r hr => (hok.2.2 r hr).1) (by rw [List.length_take]; omega)
  refine ⟨_, _, rfl, rfl, by rw [sizeLine_eq]; simp only [List.length_cons, List.length_nil]; omega, p, _, _, rfl, rfl, s6 _ _ hp, by rw [List.length_map, sizeLine_eq]; omega, ?_⟩
  obtain ⟨D, rws, hrw, hch, hokD, hsm, hmen⟩ := pl0.rows c hc
  have s6' := s5'.trans s6
  have s7 : Same G (L2.upd H6 p (.lst ((lawRows fr rs (names.take rs.length)).map sv ++ [sv (([103, 111, 97, 108, 32] : Wd) ++ names.getD c [])]))) := same_off s6' hpG
  have hD7 := IsDesk.mono (same_off (o := .lst ((lawRows fr rs (names.take rs.length)).map sv ++ [sv (([103, 111, 97, 108, 32] : Wd) ++ names.getD c [])])) (s45.trans s6) hp4) hD
  have hp7 : (L2.upd H6 p (.lst ((lawRows fr rs (names.take rs.length)).map sv ++ [sv (([103, 111, 97, 108, 32] : Wd) ++ names.getD c [])]))) p = some (.lst ((rws.map (TL.joinL [32])).map sv)) := by
    rw [upd_same, ← hrw, List.map_append]; rfl
  have hpd : p ≠ d ∧ p ≠ rl ∧ p ≠ mk := by
    obtain ⟨dx', fv', rvs', kvs', h1, h2, h3, -⟩ := hD
    exact ⟨(ne_of_none h1 hp4).symm, (ne_of_none h2 hp4).symm, (ne_of_none h3 hp4).symm⟩
  generalize (L2.upd H6 p (.lst ((lawRows fr rs (names.take rs.length)).map sv ++ [sv (([103, 111, 97, 108, 32] : Wd) ++ names.getD c [])]))) = H7 at s7 hD7 hp7 ⊢
  clear hcp hp hpn s5 s45 s5' s6 s6' s4 hp4 hD
  refine ⟨_, rfl, p, rfl, ⟨_, SqL.of hp7⟩, ?_⟩
  refine for_list (xs := (rws.map (TL.joinL [32])).map sv) (fun i σ H' => Same G H' ∧ H' p = some (.lst ((rws.map (TL.joinL [32])).map sv)) ∧ (∃ o7, σ = [some (.ref sc), some fv, some (.ref rp), some (.int (rs.length : Int)), some (.ref np), some (.ref d), some (.ref p), o7, none, none, none, none, none, none, none]) ∧
    ∃ Di, IsDesk A H' d rl mk Di ∧ Chain Di (rws.drop i) D) ⟨s7, hp7, ⟨_, rfl⟩, _, hD7, hch⟩ (fun i σ H' _ h => SqL.of h.2.1) ?_ ?_
  · rintro i y σ H' hi ⟨sg, hpp, ⟨o7, rfl⟩, Di, hDi, hci⟩
    rw [List.map_map, List.getElem?_map] at hi
    cases hti : rws[i]? with
    | none => rw [hti] at hi; cases hi
    | some ws =>
      rw [hti] at hi
      have hi' : sv (TL.joinL [32] ws) = y := Option.some.inj hi
      subst hi'
      have hlt : i < rws.length := by
        rcases Nat.lt_or_ge i rws.length with h | h
        · exact h
        · rw [List.getElem?_eq_none h] at hti; cases hti
      rw [List.drop_eq_getElem_cons hlt] at hci
      have hge : rws[i] = ws := Option.some.inj ((List.getElem?_eq_getElem hlt).symm.trans hti)
      rw [hge] at hci
      cases hci with
      | cons ok1 g1 t1 =>
        exact okT (σ := [some (.ref sc), some fv, some (.ref rp), some (.int (rs.length : Int)), some (.ref np), some (.ref d), some (.ref p), some (sv (TL.joinL [32] ws)), none, none, none, none, none, none, none]) rfl (pureV rfl) hDi ok1 g1 fun H'' k hD' => iteF ⟨keep_same sg hd grl gmk k, k _ _ hpd.1 hpd.2.1 hpd.2.2 hpp, ⟨_, rfl⟩, _, hD', t1⟩
  rintro σ H8 ⟨s8, hpp, ⟨o7, rfl⟩, Di, hD8, hci⟩
  rw [List.length_map, List.length_map, List.drop_length] at hci
  cases hci
  clear hpp hp7 s7 hD7 hch hrw
  refine sayT rfl pureC hD8 (say_show hD8 hokD hsm fun H9 s9 => ?_)
  have s9' := s8.trans s9
  have hD9 := hD8.mono s9
  clear s9 s8 hD8
  refine gName_go ?_
  dsimp only
  refine nameAt (k := 7) rfl rfl rfl (s9'.seq hs) hn (s9' _ _ hnp) hr1 (by omega) (fun c2 hc2 H10 s10 => ?_)
  have s10' := s9'.trans s10
  have hD10 := hD9.mono s10
  clear s9' s10 hD9
  have ha3 := hgd c2 (by omega)
  have hq3 := hgd rs.length (by omega)
  have ham : names.getD c2 [] ∈ names.take rs.length := by
    rw [List.getD_eq_getElem?_getD, List.getElem?_eq_getElem (by omega)]
    exact List.mem_take_iff_getElem.mpr ⟨c2, by omega, rfl⟩
  obtain ⟨n1, n2, n3, n4, n5⟩ := hmen _ _ ham rfl
  generalize hae : names.getD c2 [] = a at ham n1 n2 n3 n5 ha3 ⊢
  generalize hqe : names.getD rs.length [] = qn at n2 n3 n5 hq3
  have lastQ : ∀ {σ : L2.St} {H : Hp} {Q : VK}, σ[3]? = some (some (.int rs.length)) → σ[4]? = some (some (.ref np)) → H np = some (.lst (names.map sv)) → Q (sv qn) H → tOp (rIxL K) (tVar 4) (tVar 3) σ H Q := fun h3 h4 hh q => lastAt h3 h4 hh (by omega) (by rw [hqe]; exact q)
  refine gName_go ?_
  dsimp only
  refine ⟨_, rfl, a, rfl, ha3, fun m0 vs0 Ha sa hm0 hv0 => ⟨_, rfl, lastQ rfl rfl (sa _ _ (s10' _ _ hnp)) ⟨a, qn, rfl, ha3, hq3, fun m1 Hb rb => ?_⟩⟩⟩
  have M0 := menuNo hm0 hv0 (by simp [noRowsM, noRows_0]) n1
  have M1 := menuRows rb (by simp [noDoorsM]) n2
  refine ⟨by show 2 ≤ sizeLine; decide, fun l1 hl1 => ?_⟩
  have sb : Same H10 (L2.upd Hb l1 (.lst [.ref m0, .ref m1])) := (sa.trans rb.1).trans (same_upd hl1)
  have M0 := M0.mono (rb.1.trans (same_upd (o := .lst [.ref m0, .ref m1]) hl1))
  have M1 := M1.mono (same_upd (o := .lst [.ref m0, .ref m1]) hl1)
  have L1 : (L2.upd Hb l1 (.lst [.ref m0, .ref m1])) l1 = some (.lst [.ref m0, .ref m1]) := upd_same
  refine gName_go ?_
  dsimp only
  generalize L2.upd Hb l1 (.lst [.ref m0, .ref m1]) = Hb' at sb M0 M1 L1 ⊢
  have sb' := s10'.trans sb
  refine ⟨_, rfl, _, rfl, lastQ rfl rfl (sb' _ _ hnp) ⟨a, qn, rfl, ha3, hq3, fun m2 Hc rc => ⟨_, rfl, _, rfl, .ref rp, .ref np, rs, names, rfl, hrr.mono (sb'.trans rc.1), ⟨np, rfl, (sb'.trans rc.1) _ _ hnp⟩, hnl, hr1, hr3, hsz, fun m3 Hd rd => ⟨by show 2 ≤ sizeLine; decide, fun l2 hl2 => ?_⟩⟩⟩⟩
  have M2 := menuRows rc (by simp [othersM]) n3
  have M3 := menuRows rd (by unfold plansU plans0; split <;> simp) n4
  have s2 := same_upd (o := .lst [.ref m2, .ref m3]) hl2
  refine ⟨l1, l2, _, _, rfl, rfl, s2 _ _ (rd.1 _ _ (rc.1 _ _ L1)), upd_same, by show 2 + 2 ≤ sizeLine; decide, fun l3 hl3 => ?_⟩
  have s3 := s2.trans (same_upd (o := .lst ([.ref m0, .ref m1] ++ [.ref m2, .ref m3])) hl3)
  have sc0 := (rc.1.trans rd.1).trans s3
  have M0 := M0.mono sc0
  have M1 := M1.mono sc0
  have M2 := M2.mono (rd.1.trans s3)
  have M3 := M3.mono s3
  have L3 : (L2.upd (L2.upd Hd l2 (.lst [.ref m2, .ref m3])) l3 (.lst ([.ref m0, .ref m1] ++ [.ref m2, .ref m3]))) l3 = some (.lst [.ref m0, .ref m1, .ref m2, .ref m3]) := upd_same
  have sz := sb.trans sc0
  refine gName_go ?_
  dsimp only
  generalize (L2.upd (L2.upd Hd l2 (.lst [.ref m2, .ref m3])) l3 (.lst ([.ref m0, .ref m1] ++ [.ref m2, .ref m3]))) = H11 at sz M0 M1 M2 M3 L3 ⊢
  have s11 := s10'.trans sz
  have hD11 := hD10.mono sz
  clear sc0 s2 s3 sb sb' sz s10' hD10 L1 rb rc rd
  have menus : ∀ i : Int, 0 ≤ i → i < 4 → ∃ mp, atI [V.ref m0, .ref m1, .ref m2, .ref m3] i = some (.ref mp) ∧ MenuAt D H11 mp := by
    intro i h0 h1
    have : i = 0 ∨ i = 1 ∨ i = 2 ∨ i = 3 := by omega
    rcases this with rfl | rfl | rfl | rfl
    · exact ⟨m0, rfl, M0⟩
    · exact ⟨m1, rfl, M1⟩
    · exact ⟨m2, rfl, M2⟩
    · exact ⟨m3, rfl, M3⟩
  obtain ⟨ms, hms, hml⟩ := cut_int ns (some 8) (some 20)
  refine ⟨_, rfl, _, rfl, _, rfl, sc, _, rfl, s11.seq hs, fun p2 hp2 => ?_⟩
  rw [hms]
  have s12 := same_upd (o := .lst (ms.map V.int)) hp2
  have P2 : (L2.upd H11 p2 (.lst (ms.map V.int))) p2 = some (.lst (ms.map V.int)) := upd_same
  refine ⟨p2, rfl, ⟨_, SqL.of P2⟩, ?_⟩
  refine for_list (xs := ms.map V.int) (fun i σ H' => Same H11 H' ∧ H' p2 = some (.lst (ms.map V.int)) ∧ (∃ o7 o11 o12 o13 o14, σ = [some (.ref sc), some fv, some (.ref rp), some (.int (rs.length : Int)), some (.ref np), some (.ref d), some (.ref p), o7, some (sv (showText (hallD D))), some (sv a), some (.ref l3), o11, o12, o13, o14]))
    ⟨s12, P2, _, _, _, _, _, rfl⟩ (fun i σ H' _ h => SqL.of h.2.1) ?_ ?_
  · rintro i y σ H' hi ⟨sg, hpp, o7, o11, o12, o13, o14, rfl⟩
    rw [List.getElem?_map] at hi
    cases hti : ms[i]? with
    | none => rw [hti] at hi; cases hi
    | some c =>
      rw [hti] at hi
      have hi' : V.int c = y := Option.some.inj hi
      subst hi'
      obtain ⟨mp, hmp, vs, hvs, hvl, hve⟩ := menus (c % 4) (by omega) (by omega)
      refine ⟨_, rfl, _, rfl, _, _, rfl, rfl, (by show (0 : Int) < 4; decide), l3, _, _, _, rfl, rfl, SqL.of (sg _ _ L3), hmp, ?_⟩
      obtain ⟨k, hk⟩ : ∃ k : Nat, c / 4 % (vs.length : Int) = k := ⟨(c / 4 % (vs.length : Int)).toNat, by have := Int.emod_nonneg (c / 4) (b := (vs.length : Int)) (by omega); omega⟩
      have hkl : k < vs.length := by have := Int.emod_lt_of_pos (c / 4) (b := (vs.length : Int)) (by omega); omega
      obtain ⟨t, rv, e, het, ht, hrow⟩ := hve vs[k] (List.getElem_mem hkl)
      have hvk : atI vs (c / 4 % (vs.length : Int)) = some (.ref t) := by
        rw [hk]
        refine atI_nat ?_
        rw [List.getElem?_eq_getElem hkl, het]
      refine ⟨_, rfl, _, rfl, _, _, rfl, rfl, ⟨by decide, by decide⟩, _, rfl, _, vs.length, rfl, lenL (sg _ _ hvs), _, _, rfl, rfl, by omega, mp, _, _, _, rfl, rfl, SqL.of (sg _ _ hvs), hvk, ?_⟩
      refine ⟨_, _, rfl, SqT.of (sg _ _ ht), rfl, _, _, rfl, _, _, rfl, _, _, rfl, rfl, ?_⟩
      refine ⟨_, rfl, _, rfl, _, rfl, _, rfl, d, rl, mk, D, rv, e, rfl, hD11.mono sg, hokD, hrow.mono sg, fun H'' s'' => ⟨_, rfl, ?_⟩⟩
      refine iteF ⟨sg.trans s'', s'' _ _ hpp, _, _, _, _, _, rfl⟩
  rintro σ H12 ⟨s12, hpp, o7, o11, o12, o13, o14, rfl⟩
  have s12' := s11.trans s12
  have hD12 := hD11.mono s12
  refine sayT rfl pureC hD12 (say_show hD12 hokD hsm fun H13 s13 => ?_)
  refine ⟨_, rfl, rfl, _, rfl, ?_⟩
  rw [decide_eq_true rfl]
  refine iteF ?_
  have s13' := s12'.trans s13
  have hD13 := hD12.mono s13
  clear s12' s13 hD12 s12 hpp
  obtain ⟨wd, rest, hrow, hpl, href, D1, D2, D3, g1, ok1, g2, ok2, g3, ok3, sm3, hne⟩ := n5
  refine next_go ?_
  dsimp only
  refine seq_go ?_
  refine asg_go ?_
  refine op_go ?_
  refine rowPure rfl ha3 _ _ ?_
  refine lastQ rfl rfl (s13' _ _ hnp) ?_
  refine ⟨_, _, rfl, rfl, ?_, ?_⟩
  · rw [sizeLine_eq]; simp only [List.length_append, List.length_cons, List.length_nil]; omega
  rw [hrow]
  refine gName_go ?_
  dsimp only
  refine ⟨_, rfl, _, rfl, lastQ rfl rfl (s13' _ _ hnp) ⟨d, rl, mk, D, sv (TL.joinL [32] (wd :: rest)), .room qn, rfl, hD13, hokD, .inr ⟨wd, rest, rfl, hpl, href⟩, fun H14 s14 => ⟨_, rfl, iteF ?_⟩⟩⟩
  have s14' := s13'.trans s14
  have hD14 := hD13.mono s14
  have bq : ∀ x : Nat, [x].length + qn.length ≤ 10 := fun x => by simp only [List.length_cons, List.length_nil]; omega
  refine okH (ws := [[114, 111, 111, 109], qn]) rfl (fun Q q => lastQ rfl rfl (s14' _ _ hnp) ⟨_, _, rfl, rfl, by rw [sizeLine_eq]; simp only [List.length_cons, List.length_nil]; omega, q⟩) hD14 hokD g1 fun H15 k15 hD15 => iteF ?_
  have s15 := keep_same s14' hd grl gmk k15
  refine okT rfl (pureV rfl) hD15 ok1 g2 fun H16 k16 hD16 => iteF ?_
  have s16 := keep_same s15 hd grl gmk k16
  refine okH (ws := [[103, 111, 97, 108], qn]) rfl (fun Q q => lastQ rfl rfl (s16 _ _ hnp) ⟨_, _, rfl, rfl, by rw [sizeLine_eq]; simp only [List.length_cons, List.length_nil]; omega, q⟩) hD16 ok2 g3 fun H17 k17 hD17 => iteF ?_
  refine sayT rfl pureC hD17 (say_show hD17 ok3 sm3 fun H18 s18 => ?_)
  refine ⟨_, rfl, rfl, ?_⟩
  rw [sv_eq, decide_eq_false hne]
  exact q _
end
end Dk
/-! plain lemmas: what the law's rows do to the mirror of the desk -/
namespace Dk
open PySem PySem.Spec PyProof.Rows L2
/-! ### numbers and their text -/
theorem numL_head (n : Nat) : 10 ≤ n → (TL.numL n).head? ≠ some 48 := by
  induction n using Nat.strongRecOn with
  | _ n ih =>
    intro h
    rw [TL.numL_step h]
    by_cases h2 : n / 10 < 10
    · rw [TL.numL_lt h2]
      simp
      omega
    · have := ih (n / 10) (by omega) (by omega)
      cases hl : TL.numL (n / 10) with
      | nil => exact absurd hl (TL.numL_ne _)
      | cons c r => rw [hl] at this; simpa using this
theorem wholeOf_num {n : Nat} (h : n < 10 ^ 40) : wholeOf (TL.numL n) = some (n : Int) := by
  have h1 : (TL.numL n).length ≤ 40 := TL.numL_len (by decide) h
  have h0 : 1 ≤ (TL.numL n).length := Nat.pos_of_ne_zero fun z => TL.numL_ne n (List.eq_nil_of_length_eq_zero z)
  have hall : (TL.numL n).all isFig = true := List.all_eq_true.mpr fun c hc => by
    have := TL.numL_digits n c hc
    unfold isFig
    rw [decide_eq_true (by omega), decide_eq_true (by omega)]
    rfl
  unfold wholeOf
  rw [decide_eq_false (by omega), decide_eq_false (by omega), hall, if_neg (by simp), if_neg (by simp), if_neg ?_, TL.numL_val]
  by_cases h10 : n < 10
  · rw [TL.numL_lt h10]; simp
  · rw [decide_eq_false (numL_head n (by omega))]; simp
theorem intW_47 (i : Int) : 47 ∉ intW i := by
  cases i with
  | ofNat n => rw [show Int.ofNat n = ((n : Nat) : Int) from rfl, intW_nat]; exact TL.numL_free (by omega)
  | negSucc n =>
    rw [intW_neg]
    intro h
    rcases List.mem_cons.mp h with h | h
    · cases h
    · exact TL.numL_free (by omega) h
theorem intW_32 (i : Int) : 32 ∉ intW i := by
  cases i with
  | ofNat n => rw [show Int.ofNat n = ((n : Nat) : Int) from rfl, intW_nat]; exact TL.numL_free (by omega)
  | negSucc n =>
    rw [intW_neg]
    intro h
    rcases List.mem_cons.mp h with h | h
    · cases h
    · exact TL.numL_free (by omega) h
theorem numText_32 (f : Frac) : 32 ∉ numText f := by
  unfold numText
  split
  · exact intW_32 _
  · intro h
    rcases List.mem_append.mp h with h | h
    · exact intW_32 _ h
    · rcases List.mem_append.mp h with h | h
      · simp at h
      · exact intW_32 _ h
theorem numSplit_text (f : Frac) : numSplit (numText f) = if f.2 = 1 then (intW f.1, false, []) else (intW f.1, true, intW f.2) := by
  unfold numSplit numText
  by_cases h : f.2 = 1
  · rw [if_pos h, if_pos h, TL.par_none1 (intW_47 _)]
  · rw [if_neg h, if_neg h]
    have e : TL.par [47] [] (intW f.1 ++ ([47] ++ intW f.2)) = some ([] ++ intW f.1, intW f.2) := TL.par_part1 (intW_47 _)
    rw [e]
    simp
/-- the sign and the figures of a whole number -/
theorem sign_int {i : Int} (h : i.natAbs < 10 ^ 40) : (decide ((intW i).take 1 = [45]) = decide (i < 0)) ∧ wholeOf (if decide (i < 0) = true then (intW i).drop 1 else intW i) = some (i.natAbs : Int) := by
  cases i with
  | ofNat n =>
    have hn : ¬ (Int.ofNat n < 0) := by simp
    rw [decide_eq_false hn, if_neg (by simp), show Int.ofNat n = ((n : Nat) : Int) from rfl, intW_nat]
    refine ⟨decide_eq_false fun z => ?_, wholeOf_num h⟩
    cases hl : TL.numL n with
    | nil => exact TL.numL_ne n hl
    | cons c r =>
      rw [hl] at z
      have := TL.numL_digits n c (by rw [hl]; exact List.mem_cons_self ..)
      simp at z
      omega
  | negSucc n =>
    have hn : Int.negSucc n < 0 := Int.negSucc_lt_zero n
    rw [decide_eq_true hn, if_pos rfl, intW_neg]
    exact ⟨rfl, wholeOf_num h⟩
theorem numberOf_text {f : Frac} (h : isFracF f = true) (h1 : f.1.natAbs < 10 ^ 40) (h2 : f.2.natAbs < 10 ^ 40) : numberOf (numText f) = some f := by
  obtain ⟨t, b⟩ := f
  unfold isFracF at h
  have hb : 0 < b := of_decide_eq_true (Bool.and_eq_true_iff.mp h).1
  have hg : Int.gcd t b = 1 := of_decide_eq_true (Bool.and_eq_true_iff.mp h).2
  have hs := sign_int h1
  simp only at hs
  unfold numberOf
  rw [numSplit_text]
  by_cases hb1 : b = 1
  · subst hb1
    simp only [if_pos]
    rw [hs.1, hs.2]
    simp only [numEnd]
    by_cases ht : t < 0
    · simp [ht]
      omega
    · simp [ht]
      omega
  · simp only [if_neg hb1]
    have hw : wholeOf (intW b) = some b := by
      obtain ⟨n, rfl⟩ : ∃ n : Nat, b = n := ⟨b.toNat, by omega⟩
      rw [intW_nat]
      exact wholeOf_num (by simpa using h2)
    rw [hs.1, hs.2]
    simp only [if_true, hw, numEnd]
    have hg' : Int.gcd (t.natAbs : Int) b = 1 := by
      unfold Int.gcd at hg ⊢
      simpa using hg
    have hb2 : ¬ b < 2 := by omega
    by_cases ht : t < 0
    · simp [ht, hg', hb2]
      omega
    · simp [ht, hg', hb2]
      omega
/-! ### chances by weight -/
theorem mk_facts {w S : Int} (h1 : 1 ≤ w) (h2 : w ≤ S) : ∃ g t b : Int, mkF w S = (t, b) ∧ 0 < g ∧ t * g = w ∧ b * g = S ∧ 0 < t ∧ 0 < b ∧ t ≤ b := by
  have hg : 0 < (Int.gcd w S : Int) := gcd_pos (by omega)
  have ht : w / (Int.gcd w S : Int) * (Int.gcd w S : Int) = w := Int.ediv_mul_cancel (Int.gcd_dvd_left ..)
  have hb : S / (Int.gcd w S : Int) * (Int.gcd w S : Int) = S := Int.ediv_mul_cancel (Int.gcd_dvd_right ..)
  refine ⟨_, _, _, rfl, hg, ht, hb, ?_, ?_, Int.ediv_le_ediv hg h2⟩
  · exact Int.pos_of_mul_pos_left (by rw [ht]; omega) hg
  · exact Int.pos_of_mul_pos_left (by rw [hb]; omega) hg
theorem tops_mk {S M : Int} : ∀ (l : List (Nat × Int)), (∀ x ∈ l, 1 ≤ x.2 ∧ x.2 ≤ S) → (∀ x ∈ l, (mkF x.2 S).2 ∣ M) → S * (topsF M (l.map fun x => mkF x.2 S)).sum = M * (l.map (·.2)).sum
  | [], _, _ => by simp [topsF]
  | x :: l, h, hd => by
    have ih := tops_mk (S := S) (M := M) l (fun y hy => h y (List.mem_cons_of_mem _ hy)) (fun y hy => hd y (List.mem_cons_of_mem _ hy))
    obtain ⟨g, t, b, e, hg, h1, h2, ht, hb, _⟩ := mk_facts (h x (List.mem_cons_self ..)).1 (h x (List.mem_cons_self ..)).2
    have hd := hd x (List.mem_cons_self ..)
    rw [e] at hd
    obtain ⟨k, hk⟩ := hd
    have hk : M = b * k := hk
    have hx : S * (t * (M / b)) = M * x.2 := by
      rw [hk, Int.mul_ediv_cancel_left _ (by omega), ← h1, ← h2]
      simp only [Int.mul_comm, Int.mul_left_comm, Int.mul_assoc]
    unfold topsF at ih ⊢
    simp only [List.map_cons, List.sum_cons, e, Int.mul_add, ih]
    rw [hx]
theorem sum_ge {l : List (Nat × Int)} (h : ∀ x ∈ l, 1 ≤ x.2) : 0 ≤ (l.map (·.2)).sum ∧ ∀ x ∈ l, x.2 ≤ (l.map (·.2)).sum := by
  induction l with
  | nil => simp
  | cons y l ih =>
    obtain ⟨i1, i2⟩ := ih fun x hx => h x (List.mem_cons_of_mem _ hx)
    have hy := h y (List.mem_cons_self ..)
    simp only [List.map_cons, List.sum_cons]
    refine ⟨by omega, fun x hx => ?_⟩
    rcases List.mem_cons.mp hx with rfl | hx
    · omega
    · have := i2 x hx; omega
/-- what a door's weights are -/
structure OkW (ws : List (Nat × Int)) : Prop where
  ne : ws ≠ []
  one : ∀ x ∈ ws, 1 ≤ x.2
  len : ws.length ≤ 3
  sum : (ws.map (·.2)).sum ≤ 18
theorem OkW.pos {ws : List (Nat × Int)} (h : OkW ws) : 1 ≤ (ws.map (·.2)).sum := by
  cases ws with
  | nil => exact absurd rfl h.ne
  | cons x l =>
    have := (sum_ge h.one).2 x (List.mem_cons_self ..)
    have := h.one x (List.mem_cons_self ..)
    omega
theorem OkW.chance {ws : List (Nat × Int)} (h : OkW ws) : ∀ c ∈ chancesM ws, isChanceF c.2 = true ∧ isFracF c.2 = true ∧ 0 < c.2.1 ∧ c.2.1 ≤ 18 ∧ 0 < c.2.2 ∧ c.2.2 ≤ 18 ∧ c.2.2 ∣ (ws.map (·.2)).sum := by
  intro c hc
  obtain ⟨x, hx, rfl⟩ := List.mem_map.mp hc
  have h2 := (sum_ge h.one).2 x hx
  have h1 := h.one x hx
  have hS := h.sum
  have hf : isFracF (mkF x.2 (ws.map (·.2)).sum) = true := isFrac_mk (by omega)
  obtain ⟨g, t, b, e, hg, e1, e2, ht, hb, htb⟩ := mk_facts h1 h2
  dsimp only
  rw [e] at hf ⊢
  have hbS : b ≤ (ws.map (·.2)).sum := by
    rw [← e2]
    have h3 : b * 1 ≤ b * g := Int.mul_le_mul_of_nonneg_left (by omega) (by omega)
    rw [Int.mul_one] at h3
    exact h3
  refine ⟨?_, hf, ht, by dsimp only; omega, hb, by dsimp only; omega, ⟨g, e2.symm⟩⟩
  unfold isChanceF underF
  rw [hf]
  simp
  omega
theorem OkW.und {ws : List (Nat × Int)} (h : OkW ws) : Und (ws.map (·.2)).sum ((chancesM ws).map (·.2)) := by
  have := h.pos
  have := h.sum
  have := h.len
  refine ⟨⟨by omega, by omega, by unfold chancesM; rw [List.length_map, List.length_map]; omega⟩, fun f hf => ?_⟩
  obtain ⟨c, hc, rfl⟩ := List.mem_map.mp hf
  obtain ⟨_, _, _, _, h1, _, h2⟩ := h.chance c hc
  exact ⟨h1, h2⟩
theorem OkW.total {ws : List (Nat × Int)} (h : OkW ws) : totalF ((chancesM ws).map (·.2)) = (1, 1) := by
  have hp := h.pos
  obtain ⟨m1, m2, _, m4⟩ := lcmF_ok (L := (ws.map (·.2)).sum) (fs := (chancesM ws).map (·.2)) (b := 1) (by omega) (by decide) (Int.one_dvd _) (h.und).2
  have e0 : (chancesM ws).map (·.2) = ws.map fun x => mkF x.2 (ws.map (·.2)).sum := by
    unfold chancesM
    rw [List.map_map]
    rfl
  unfold totalF
  generalize hM : lcmF 1 ((chancesM ws).map (·.2)) = M at m1 m2 m4
  rw [e0] at m4 ⊢
  have e1 := tops_mk (S := (ws.map (·.2)).sum) (M := M) ws (fun x hx => ⟨h.one x hx, (sum_ge h.one).2 x hx⟩) (fun x hx => m4 _ (List.mem_map.mpr ⟨x, hx, rfl⟩))
  rw [Int.mul_comm M] at e1
  have e2 := Int.eq_of_mul_eq_mul_left (by omega) e1
  rw [e2]
  unfold mkF
  rw [Int.gcd_self, Int.natAbs_of_nonneg (by omega), Int.ediv_self (by omega)]
theorem OkRD.w {n : Nat} {x : RDoor} (h : OkRD n x) : OkW x.2 := ⟨h.2.1, fun y hy => (h.2.2.2.2.1 y hy).2, h.2.2.1, h.2.2.2.2.2⟩
theorem lw_share : lw "share" = [115, 104, 97, 114, 101] := by decide +kernel
theorem lw_room : lw "room" = [114, 111, 111, 109] := by decide +kernel
theorem lw_door : lw "door" = [100, 111, 111, 114] := by decide +kernel
theorem lw_shut : lw "shut" = [115, 104, 117, 116] := by decide +kernel
theorem lw_goal : lw "goal" = [103, 111, 97, 108] := by decide +kernel
theorem lw_plain : lw "plain" = [112, 108, 97, 105, 110] := by decide +kernel
theorem lw_most : lw "most" = [109, 111, 115, 116] := by decide +kernel
theorem lw_least : lw "least" = [108, 101, 97, 115, 116] := by decide +kernel
theorem lw_best : lw "best" = [98, 101, 115, 116] := by decide +kernel
theorem lw_lots : lw "lots" = [108, 111, 116, 115] := by decide +kernel
theorem lw_show : lw "show" = [115, 104, 111, 119] := by decide +kernel
theorem lw_bounds : lw "bounds" = [98, 111, 117, 110, 100, 115] := by decide +kernel
theorem lw_worth : lw "worth" = [119, 111, 114, 116, 104] := by decide +kernel
theorem lw_run : lw "run" = [114, 117, 110] := by decide +kernel
theorem lw_sure : lw "sure" = [115, 117, 114, 101] := by decide +kernel
theorem lw_toss : lw "toss" = [116, 111, 115, 115] := by decide +kernel
theorem lw_even : lw "even" = [101, 118, 101, 110] := by decide +kernel
theorem lw_mixed : lw "mixed" = [109, 105, 120, 101, 100] := by decide +kernel
/-! ### doors -/
/-- the rooms' names -/
structure OkT (T : List Wd) : Prop where
  nd : T.Nodup
  word : ∀ x ∈ T, isWordS x = true
  short : ∀ x ∈ T, x.length ≤ 3
  len : T.length ≤ 4
theorem OkT.at {T : List Wd} (h : OkT T) {k : Nat} (hk : k < T.length) : T.getD k [] ∈ T ∧ T[k]? = some (T.getD k []) := by
  rw [List.getD_eq_getElem?_getD, List.getElem?_eq_getElem hk]
  exact ⟨List.getElem_mem hk, rfl⟩
theorem nd_inj {l : List Wd} (h : l.Nodup) {i j : Nat} (hi : i < l.length) (hj : j < l.length) (e : l[i] = l[j]) : i = j := by
  rcases Nat.lt_trichotomy i j with h1 | h1 | h1
  · exact absurd e (List.pairwise_iff_getElem.mp h i j hi hj h1)
  · exact h1
  · exact absurd e.symm (List.pairwise_iff_getElem.mp h j i hj hi h1)
theorem word_32 {x : Wd} (h : isWordS x = true) : 32 ∉ x := fun hm => by
  unfold isWordS at h
  simp only [Bool.and_eq_true, List.all_eq_true] at h
  have := h.2.2 _ hm
  simp [isLet] at this
def pairsP (T : List Wd) (ws : List (Nat × Int)) : Pairs := (chancesM ws).map fun c => (T.getD c.1 [], c.2)
def doorP (T : List Wd) (j : Nat) (x : RDoor) : PDoor := ⟨[gdab.getD j 0], x.1, pairsP T x.2⟩
def pairW (T : List Wd) (cs : List (Nat × Frac)) : List Wd := (cs.map fun c => [T.getD c.1 [], numText c.2]).flatten
def doorWs (T : List Wd) (k j : Nat) (x : RDoor) : List Wd := T.getD k [] :: [gdab.getD j 0] :: numText x.1 :: [109, 105, 120, 101, 100] :: pairW T (chancesM x.2)
theorem pairsOf_ok {T : List Wd} : ∀ (cs : List (Nat × Frac)), (∀ c ∈ cs, isWordS (T.getD c.1 []) = true ∧ numberOf (numText c.2) = some c.2) → pairsOf (pairW T cs) = .ok (cs.map fun c => (T.getD c.1 [], c.2))
  | [], _ => rfl
  | c :: cs, h => by
    obtain ⟨h1, h2⟩ := h c (List.mem_cons_self ..)
    have ih := pairsOf_ok cs fun d hd => h d (List.mem_cons_of_mem _ hd)
    show pairsOf (T.getD c.1 [] :: numText c.2 :: pairW T cs) = _
    unfold pairsOf
    rw [if_pos h1, h2, ih]
    rfl
theorem pairW_len {T : List Wd} : ∀ (cs : List (Nat × Frac)), (pairW T cs).length = 2 * cs.length
  | [] => rfl
  | c :: cs => by
    have := pairW_len (T := T) cs
    show (pairW T cs).length + 1 + 1 = _
    rw [this, List.length_cons]
    omega
theorem chances_len (ws : List (Nat × Int)) : (chancesM ws).length = ws.length := by unfold chancesM; rw [List.length_map]
theorem chances_in {ws : List (Nat × Int)} {n : Nat} (h : ∀ y ∈ ws, y.1 < n) : ∀ c ∈ chancesM ws, c.1 < n := fun c hc => by
  obtain ⟨x, hx, rfl⟩ := List.mem_map.mp hc
  exact h x hx
section
variable {T : List Wd} {k j : Nat} {x : RDoor} (hT : OkT T) (hx : OkRD T.length x)
include hT hx
theorem pairs_words : ∀ c ∈ chancesM x.2, T.getD c.1 [] ∈ T ∧ isWordS (T.getD c.1 []) = true ∧ numberOf (numText c.2) = some c.2 := fun c hc => by
  have hl := chances_in (fun y hy => (hx.2.2.2.2.1 y hy).1) c hc
  obtain ⟨_, h1, h2, h3, h4, h5, _⟩ := hx.w.chance c hc
  have hm := (hT.at hl).1
  exact ⟨hm, hT.word _ hm, numberOf_text h1 (by omega) (by omega)⟩
theorem pairs_ok : pairsOf (pairW T (chancesM x.2)) = .ok (pairsP T x.2) := pairsOf_ok _ fun c hc => (pairs_words hT hx c hc).2
theorem pairsP_snd : (pairsP T x.2).map (·.2) = (chancesM x.2).map (·.2) := by
  unfold pairsP
  rw [List.map_map]
  rfl
theorem mixed_ok : mixedOk (pairsP T x.2) = true := by
  unfold mixedOk
  rw [pairsP_snd hT hx, hx.w.total, decide_eq_true rfl, Bool.and_true, List.all_eq_true]
  intro p hp
  obtain ⟨c, hc, rfl⟩ := List.mem_map.mp hp
  exact (hx.w.chance c hc).1
theorem okPairs_P : OkPairs (pairsP T x.2) := by
  refine ⟨?_, by unfold pairsP; rw [List.length_map, chances_len]; have := hx.2.2.1; omega, fun p hp => ?_⟩
  · have e : (pairsP T x.2).map (·.1) = (x.2.map (·.1)).map fun c => T.getD c [] := by
      unfold pairsP chancesM
      simp [List.map_map, Function.comp_def]
    rw [e]
    have hlt : ∀ c ∈ x.2.map (·.1), c < T.length := fun c hc => by
      obtain ⟨y, hy, rfl⟩ := List.mem_map.mp hc
      exact (hx.2.2.2.2.1 y hy).1
    have hnd := hx.2.2.2.1
    generalize x.2.map (·.1) = l at hlt hnd
    refine List.pairwise_map.mpr (List.Pairwise.imp_of_mem (fun {a b} ha hb hab he => hab ?_) hnd)
    have h1 := hlt a ha
    have h2 := hlt b hb
    rw [List.getD_eq_getElem?_getD, List.getD_eq_getElem?_getD, List.getElem?_eq_getElem h1, List.getElem?_eq_getElem h2] at he
    exact nd_inj hT.nd h1 h2 he
  · obtain ⟨c, hc, rfl⟩ := List.mem_map.mp hp
    obtain ⟨_, h1, h2, h3, h4, h5, _⟩ := hx.w.chance c hc
    exact ⟨h1, ⟨h4, by dsimp only; omega, by dsimp only; omega⟩, h2⟩
theorem pairsP_in : ∀ p ∈ pairsP T x.2, p.1 ∈ T := fun p hp => by
  obtain ⟨c, hc, rfl⟩ := List.mem_map.mp hp
  exact (pairs_words hT hx c hc).1
theorem letter_word (hj : j < 3) : isWordS [gdab.getD j 0] = true := by
  have : j = 0 ∨ j = 1 ∨ j = 2 := by omega
  rcases this with rfl | rfl | rfl <;> decide
theorem pairW_ne : pairW T (chancesM x.2) ≠ [] := fun z => by
  have := pairW_len (T := T) (chancesM x.2)
  rw [z, chances_len] at this
  have h2 := List.eq_nil_of_length_eq_zero (l := x.2) (by simp at this; omega)
  exact hx.2.1 h2
theorem pay_ok : numberOf (numText x.1) = some x.1 := by
  obtain ⟨h1, h2, h3⟩ := hx.1
  have hp : 0 < x.1.2 := by
    unfold isFracF at h1
    exact of_decide_eq_true (Bool.and_eq_true_iff.mp h1).1
  have : (10 : Nat) ^ 29 < 10 ^ 40 := by decide +kernel
  have : (1000 : Nat) < 10 ^ 40 := by decide +kernel
  exact numberOf_text h1 (by omega) (by omega)
theorem fits_ok : doorFits ([gdab.getD j 0] :: numText x.1 :: [109, 105, 120, 101, 100] :: pairW T (chancesM x.2)) = true := by
  have hl := pairW_len (T := T) (chancesM x.2)
  have hne := List.length_pos_iff.mpr (pairW_ne hT hx)
  rw [doorFits3, if_neg (by omega), lw_sure, lw_toss, lw_even, lw_mixed, if_neg (by decide), if_neg (by decide), decide_eq_false (by decide), decide_eq_true rfl, decide_eq_true (by omega)]
  rfl
theorem doorOf_ok (hj : j < 3) : doorOf ([gdab.getD j 0] :: numText x.1 :: [109, 105, 120, 101, 100] :: pairW T (chancesM x.2)) = .ok (.inr (doorP T j x)) := by
  unfold doorOf
  dsimp only
  rw [if_pos (fits_ok hT hx), if_pos (letter_word hT hx hj), pay_ok hT hx]
  dsimp only
  rw [lw_sure, lw_toss, lw_even, if_neg (by decide), if_neg (by decide), if_neg (by decide), pairs_ok hT hx]
  dsimp only
  rw [if_pos (mixed_ok hT hx)]
  rfl
end
/-! ### desks -/
def st (f : Frac) (T : List Wd) (rms : List (List PDoor)) (g : Nat) : PDesk := ⟨f, T.zip rms, g⟩
section
variable {f : Frac} {T : List Wd} {rms : List (List PDoor)} {g : Nat}
theorem ttl_st (h : rms.length = T.length) : ttl (st f T rms g) = T := List.map_fst_zip (by omega)
theorem idx_T (hT : OkT T) {k : Nat} (hk : k < T.length) : T.idxOf (T.getD k []) = k := by
  refine idxOf_first (hT.at hk).2 fun j hj e => ?_
  have hj' : j < T.length := by omega
  rw [List.getElem?_eq_getElem hj', List.getD_eq_getElem?_getD, List.getElem?_eq_getElem hk] at e
  have := nd_inj hT.nd hj' hk (Option.some.inj e)
  omega
theorem doorsOf_st (hT : OkT T) (h : rms.length = T.length) {k : Nat} (hk : k < T.length) : doorsOf (st f T rms g) (T.getD k []) = rms.getD k [] := by
  unfold doorsOf
  rw [ttl_st h, idx_T hT hk]
  show (((T.zip rms)[k]?).map (·.2)).getD [] = _
  rw [List.getElem?_eq_getElem (by rw [List.length_zip]; omega), List.getElem_zip, List.getD_eq_getElem?_getD, List.getElem?_eq_getElem (by omega)]
  rfl
theorem zip_set {α β : Type} : ∀ (a : List α) (b : List β) (k : Nat) (x : α) (y : β), a[k]? = some x → (a.zip b).set k (x, y) = a.zip (b.set k y)
  | [], b, k, x, y, h => by simp at h
  | u :: a, [], k, x, y, h => by simp
  | u :: a, v :: b, 0, x, y, h => by simp at h; simp [h]
  | u :: a, v :: b, k + 1, x, y, h => by
    simp at h
    simp [zip_set a b k x y h]
theorem putDoor_st (hT : OkT T) (h : rms.length = T.length) {k : Nat} (hk : k < T.length) (d : PDoor) : putDoor (st f T rms g) (T.getD k []) d = st f T (rms.set k (rms.getD k [] ++ [d])) g := by
  unfold putDoor
  rw [doorsOf_st hT h hk, ttl_st h, idx_T hT hk]
  unfold st
  dsimp only
  rw [zip_set _ _ _ _ _ (hT.at hk).2]
/-- doors as the hall wants them -/
theorem okD_st (hf : OkSh f) (hT : OkT T) (h : rms.length = T.length) (hd : ∀ r ∈ rms, OkDoors T r) : OkD (st f T rms g) := by
  obtain ⟨h1, h2, h3, h4⟩ := hf
  refine ⟨?_, ⟨by show 0 < f.2; omega, by show f.2 < 32768; omega, by show f.1.natAbs < 2 ^ 200; have : (100 : Nat) < 2 ^ 200 := by decide +kernel
                                                                      omega⟩, ?_⟩
  · show isShareF f = true
    unfold isShareF underF
    rw [h1]
    simp
    omega
  · have e : (T.zip rms).map (·.1) = T := ttl_st (f := f) (g := g) h
    refine ⟨show ((T.zip rms).map (·.1)).Nodup by rw [e]; exact hT.nd, by show (T.zip rms).length ≤ 100; rw [List.length_zip]; have := hT.len; omega, fun r hr => ?_⟩
    have hr' : r ∈ T.zip rms := hr
    obtain ⟨a1, a2⟩ := List.of_mem_zip (a := r.1) (b := r.2) hr'
    refine ⟨hT.word _ a1, by have := hT.short _ a1; omega, ?_⟩
    show OkDoors ((T.zip rms).map (·.1)) r.2
    rw [e]
    exact hd _ a2
end
def rowD (r : List RDoor) (j : Nat) : RDoor := r.getD j ((0, 1), [])
def upto (T : List Wd) (r : List RDoor) (j : Nat) : List PDoor := (List.range j).map fun j => doorP T j (rowD r j)
theorem upto_succ (T : List Wd) (r : List RDoor) (j : Nat) : upto T r (j + 1) = upto T r j ++ [doorP T j (rowD r j)] := by
  unfold upto
  rw [List.range_succ, List.map_append]
  rfl
def OkR (n : Nat) (r : List RDoor) : Prop := r.length ≤ 3 ∧ ∀ x ∈ r, OkRD n x
theorem OkR.at {n : Nat} {r : List RDoor} (h : OkR n r) {j : Nat} (hj : j < r.length) : OkRD n (rowD r j) := by
  unfold rowD
  rw [List.getD_eq_getElem?_getD, List.getElem?_eq_getElem hj]
  exact h.2 _ (List.getElem_mem hj)
theorem upto_names (T : List Wd) (r : List RDoor) (j : Nat) : (upto T r j).map (·.name) = (List.range j).map fun j => [gdab.getD j 0] := by
  unfold upto
  rw [List.map_map]
  rfl
theorem okDoors_upto {T : List Wd} (hT : OkT T) {r : List RDoor} (hr : OkR T.length r) {j : Nat} (hj : j ≤ r.length) : OkDoors T (upto T r j) := by
  have h3 := hr.1
  refine ⟨?_, by unfold upto; rw [List.length_map, List.length_range]; omega, fun d hd => ?_⟩
  · rw [upto_names]
    have : j = 0 ∨ j = 1 ∨ j = 2 ∨ j = 3 := by omega
    rcases this with rfl | rfl | rfl | rfl <;> decide
  · obtain ⟨i, hi, rfl⟩ := List.mem_map.mp hd
    have hi := List.mem_range.mp hi
    exact ⟨by show 1 ≤ 1000; decide, okPairs_P hT (hr.at (by omega)), pairsP_in hT (hr.at (by omega))⟩
theorem chain_app {D1 : PDesk} {a : List (List Wd)} {D2 : PDesk} (h : Chain D1 a D2) : ∀ {b : List (List Wd)} {D3 : PDesk}, Chain D2 b D3 → Chain D1 (a ++ b) D3 := by
  induction h with
  | nil => intro b D3 h; exact h
  | cons ok g t ih => intro b D3 h; exact .cons ok g (ih h)
theorem chain_one {D1 D2 : PDesk} {w : List Wd} (ok : OkD D1) (g : Good D1 w D2) : Chain D1 [w] D2 := .cons ok g .nil
theorem numText_short {f : Frac} (h1 : f.1.natAbs < 10 ^ 40) (h2 : f.2.natAbs < 10 ^ 40) : (numText f).length ≤ 130 := by
  have : (10 : Nat) ^ 40 < 2 ^ 200 := by decide +kernel
  exact numText_len (by omega) (by omega)
theorem rowFits_door (ws : List Wd) : rowFits ([100, 111, 111, 114] :: ws) = doorFits (ws.drop 1) := by
  unfold rowFits
  dsimp only
  rw [if_neg (by decide +kernel), if_neg (by decide +kernel), lw_shut, lw_bounds, lw_door, if_neg (by decide), if_pos rfl]
/-- a mixed door is taken -/
theorem good_door {f : Frac} {T : List Wd} {rms : List (List PDoor)} {g k j : Nat} {x : RDoor} (hT : OkT T) (h : rms.length = T.length) (hk : k < T.length) (hx : OkRD T.length x) (hj : j < 3) (hn : [gdab.getD j 0] ∉ (rms.getD k []).map (·.name)) :
    Good (st f T rms g) ([100, 111, 111, 114] :: doorWs T k j x) (st f T (rms.set k (rms.getD k [] ++ [doorP T j x])) g) := by
  have hz := (hT.at hk).1
  have hp0 : x.1.2.natAbs < 10 ^ 40 ∧ x.1.1.natAbs < 10 ^ 40 := by
    obtain ⟨h1, h2, h3⟩ := hx.1
    have hp : 0 < x.1.2 := by
      unfold isFracF at h1
      exact of_decide_eq_true (Bool.and_eq_true_iff.mp h1).1
    have : (10 : Nat) ^ 29 < 10 ^ 40 := by decide +kernel
    have : (1000 : Nat) < 10 ^ 40 := by decide +kernel
    omega
  refine ⟨[100, 111, 111, 114], doorWs T k j x, rfl, ⟨?_, ?_⟩, ?_, by decide +kernel, by unfold doorWs; simp, ?_, ?_⟩
  · intro y hy
    unfold doorWs at hy
    rcases List.mem_cons.mp hy with rfl | hy
    · decide
    rcases List.mem_cons.mp hy with rfl | hy
    · exact ⟨word_32 (hT.word _ hz), by have := hT.short _ hz; omega⟩
    rcases List.mem_cons.mp hy with rfl | hy
    · exact ⟨word_32 (letter_word hT hx hj), by simp⟩
    rcases List.mem_cons.mp hy with rfl | hy
    · exact ⟨numText_32 _, by have := numText_short hp0.2 hp0.1; omega⟩
    rcases List.mem_cons.mp hy with rfl | hy
    · decide
    · obtain ⟨l, hl, hyl⟩ := List.mem_flatten.mp hy
      obtain ⟨c, hc, rfl⟩ := List.mem_map.mp hl
      obtain ⟨a1, a2, a3⟩ := pairs_words hT hx c hc
      obtain ⟨_, b1, b2, b3, b4, b5, _⟩ := hx.w.chance c hc
      have hh : (18 : Nat) < 10 ^ 40 := by decide +kernel
      rcases List.mem_cons.mp hyl with rfl | hyl
      · exact ⟨word_32 a2, by have := hT.short _ a1; omega⟩
      · rw [List.mem_singleton.mp hyl]
        exact ⟨numText_32 _, by have := numText_short (f := c.2) (by omega) (by omega); omega⟩
  · unfold doorWs
    simp only [List.length_cons, pairW_len, chances_len]
    have := hx.2.2.1
    omega
  · rw [rowFits_door]
    exact fits_ok hT hx
  · refine ⟨fun e => absurd e (by decide +kernel), fun _ => ⟨?_, ?_, ?_⟩, fun e => absurd e (by decide +kernel), fun e => absurd e (by decide +kernel)⟩
    · show DPre ([gdab.getD j 0] :: numText x.1 :: [109, 105, 120, 101, 100] :: pairW T (chancesM x.2))
      refine ⟨fun e => absurd e (by decide +kernel), fun e => absurd e (by decide +kernel), fun _ ps hps => ?_⟩
      rw [pairs_ok hT hx] at hps
      cases hps
      refine ⟨fun p hp => ((okPairs_P hT hx).2.2 p hp).2.1, (x.2.map (·.2)).sum, ?_⟩
      rw [pairsP_snd hT hx]
      exact hx.w.und
    · intro n e
      have e : doorOf ([gdab.getD j 0] :: numText x.1 :: [109, 105, 120, 101, 100] :: pairW T (chancesM x.2)) = .ok (.inl n) := e
      rw [doorOf_ok hT hx hj] at e
      cases e
    · intro d e _
      have e : doorOf ([gdab.getD j 0] :: numText x.1 :: [109, 105, 120, 101, 100] :: pairW T (chancesM x.2)) = .ok (.inr d) := e
      rw [doorOf_ok hT hx hj] at e
      cases e
      exact okPairs_P hT hx
  · unfold doneM
    rw [if_neg (by decide +kernel), if_neg (by decide +kernel), if_pos (by decide +kernel)]
    show addDoor (st f T rms g) (T.getD k []) ([gdab.getD j 0] :: numText x.1 :: [109, 105, 120, 101, 100] :: pairW T (chancesM x.2)) = _
    unfold addDoor
    rw [ttl_st h, if_pos hz, doorOf_ok hT hx hj]
    dsimp only
    rw [doorsOf_st hT h hk, if_neg (show ¬ (doorP T j x).name ∈ (rms.getD k []).map (·.name) from hn)]
    have hfd : (doorP T j x).pairs.find? (fun p => !decide (p.1 ∈ T)) = none := by
      rw [List.find?_eq_none]
      intro p hp
      rw [decide_eq_true (pairsP_in hT hx p hp)]
      decide
    rw [hfd]
    dsimp only
    rw [putDoor_st hT h hk]
theorem joinL_cons (w : Wd) : ∀ (ws : List Wd), TL.joinL [32] (w :: ws) = w ++ (ws.map fun x => 32 :: x).flatten
  | [] => by simp [TL.joinL]
  | v :: ws => by
    show w ++ ([32] ++ TL.joinL [32] (v :: ws)) = _
    rw [joinL_cons v ws]
    simp
theorem pairW_join {T : List Wd} : ∀ (cs : List (Nat × Frac)), ((pairW T cs).map fun x => 32 :: x).flatten = (cs.map fun c => ([32] : Wd) ++ T.getD c.1 [] ++ [32] ++ numText c.2).flatten
  | [] => rfl
  | c :: cs => by
    have ih := pairW_join (T := T) cs
    show (32 :: T.getD c.1 []) ++ ((32 :: numText c.2) ++ ((pairW T cs).map fun x => 32 :: x).flatten) = _
    rw [ih]
    simp
theorem doorRow_eq (T : List Wd) (k j : Nat) (x : RDoor) : doorRow T k j x = TL.joinL [32] ([100, 111, 111, 114] :: doorWs T k j x) := by
  rw [joinL_cons]
  unfold doorRow doorWs
  rw [← pairW_join]
  simp
section
variable {f : Frac} {T : List Wd} (hf : OkSh f) (hT : OkT T)
include hf hT
theorem chain_room {rms : List (List PDoor)} {k : Nat} {r : List RDoor} (h : rms.length = T.length) (hk : k < T.length) (h0 : rms.getD k [] = []) (hd : ∀ r ∈ rms, OkDoors T r) (hr : OkR T.length r) :
    ∀ j, j ≤ r.length → Chain (st f T rms 0) ((List.range j).map fun j => [100, 111, 111, 114] :: doorWs T k j (rowD r j)) (st f T (rms.set k (upto T r j)) 0)
  | 0, _ => by
    have e : rms.set k (upto T r 0) = rms := by
      show rms.set k [] = rms
      refine List.ext_getElem? fun i => ?_
      rw [List.getElem?_set]
      split
      · rename_i e
        subst e
        rw [List.getD_eq_getElem?_getD] at h0
        rw [if_pos (by omega), List.getElem?_eq_getElem (by omega)]
        rw [List.getElem?_eq_getElem (by omega)] at h0
        exact congrArg some h0.symm
      · rfl
    rw [e]
    exact .nil
  | j + 1, hj => by
    have ih := chain_room h hk h0 hd hr j (by omega)
    rw [List.range_succ, List.map_append]
    have hg : (rms.set k (upto T r j)).getD k [] = upto T r j := by
      rw [List.getD_eq_getElem?_getD, List.getElem?_set_self (by omega)]
      rfl
    have g := good_door (f := f) (T := T) (rms := rms.set k (upto T r j)) (g := 0) (k := k) (j := j) hT (by rw [List.length_set]; exact h) hk (hr.at (show j < r.length by omega)) (by have := hr.1; omega) (by
      rw [hg, upto_names]
      have h3 := hr.1
      have : j = 0 ∨ j = 1 ∨ j = 2 := by omega
      rcases this with rfl | rfl | rfl <;> decide)
    rw [hg, List.set_set, ← upto_succ] at g
    refine chain_app ih (chain_one (okD_st hf hT (by rw [List.length_set]; exact h) fun x hx => ?_) g)
    rcases List.mem_or_eq_of_mem_set hx with hx | rfl
    · exact hd x hx
    · exact okDoors_upto hT hr (by omega)
/-- the rooms' doors when i rooms are done -/
def rmsI (T : List Wd) (rs : List (List RDoor)) (i : Nat) : List (List PDoor) := (List.range T.length).map fun k => if k < i then upto T (rs.getD k []) (rs.getD k []).length else []
omit hf hT in
theorem rmsI_len (T : List Wd) (rs : List (List RDoor)) (i : Nat) : (rmsI T rs i).length = T.length := by unfold rmsI; rw [List.length_map, List.length_range]
omit hf hT in
theorem rmsI_at (T : List Wd) (rs : List (List RDoor)) (i : Nat) {k : Nat} (hk : k < T.length) : (rmsI T rs i)[k]? = some (if k < i then upto T (rs.getD k []) (rs.getD k []).length else []) := by
  unfold rmsI
  rw [List.getElem?_map, List.getElem?_range hk]
  rfl
omit hf in
theorem rmsI_ok {rs : List (List RDoor)} (hr : ∀ k, OkR T.length (rs.getD k [])) (i : Nat) : ∀ r ∈ rmsI T rs i, OkDoors T r := fun r h => by
  obtain ⟨k, hk, rfl⟩ := List.mem_map.mp h
  split
  · exact okDoors_upto hT (hr k) (Nat.le_refl _)
  · exact okDoors_upto (r := []) hT ⟨by simp, fun x hx => nomatch hx⟩ (Nat.le_refl _)
theorem chain_rooms {rs : List (List RDoor)} (hr : ∀ k, OkR T.length (rs.getD k [])) : ∀ i, i ≤ T.length →
    Chain (st f T (rmsI T rs 0) 0) (((List.range i).map fun k => (List.range (rs.getD k []).length).map fun j => [100, 111, 111, 114] :: doorWs T k j (rowD (rs.getD k []) j)).flatten) (st f T (rmsI T rs i) 0)
  | 0, _ => .nil
  | i + 1, hi => by
    have ih := chain_rooms hr i (by omega)
    rw [List.range_succ, List.map_append, List.flatten_append]
    have c := chain_room hf hT (rms := rmsI T rs i) (k := i) (r := rs.getD i []) (rmsI_len T rs i) (by omega) (by rw [List.getD_eq_getElem?_getD, rmsI_at T rs i (by omega), if_neg (by omega)]; rfl) (rmsI_ok hT hr i) (hr i) _ (Nat.le_refl _)
    have e : (rmsI T rs i).set i (upto T (rs.getD i []) (rs.getD i []).length) = rmsI T rs (i + 1) := by
      refine List.ext_getElem? fun k => ?_
      rw [List.getElem?_set]
      by_cases hk : k < T.length
      · split
        · rename_i e
          subst e
          rw [if_pos (by rw [rmsI_len]; exact hk), rmsI_at _ _ _ hk, if_pos (by omega)]
        · rename_i e
          rw [rmsI_at _ _ _ hk, rmsI_at _ _ _ hk]
          by_cases h1 : k < i
          · rw [if_pos h1, if_pos (by omega)]
          · rw [if_neg h1, if_neg (by omega)]
      · rw [if_neg (by omega), List.getElem?_eq_none (by rw [rmsI_len]; omega), List.getElem?_eq_none (by rw [rmsI_len]; omega)]
    rw [e] at c
    refine chain_app ih ?_
    simpa using c
end
theorem word_len {x : Wd} (h : isWordS x = true) : 1 ≤ x.length ∧ x.length ≤ 8 := by
  unfold isWordS at h
  simp only [Bool.and_eq_true, Bool.not_eq_true', decide_eq_false_iff_not] at h
  omega
theorem ones_in : [115, 104, 97, 114, 101] ∈ ones ∧ [114, 111, 111, 109] ∈ ones ∧ [103, 111, 97, 108] ∈ ones ∧ [112, 108, 97, 105, 110] ∈ ones ∧ [109, 111, 115, 116] ∈ ones ∧ [108, 101, 97, 115, 116] ∈ ones := by decide +kernel
theorem rowFits_one {w x : Wd} (h : w ∈ ones) : rowFits [w, x] = true := by
  unfold rowFits
  dsimp only
  rw [if_pos h]
  rfl
theorem plain2 {w x : Wd} (h1 : 32 ∉ w ∧ w.length ≤ 1000) (h2 : 32 ∉ x ∧ x.length ≤ 1000) : Plain w [x] := by
  refine ⟨fun y hy => ?_, by show 1 ≤ 50; decide⟩
  rcases List.mem_cons.mp hy with rfl | hy
  · exact h1
  · rw [List.mem_singleton.mp hy]; exact h2
theorem okw {x : Wd} (h : isWordS x = true) : 32 ∉ x ∧ x.length ≤ 1000 := ⟨word_32 h, by have := word_len h; omega⟩
theorem good_share {D : PDesk} {f : Frac} (hf : OkSh f) : Good D [[115, 104, 97, 114, 101], numText f] { D with share := f } := by
  obtain ⟨h1, h2, h3, h4⟩ := hf
  have h100 : (100 : Nat) < 10 ^ 40 := by decide +kernel
  have h200 : (100 : Nat) < 2 ^ 200 := by decide +kernel
  have hn := numberOf_text h1 (by omega) (by omega)
  refine ⟨_, _, rfl, plain2 (by decide) ⟨numText_32 _, by have := numText_short (f := f) (by omega) (by omega); omega⟩, rowFits_one ones_in.1, by decide +kernel, by simp, ?_, ?_⟩
  · refine ⟨fun _ g hg => ?_, fun e => absurd e (by decide +kernel), fun e => absurd e (by decide +kernel), fun e => absurd e (by decide +kernel)⟩
    have hg : numberOf (numText f) = some g := hg
    rw [hn] at hg
    cases hg
    exact ⟨by omega, by omega, by omega⟩
  · unfold doneM
    rw [lw_share, if_pos rfl]
    show (match numberOf (numText f) with | none => Except.error Rf.num | some f => if isShareF f then Except.ok { D with share := f } else Except.error Rf.share) = _
    rw [hn]
    dsimp only
    rw [if_pos ?_]
    unfold isShareF underF
    rw [h1]
    simp
    omega
theorem good_room {D : PDesk} {z : Wd} (hz : isWordS z = true) (hn : z ∉ ttl D) : Good D [[114, 111, 111, 109], z] { D with rooms := D.rooms ++ [(z, [])] } := by
  refine ⟨_, _, rfl, plain2 (by decide) (okw hz), rowFits_one ones_in.2.1, by decide +kernel, by simp, ⟨fun e => absurd e (by decide +kernel), fun e => absurd e (by decide +kernel), fun e => absurd e (by decide +kernel), fun e => absurd e (by decide +kernel)⟩, ?_⟩
  unfold doneM
  rw [if_neg (by decide +kernel), lw_room, if_pos rfl]
  show (if (!isWordS z || decide (z ∈ ttl D)) = true then _ else _) = _
  rw [hz, decide_eq_false hn, if_neg (by decide)]
  rfl
theorem good_goal {D : PDesk} {z : Wd} (hz : isWordS z = true) (hm : z ∈ ttl D) (hg : D.goals < 1000) : Good D [[103, 111, 97, 108], z] { D with goals := D.goals + 1 } := by
  refine ⟨_, _, rfl, plain2 (by decide) (okw hz), rowFits_one ones_in.2.2.1, by decide +kernel, by simp, ⟨fun e => absurd e (by decide +kernel), fun e => absurd e (by decide +kernel), fun e => absurd e (by decide +kernel), fun _ => hg⟩, ?_⟩
  unfold doneM
  rw [if_neg (by decide +kernel), if_neg (by decide +kernel), if_neg (by decide +kernel), if_neg (by decide +kernel)]
  show (if z ∈ ttl D then _ else _) = _
  rw [if_pos hm]
theorem OkT.take {T : List Wd} (h : OkT T) (i : Nat) : OkT (T.take i) := ⟨h.nd.sublist (List.take_sublist ..), fun x hx => h.word x (List.mem_of_mem_take hx), fun x hx => h.short x (List.mem_of_mem_take hx), by rw [List.length_take]; have := h.len; omega⟩
theorem zip_nil {α β : Type} : ∀ (T : List α), (T.map fun z => (z, ([] : List β))) = T.zip (List.replicate T.length [])
  | [] => rfl
  | x :: T => by
    rw [List.map_cons, zip_nil T]
    rfl
theorem bare_st (f : Frac) (T : List Wd) (g : Nat) : (⟨f, T.map fun z => (z, []), g⟩ : PDesk) = st f T (List.replicate T.length []) g := by
  unfold st
  rw [zip_nil]
theorem okD_bare {f : Frac} {T : List Wd} (hf : OkSh f) (hT : OkT T) (g : Nat) : OkD ⟨f, T.map fun z => (z, []), g⟩ := by
  rw [bare_st]
  refine okD_st hf hT (by rw [List.length_replicate]) fun r hr => ?_
  rw [List.eq_of_mem_replicate hr]
  exact ⟨List.nodup_nil, by decide, fun d hd => nomatch hd⟩
theorem ttl_bare (f : Frac) (T : List Wd) (g : Nat) : ttl ⟨f, T.map fun z => (z, []), g⟩ = T := by
  show (T.map fun z => (z, ([] : List PDoor))).map (·.1) = T
  rw [List.map_map]
  exact List.map_id T
theorem chain_bare {f : Frac} {T : List Wd} (hf : OkSh f) (hT : OkT T) : ∀ i, i ≤ T.length → Chain ⟨f, [], 0⟩ ((T.take i).map fun z => [[114, 111, 111, 109], z]) ⟨f, (T.take i).map fun z => (z, []), 0⟩
  | 0, _ => .nil
  | i + 1, hi => by
    have ih := chain_bare hf hT i (by omega)
    have hz := (hT.at (show i < T.length by omega)).2
    rw [take_snoc hz, List.map_append, List.map_append]
    refine chain_app ih (chain_one (okD_bare hf (hT.take i) 0) (good_room (D := ⟨f, (T.take i).map fun z => (z, []), 0⟩) (hT.word _ (hT.at (by omega)).1) ?_))
    rw [ttl_bare]
    intro hm
    obtain ⟨j, hj, e⟩ := List.mem_take_iff_getElem.mp hm
    rw [List.getD_eq_getElem?_getD, List.getElem?_eq_getElem (by omega)] at e
    have := nd_inj hT.nd (by omega) (by omega) e
    omega
theorem rmsI_zero (T : List Wd) (rs : List (List RDoor)) : rmsI T rs 0 = List.replicate T.length [] := by
  unfold rmsI
  refine List.ext_getElem? fun i => ?_
  by_cases h : i < T.length
  · rw [List.getElem?_map, List.getElem?_range h, List.getElem?_replicate, if_pos h]
    rfl
  · rw [List.getElem?_eq_none (by rw [List.length_map, List.length_range]; omega), List.getElem?_eq_none (by rw [List.length_replicate]; omega)]
/-- the law's rows, as words -/
def lawWs (f : Frac) (rs : List (List RDoor)) (T : List Wd) : List (List Wd) := [[115, 104, 97, 114, 101], numText f] :: (T.map fun z => [[114, 111, 111, 109], z]) ++ ((List.range T.length).map fun k => (List.range (rs.getD k []).length).map fun j => [100, 111, 111, 114] :: doorWs T k j (rowD (rs.getD k []) j)).flatten
theorem lawWs_eq (f : Frac) (rs : List (List RDoor)) (T : List Wd) (h : T.length = rs.length) : lawRows f rs T = (lawWs f rs T).map (TL.joinL [32]) := by
  unfold lawRows lawWs
  rw [List.map_append, List.map_cons, List.map_map, List.map_flatten, List.map_map, h]
  congr 1
  congr 1
  refine List.map_congr_left fun k _ => ?_
  show _ = List.map _ (List.map _ _)
  rw [List.map_map]
  exact List.map_congr_left fun j _ => doorRow_eq T k j _
def finD (f : Frac) (rs : List (List RDoor)) (T : List Wd) (g : Nat) : PDesk := st f T (rmsI T rs T.length) g
theorem chain_law {f : Frac} {rs : List (List RDoor)} {T : List Wd} (hf : OkSh f) (hT : OkT T) (hr : ∀ k, OkR T.length (rs.getD k [])) {c : Nat} (hc : c < T.length) : Chain ⟨(0, 1), [], 0⟩ (lawWs f rs T ++ [[[103, 111, 97, 108], T.getD c []]]) (finD f rs T 1) := by
  have h0 : OkD ⟨(0, 1), [], 0⟩ := by
    refine ⟨by decide, ⟨by decide, by decide, by decide +kernel⟩, List.nodup_nil, by decide, fun r hr => nomatch hr⟩
  have c1 := chain_bare hf hT T.length (Nat.le_refl _)
  rw [List.take_length, bare_st, ← rmsI_zero T rs] at c1
  have c2 := chain_app c1 (chain_rooms hf hT hr T.length (Nat.le_refl _))
  have c3 := chain_app (.cons h0 (good_share hf) c2 : Chain ⟨(0, 1), [], 0⟩ (lawWs f rs T) (finD f rs T 0)) (chain_one (okD_st hf hT (rmsI_len T rs _) (rmsI_ok hT hr _)) (good_goal (D := finD f rs T 0) (hT.word _ (hT.at hc).1) (by
    show T.getD c [] ∈ ttl (st f T (rmsI T rs T.length) 0)
    rw [ttl_st (rmsI_len T rs _)]
    exact (hT.at hc).1) (by show 0 < 1000; decide)))
  exact c3
end Dk
/-! plain lemmas: the desk refuses each row of the menus -/
namespace Dk
open PySem PySem.Spec PyProof.Rows L2
theorem ones_eq : ones = [[115, 104, 97, 114, 101], [114, 111, 111, 109], [103, 111, 97, 108], [112, 108, 97, 105, 110], [109, 111, 115, 116], [108, 101, 97, 115, 116]] := by decide +kernel
theorem nones_eq : nones = [[98, 101, 115, 116], [108, 111, 116, 115], [115, 104, 111, 119]] := by decide +kernel
theorem done_eq : ["share", "room", "door", "shut", "goal", "plain"].map lw = [[115, 104, 97, 114, 101], [114, 111, 111, 109], [100, 111, 111, 114], [115, 104, 117, 116], [103, 111, 97, 108], [112, 108, 97, 105, 110]] := by decide +kernel
/-- a word without blanks that is not too long -/
def Wok (x : Wd) : Prop := 32 ∉ x ∧ x.length ≤ 1000
instance (x : Wd) : Decidable (Wok x) := inferInstanceAs (Decidable (_ ∧ _))
def Row1 (x : Option (List Wd)) : Prop := ∀ ws, x = some ws → ∃ wd rest, ws = wd :: rest ∧ Plain wd rest ∧ rowFits (wd :: rest) = false
theorem row1N : Row1 none := fun ws h => nomatch h
theorem row1S {wd : Wd} {rest : List Wd} (h1 : ∀ x ∈ wd :: rest, Wok x) (h2 : rest.length ≤ 50) (h3 : rowFits (wd :: rest) = false) : Row1 (some (wd :: rest)) := fun ws h => by
  cases h
  exact ⟨_, _, rfl, ⟨h1, h2⟩, h3⟩
theorem noRows_fit {a : Wd} (ha : Wok a) : ∀ x ∈ noRowsW a, Row1 x := by
  unfold noRowsW
  repeat' (first | exact List.forall_mem_nil _ | refine List.forall_mem_cons.mpr ⟨?_, ?_⟩)
  all_goals first
    | exact row1N
    | refine row1S ?_ (by simp) (by simp [rowFits, ones_eq, nones_eq, doorFits, lw_share, lw_room, lw_door, lw_shut, lw_goal, lw_plain, lw_most, lw_least, lw_best, lw_lots, lw_show, lw_bounds, lw_worth, lw_run, lw_sure, lw_toss, lw_even, lw_mixed])
  all_goals
    repeat' (first | exact List.forall_mem_nil _ | refine List.forall_mem_cons.mpr ⟨?_, ?_⟩)
  all_goals first
    | exact ha
    | decide
theorem noRows_ref {D : PDesk} {a : Wd} (ha : Wok a) : ∀ x ∈ noRowsM a, ∀ t, x = some t → ∃ wd rest, t = TL.joinL [32] (wd :: rest) ∧ Plain wd rest ∧ Refuses D wd rest .row := by
  rw [noRows_eq]
  intro x hx t ht
  obtain ⟨y, hy, rfl⟩ := List.mem_map.mp hx
  cases y with
  | none => cases ht
  | some ws =>
    obtain ⟨wd, rest, rfl, h1, h2⟩ := noRows_fit ha _ hy ws rfl
    cases ht
    exact ⟨wd, rest, rfl, h1, .inl ⟨h2, rfl⟩⟩
theorem no_0 : numberOf [49] = some (1, 1) := by decide +kernel
theorem no_1 : numberOf [50] = some (2, 1) := by decide +kernel
theorem no_2 : numberOf [49, 47, 50] = some (1, 2) := by decide +kernel
theorem no_3 : numberOf [49, 47, 49] = none := by decide +kernel
theorem no_4 : numberOf [122] = none := by decide +kernel
theorem no_5 : numberOf [45, 49] = some (-1, 1) := by decide +kernel
theorem no_6 : numberOf [120] = none := by decide +kernel
theorem no_7 : numberOf [50, 47, 52] = none := by decide +kernel
theorem no_8 : numberOf [45, 49, 47, 50] = some (-1, 2) := by decide +kernel
theorem no_9 : numberOf [48] = some (0, 1) := by decide +kernel
theorem no_10 : numberOf [52, 49] = some (41, 1) := by decide +kernel
theorem no_11 : numberOf [45, 51] = some (-3, 1) := by decide +kernel
theorem no_12 : numberOf [48, 53] = none := by decide +kernel
theorem no_13 : numberOf [43, 51] = none := by decide +kernel
theorem no_14 : numberOf [49, 95, 48] = none := by decide +kernel
theorem no_15 : numberOf [51, 47, 49] = none := by decide +kernel
theorem no_16 : numberOf [52, 48] = some (40, 1) := by decide +kernel
theorem no_17 : numberOf [] = none := by decide +kernel
/-! number facts: no_0, no_1, no_2, no_3, no_4, no_5, no_6, no_7, no_8, no_9, no_10, no_11, no_12, no_13, no_14, no_15, no_16, no_17 -/
theorem wd_X : isWordS [88] = false := by decide
theorem wd_A : isWordS [65] = false := by decide
theorem wd_x : isWordS [120] = true := by decide
theorem wd_g : isWordS [103] = true := by decide
theorem wd_0 : isWordS [] = false := by decide
theorem ch_2 : isChanceF (2, 1) = false := by decide +kernel
theorem ch_h : isChanceF (1, 2) = true := by decide +kernel
theorem mx_1 (a : Wd) : mixedOk [(a, (1, 2))] = false := by
  unfold mixedOk
  rw [show totalF ([(a, ((1 : Int), (2 : Int)))].map (·.2)) = (1, 2) from (by decide +kernel : totalF [(1, 2)] = (1, 2))]
  simp
theorem mx_2 (a q : Wd) : mixedOk [(a, (2, 1)), (q, (-1, 1))] = false := by
  unfold mixedOk
  simp [ch_2]
theorem sm_2 : Sm (2, 1) := ⟨by decide, by decide, by decide +kernel⟩
theorem sm_m : Sm (-1, 1) := ⟨by decide, by decide, by decide +kernel⟩
theorem sm_h : Sm (1, 2) := ⟨by decide, by decide, by decide +kernel⟩
theorem sm_mh : Sm (-1, 2) := ⟨by decide, by decide, by decide +kernel⟩
theorem sm_1 : Sm (1, 1) := ⟨by decide, by decide, by decide +kernel⟩
section
variable {D : PDesk} {z : Wd} {dw : List Wd}
theorem addPre_err {e : Rf} (h1 : DPre dw) (h2 : doorOf dw = .error e) : AddPre D z dw := ⟨h1, fun n h => by rw [h2] at h; (cases h), fun d h => by rw [h2] at h; (cases h)⟩
theorem done_door : doneM D [100, 111, 111, 114] (z :: dw) = addDoor D z dw := by
  unfold doneM
  rw [if_neg (by decide +kernel), if_neg (by decide +kernel), if_pos (by decide +kernel)]
  rfl
theorem ref_door {e : Rf} (h1 : doorFits dw = true) (h2 : AddPre D z dw) (h3 : addDoor D z dw = .error e) : Refuses D [100, 111, 111, 114] (z :: dw) e := by
  refine .inr (.inl ⟨by rw [rowFits_door]; exact h1, by decide +kernel, by simp, ⟨fun e => absurd e (by decide +kernel), fun _ => h2, fun e => absurd e (by decide +kernel), fun e => absurd e (by decide +kernel)⟩, by rw [done_door]; exact h3⟩)
theorem ref_doorE {e : Rf} (hz : z ∈ ttl D) (h1 : doorFits dw = true) (h2 : DPre dw) (h3 : doorOf dw = .error e) : Refuses D [100, 111, 111, 114] (z :: dw) e := ref_door h1 (addPre_err h2 h3) (by unfold addDoor; rw [if_pos hz, h3])
theorem ref_doorQ {e : Rf} (hz : z ∉ ttl D) (h1 : doorFits dw = true) (h2 : DPre dw) (h3 : doorOf dw = .error e) : Refuses D [100, 111, 111, 114] (z :: dw) (.room z) := ref_door h1 (addPre_err h2 h3) (by unfold addDoor; rw [if_neg hz])
end
def Row2 (D : PDesk) (x : List Wd × Rf) : Prop := ∃ wd rest, x.1 = wd :: rest ∧ Plain wd rest ∧ Refuses D wd rest x.2
theorem row2 {D : PDesk} {wd : Wd} {rest : List Wd} {e : Rf} (h1 : ∀ x ∈ wd :: rest, Wok x) (h2 : rest.length ≤ 50) (h : Refuses D wd rest e) : Row2 D (wd :: rest, e) := ⟨_, _, rfl, ⟨h1, h2⟩, h⟩
theorem und1 : Und 1 [(2, 1), (-1, 1)] := ⟨⟨by decide, by decide, by decide⟩, fun f hf => by
  rcases List.mem_cons.mp hf with rfl | hf
  · exact ⟨by decide, Int.dvd_refl _⟩
  · rw [List.mem_singleton.mp hf]; exact ⟨by decide, Int.dvd_refl _⟩⟩
theorem und2 : Und 2 [(1, 2)] := ⟨⟨by decide, by decide, by decide⟩, fun f hf => by
  rw [List.mem_singleton.mp hf]; exact ⟨by decide, Int.dvd_refl _⟩⟩
theorem dpre_mixed {n p : Wd} {rest : List Wd} {ps : Pairs} {L : Int} (h : pairsOf rest = .ok ps) (h1 : ∀ p ∈ ps, Sm p.2) (h2 : Und L (ps.map (·.2))) : DPre (n :: p :: [109, 105, 120, 101, 100] :: rest) :=
  ⟨fun e => absurd e (by decide +kernel), fun e => absurd e (by decide +kernel), fun _ ps' h' => by rw [h] at h'; cases h'; exact ⟨h1, L, h2⟩⟩
theorem okPairs_toss {a q : Wd} (h : a ≠ q) : OkPairs [(a, (1, 2)), (q, (1, 2))] := by
  refine ⟨by simp [h], by show 2 ≤ 100; decide, fun p hp => ?_⟩
  have e : p.2 = (1, 2) := by
    rcases List.mem_cons.mp hp with rfl | hp
    · rfl
    · rw [List.mem_singleton.mp hp]
  rw [e]
  exact ⟨by decide +kernel, sm_h, by decide⟩
section
variable {D : PDesk} {a q : Wd} (ha : isWordS a = true) (hq : isWordS q = true) (hat : a ∈ ttl D) (hqt : q ∉ ttl D) (h120 : [120] ∉ (doorsOf D a).map (·.name))
include ha hq hat hqt h120
theorem noDoors_ref : ∀ x ∈ noDoorsW a q, Row2 D x := by
  have haq : a ≠ q := fun e => hqt (e ▸ hat)
  have wa : Wok a := okw ha
  have wq : Wok q := okw hq
  unfold noDoorsW
  repeat' (first | exact List.forall_mem_nil _ | refine List.forall_mem_cons.mpr ⟨?_, ?_⟩)
  all_goals refine row2 ?_ (by simp) ?_
  all_goals first
    | (repeat' (first | exact List.forall_mem_nil _ | refine List.forall_mem_cons.mpr ⟨?_, ?_⟩)
       all_goals first
         | exact wa
         | exact wq
         | decide)
    | skip
  · exact ref_doorQ (e := .name) hqt (by simp [doorFits, lw_share, lw_room, lw_door, lw_shut, lw_goal, lw_plain, lw_most, lw_least, lw_best, lw_lots, lw_show, lw_bounds, lw_worth, lw_run, lw_sure, lw_toss, lw_even, lw_mixed]) (by simp [DPre, lw_share, lw_room, lw_door, lw_shut, lw_goal, lw_plain, lw_most, lw_least, lw_best, lw_lots, lw_show, lw_bounds, lw_worth, lw_run, lw_sure, lw_toss, lw_even, lw_mixed]) (by simp [doorOf, doorFits, lw_share, lw_room, lw_door, lw_shut, lw_goal, lw_plain, lw_most, lw_least, lw_best, lw_lots, lw_show, lw_bounds, lw_worth, lw_run, lw_sure, lw_toss, lw_even, lw_mixed, wd_X])
  · exact ref_doorE hat (by simp [doorFits, lw_share, lw_room, lw_door, lw_shut, lw_goal, lw_plain, lw_most, lw_least, lw_best, lw_lots, lw_show, lw_bounds, lw_worth, lw_run, lw_sure, lw_toss, lw_even, lw_mixed]) (by simp [DPre, lw_share, lw_room, lw_door, lw_shut, lw_goal, lw_plain, lw_most, lw_least, lw_best, lw_lots, lw_show, lw_bounds, lw_worth, lw_run, lw_sure, lw_toss, lw_even, lw_mixed]) (by simp [doorOf, doorFits, lw_share, lw_room, lw_door, lw_shut, lw_goal, lw_plain, lw_most, lw_least, lw_best, lw_lots, lw_show, lw_bounds, lw_worth, lw_run, lw_sure, lw_toss, lw_even, lw_mixed, wd_X])
  · exact ref_doorE hat (by simp [doorFits, lw_share, lw_room, lw_door, lw_shut, lw_goal, lw_plain, lw_most, lw_least, lw_best, lw_lots, lw_show, lw_bounds, lw_worth, lw_run, lw_sure, lw_toss, lw_even, lw_mixed]) (by simp [DPre, lw_share, lw_room, lw_door, lw_shut, lw_goal, lw_plain, lw_most, lw_least, lw_best, lw_lots, lw_show, lw_bounds, lw_worth, lw_run, lw_sure, lw_toss, lw_even, lw_mixed]) (by simp [doorOf, doorFits, lw_share, lw_room, lw_door, lw_shut, lw_goal, lw_plain, lw_most, lw_least, lw_best, lw_lots, lw_show, lw_bounds, lw_worth, lw_run, lw_sure, lw_toss, lw_even, lw_mixed, wd_x, no_0, no_1, no_2, no_3, no_4, no_5, no_6, no_7, no_8, no_9, no_10, no_11, no_12, no_13, no_14, no_15, no_16, no_17])
  · exact ref_doorE hat (by simp [doorFits, lw_share, lw_room, lw_door, lw_shut, lw_goal, lw_plain, lw_most, lw_least, lw_best, lw_lots, lw_show, lw_bounds, lw_worth, lw_run, lw_sure, lw_toss, lw_even, lw_mixed]) (by simp [DPre, lw_share, lw_room, lw_door, lw_shut, lw_goal, lw_plain, lw_most, lw_least, lw_best, lw_lots, lw_show, lw_bounds, lw_worth, lw_run, lw_sure, lw_toss, lw_even, lw_mixed]) (by simp [doorOf, doorFits, lw_share, lw_room, lw_door, lw_shut, lw_goal, lw_plain, lw_most, lw_least, lw_best, lw_lots, lw_show, lw_bounds, lw_worth, lw_run, lw_sure, lw_toss, lw_even, lw_mixed, wd_x, wd_A, no_0, no_1, no_2, no_3, no_4, no_5, no_6, no_7, no_8, no_9, no_10, no_11, no_12, no_13, no_14, no_15, no_16, no_17])
  · exact ref_doorE hat (by simp [doorFits, lw_share, lw_room, lw_door, lw_shut, lw_goal, lw_plain, lw_most, lw_least, lw_best, lw_lots, lw_show, lw_bounds, lw_worth, lw_run, lw_sure, lw_toss, lw_even, lw_mixed]) (by simp [DPre, lw_share, lw_room, lw_door, lw_shut, lw_goal, lw_plain, lw_most, lw_least, lw_best, lw_lots, lw_show, lw_bounds, lw_worth, lw_run, lw_sure, lw_toss, lw_even, lw_mixed, no_0, no_1, no_2, no_3, no_4, no_5, no_6, no_7, no_8, no_9, no_10, no_11, no_12, no_13, no_14, no_15, no_16, no_17, ch_2, sm_2]) (by simp [doorOf, doorFits, lw_share, lw_room, lw_door, lw_shut, lw_goal, lw_plain, lw_most, lw_least, lw_best, lw_lots, lw_show, lw_bounds, lw_worth, lw_run, lw_sure, lw_toss, lw_even, lw_mixed, wd_x, wd_A, no_0, no_1, no_2, no_3, no_4, no_5, no_6, no_7, no_8, no_9, no_10, no_11, no_12, no_13, no_14, no_15, no_16, no_17, ha, hq, ch_2])
  · refine ref_door (by simp [doorFits, lw_share, lw_room, lw_door, lw_shut, lw_goal, lw_plain, lw_most, lw_least, lw_best, lw_lots, lw_show, lw_bounds, lw_worth, lw_run, lw_sure, lw_toss, lw_even, lw_mixed]) ⟨by simp [DPre, lw_share, lw_room, lw_door, lw_shut, lw_goal, lw_plain, lw_most, lw_least, lw_best, lw_lots, lw_show, lw_bounds, lw_worth, lw_run, lw_sure, lw_toss, lw_even, lw_mixed, no_0, no_1, no_2, no_3, no_4, no_5, no_6, no_7, no_8, no_9, no_10, no_11, no_12, no_13, no_14, no_15, no_16, no_17, ch_h, sm_h], ?_, ?_⟩ ?_
    · intro n h; simp [doorOf, doorFits, lw_share, lw_room, lw_door, lw_shut, lw_goal, lw_plain, lw_most, lw_least, lw_best, lw_lots, lw_show, lw_bounds, lw_worth, lw_run, lw_sure, lw_toss, lw_even, lw_mixed, wd_x, no_0, no_1, no_2, no_3, no_4, no_5, no_6, no_7, no_8, no_9, no_10, no_11, no_12, no_13, no_14, no_15, no_16, no_17, ha, hq, ch_h] at h
    · intro d h _
      simp [doorOf, doorFits, lw_share, lw_room, lw_door, lw_shut, lw_goal, lw_plain, lw_most, lw_least, lw_best, lw_lots, lw_show, lw_bounds, lw_worth, lw_run, lw_sure, lw_toss, lw_even, lw_mixed, wd_x, no_0, no_1, no_2, no_3, no_4, no_5, no_6, no_7, no_8, no_9, no_10, no_11, no_12, no_13, no_14, no_15, no_16, no_17, ha, hq, ch_h] at h
      subst h
      exact okPairs_toss haq
    · have e : doorOf [[120], [49], [116, 111, 115, 115], [49, 47, 50], a, q] = .ok (.inr ⟨[120], (1, 1), [(a, (1, 2)), (q, (1, 2))]⟩) := by simp [doorOf, doorFits, lw_sure, lw_toss, lw_even, lw_mixed, wd_x, no_0, no_2, ha, hq, ch_h]
      unfold addDoor
      rw [if_pos hat, e]
      dsimp only
      rw [if_neg h120]
      simp [hat, hqt]
  · exact ref_doorE hat (by simp [doorFits, lw_share, lw_room, lw_door, lw_shut, lw_goal, lw_plain, lw_most, lw_least, lw_best, lw_lots, lw_show, lw_bounds, lw_worth, lw_run, lw_sure, lw_toss, lw_even, lw_mixed]) (dpre_mixed (ps := [(a, (1, 2))]) (by simp [pairsOf, ha, no_2, Except.map]) (fun p hp => by rw [List.mem_singleton.mp hp]; exact sm_h) und2) (by simp [doorOf, doorFits, lw_share, lw_room, lw_door, lw_shut, lw_goal, lw_plain, lw_most, lw_least, lw_best, lw_lots, lw_show, lw_bounds, lw_worth, lw_run, lw_sure, lw_toss, lw_even, lw_mixed, wd_x, no_0, no_1, no_2, no_3, no_4, no_5, no_6, no_7, no_8, no_9, no_10, no_11, no_12, no_13, no_14, no_15, no_16, no_17, ha, pairsOf, Except.map, mx_1])
  · exact ref_doorE hat (by simp [doorFits, lw_share, lw_room, lw_door, lw_shut, lw_goal, lw_plain, lw_most, lw_least, lw_best, lw_lots, lw_show, lw_bounds, lw_worth, lw_run, lw_sure, lw_toss, lw_even, lw_mixed]) (by simp [DPre, lw_share, lw_room, lw_door, lw_shut, lw_goal, lw_plain, lw_most, lw_least, lw_best, lw_lots, lw_show, lw_bounds, lw_worth, lw_run, lw_sure, lw_toss, lw_even, lw_mixed, no_0, no_1, no_2, no_3, no_4, no_5, no_6, no_7, no_8, no_9, no_10, no_11, no_12, no_13, no_14, no_15, no_16, no_17, ch_2, sm_2]) (by simp [doorOf, doorFits, lw_share, lw_room, lw_door, lw_shut, lw_goal, lw_plain, lw_most, lw_least, lw_best, lw_lots, lw_show, lw_bounds, lw_worth, lw_run, lw_sure, lw_toss, lw_even, lw_mixed, wd_x, wd_A, no_0, no_1, no_2, no_3, no_4, no_5, no_6, no_7, no_8, no_9, no_10, no_11, no_12, no_13, no_14, no_15, no_16, no_17])
  · exact ref_doorE hat (by simp [doorFits, lw_share, lw_room, lw_door, lw_shut, lw_goal, lw_plain, lw_most, lw_least, lw_best, lw_lots, lw_show, lw_bounds, lw_worth, lw_run, lw_sure, lw_toss, lw_even, lw_mixed]) (by simp [DPre, lw_share, lw_room, lw_door, lw_shut, lw_goal, lw_plain, lw_most, lw_least, lw_best, lw_lots, lw_show, lw_bounds, lw_worth, lw_run, lw_sure, lw_toss, lw_even, lw_mixed, pairsOf, wd_A]) (by simp [doorOf, doorFits, lw_share, lw_room, lw_door, lw_shut, lw_goal, lw_plain, lw_most, lw_least, lw_best, lw_lots, lw_show, lw_bounds, lw_worth, lw_run, lw_sure, lw_toss, lw_even, lw_mixed, wd_x, wd_A, no_0, no_1, no_2, no_3, no_4, no_5, no_6, no_7, no_8, no_9, no_10, no_11, no_12, no_13, no_14, no_15, no_16, no_17, pairsOf])
  · exact ref_doorE hat (by simp [doorFits, lw_share, lw_room, lw_door, lw_shut, lw_goal, lw_plain, lw_most, lw_least, lw_best, lw_lots, lw_show, lw_bounds, lw_worth, lw_run, lw_sure, lw_toss, lw_even, lw_mixed]) (by simp [DPre, lw_share, lw_room, lw_door, lw_shut, lw_goal, lw_plain, lw_most, lw_least, lw_best, lw_lots, lw_show, lw_bounds, lw_worth, lw_run, lw_sure, lw_toss, lw_even, lw_mixed, pairsOf, ha, no_0, no_1, no_2, no_3, no_4, no_5, no_6, no_7, no_8, no_9, no_10, no_11, no_12, no_13, no_14, no_15, no_16, no_17]) (by simp [doorOf, doorFits, lw_share, lw_room, lw_door, lw_shut, lw_goal, lw_plain, lw_most, lw_least, lw_best, lw_lots, lw_show, lw_bounds, lw_worth, lw_run, lw_sure, lw_toss, lw_even, lw_mixed, wd_x, ha, no_0, no_1, no_2, no_3, no_4, no_5, no_6, no_7, no_8, no_9, no_10, no_11, no_12, no_13, no_14, no_15, no_16, no_17, pairsOf])
  · exact ref_doorE hat (by simp [doorFits, lw_share, lw_room, lw_door, lw_shut, lw_goal, lw_plain, lw_most, lw_least, lw_best, lw_lots, lw_show, lw_bounds, lw_worth, lw_run, lw_sure, lw_toss, lw_even, lw_mixed]) (by simp [DPre, lw_share, lw_room, lw_door, lw_shut, lw_goal, lw_plain, lw_most, lw_least, lw_best, lw_lots, lw_show, lw_bounds, lw_worth, lw_run, lw_sure, lw_toss, lw_even, lw_mixed, pairsOf, ha, no_0, no_1, no_2, no_3, no_4, no_5, no_6, no_7, no_8, no_9, no_10, no_11, no_12, no_13, no_14, no_15, no_16, no_17, wd_A, Except.map]) (by simp [doorOf, doorFits, lw_share, lw_room, lw_door, lw_shut, lw_goal, lw_plain, lw_most, lw_least, lw_best, lw_lots, lw_show, lw_bounds, lw_worth, lw_run, lw_sure, lw_toss, lw_even, lw_mixed, wd_x, ha, wd_A, no_0, no_1, no_2, no_3, no_4, no_5, no_6, no_7, no_8, no_9, no_10, no_11, no_12, no_13, no_14, no_15, no_16, no_17, pairsOf, Except.map])
  · exact ref_doorE hat (by simp [doorFits, lw_share, lw_room, lw_door, lw_shut, lw_goal, lw_plain, lw_most, lw_least, lw_best, lw_lots, lw_show, lw_bounds, lw_worth, lw_run, lw_sure, lw_toss, lw_even, lw_mixed]) (by simp [DPre, lw_share, lw_room, lw_door, lw_shut, lw_goal, lw_plain, lw_most, lw_least, lw_best, lw_lots, lw_show, lw_bounds, lw_worth, lw_run, lw_sure, lw_toss, lw_even, lw_mixed, wd_0]) (by simp [doorOf, doorFits, lw_share, lw_room, lw_door, lw_shut, lw_goal, lw_plain, lw_most, lw_least, lw_best, lw_lots, lw_show, lw_bounds, lw_worth, lw_run, lw_sure, lw_toss, lw_even, lw_mixed, wd_x, no_0, no_1, no_2, no_3, no_4, no_5, no_6, no_7, no_8, no_9, no_10, no_11, no_12, no_13, no_14, no_15, no_16, no_17])
  · exact ref_doorE hat (by simp [doorFits, lw_share, lw_room, lw_door, lw_shut, lw_goal, lw_plain, lw_most, lw_least, lw_best, lw_lots, lw_show, lw_bounds, lw_worth, lw_run, lw_sure, lw_toss, lw_even, lw_mixed]) (dpre_mixed (ps := [(a, (2, 1)), (q, (-1, 1))]) (by simp [pairsOf, ha, hq, no_1, no_5, Except.map]) (fun p hp => (List.mem_cons.mp hp).elim (fun e => by rw [e]; exact sm_2) fun e => by rw [List.mem_singleton.mp e]; exact sm_m) und1) (by simp [doorOf, doorFits, lw_share, lw_room, lw_door, lw_shut, lw_goal, lw_plain, lw_most, lw_least, lw_best, lw_lots, lw_show, lw_bounds, lw_worth, lw_run, lw_sure, lw_toss, lw_even, lw_mixed, wd_x, no_0, no_1, no_2, no_3, no_4, no_5, no_6, no_7, no_8, no_9, no_10, no_11, no_12, no_13, no_14, no_15, no_16, no_17, ha, hq, pairsOf, Except.map, mx_2])
end
section
variable {D : PDesk}
theorem ref_done {wd : Wd} {rest : List Wd} {e : Rf} (h1 : rowFits (wd :: rest) = true) (h2 : wd ∈ ["share", "room", "door", "shut", "goal", "plain"].map lw) (h3 : rest ≠ []) (h4 : DonePre D wd rest) (h5 : doneM D wd rest = .error e) : Refuses D wd rest e := .inr (.inl ⟨h1, h2, h3, h4, h5⟩)
theorem ref_told {wd : Wd} {rest : List Wd} {e : Rf} (h1 : rowFits (wd :: rest) = true) (h2 : wd ∉ ["share", "room", "door", "shut", "goal", "plain"].map lw) (h3 : wd ≠ lw "best" ∧ wd ≠ lw "lots") (h4 : rest ≠ []) (h5 : wd = lw "bounds" → rest.length = 2) (h6 : toldM (hallD D) wd rest = some e) : Refuses D wd rest e := .inr (.inr ⟨h1, h2, h3.1, h3.2, h4, h5, h6⟩)
theorem ref_share {x : Wd} {e : Rf} (h1 : ∀ f, numberOf x = some f → Sm f) (h2 : (match numberOf x with | none => Except.error Rf.num | some f => if isShareF f then Except.ok { D with share := f } else Except.error Rf.share) = .error e) : Refuses D [115, 104, 97, 114, 101] [x] e := by
  refine ref_done (rowFits_one ones_in.1) (by decide +kernel) (by simp) ⟨fun _ => h1, fun e => absurd e (by decide +kernel), fun e => absurd e (by decide +kernel), fun e => absurd e (by decide +kernel)⟩ ?_
  unfold doneM
  rw [lw_share, if_pos rfl]
  exact h2
theorem ref_room {x : Wd} (h : isWordS x = false ∨ x ∈ ttl D) : Refuses D [114, 111, 111, 109] [x] .name := by
  refine ref_done (rowFits_one ones_in.2.1) (by decide +kernel) (by simp) ⟨fun e => absurd e (by decide +kernel), fun e => absurd e (by decide +kernel), fun e => absurd e (by decide +kernel), fun e => absurd e (by decide +kernel)⟩ ?_
  unfold doneM
  rw [if_neg (by decide +kernel), lw_room, if_pos rfl]
  show (if (!isWordS x || decide (x ∈ ttl D)) = true then Except.error Rf.name else _) = _
  rw [if_pos (by rcases h with h | h <;> simp [h])]
theorem ref_goal {wd x : Wd} (hw : wd = [103, 111, 97, 108] ∨ wd = [112, 108, 97, 105, 110]) (hx : x ∉ ttl D) (hg : D.goals < 1000) : Refuses D wd [x] (.room x) := by
  have h1 : wd ∈ ones := by rcases hw with rfl | rfl; exact ones_in.2.2.1; exact ones_in.2.2.2.1
  have h2 : wd ≠ lw "share" ∧ wd ≠ lw "room" ∧ wd ≠ lw "door" ∧ wd ≠ lw "shut" ∧ wd ∈ ["share", "room", "door", "shut", "goal", "plain"].map lw := by rcases hw with rfl | rfl <;> decide +kernel
  refine ref_done (rowFits_one h1) h2.2.2.2.2 (by simp) ⟨fun e => absurd e h2.1, fun e => absurd e h2.2.2.1, fun e => absurd e h2.2.2.2.1, fun _ => hg⟩ ?_
  unfold doneM
  rw [if_neg h2.1, if_neg h2.2.1, if_neg h2.2.2.1, if_neg h2.2.2.2.1]
  show (if x ∈ ttl D then _ else Except.error (Rf.room x)) = _
  rw [if_neg hx]
theorem ref_shut {z x : Wd} (hx : x ∉ (doorsOf D z).map (·.name)) : Refuses D [115, 104, 117, 116] [z, x] (if z ∈ ttl D then .door x else .room z) := by
  refine ref_done ?_ (by decide +kernel) (by simp) ⟨fun e => absurd e (by decide +kernel), fun e => absurd e (by decide +kernel), fun _ => ⟨rfl, hx⟩, fun e => absurd e (by decide +kernel)⟩ ?_
  · unfold rowFits
    dsimp only
    rw [if_neg (by decide +kernel), if_neg (by decide +kernel), lw_shut, if_pos (.inl rfl)]
    rfl
  · unfold doneM
    rw [if_neg (by decide +kernel), if_neg (by decide +kernel), if_neg (by decide +kernel), if_pos (by decide +kernel)]
    rfl
theorem ref_most {wd x : Wd} (hw : wd = [109, 111, 115, 116] ∨ wd = [108, 101, 97, 115, 116]) (hx : x ∉ ttl D) : Refuses D wd [x] (.room x) := by
  have h1 : wd ∈ ones := by rcases hw with rfl | rfl; exact ones_in.2.2.2.2.1; exact ones_in.2.2.2.2.2
  have h2 : wd ≠ lw "worth" ∧ (wd = lw "most" ∨ wd = lw "least") ∧ wd ∉ ["share", "room", "door", "shut", "goal", "plain"].map lw ∧ wd ≠ lw "best" ∧ wd ≠ lw "lots" ∧ wd ≠ lw "bounds" := by rcases hw with rfl | rfl <;> decide +kernel
  refine ref_told (rowFits_one h1) h2.2.2.1 ⟨h2.2.2.2.1, h2.2.2.2.2.1⟩ (by simp) (fun e => absurd e h2.2.2.2.2.2) ?_
  unfold toldM
  rw [if_neg h2.1, if_pos h2.2.1]
  show (if x ∈ ttl D then none else some (Rf.room x)) = _
  rw [if_neg hx]
theorem ref_bounds {x y : Wd} {e : Rf} (h : boundsRef (ttl D) x y = some e) : Refuses D [98, 111, 117, 110, 100, 115] [x, y] e := by
  refine ref_told ?_ (by decide +kernel) (by decide +kernel) (by simp) (fun _ => rfl) ?_
  · unfold rowFits
    dsimp only
    rw [if_neg (by decide +kernel), if_neg (by decide +kernel), lw_bounds, if_pos (.inr rfl)]
    rfl
  · unfold toldM
    rw [if_neg (by decide +kernel), if_neg (by decide +kernel), if_pos (by decide +kernel)]
    exact h
theorem ref_run {x : Wd} {ws : List Wd} {e : Rf} (h : runRef (ttl D) x ws = some e) : Refuses D [114, 117, 110] (x :: ws) e := by
  refine ref_told ?_ (by decide +kernel) (by decide +kernel) (by simp) (fun e => absurd e (by decide +kernel)) ?_
  · unfold rowFits
    dsimp only
    rw [if_neg (by decide +kernel), if_neg (by decide +kernel), if_neg (by decide +kernel), if_neg (by decide +kernel), lw_worth, lw_run]
    simp
  · unfold toldM
    rw [if_neg (by decide +kernel), if_neg (by decide +kernel), if_neg (by decide +kernel), if_pos (by decide +kernel)]
    exact h
end
theorem others_ref {D : PDesk} {a q : Wd} (ha : isWordS a = true) (hq : isWordS q = true) (hat : a ∈ ttl D) (hqt : q ∉ ttl D) (hAt : [65] ∉ ttl D) (hg : D.goals < 1000) (h88 : ∀ z, [88] ∉ (doorsOf D z).map (·.name)) : ∀ x ∈ othersW a q, Row2 D x := by
  have wa : Wok a := okw ha
  have wq : Wok q := okw hq
  unfold othersW
  repeat' (first | exact List.forall_mem_nil _ | refine List.forall_mem_cons.mpr ⟨?_, ?_⟩)
  all_goals refine row2 ?_ (by simp) ?_
  all_goals first
    | (repeat' (first | exact List.forall_mem_nil _ | refine List.forall_mem_cons.mpr ⟨?_, ?_⟩)
       all_goals first
         | exact wa
         | exact wq
         | decide)
    | skip
  · exact ref_share (by simp [no_6]) (by simp [no_6])
  · exact ref_share (by simp [no_7]) (by simp [no_7])
  · exact ref_share (fun f h => by rw [no_0] at h; cases h; exact sm_1) (by rw [no_0]; rfl)
  · exact ref_share (fun f h => by rw [no_8] at h; cases h; exact sm_mh) (by rw [no_8]; rfl)
  · exact ref_room (.inl wd_A)
  · exact ref_room (.inl wd_0)
  · exact ref_room (.inr hat)
  · have := ref_shut (h88 q)
    rwa [if_neg hqt] at this
  · have := ref_shut (h88 a)
    rwa [if_pos hat] at this
  · exact ref_goal (.inl rfl) hqt hg
  · exact ref_goal (.inr rfl) hqt hg
  · exact ref_most (.inl rfl) hqt
  · exact ref_most (.inr rfl) hAt
  · exact ref_most (.inr rfl) hqt
  · exact ref_bounds (by unfold boundsRef; rw [no_9]; rfl)
  · exact ref_bounds (by unfold boundsRef; rw [no_10]; rfl)
  · exact ref_bounds (by unfold boundsRef; rw [no_2]; rfl)
  · exact ref_bounds (by unfold boundsRef; rw [no_11]; rfl)
  · exact ref_bounds (by unfold boundsRef; rw [no_12])
  · exact ref_bounds (by unfold boundsRef; rw [no_13])
  · exact ref_bounds (by unfold boundsRef; rw [no_14])
  · exact ref_bounds (by unfold boundsRef; rw [no_6])
  · exact ref_bounds (by unfold boundsRef; rw [no_15])
  · refine ref_bounds ?_
    unfold boundsRef
    rw [no_16]
    dsimp only
    rw [if_neg (by decide), if_neg hqt]
  · exact ref_run (by unfold runRef; rw [if_neg hqt])
  · exact ref_run (by unfold runRef; rw [if_pos hat]; simp [no_6])
  · exact ref_run (by unfold runRef; rw [if_pos hat]; simp [no_17])
/-! ### plans -/
def okPlan (os : List Offer) (w : Wd) : Prop := (decide (w = [45]) == decide (0 < os.length)) = false ∧ (decide (0 < os.length) && !decide (w ∈ os.map (·.1))) = false
theorem planErr_skip : ∀ (gs1 : List (List Offer)) (ws1 : List Wd), ws1.length = gs1.length → (∀ (k : Nat) (os : List Offer) (w : Wd), gs1[k]? = some os → ws1[k]? = some w → okPlan os w) → ∀ (gs2 : List (List Offer)) (ws2 : List Wd) (i : Nat), planErr (gs1 ++ gs2) (ws1 ++ ws2) i = planErr gs2 ws2 (i + gs1.length)
  | [], [], _, _, gs2, ws2, i => rfl
  | [], w :: ws, h, _, _, _, _ => by simp at h
  | g :: gs, [], h, _, _, _, _ => by simp at h
  | g :: gs, w :: ws, h, hk, gs2, ws2, i => by
    have ih := planErr_skip gs ws (by simpa using h) (fun k os w h1 h2 => hk (k + 1) os w (by simpa using h1) (by simpa using h2)) gs2 ws2 (i + 1)
    obtain ⟨h1, h2⟩ := hk 0 g w rfl rfl
    show (if (decide (w = [45]) == decide (0 < g.length)) = true then _ else if (decide (0 < g.length) && !decide (w ∈ g.map (·.1))) = true then _ else planErr (gs ++ gs2) (ws ++ ws2) (i + 1)) = _
    rw [h1, h2, if_neg (by decide), if_neg (by decide), ih, List.length_cons]
    congr 1
    omega
/-- how many doors a room offers, and their names -/
def Offers (rs : List (List RDoor)) (G : List (List Offer)) : Prop := G.length = rs.length ∧ ∀ (k : Nat) (os : List Offer), G[k]? = some os → os.length = (rs.getD k []).length ∧ os.map (·.1) = (List.range (rs.getD k []).length).map fun j => [gdab.getD j 0]
theorem okPlan_C {rs : List (List RDoor)} {G : List (List Offer)} (h : Offers rs G) {k : Nat} {os : List Offer} (hk : G[k]? = some os) : okPlan os (planC (rs.getD k [])) := by
  obtain ⟨h1, h2⟩ := h.2 k os hk
  unfold okPlan planC
  rw [h1, h2]
  by_cases h0 : 0 < (rs.getD k []).length
  · rw [if_pos h0, decide_eq_true h0]
    refine ⟨by decide, ?_⟩
    have : ([103] : Wd) ∈ (List.range (rs.getD k []).length).map fun j => [gdab.getD j 0] := List.mem_map.mpr ⟨0, List.mem_range.mpr h0, rfl⟩
    rw [decide_eq_true this]
    rfl
  · rw [if_neg h0, decide_eq_false h0]
    exact ⟨by decide, rfl⟩
theorem plan_at {rs : List (List RDoor)} {G : List (List Offer)} (h : Offers rs G) {k : Nat} (hk : k < rs.length) (w : Wd) : ∃ os, G[k]? = some os ∧ planErr G ((rs.map planC).take k ++ [w] ++ (rs.map planC).drop (k + 1)) 0 = planErr (os :: G.drop (k + 1)) (w :: (rs.map planC).drop (k + 1)) k := by
  have hkG : k < G.length := by rw [h.1]; exact hk
  refine ⟨G[k], List.getElem?_eq_getElem hkG, ?_⟩
  have e : planErr (G.take k ++ G.drop k) ((rs.map planC).take k ++ (w :: (rs.map planC).drop (k + 1))) 0 = _ := planErr_skip (G.take k) ((rs.map planC).take k) (by rw [List.length_take, List.length_take, List.length_map, h.1]) (fun i os w h1 h2 => by
    rw [List.getElem?_take] at h1 h2
    split at h1
    · rename_i hi
      rw [if_pos hi, List.getElem?_map] at h2
      have : w = planC (rs.getD i []) := by
        rw [List.getElem?_eq_getElem (by omega)] at h2
        rw [List.getD_eq_getElem?_getD, List.getElem?_eq_getElem (by omega)]
        exact (Option.some.inj h2).symm
      rw [this]
      exact okPlan_C h h1
    · cases h1) _ _ 0
  rw [List.take_append_drop] at e
  rw [List.append_assoc]
  show planErr G ((rs.map planC).take k ++ (w :: (rs.map planC).drop (k + 1))) 0 = _
  rw [e, List.drop_eq_getElem_cons hkG, List.length_take]
  congr 1
  omega
theorem plan_wrong {rs : List (List RDoor)} {G : List (List Offer)} (h : Offers rs G) {k : Nat} (hk : k < rs.length) : planErr G ((rs.map planC).take k ++ [if 0 < (rs.getD k []).length then [45] else [103]] ++ (rs.map planC).drop (k + 1)) 0 = some (.plan (some k)) := by
  obtain ⟨os, h1, h2⟩ := plan_at h hk (if 0 < (rs.getD k []).length then [45] else [103])
  rw [h2]
  unfold planErr
  rw [(h.2 k os h1).1, if_pos ?_]
  by_cases h0 : 0 < (rs.getD k []).length
  · rw [if_pos h0, decide_eq_true h0]; decide
  · rw [if_neg h0, decide_eq_false h0]; decide
theorem plan_door {rs : List (List RDoor)} {G : List (List Offer)} (h : Offers rs G) {k : Nat} (hk : k < rs.length) (h0 : 0 < (rs.getD k []).length) (h3 : (rs.getD k []).length ≤ 3) : planErr G ((rs.map planC).take k ++ [[88]] ++ (rs.map planC).drop (k + 1)) 0 = some (.door [88]) := by
  obtain ⟨os, h1, h2⟩ := plan_at h hk [88]
  rw [h2]
  unfold planErr
  rw [(h.2 k os h1).1, (h.2 k os h1).2, decide_eq_true h0, if_neg (by decide), if_pos ?_]
  have : (rs.getD k []).length = 1 ∨ (rs.getD k []).length = 2 ∨ (rs.getD k []).length = 3 := by omega
  rcases this with e | e | e <;> rw [e] <;> decide
theorem ref_worth {D : PDesk} {ws : List Wd} {e : Rf} (hn : ws ≠ []) (h : planRef (hallD D) ws = some e) : Refuses D [119, 111, 114, 116, 104] ws e := by
  refine ref_told ?_ (by decide +kernel) (by decide +kernel) hn (fun e => absurd e (by decide +kernel)) ?_
  · unfold rowFits
    dsimp only
    rw [if_neg (by decide +kernel), if_neg (by decide +kernel), if_neg (by decide +kernel), if_neg (by decide +kernel), lw_worth]
    rfl
  · unfold toldM
    rw [if_pos (by decide +kernel)]
    exact h
theorem planC_ok (r : List RDoor) : Wok (planC r) := by unfold planC; split <;> decide
theorem plain_worth {ws : List Wd} (h : ∀ w ∈ ws, Wok w) (hl : ws.length ≤ 50) : Plain [119, 111, 114, 116, 104] ws := ⟨List.forall_mem_cons.mpr ⟨(by decide : Wok [119, 111, 114, 116, 104]), h⟩, hl⟩
theorem planCs_ok (rs : List (List RDoor)) : ∀ w ∈ rs.map planC, Wok w := fun w hw => by
  obtain ⟨r, _, rfl⟩ := List.mem_map.mp hw
  exact planC_ok r
def Row3 (D : PDesk) (x : Wd × Rf) : Prop := ∃ wd rest, x.1 = TL.joinL [32] (wd :: rest) ∧ Plain wd rest ∧ Refuses D wd rest x.2
section
variable {D : PDesk} {rs : List (List RDoor)} {names : List Wd} (hO : Offers rs (hallD D).given) (hl : (ttl D).length = rs.length) (h1 : 1 ≤ rs.length) (h3 : rs.length ≤ 3) (hr3 : ∀ k, (rs.getD k []).length ≤ 3)
include hO hl h1 h3
omit h1 in
theorem plans0_ref : ∀ x ∈ plans0 rs, Row3 D x := by
  intro x hx
  rcases List.mem_append.mp hx with hx | hx
  · rw [List.mem_singleton.mp hx]
    refine ⟨[119, 111, 114, 116, 104], rs.map planC ++ [[103]], rfl, plain_worth (fun w hw => ?_) (by simp; omega), ref_worth (by simp) ?_⟩
    · rcases List.mem_append.mp hw with hw | hw
      · exact planCs_ok rs w hw
      · rw [List.mem_singleton.mp hw]; decide
    · unfold planRef
      rw [if_neg]
      show ¬ (rs.map planC ++ [[103]]).length = (ttl D).length
      rw [hl]
      simp
  · split at hx
    · rename_i h2
      rw [List.mem_singleton.mp hx]
      have e : (planW rs).take ((planW rs).length - 1) = [119, 111, 114, 116, 104] :: (rs.map planC).take (rs.length - 1) := by
        unfold planW
        rw [List.length_cons, List.length_map, Nat.add_sub_cancel]
        obtain ⟨m, hm⟩ : ∃ m, rs.length = m + 1 := ⟨rs.length - 1, by omega⟩
        rw [hm]
        rfl
      refine ⟨[119, 111, 114, 116, 104], (rs.map planC).take (rs.length - 1), by rw [e], plain_worth (fun w hw => planCs_ok rs w (List.mem_of_mem_take hw)) (by simp; omega), ref_worth (fun z => ?_) ?_⟩
      · have := congrArg List.length z
        simp at this
        omega
      · unfold planRef
        rw [if_neg]
        show ¬ ((rs.map planC).take (rs.length - 1)).length = (ttl D).length
        rw [hl]
        simp
        omega
    · cases hx
theorem plan_row {k : Nat} (hk : k < rs.length) {w : Wd} {e : Rf} (hw : Wok w) (h : planErr (hallD D).given ((rs.map planC).take k ++ [w] ++ (rs.map planC).drop (k + 1)) 0 = some e) : Row3 D (TL.joinL [32] ((planW rs).take (k + 1) ++ [w] ++ (planW rs).drop (k + 2)), e) := by
  refine ⟨[119, 111, 114, 116, 104], (rs.map planC).take k ++ [w] ++ (rs.map planC).drop (k + 1), rfl, plain_worth (fun u hu => ?_) (by simp; omega), ref_worth (by simp) ?_⟩
  · rcases List.mem_append.mp hu with hu | hu
    · rcases List.mem_append.mp hu with hu | hu
      · exact planCs_ok rs u (List.mem_of_mem_take hu)
      · rw [List.mem_singleton.mp hu]; exact hw
    · exact planCs_ok rs u (List.mem_of_mem_drop hu)
  · unfold planRef
    rw [if_pos]
    · exact h
    · show ((rs.map planC).take k ++ [w] ++ (rs.map planC).drop (k + 1)).length = (ttl D).length
      rw [hl]
      simp
      omega
include hr3
theorem plansK_ref {k : Nat} (hk : k < rs.length) (ha : isWordS (names.getD k []) = true) (hq : isWordS (names.getD (names.length - 1) []) = true) (hat : names.getD k [] ∈ ttl D) (hg : 0 < (rs.getD k []).length → [103] ∈ (doorsOf D (names.getD k [])).map (·.name)) : ∀ x ∈ plansK rs names k, Row3 D x := by
  intro x hx
  rcases List.mem_append.mp hx with hx | hx
  · rw [List.mem_singleton.mp hx]
    exact plan_row hO hl h1 h3 hk (by split <;> decide) (plan_wrong hO hk)
  · split at hx
    · rename_i h0
      rcases List.mem_cons.mp hx with rfl | hx
      · exact plan_row hO hl h1 h3 hk (by decide) (plan_door hO hk h0 (hr3 k))
      generalize names.getD k [] = a at ha hat hg hx
      generalize names.getD (names.length - 1) [] = q at hq hx
      have wa : Wok a := okw ha
      have wq : Wok q := okw hq
      rcases List.mem_cons.mp hx with rfl | hx
      · refine ⟨[100, 111, 111, 114], [a, [103], [49], [116, 111, 115, 115], [50], a, a], by simp [TL.joinL], ⟨?_, by show 7 ≤ 50; decide⟩, ref_doorE hat (by simp [doorFits, lw_sure, lw_toss, lw_even, lw_mixed]) (by simp [DPre, lw_sure, lw_toss, lw_even, lw_mixed, no_1, ch_2, sm_2]) (by simp [doorOf, doorFits, lw_sure, lw_toss, lw_even, lw_mixed, wd_g, no_0, no_1, ha, ch_2])⟩
        show ∀ x ∈ [[100, 111, 111, 114], a, [103], [49], [116, 111, 115, 115], [50], a, a], Wok x
        repeat' (first | exact List.forall_mem_nil _ | refine List.forall_mem_cons.mpr ⟨?_, ?_⟩)
        all_goals first
          | exact wa
          | decide
      · rw [List.mem_singleton.mp hx]
        have e : doorOf [[103], [49], [115, 117, 114, 101], q] = .ok (.inl [103]) := by simp [doorOf, doorFits, lw_sure, lw_toss, lw_even, lw_mixed, wd_g, no_0, hq]
        refine ⟨[100, 111, 111, 114], [a, [103], [49], [115, 117, 114, 101], q], by simp [TL.joinL], ⟨?_, by show 5 ≤ 50; decide⟩, ref_door (by simp [doorFits, lw_sure, lw_toss, lw_even, lw_mixed]) ⟨by simp [DPre, lw_sure, lw_toss, lw_even, lw_mixed], ?_, ?_⟩ ?_⟩
        · show ∀ x ∈ [[100, 111, 111, 114], a, [103], [49], [115, 117, 114, 101], q], Wok x
          repeat' (first | exact List.forall_mem_nil _ | refine List.forall_mem_cons.mpr ⟨?_, ?_⟩)
          all_goals first
            | exact wa
            | exact wq
            | decide
        · intro n h
          rw [e] at h
          cases h
          exact hg h0
        · intro d h
          rw [e] at h
          cases h
        · unfold addDoor
          rw [if_pos hat, e]
    · cases hx
theorem plans_ref (hn : names.length = rs.length + 1) (hw : ∀ x ∈ names, isWordS x = true) (hat : ∀ k, k < rs.length → names.getD k [] ∈ ttl D) (hg : ∀ k, k < rs.length → 0 < (rs.getD k []).length → [103] ∈ (doorsOf D (names.getD k [])).map (·.name)) : ∀ x ∈ plansU rs names rs.length, Row3 D x := by
  intro x hx
  have hgd : ∀ c, c < names.length → isWordS (names.getD c []) = true := fun c hc => by
    rw [List.getD_eq_getElem?_getD, List.getElem?_eq_getElem hc]
    exact hw _ (List.getElem_mem hc)
  rcases List.mem_append.mp hx with hx | hx
  · exact plans0_ref hO hl h3 x hx
  · obtain ⟨l, hl', hxl⟩ := List.mem_flatten.mp hx
    obtain ⟨k, hk, rfl⟩ := List.mem_map.mp hl'
    have hk := List.mem_range.mp hk
    exact plansK_ref hO hl h1 h3 hr3 hk (hgd k (by omega)) (hgd _ (by omega)) (hat k hk) (hg k hk) x hxl
end
end Dk
/-! plain lemmas: what is shown; the law's plain part -/
namespace Dk
open PySem PySem.Spec PyProof.Rows L2
/-! ### what a desk shows -/
def SmDoor (T : List Wd) (d : PDoor) : Prop := d.name.length ≤ 100 ∧ d.pay.1.natAbs < 2 ^ 200 ∧ d.pay.2.natAbs < 2 ^ 200 ∧ d.pairs.length ≤ 10 ∧ ∀ p ∈ d.pairs, p.1 ∈ T ∧ p.2.1.natAbs < 2 ^ 200 ∧ p.2.2.natAbs < 2 ^ 200
theorem given_st (f : Frac) {T : List Wd} {rms : List (List PDoor)} (g : Nat) (h : rms.length = T.length) : hallD (st f T rms g) = ⟨f, T, rms.map fun r => r.map (offerOf T)⟩ := by
  show hallOf f (T.zip rms) = _
  unfold hallOf
  have e : (T.zip rms).map (·.1) = T := ttl_st (f := f) (g := g) h
  have e2 : (T.zip rms).map (·.2) = rms := List.map_snd_zip (by omega)
  rw [e]
  congr 1
  rw [← e2, List.map_map, e2]
  rfl
theorem smH_st {f : Frac} {T : List Wd} {rms : List (List PDoor)} {g : Nat} (hf : OkSh f) (hT : OkT T) (h : rms.length = T.length) (hd : ∀ r ∈ rms, r.length ≤ 10 ∧ ∀ d ∈ r, SmDoor T d) : SmH (hallD (st f T rms g)) := by
  rw [given_st f g h]
  obtain ⟨f1, f2, f3, f4⟩ := hf
  have h200 : (100 : Nat) < 2 ^ 200 := by decide +kernel
  refine ⟨⟨by have := hT.len; show T.length ≤ 10; omega, fun t ht => by have := hT.short t ht; omega⟩, ⟨by show f.1.natAbs < _; omega, by show f.2.natAbs < _; omega⟩, by show (rms.map _).length = T.length; rw [List.length_map, h], fun os hos => ?_⟩
  obtain ⟨r, hr, rfl⟩ := List.mem_map.mp hos
  obtain ⟨r1, r2⟩ := hd r hr
  refine ⟨by rw [List.length_map]; exact r1, fun o ho => ?_⟩
  obtain ⟨d, hdd, rfl⟩ := List.mem_map.mp ho
  obtain ⟨d1, d2, d3, d4, d5⟩ := r2 d hdd
  refine ⟨d1, d2, d3, by show (d.pairs.map _).length ≤ 10; rw [List.length_map]; exact d4, fun x hx => ?_⟩
  obtain ⟨p, hp, rfl⟩ := List.mem_map.mp hx
  obtain ⟨p1, p2, p3⟩ := d5 p hp
  exact ⟨List.idxOf_lt_length_iff.mpr p1, p2, p3⟩
/-! no row holds a line's end -/
theorem numText_10 (f : Frac) : 10 ∉ numText f := by
  have hi : ∀ i : Int, 10 ∉ intW i := fun i => by
    cases i with
    | ofNat n => rw [show Int.ofNat n = ((n : Nat) : Int) from rfl, intW_nat]; exact TL.numL_free (by omega)
    | negSucc n =>
      rw [intW_neg]
      intro h
      rcases List.mem_cons.mp h with h | h
      · cases h
      · exact TL.numL_free (by omega) h
  unfold numText
  split
  · exact hi _
  · intro h
    rcases List.mem_append.mp h with h | h
    · exact hi _ h
    · rcases List.mem_append.mp h with h | h
      · simp at h
      · exact hi _ h
theorem word_10 {x : Wd} (h : isWordS x = true) : 10 ∉ x := fun hm => by
  unfold isWordS at h
  simp only [Bool.and_eq_true, List.all_eq_true] at h
  have := h.2.2 _ hm
  simp [isLet] at this
theorem app_10 {a b : Wd} (h1 : 10 ∉ a) (h2 : 10 ∉ b) : 10 ∉ a ++ b := fun h => (List.mem_append.mp h).elim h1 h2
theorem join_10 : ∀ (ws : List Wd), (∀ w ∈ ws, 10 ∉ w) → 10 ∉ TL.joinL [32] ws
  | [], _ => by simp [TL.joinL]
  | [w], h => h w (List.mem_cons_self ..)
  | w :: v :: ws, h => app_10 (h w (List.mem_cons_self ..)) (app_10 (by decide) (join_10 (v :: ws) fun u hu => h u (List.mem_cons_of_mem _ hu)))
theorem getD_10 {T : List Wd} (hT : ∀ x ∈ T, isWordS x = true) (k : Nat) : 10 ∉ T.getD k [] := by
  by_cases hk : k < T.length
  · rw [List.getD_eq_getElem?_getD, List.getElem?_eq_getElem hk]
    exact word_10 (hT _ (List.getElem_mem hk))
  · rw [List.getD_eq_getElem?_getD, List.getElem?_eq_none (by omega)]
    simp
theorem waysText_10 {T : List Wd} (hT : ∀ x ∈ T, isWordS x = true) (ws : List (Nat × Frac)) : 10 ∉ waysText T ws := by
  unfold waysText
  split
  · exact app_10 (by decide +kernel) (getD_10 hT _)
  · refine app_10 (by decide +kernel) (join_10 _ fun w hw => ?_)
    obtain ⟨x, _, rfl⟩ := List.mem_map.mp hw
    exact app_10 (getD_10 hT _) (app_10 (by decide) (numText_10 _))
theorem offerRow_10 {T : List Wd} (hT : ∀ x ∈ T, isWordS x = true) {o : Offer} (ho : 10 ∉ o.1) : 10 ∉ offerRow T o :=
  app_10 (by decide +kernel) (app_10 ho (app_10 (by decide) (app_10 (numText_10 _) (app_10 (by decide) (waysText_10 hT _)))))
theorem showRows_10 {f : Frac} {T : List Wd} {G : List (List Offer)} (hT : ∀ x ∈ T, isWordS x = true) (hG : ∀ os ∈ G, ∀ o ∈ os, 10 ∉ o.1) : ∀ w ∈ showRows ⟨f, T, G⟩, 10 ∉ w := by
  intro w hw
  rcases List.mem_cons.mp hw with rfl | hw
  · exact app_10 (by decide +kernel) (numText_10 _)
  · obtain ⟨l, hl, hwl⟩ := List.mem_flatten.mp hw
    obtain ⟨x, hx, rfl⟩ := List.mem_map.mp hl
    obtain ⟨h1, h2⟩ := List.of_mem_zip (a := x.1) (b := x.2) hx
    rcases List.mem_cons.mp hwl with rfl | hwl
    · exact app_10 (by decide +kernel) (word_10 (hT _ h1))
    · obtain ⟨o, ho, rfl⟩ := List.mem_map.mp hwl
      exact offerRow_10 hT (hG _ h2 o ho)
/-- a room's row tells whether the room is there -/
theorem room_row {f : Frac} {T : List Wd} {G : List (List Offer)} {q : Wd} (h : (lw "room " ++ q) ∈ showRows ⟨f, T, G⟩) : q ∈ T := by
  have er : lw "room " = [114, 111, 111, 109, 32] := by decide +kernel
  have es : lw "share " = [115, 104, 97, 114, 101, 32] := by decide +kernel
  have ed : lw "door " = [100, 111, 111, 114, 32] := by decide +kernel
  rcases List.mem_cons.mp h with e | hw
  · rw [er, es] at e
    cases e
  · obtain ⟨l, hl, hwl⟩ := List.mem_flatten.mp hw
    obtain ⟨x, hx, rfl⟩ := List.mem_map.mp hl
    obtain ⟨h1, h2⟩ := List.of_mem_zip (a := x.1) (b := x.2) hx
    rcases List.mem_cons.mp hwl with e | hwl
    · rw [List.append_cancel_left e]
      exact h1
    · obtain ⟨o, ho, e⟩ := List.mem_map.mp hwl
      unfold offerRow at e
      rw [er, ed] at e
      cases e
theorem room_there {f : Frac} {T : List Wd} {G : List (List Offer)} {q : Wd} (hl : G.length = T.length) (h : q ∈ T) : (lw "room " ++ q) ∈ showRows ⟨f, T, G⟩ := by
  obtain ⟨i, hi, e⟩ := List.getElem_of_mem h
  have hg : i < G.length := by rw [hl]; exact hi
  have hz : i < (T.zip G).length := by rw [List.length_zip]; exact Nat.lt_min.mpr ⟨hi, hg⟩
  refine List.mem_cons_of_mem _ (List.mem_flatten.mpr ⟨_, List.mem_map.mpr ⟨(T[i], G[i]), ?_, rfl⟩, ?_⟩)
  · exact List.mem_of_getElem? (i := i) (by show (T.zip G)[i]? = _; rw [List.getElem?_eq_getElem hz, List.getElem_zip])
  · rw [e]
    exact List.mem_cons_self ..
/-! ### the law's plain part -/
theorem doors_sub {f : Frac} {T : List Wd} {rms : List (List PDoor)} {g : Nat} {z : Wd} {d : PDoor} (h : d ∈ doorsOf (st f T rms g) z) : ∃ r ∈ rms, d ∈ r := by
  unfold doorsOf at h
  generalize (ttl (st f T rms g)).idxOf z = i at h
  cases e : (st f T rms g).rooms[i]? with
  | none => rw [e] at h; cases h
  | some r =>
    rw [e] at h
    have hm : r ∈ T.zip rms := List.mem_of_getElem? e
    exact ⟨r.2, (List.of_mem_zip (a := r.1) (b := r.2) hm).2, h⟩
theorem upto_door {T : List Wd} {r : List RDoor} (hT : OkT T) (hr : OkR T.length r) {d : PDoor} (h : d ∈ upto T r r.length) : (∃ j, j < 3 ∧ d.name = [gdab.getD j 0]) ∧ SmDoor T d := by
  obtain ⟨j, hj, rfl⟩ := List.mem_map.mp h
  have hj := List.mem_range.mp hj
  have h3 := hr.1
  have hx := hr.at hj
  refine ⟨⟨j, by omega, rfl⟩, by show 1 ≤ 100; decide, ?_, ?_, by show (pairsP T _).length ≤ 10; unfold pairsP; rw [List.length_map, chances_len]; have := hx.2.2.1; omega, fun p hp => ⟨pairsP_in hT hx p hp, ?_⟩⟩
  · have : (10 : Nat) ^ 29 < 2 ^ 200 := by decide +kernel
    have := hx.1.2.2
    show (rowD r j).1.1.natAbs < _
    omega
  · have : (1000 : Nat) < 2 ^ 200 := by decide +kernel
    have h1 := hx.1.1
    unfold isFracF at h1
    have : 0 < (rowD r j).1.2 := of_decide_eq_true (Bool.and_eq_true_iff.mp h1).1
    have := hx.1.2.1
    show (rowD r j).1.2.natAbs < _
    omega
  · obtain ⟨a, b, c⟩ := (okPairs_P hT hx).2.2 p hp
    have : (32768 : Nat) < 2 ^ 200 := by decide +kernel
    obtain ⟨b1, b2, b3⟩ := b
    exact ⟨b3, by omega⟩
theorem rmsI_in {T : List Wd} {rs : List (List RDoor)} {i : Nat} {r : List PDoor} (h : r ∈ rmsI T rs i) : r = [] ∨ ∃ k, r = upto T (rs.getD k []) (rs.getD k []).length := by
  obtain ⟨k, hk, rfl⟩ := List.mem_map.mp h
  split
  · exact .inr ⟨k, rfl⟩
  · exact .inl rfl
theorem rms_door {T : List Wd} {rs : List (List RDoor)} (hT : OkT T) (hr : ∀ k, OkR T.length (rs.getD k [])) {i : Nat} {r : List PDoor} (h : r ∈ rmsI T rs i) : r.length ≤ 3 ∧ ∀ d ∈ r, (∃ j, j < 3 ∧ d.name = [gdab.getD j 0]) ∧ SmDoor T d := by
  rcases rmsI_in h with rfl | ⟨k, rfl⟩
  · exact ⟨by decide, fun d hd => nomatch hd⟩
  · refine ⟨by unfold upto; rw [List.length_map, List.length_range]; exact (hr k).1, fun d hd => upto_door hT (hr k) hd⟩
theorem not_letter {x : Wd} (hx : x ∉ [[103], [100], [97]]) {j : Nat} (hj : j < 3) : x ≠ [gdab.getD j 0] := fun e => by
  have : j = 0 ∨ j = 1 ∨ j = 2 := by omega
  rcases this with rfl | rfl | rfl <;> exact hx (by rw [e]; decide)
theorem no_door {f : Frac} {T : List Wd} {rs : List (List RDoor)} {g : Nat} (hT : OkT T) (hr : ∀ k, OkR T.length (rs.getD k [])) {x z : Wd} (hx : x ∉ [[103], [100], [97]]) : x ∉ (doorsOf (finD f rs T g) z).map (·.name) := fun h => by
  obtain ⟨d, hd, e⟩ := List.mem_map.mp h
  obtain ⟨r, h1, h2⟩ := doors_sub hd
  obtain ⟨j, hj, e2⟩ := ((rms_door hT hr h1).2 d h2).1
  exact not_letter hx hj (e.symm.trans e2)
theorem finD_offers {f : Frac} {T : List Wd} {rs : List (List RDoor)} {g : Nat} (hl : T.length = rs.length) : Offers rs (hallD (finD f rs T g)).given := by
  unfold finD
  rw [given_st f g (rmsI_len T rs _)]
  refine ⟨by rw [List.length_map, rmsI_len, hl], fun k os hk => ?_⟩
  have hk : ((rmsI T rs T.length).map fun r => r.map (offerOf T))[k]? = some os := hk
  rw [List.getElem?_map] at hk
  by_cases h : k < T.length
  · rw [rmsI_at T rs _ h, if_pos h] at hk
    have e := Option.some.inj hk
    rw [← e]
    refine ⟨by unfold upto; rw [List.length_map, List.length_map, List.length_range], ?_⟩
    rw [List.map_map]
    exact upto_names T _ _
  · rw [List.getElem?_eq_none (by rw [rmsI_len]; omega)] at hk
    cases hk
theorem okDoors_mono {T U : List Wd} (h : ∀ x ∈ T, x ∈ U) {r : List PDoor} (hd : OkDoors T r) : OkDoors U r := ⟨hd.1, hd.2.1, fun d hdd => ⟨(hd.2.2 d hdd).1, (hd.2.2 d hdd).2.1, fun p hp => h _ ((hd.2.2 d hdd).2.2 p hp)⟩⟩
theorem smDoor_mono {T U : List Wd} (h : ∀ x ∈ T, x ∈ U) {d : PDoor} (hd : SmDoor T d) : SmDoor U d := ⟨hd.1, hd.2.1, hd.2.2.1, hd.2.2.2.1, fun p hp => ⟨h _ (hd.2.2.2.2 p hp).1, (hd.2.2.2.2 p hp).2⟩⟩
def tossD (a q : Wd) : PDoor := ⟨[120], (1, 1), [(a, (1, 2)), (q, (1, 2))]⟩
theorem doorOf_toss {a q : Wd} (ha : isWordS a = true) (hq : isWordS q = true) : doorOf [[120], [49], [116, 111, 115, 115], [49, 47, 50], a, q] = .ok (.inr (tossD a q)) := by
  simp [doorOf, doorFits, lw_sure, lw_toss, lw_even, lw_mixed, wd_x, no_0, no_2, ha, hq, ch_h, tossD]
theorem good_toss {D : PDesk} {a q : Wd} (ha : isWordS a = true) (hq : isWordS q = true) (hat : a ∈ ttl D) (hqt : q ∈ ttl D) (haq : a ≠ q) (h120 : [120] ∉ (doorsOf D a).map (·.name)) : Good D ([100, 111, 111, 114] :: [a, [120], [49], [116, 111, 115, 115], [49, 47, 50], a, q]) (putDoor D a (tossD a q)) := by
  have wa : Wok a := okw ha
  have wq : Wok q := okw hq
  refine ⟨_, _, rfl, ⟨?_, by show 7 ≤ 50; decide⟩, by rw [rowFits_door]; simp [doorFits, lw_sure, lw_toss, lw_even, lw_mixed], by decide +kernel, by simp, ⟨fun e => absurd e (by decide +kernel), fun _ => ⟨?_, ?_, ?_⟩, fun e => absurd e (by decide +kernel), fun e => absurd e (by decide +kernel)⟩, ?_⟩
  · show ∀ x ∈ [[100, 111, 111, 114], a, [120], [49], [116, 111, 115, 115], [49, 47, 50], a, q], Wok x
    repeat' (first | exact List.forall_mem_nil _ | refine List.forall_mem_cons.mpr ⟨?_, ?_⟩)
    all_goals first
      | exact wa
      | exact wq
      | decide
  · show DPre [[120], [49], [116, 111, 115, 115], [49, 47, 50], a, q]
    simp [DPre, lw_sure, lw_toss, lw_even, lw_mixed, no_2, sm_h]
  · intro n h
    have h : doorOf [[120], [49], [116, 111, 115, 115], [49, 47, 50], a, q] = .ok (.inl n) := h
    rw [doorOf_toss ha hq] at h
    cases h
  · intro d h _
    have h : doorOf [[120], [49], [116, 111, 115, 115], [49, 47, 50], a, q] = .ok (.inr d) := h
    rw [doorOf_toss ha hq] at h
    cases h
    exact okPairs_toss haq
  · rw [done_door]
    unfold addDoor
    rw [if_pos hat, doorOf_toss ha hq]
    dsimp only
    rw [if_neg (show ¬ (tossD a q).name ∈ (doorsOf D a).map (·.name) from h120)]
    simp [tossD, hat, hqt]
theorem show_inj {h h' : PHall} (e : showText h = showText h') (n1 : ∀ w ∈ showRows h, 10 ∉ w) (n2 : ∀ w ∈ showRows h', 10 ∉ w) : showRows h = showRows h' := by
  have e1 := TL.spl_join (s := 10) (S := []) (parts := showRows h) (by unfold showRows; simp) n1
  have e2 := TL.spl_join (s := 10) (S := []) (parts := showRows h') (by unfold showRows; simp) n2
  rw [← e1, ← e2]
  exact congrArg _ e
theorem plainLaw (f : Frac) (rs : List (List RDoor)) (names : List Wd) (hf : OkSh f) (hrr : OkRR rs) (hn : names.length = rs.length + 1) (hnd : names.Nodup) (hw : ∀ x ∈ names, isWordS x = true ∧ x.length ≤ 3) : PlainLaw f rs names := by
  obtain ⟨r1, r3, rok⟩ := hrr
  have hN : OkT names := ⟨hnd, fun x hx => (hw x hx).1, fun x hx => (hw x hx).2, by omega⟩
  have hT := hN.take rs.length
  have hTl : (names.take rs.length).length = rs.length := by rw [List.length_take]; omega
  have hgd : ∀ c, c < rs.length → (names.take rs.length).getD c [] = names.getD c [] := fun c hc => by
    rw [List.getD_eq_getElem?_getD, List.getD_eq_getElem?_getD, List.getElem?_take, if_pos hc]
  have hr : ∀ k, OkR (names.take rs.length).length (rs.getD k []) := fun k => by
    rw [hTl]
    by_cases hk : k < rs.length
    · rw [List.getD_eq_getElem?_getD, List.getElem?_eq_getElem hk]
      exact rok _ (List.getElem_mem hk)
    · rw [List.getD_eq_getElem?_getD, List.getElem?_eq_none (by omega)]
      exact ⟨by decide, fun x hx => nomatch hx⟩
  refine ⟨⟨by decide, ⟨by decide, by decide, by decide +kernel⟩, List.nodup_nil, by decide, fun r hr => nomatch hr⟩, fun c hc => ?_⟩
  have htt : ttl (finD f rs (names.take rs.length) 1) = names.take rs.length := ttl_st (rmsI_len _ rs _)
  have hq := hN.at (show rs.length < names.length by omega)
  have hqT : names.getD rs.length [] ∉ names.take rs.length := fun h => by
    obtain ⟨j, hj, e⟩ := List.mem_take_iff_getElem.mp h
    rw [List.getD_eq_getElem?_getD, List.getElem?_eq_getElem (by omega)] at e
    have := nd_inj hnd (by omega) (by omega) e
    omega
  have hqw := hN.word _ hq.1
  refine ⟨finD f rs (names.take rs.length) 1, lawWs f rs (names.take rs.length) ++ [[[103, 111, 97, 108], (names.take rs.length).getD c []]], ?_, chain_law hf hT hr (by omega), okD_st hf hT (rmsI_len _ rs _) (rmsI_ok hT hr _), smH_st hf hT (rmsI_len _ rs _) (fun r h => ⟨by have := (rms_door hT hr h).1; omega, fun d hd => ((rms_door hT hr h).2 d hd).2⟩), fun a q ha hqe => ?_⟩
  · rw [List.map_append, lawWs_eq f rs _ hTl, hgd c hc]
    rfl
  subst hqe
  have haw := hT.word _ ha
  have hat : a ∈ ttl (finD f rs (names.take rs.length) 1) := by rw [htt]; exact ha
  have hqt : names.getD rs.length [] ∉ ttl (finD f rs (names.take rs.length) 1) := by rw [htt]; exact hqT
  have nD := noDoors_ref haw hqw hat hqt (no_door hT hr (by decide))
  refine ⟨noRows_ref (okw haw), ?_, ?_, ?_, ?_⟩
  · rw [noDoors_eq]
    intro x hx
    obtain ⟨y, hy, rfl⟩ := List.mem_map.mp hx
    obtain ⟨wd, rest, e, h1, h2⟩ := nD y hy
    exact ⟨wd, rest, by rw [e], h1, h2⟩
  · rw [others_eq]
    intro x hx
    obtain ⟨y, hy, rfl⟩ := List.mem_map.mp hx
    obtain ⟨wd, rest, e, h1, h2⟩ := others_ref haw hqw hat hqt (by
      rw [htt]
      intro h
      have := hT.word _ h
      rw [wd_A] at this
      cases this) (by show 1 < 1000; decide) (fun z => no_door hT hr (by decide)) y hy
    exact ⟨wd, rest, by rw [e], h1, h2⟩
  · refine plans_ref (finD_offers hTl) (by rw [htt, hTl]) r1 r3 (fun k => (hr k).1) hn (fun x hx => (hw x hx).1) (fun k hk => ?_) (fun k hk h0 => ?_)
    · rw [htt, ← hgd k hk]
      exact (hT.at (by omega)).1
    · rw [← hgd k hk]
      unfold finD
      rw [doorsOf_st hT (rmsI_len _ rs _) (by omega), List.getD_eq_getElem?_getD, rmsI_at _ rs _ (by omega), if_pos (by omega)]
      show [103] ∈ (upto _ _ _).map (·.name)
      rw [upto_names]
      exact List.mem_map.mpr ⟨0, List.mem_range.mpr h0, rfl⟩
  generalize hqn : names.getD rs.length [] = q at *
  have haN : a ∈ names := List.mem_of_mem_take ha
  have haq : a ≠ q := fun e => hqT (e ▸ ha)
  have hnam : names.take rs.length ++ [q] = names := by
    have := take_snoc hq.2
    rw [← this, List.take_of_length_le (by omega)]
  have hsub : ∀ x ∈ names.take rs.length, x ∈ names := fun x hx => List.mem_of_mem_take hx
  obtain ⟨k, hk, hka⟩ : ∃ k, k < rs.length ∧ names.getD k [] = a := by
    obtain ⟨j, hj, e⟩ := List.mem_take_iff_getElem.mp ha
    refine ⟨j, by omega, ?_⟩
    rw [List.getD_eq_getElem?_getD, List.getElem?_eq_getElem (by omega)]
    exact e
  generalize hT0 : names.take rs.length = T at *
  have hJl : (rmsI T rs T.length ++ [[]]).length = names.length := by rw [List.length_append, rmsI_len, hTl, hn]; rfl
  have e1 : ({ finD f rs T 1 with rooms := (finD f rs T 1).rooms ++ [(q, [])] } : PDesk) = st f names (rmsI T rs T.length ++ [[]]) 1 := by
    unfold finD st
    rw [← hnam, List.zip_append (by rw [rmsI_len])]
    rfl
  have g1 := good_room (D := finD f rs T 1) hqw (by rw [htt]; exact hqT)
  rw [e1] at g1
  have dJ : ∀ r ∈ rmsI T rs T.length ++ [[]], OkDoors names r ∧ r.length ≤ 3 ∧ ∀ d ∈ r, (∃ j, j < 3 ∧ d.name = [gdab.getD j 0]) ∧ SmDoor names d := by
    intro r h
    rcases List.mem_append.mp h with h | h
    · exact ⟨okDoors_mono hsub (rmsI_ok hT hr _ r h), (rms_door hT hr h).1, fun d hd => ⟨((rms_door hT hr h).2 d hd).1, smDoor_mono hsub ((rms_door hT hr h).2 d hd).2⟩⟩
    · rw [List.mem_singleton.mp h]
      exact ⟨⟨List.nodup_nil, by decide, fun d hd => nomatch hd⟩, by decide, fun d hd => nomatch hd⟩
  have ok1 := okD_st (g := 1) hf hN hJl (fun r h => (dJ r h).1)
  have tt1 : ttl (st f names (rmsI T rs T.length ++ [[]]) 1) = names := ttl_st hJl
  have hr0 : (rmsI T rs T.length ++ [[]]).getD k [] ∈ rmsI T rs T.length ++ [[]] := by
    rw [List.getD_eq_getElem?_getD, List.getElem?_eq_getElem (by omega)]
    exact List.getElem_mem (by omega)
  have hdo : doorsOf (st f names (rmsI T rs T.length ++ [[]]) 1) a = (rmsI T rs T.length ++ [[]]).getD k [] := by
    rw [← hka]
    exact doorsOf_st hN hJl (by omega)
  have h120 : [120] ∉ ((rmsI T rs T.length ++ [[]]).getD k []).map (fun d : PDoor => d.name) := fun h => by
    obtain ⟨d, hd, e⟩ := List.mem_map.mp h
    obtain ⟨j, hj, e2⟩ := ((dJ _ hr0).2.2 d hd).1
    exact not_letter (x := [120]) (by decide) hj (e.symm.trans e2)
  have g2 := good_toss (D := st f names (rmsI T rs T.length ++ [[]]) 1) haw hqw (by rw [tt1]; exact haN) (by rw [tt1]; exact hq.1) haq (by rw [hdo]; exact h120)
  have e2 : putDoor (st f names (rmsI T rs T.length ++ [[]]) 1) a (tossD a q) = st f names ((rmsI T rs T.length ++ [[]]).set k ((rmsI T rs T.length ++ [[]]).getD k [] ++ [tossD a q])) 1 := by
    rw [← hka]
    exact putDoor_st hN hJl (by omega) _
  rw [e2] at g2
  generalize rmsI T rs T.length ++ [[]] = J at *
  have sT : SmDoor names (tossD a q) := by
    have h2 : (2 : Nat) < 2 ^ 200 := by decide +kernel
    refine ⟨by show 1 ≤ 100; decide, by show 1 < 2 ^ 200; omega, by show 1 < 2 ^ 200; omega, by show 2 ≤ 10; decide, fun p hp => ?_⟩
    rcases List.mem_cons.mp hp with rfl | hp
    · exact ⟨haN, by show 1 < 2 ^ 200; omega, by show 2 < 2 ^ 200; omega⟩
    · rw [List.mem_singleton.mp hp]
      exact ⟨hq.1, by show 1 < 2 ^ 200; omega, by show 2 < 2 ^ 200; omega⟩
  have dK : ∀ r ∈ J.set k (J.getD k [] ++ [tossD a q]), OkDoors names r ∧ r.length ≤ 4 ∧ ∀ d ∈ r, 10 ∉ d.name ∧ SmDoor names d := by
    have l10 : ∀ d : PDoor, (∃ j, j < 3 ∧ d.name = [gdab.getD j 0]) → 10 ∉ d.name := fun d ⟨j, hj, e⟩ => by
      rw [e]
      have : j = 0 ∨ j = 1 ∨ j = 2 := by omega
      rcases this with rfl | rfl | rfl <;> decide
    intro r h
    rcases List.mem_or_eq_of_mem_set h with h | rfl
    · obtain ⟨a1, a2, a3⟩ := dJ r h
      exact ⟨a1, by omega, fun d hd => ⟨l10 d (a3 d hd).1, (a3 d hd).2⟩⟩
    · obtain ⟨⟨b1, b2, b3⟩, a2, a3⟩ := dJ _ hr0
      refine ⟨⟨?_, by rw [List.length_append]; show _ + 1 ≤ 100; omega, fun d hd => ?_⟩, by rw [List.length_append]; show _ + 1 ≤ 4; omega, fun d hd => ?_⟩
      · rw [List.map_append]
        refine List.nodup_append.mpr ⟨b1, by simp, fun x hx y hy e => ?_⟩
        have : y = [120] := List.mem_singleton.mp hy
        rw [e, this] at hx
        exact h120 hx
      · rcases List.mem_append.mp hd with hd | hd
        · exact b3 d hd
        · rw [List.mem_singleton.mp hd]
          refine ⟨by show 1 ≤ 1000; decide, okPairs_toss haq, fun p hp => (sT.2.2.2.2 p hp).1⟩
      · rcases List.mem_append.mp hd with hd | hd
        · exact ⟨l10 d (a3 d hd).1, (a3 d hd).2⟩
        · rw [List.mem_singleton.mp hd]
          exact ⟨by show 10 ∉ [120]; decide, sT⟩
  have hKl : (J.set k (J.getD k [] ++ [tossD a q])).length = names.length := by rw [List.length_set]; exact hJl
  have ok2 := okD_st (g := 1) hf hN hKl (fun r h => (dK r h).1)
  have ok3 := okD_st (g := 2) hf hN hKl (fun r h => (dK r h).1)
  have g3 := good_goal (D := st f names (J.set k (J.getD k [] ++ [tossD a q])) 1) hqw (by rw [ttl_st hKl]; exact hq.1) (by show 1 < 1000; decide)
  refine ⟨[100, 111, 111, 114], [a, [120], [49], [116, 111, 115, 115], [49, 47, 50], a, q], by simp [TL.joinL], ?_, ?_, _, _, _, g1, ok1, g2, ok2, g3, ok3, smH_st hf hN hKl (fun r h => ⟨by have := (dK r h).2.1; omega, fun d hd => ((dK r h).2.2 d hd).2⟩), ?_⟩
  · obtain ⟨wd, rest, e, h1, h2⟩ := g2
    cases e
    exact h1
  · obtain ⟨wd, rest, e, h1, h2⟩ := nD ([[100, 111, 111, 114], a, [120], [49], [116, 111, 115, 115], [49, 47, 50], a, q], .room q) (by unfold noDoorsW; simp)
    cases e
    exact h2
  · intro e
    have e : showText (hallD (st f names (J.set k (J.getD k [] ++ [tossD a q])) 2)) = showText (hallD (finD f rs T 1)) := e
    unfold finD at e
    rw [given_st f 2 hKl, given_st f 1 (rmsI_len T rs _)] at e
    have e := show_inj e (showRows_10 hN.word fun os hos o ho => ?_) (showRows_10 hT.word fun os hos o ho => ?_)
    · have hm := room_there (f := f) (T := names) (G := (J.set k (J.getD k [] ++ [tossD a q])).map fun r => r.map (offerOf names)) (by rw [List.length_map]; exact hKl) hq.1
      rw [e] at hm
      exact hqT (room_row hm)
    · obtain ⟨r, h1, rfl⟩ := List.mem_map.mp hos
      obtain ⟨d, h2, rfl⟩ := List.mem_map.mp ho
      exact ((dK r h1).2.2 d h2).1
    · obtain ⟨r, h1, rfl⟩ := List.mem_map.mp hos
      obtain ⟨d, h2, rfl⟩ := List.mem_map.mp ho
      obtain ⟨j, hj, e⟩ := ((rms_door hT hr h1).2 d h2).1
      show 10 ∉ d.name
      rw [e]
      have : j = 0 ∨ j = 1 ∨ j = 2 := by omega
      rcases this with rfl | rfl | rfl <;> decide
end Dk
/-! the chain: from the facts of the ground to the law's body (printed by genfin.py) -/
namespace Dk
open PySem PySem.Spec PyProof.Rows L2
structure Gr (K : PySem.W.Frag) (mg : Str → Option Value) (A : Ad) : Prop where
  B : Blt mg
  T : Tx K mg A
  L : LF K mg A
  rd_Mixed : ClX.CRead K A.mixed (.type "type")
  fc_Mixed : ∀ f, Mk K A.mixed f → PySem.W.findCls K (.ref A.mixed) (.type "type") "__init__" = some (.val (.ref f)) ∧ PySem.W.keepIn K (.ref f) = true
  F_is_whole : Fn K mg "is_whole" s_is_whole
  F_divisor : Fn K mg "divisor" s_divisor
  F_ratio : Fn K mg "ratio" s_ratio
  F_plus : Fn K mg "plus" s_plus
  F_minus : Fn K mg "minus" s_minus
  F_under : Fn K mg "under" s_under
  F_is_ratio : Fn K mg "is_ratio" s_is_ratio
  F_level : Fn K mg "level" s_level
  F_total : Fn K mg "total" s_total
  F_is_word : Fn K mg "is_word" s_is_word
  F_whole_of : Fn K mg "whole_of" s_whole_of
  F_number_of : Fn K mg "number_of" s_number_of
  F_number_text : Fn K mg "number_text" s_number_text
  F_word_of : Fn K mg "word_of" s_word_of
  F_is_chance : Fn K mg "is_chance" s_is_chance
  F_is_share : Fn K mg "is_share" s_is_share
  F_check_head : Fn K mg "check_head" s_check_head
  M_Door : ∃ (C : Addr) (mc : Value) (f : Addr) (fd : FuncData), mg "Door" = some (.ref C) ∧ ClX.CRead K C mc ∧ PySem.W.findCls K (.ref C) mc "__init__" = some (.val (.ref f)) ∧ PySem.W.keepIn K (.ref f) = true ∧ FunD K "__init__" "Door.__init__" (defArgs s_Door___init__) (defBody s_Door___init__) (defScope s_Door___init__) [] [] f fd
  M_Sure : ∃ (f : Addr) (fd : FuncData), mg "Sure" = some (.ref A.sure) ∧ Mk K A.sure f ∧ FunD K "__init__" "Sure.__init__" (defArgs s_Sure___init__) (defBody s_Sure___init__) (defScope s_Sure___init__) [] [] f fd
  M_Mixed : ∃ (f : Addr) (fd : FuncData), mg "Mixed" = some (.ref A.mixed) ∧ Mk K A.mixed f ∧ FunD K "__init__" "Mixed.__init__" (defArgs s_Mixed___init__) (defBody s_Mixed___init__) (defScope s_Mixed___init__) [] [] f fd
  F_Mixed_ways : Mth K A.mixed "ways" "Mixed.ways" s_Mixed_ways
  F_Toss_ways : Mth K A.toss "ways" "Mixed.ways" s_Mixed_ways
  M_Toss : ∃ (f : Addr) (fd : FuncData), mg "Toss" = some (.ref A.toss) ∧ Mk K A.toss f ∧ FunD K "__init__" "Toss.__init__" (defArgs s_Toss___init__) (defBody s_Toss___init__) (defScope s_Toss___init__) [] [] f fd
  F_Hall_size : Mth K A.hall "size" "Hall.size" s_Hall_size
  F_Hall_names : Mth K A.hall "names" "Hall.names" s_Hall_names
  F_Hall_place : Mth K A.hall "place" "Hall.place" s_Hall_place
  F_Hall_check_room : Mth K A.hall "check_room" "Hall.check_room" s_Hall_check_room
  F_Hall_door_at : Mth K A.hall "door_at" "Hall.door_at" s_Hall_door_at
  F_Hall_offers : Mth K A.hall "offers" "Hall.offers" s_Hall_offers
  F_Hall_taken : Mth K A.hall "taken" "Hall.taken" s_Hall_taken
  M_Hall : ∃ (f : Addr) (fd : FuncData), mg "Hall" = some (.ref A.hall) ∧ Mk K A.hall f ∧ FunD K "__init__" "Hall.__init__" (defArgs s_Hall___init__) (defBody s_Hall___init__) (defScope s_Hall___init__) [] [] f fd
  F_told_plan : Fn K mg "told_plan" s_told_plan
  F_worth_answer : Fn K mg "worth_answer" s_worth_answer
  hw : ∃ u, mg "worths_of" = some u ∧ PySem.W.keepIn K u = true
  F_chance_answer : Fn K mg "chance_answer" s_chance_answer
  F_bounds_answer : Fn K mg "bounds_answer" s_bounds_answer
  F_run_answer : Fn K mg "run_answer" s_run_answer
  F_door_fits : Fn K mg "door_fits" s_door_fits
  F_row_fits : Fn K mg "row_fits" s_row_fits
  F_ways_text : Fn K mg "ways_text" s_ways_text
  F_show : Fn K mg "show" s_show
  F_door_of : Fn K mg "door_of" s_door_of
  hev : ∃ u, mg "Even" = some u ∧ PySem.W.keepIn K u = true
  M_Desk : ∃ (f : Addr) (fd : FuncData), mg "Desk" = some (.ref A.desk) ∧ Mk K A.desk f ∧ FunD K "__init__" "Desk.__init__" (defArgs s_Desk___init__) (defBody s_Desk___init__) (defScope s_Desk___init__) [] [] f fd
  F_Desk_hall_now : Mth K A.desk "hall_now" "Desk.hall_now" s_Desk_hall_now
  F_Desk_check_name : Mth K A.desk "check_name" "Desk.check_name" s_Desk_check_name
  F_Desk_set_share : Mth K A.desk "set_share" "Desk.set_share" s_Desk_set_share
  F_Desk_add_room : Mth K A.desk "add_room" "Desk.add_room" s_Desk_add_room
  F_Desk_add_door : Mth K A.desk "add_door" "Desk.add_door" s_Desk_add_door
  F_Desk_shut_door : Mth K A.desk "shut_door" "Desk.shut_door" s_Desk_shut_door
  F_Desk_done : Mth K A.desk "done" "Desk.done" s_Desk_done
  F_Desk_told : Mth K A.desk "told" "Desk.told" s_Desk_told
  F_Desk_say : Mth K A.desk "say" "Desk.say" s_Desk_say
  F__law_cell : Fn K mg "_law_cell" s__law_cell
  F__law_stream : Fn K mg "_law_stream" s__law_stream
  F__law_gcd : Fn K mg "_law_gcd" s__law_gcd
  F__law_lowest : Fn K mg "_law_lowest" s__law_lowest
  F__law_number : Fn K mg "_law_number" s__law_number
  F__law_words : Fn K mg "_law_words" s__law_words
  F__law_doors : Fn K mg "_law_doors" s__law_doors
  F__law_drawn : Fn K mg "_law_drawn" s__law_drawn
  F__law_chances : Fn K mg "_law_chances" s__law_chances
  F__law_rows : Fn K mg "_law_rows" s__law_rows
  F__law_no_doors : Fn K mg "_law_no_doors" s__law_no_doors
  F__law_others : Fn K mg "_law_others" s__law_others
  F__law_no_rows : Fn K mg "_law_no_rows" s__law_no_rows
  F__law_plans : Fn K mg "_law_plans" s__law_plans
  F__law_only : Fn K mg "_law_only" s__law_only
  F__law_refused : Fn K mg "_law_refused" s__law_refused
section
variable {P : Program} {w : World} {K : PySem.W.Frag} {mg : Str → Option Value} {base : Heap} {A : Ad}
theorem cfn_of_mak {k : Nat} {x : Str} {C : Addr} {sp : Sp} (M : MakX P w K mg base k x C sp) (rd : ClX.CRead K C (.type "type")) (fc : ∀ f, Mk K C f → PySem.W.findCls K (.ref C) (.type "type") "__init__" = some (.val (.ref f)) ∧ PySem.W.keepIn K (.ref f) = true) : CfnX P w K mg base k x "__init__" sp := by
  obtain ⟨g, f, fd, ps, mk, b, F⟩ := M
  exact ⟨C, _, f, fd, ps, g, rd, (fc f mk).1, (fc f mk).2, b, F⟩
theorem chain (G : Gr K mg A) : BodyOk P w K mg base 12 ["_law_script", "_law_share", "_law_rooms", "_law_many", "_law_names", "_law_desk", "_law_rows_here", "_law_row", "_law_text", "_law_a", "_law_menus", "_law_cell_here", "_law_menu", "_law_at", "_law_field"] "law" s_law (spLaw K) := by
  obtain ⟨B, T, L, rd_Mixed, fc_Mixed, F_is_whole, F_divisor, F_ratio, F_plus, F_minus, F_under, F_is_ratio, F_level, F_total, F_is_word, F_whole_of, F_number_of, F_number_text, F_word_of, F_is_chance, F_is_share, F_check_head, M_Door, M_Sure, M_Mixed, F_Mixed_ways, F_Toss_ways, M_Toss, F_Hall_size, F_Hall_names, F_Hall_place, F_Hall_check_room, F_Hall_door_at, F_Hall_offers, F_Hall_taken, M_Hall, F_told_plan, F_worth_answer, hw, F_chance_answer, F_bounds_answer, F_run_answer, F_door_fits, F_row_fits, F_ways_text, F_show, F_door_of, hev, M_Desk, F_Desk_hall_now, F_Desk_check_name, F_Desk_set_share, F_Desk_add_room, F_Desk_add_door, F_Desk_shut_door, F_Desk_done, F_Desk_told, F_Desk_say, F__law_cell, F__law_stream, F__law_gcd, F__law_lowest, F__law_number, F__law_words, F__law_doors, F__law_drawn, F__law_chances, F__law_rows, F__law_no_doors, F__law_others, F__law_no_rows, F__law_plans, F__law_only, F__law_refused⟩ := G
  have c_is_whole : CalX P w K mg base 1 "is_whole" spIsWhole := cal_is_whole F_is_whole B
  have c_divisor : CalX P w K mg base 1 "divisor" spDivisor := cal_divisor F_divisor B
  have c_ratio : CalX P w K mg base 2 "ratio" spRatio := cal_ratio F_ratio B c_is_whole c_divisor
  have c_plus : CalX P w K mg base 3 "plus" (spBin plusF) := cal_plus F_plus B c_ratio
  have c_minus : CalX P w K mg base 3 "minus" (spBin minusF) := cal_minus F_minus B c_ratio
  have c_under : CalX P w K mg base 1 "under" spUnder := cal_under F_under B
  have c_is_ratio : CalX P w K mg base 2 "is_ratio" spIsRatio := cal_is_ratio F_is_ratio B c_is_whole c_divisor
  have c_level : CalX P w K mg base 2 "level" spLevel := cal_level F_level B c_divisor
  have c_total : CalX P w K mg base 3 "total" spTotal := cal_total F_total B c_ratio c_level
  have R_NoRow : RaX P w K mg base "NoRow" A.row (spXi A.row "row") := ra_NoRow T
  have R_NoRoom : RaX P w K mg base "NoRoom" A.room (spXi A.room "room") := ra_NoRoom T
  have R_NoDoor : RaX P w K mg base "NoDoor" A.door (spXi A.door "door") := ra_NoDoor T
  have R_NoPlan : RaX P w K mg base "NoPlan" A.plan (spXi A.plan "room") := ra_NoPlan T
  have c_is_word : CalX P w K mg base 1 "is_word" spIsWord := cal_is_word F_is_word B T
  have c_whole_of : CalX P w K mg base 1 "whole_of" spWholeOf := cal_whole_of F_whole_of B T
  have c_number_of : CalX P w K mg base 2 "number_of" (spNumberOf A) := cal_number_of F_number_of B T c_whole_of c_divisor
  have c_number_text : CalX P w K mg base 1 "number_text" spNumText := cal_number_text F_number_text B
  have c_word_of : CalX P w K mg base 2 "word_of" (spWordOf A) := cal_word_of F_word_of B T c_is_word
  have c_is_chance : CalX P w K mg base 3 "is_chance" (spIsF isChanceF) := cal_is_chance F_is_chance B c_is_ratio c_under
  have c_is_share : CalX P w K mg base 3 "is_share" (spIsF isShareF) := cal_is_share F_is_share B c_is_ratio c_under
  have c_check_head : CalX P w K mg base 3 "check_head" spCheckHead := cal_check_head F_check_head B c_is_ratio c_is_word
  have f_Door___init__ : CfnX P w K mg base 4 "Door" "__init__" (spDoorInit A) := cfn_door M_Door T c_check_head
  have k_Sure : MakX P w K mg base 5 "Sure" A.sure (spSureInit A) := mak_sure M_Sure T f_Door___init__ c_is_word
  have k_Mixed : MakX P w K mg base 5 "Mixed" A.mixed (spMixedInit A) := mak_mixed B M_Mixed T f_Door___init__ c_is_word c_is_chance c_total
  have f_Mixed___init__ : CfnX P w K mg base 5 "Mixed" "__init__" (spMixedInit A) := cfn_of_mak k_Mixed rd_Mixed fc_Mixed
  have m_Mixed_ways : MetX P w K mg base 4 A.mixed "ways" (spWays A) := met_ways (D := A.mixed) B F_Mixed_ways T c_plus
  have m_Toss_ways : MetX P w K mg base 4 A.toss "ways" (spWays A) := met_ways (D := A.toss) B F_Toss_ways T c_plus
  have k_Toss : MakX P w K mg base 6 "Toss" A.toss (spTossInit A) := mak_toss M_Toss T f_Mixed___init__ c_check_head c_is_chance c_minus
  have m_Hall_size : MetX P w K mg base 1 A.hall "size" (spSize A) := met_size F_Hall_size B T
  have m_Hall_names : MetX P w K mg base 1 A.hall "names" (spNames A) := met_names F_Hall_names B T
  have m_Hall_place : MetX P w K mg base 3 A.hall "place" (spPlace A) := met_place F_Hall_place B T R_NoRoom
  have m_Hall_check_room : MetX P w K mg base 2 A.hall "check_room" (spCheckRoom A) := met_check_room F_Hall_check_room B T c_is_whole
  have m_Hall_door_at : MetX P w K mg base 3 A.hall "door_at" (spDoorAt A) := met_door_at F_Hall_door_at B T m_Hall_check_room R_NoDoor
  have m_Hall_offers : MetX P w K mg base 3 A.hall "offers" (spOffers A) := met_offers F_Hall_offers B T m_Hall_check_room
  have m_Hall_taken : MetX P w K mg base 5 A.hall "taken" (spTaken A) := met_taken F_Hall_taken B T m_Hall_place m_Mixed_ways m_Toss_ways
  have k_Hall : MakX P w K mg base 6 "Hall" A.hall (spHallInit A) := mak_hall B M_Hall T m_Hall_taken c_is_word c_is_share
  have c_told_plan : CalX P w K mg base 4 "told_plan" (spToldPlan A) := cal_told_plan F_told_plan B T R_NoPlan m_Hall_size m_Hall_offers m_Hall_door_at
  have c_worth_answer : CalX P w K mg base 5 "worth_answer" (spToldPlan A) := cal_worth F_worth_answer B T hw c_told_plan
  have c_chance_answer : CalX P w K mg base 4 "chance_answer" (spChance A) := cal_chance F_chance_answer B T m_Hall_place
  have c_bounds_answer : CalX P w K mg base 4 "bounds_answer" (spBounds A) := cal_bounds F_bounds_answer B T c_number_of m_Hall_place
  have c_run_answer : CalX P w K mg base 4 "run_answer" (spRun A) := cal_run F_run_answer B T c_number_of m_Hall_place
  have c_door_fits : CalX P w K mg base 1 "door_fits" (spFits doorFits) := cal_door_fits F_door_fits B
  have c_row_fits : CalX P w K mg base 2 "row_fits" spRowFits := cal_row_fits F_row_fits B T c_door_fits
  have c_ways_text : CalX P w K mg base 2 "ways_text" spWaysText := cal_ways_text F_ways_text B c_number_text
  have c_show : CalX P w K mg base 4 "show" (spShow A) := cal_show F_show B T c_number_text c_ways_text m_Hall_names m_Hall_size m_Hall_offers
  have c_door_of : CalX P w K mg base 8 "door_of" (spDoorOf A) := cal_door_of F_door_of B T R_NoRow hev c_door_fits c_word_of c_number_of k_Sure k_Toss k_Mixed
  have k_Desk : MakX P w K mg base 1 "Desk" A.desk (spDeskInit A) := mak_desk B M_Desk T
  have m_Desk_hall_now : MetX P w K mg base 8 A.desk "hall_now" (spHallNow A) := met_hall_now F_Desk_hall_now B T k_Hall
  have m_Desk_check_name : MetX P w K mg base 3 A.desk "check_name" (spCheckName A) := met_check_name F_Desk_check_name B T R_NoRoom
  have m_Desk_set_share : MetX P w K mg base 4 A.desk "set_share" (spSetShare A) := met_set_share F_Desk_set_share B T c_number_of c_is_share
  have m_Desk_add_room : MetX P w K mg base 2 A.desk "add_room" (spAddRoom A) := met_add_room F_Desk_add_room B T c_is_word
  have m_Desk_add_door : MetX P w K mg base 9 A.desk "add_door" (spAddDoor A) := met_add_door F_Desk_add_door B T m_Desk_check_name c_door_of m_Mixed_ways m_Toss_ways
  have m_Desk_shut_door : MetX P w K mg base 4 A.desk "shut_door" (spShutDoor A) := met_shut_door F_Desk_shut_door B T m_Desk_check_name R_NoDoor
  have m_Desk_done : MetX P w K mg base 10 A.desk "done" (spDone A) := met_done F_Desk_done B T m_Desk_check_name m_Desk_set_share m_Desk_add_room m_Desk_add_door m_Desk_shut_door
  have m_Desk_told : MetX P w K mg base 9 A.desk "told" (spTold A) := met_told F_Desk_told B T m_Desk_hall_now m_Hall_names c_worth_answer c_chance_answer c_bounds_answer c_run_answer c_show
  have m_Desk_say : MetX P w K mg base 11 A.desk "say" (spSay A K) := met_say F_Desk_say B T c_row_fits R_NoRow m_Desk_done m_Desk_told
  have c__law_cell : CalX P w K mg base 1 "_law_cell" (spCell K) := cal_cell F__law_cell B
  have c__law_stream : CalX P w K mg base 1 "_law_stream" spStream := cal_stream F__law_stream B
  have c__law_gcd : CalX P w K mg base 1 "_law_gcd" spGcd := cal_gcd F__law_gcd B
  have c__law_lowest : CalX P w K mg base 2 "_law_lowest" spLowest := cal_lowest F__law_lowest B c__law_gcd
  have c__law_number : CalX P w K mg base 1 "_law_number" spNumText := cal_number F__law_number B
  have c__law_words : CalX P w K mg base 1 "_law_words" spWordsL := cal_words F__law_words B
  have c__law_doors : CalX P w K mg base 3 "_law_doors" spDoorsL := cal_doors F__law_doors B c__law_stream c__law_lowest
  have c__law_drawn : CalX P w K mg base 4 "_law_drawn" (spDrawn K) := cal_drawn F__law_drawn B c__law_cell c__law_stream c__law_lowest c__law_doors
  have c__law_chances : CalX P w K mg base 3 "_law_chances" spChances := cal_chances F__law_chances B c__law_lowest
  have c__law_rows : CalX P w K mg base 4 "_law_rows" spRows := cal_rows F__law_rows B c__law_number c__law_chances
  have c__law_no_doors : CalX P w K mg base 1 "_law_no_doors" (spMenu2 noDoorsM) := cal_no_doors F__law_no_doors B
  have c__law_others : CalX P w K mg base 1 "_law_others" (spMenu2 othersM) := cal_others F__law_others B
  have c__law_no_rows : CalX P w K mg base 1 "_law_no_rows" spNoRows := cal_no_rows F__law_no_rows B
  have c__law_plans : CalX P w K mg base 1 "_law_plans" spPlans := cal_plans F__law_plans B
  have c__law_only : CalX P w K mg base 1 "_law_only" (spOnly A) := cal_only F__law_only B T L
  have c__law_refused : CalX P w K mg base 12 "_law_refused" (spRefused A) := cal_refused F__law_refused B T L c__law_only m_Desk_say
  exact body_law B T L plainLaw c__law_cell c__law_drawn c__law_words c__law_rows c__law_no_rows c__law_no_doors c__law_others c__law_plans k_Desk m_Desk_say c__law_refused
end
end Dk
/-! the facts of the ground, by names (printed by genfacts.py) -/
namespace Dk
open PySem PySem.Spec PyProof.Rows L2
theorem oexB_ok {K : PySem.W.Frag} {C : Addr} (h : oexB K C = true) : OexC K C := by
  obtain ⟨q, h⟩ := He.ba h
  obtain ⟨h1, h⟩ := He.ba h
  obtain ⟨h2, h⟩ := He.ba h
  obtain ⟨h3, h4⟩ := He.ba h
  refine ⟨?_, of_decide_eq_true h1, of_decide_eq_true h2, of_decide_eq_true h3, h4⟩
  split at q
  · rename_i dd cd sl ho
    split at q
    · rename_i C' bm k0 k1 k2 k3 n k5 hm hs
      simp only [Bool.and_eq_true, beq_iff_eq, Bool.not_eq_true'] at q
      obtain ⟨⟨⟨⟨rfl, rfl⟩, hdel⟩, hdict⟩, hve⟩ := q
      obtain ⟨nm, bs, mro, ns, qn, hd, sn, sub, ab, col, del⟩ := cd
      dsimp only at hm hdel hdict
      subst hm hdel hdict
      have hsl : sl = #[k0, k1, k2, k3, some (.builtin "ValueError.__new__"), k5] := by
        obtain ⟨l⟩ := sl
        simp only at hs
        rw [hs]
      subst hsl
      exact ⟨nm, qn, ns, bs, bm, sn, sub, ab, col, dd, k0, k1, k2, k3, k5, ho, hve⟩
    · cases q
  · cases q
theorem excCB_ok {K : PySem.W.Frag} {D : Addr} (h : excCB K D = true) : ExcC K D := by
  obtain ⟨h1, h⟩ := He.ba h
  obtain ⟨h2, h⟩ := He.ba h
  obtain ⟨h3, h⟩ := He.ba h
  obtain ⟨h4, h⟩ := He.ba h
  obtain ⟨h5, h⟩ := He.ba h
  obtain ⟨h6, h⟩ := He.ba h
  obtain ⟨h7, h8⟩ := He.ba h
  exact ⟨of_decide_eq_true h1, of_decide_eq_true h2, of_decide_eq_true h3, h4, of_decide_eq_true h5, of_decide_eq_true h6, of_decide_eq_true h7, of_decide_eq_true h8⟩
theorem creadB_ok {K : PySem.W.Frag} {C : Addr} (h : creadB K C = true) : ClX.CRead K C (.type "type") := ⟨(He.ba h).1, of_decide_eq_true (He.ba h).2⟩
theorem clsBltB_ok {K : PySem.W.Frag} {C : Addr} {n : String} (h : clsBltB K C n = true) : PySem.W.findCls K (.ref C) (.type "type") "__init__" = some (.val (.builtin n)) := by
  unfold clsBltB at h
  split at h
  · rename_i m e
    rw [e, of_decide_eq_true h]
  · cases h
theorem clsRefB_ok {K : PySem.W.Frag} {C f : Addr} (h : clsRefB K C f = true) : PySem.W.findCls K (.ref C) (.type "type") "__init__" = some (.val (.ref f)) := by
  unfold clsRefB at h
  split at h
  · rename_i m e
    rw [e, of_decide_eq_true h]
  · cases h
theorem strV {mg : Str → Option Value} {x z : Str} (h : ∃ t, mg x = some (.str z t)) : ∃ u, mg x = some u ∧ RelV (.str z) u := let ⟨t, e⟩ := h; ⟨_, e, t, rfl⟩
theorem lstW {K : PySem.W.Frag} {H : Hp} {a : Addr} {ws : List Wd} (h : SqL K H a ((ws.map fun w => He.Dv.str (SX.S w)).map (He.Dv.v K))) : SqL K H a (ws.map sv) := by
  rw [List.map_map] at h
  exact h
def adOf (K : PySem.W.Frag) : Ad := ⟨He.ga K "NoNumber", He.ga K "NoName", He.ga K "NoChance", He.ga K "NoShare", He.ga K "NoText", He.ga K "NoRow", He.ga K "NoRoom", He.ga K "NoDoor", He.ga K "NoPlan", He.ga K "HallError", He.ga K "Door", He.ga K "Sure", He.ga K "Mixed", He.ga K "Toss", He.ga K "Hall", He.ga K "Desk", He.ga K "ONE", He.ga K "NONE"⟩
structure Says (K : PySem.W.Frag) : Prop where
  d : He.SaysD fa fn K
  e : exs.all (fun f => f K) = true
theorem exs_ok {K : PySem.W.Frag} (h : exs.all (fun f => f K) = true) (i : Nat) {f : PySem.W.Frag → Bool} (hi : exs[i]? = some f) : f K = true := List.all_eq_true.mp h f (List.mem_of_getElem? hi)
section
variable {K : PySem.W.Frag} {h : Heap} {mg : Str → Option Value}
theorem gr_of (X : K.In h) (G : h.Ns mainGlobals mg) (x : Says K) : Gr K mg (adOf K) where
  B := ⟨He.free_ok X G (x.d.fact 0 (f := .free "isinstance") rfl), He.free_ok X G (x.d.fact 1 (f := .free "int") rfl), He.free_ok X G (x.d.fact 2 (f := .free "bool") rfl), He.free_ok X G (x.d.fact 3 (f := .free "str") rfl), He.free_ok X G (x.d.fact 4 (f := .free "tuple") rfl), He.free_ok X G (x.d.fact 5 (f := .free "list") rfl), He.free_ok X G (x.d.fact 6 (f := .free "len") rfl), He.free_ok X G (x.d.fact 7 (f := .free "abs") rfl), He.free_ok X G (x.d.fact 8 (f := .free "all") rfl), He.free_ok X G (x.d.fact 9 (f := .free "sum") rfl), He.free_ok X G (x.d.fact 10 (f := .free "sorted") rfl), He.free_ok X G (x.d.fact 11 (f := .free "range") rfl), He.free_ok X G (x.d.fact 12 (f := .free "ValueError") rfl)⟩
  T := ⟨⟨(He.glo_ok X G (x.d.fact 13 (f := .glo "NoNumber") rfl)), (He.exc_ok (x.d.fact 14 (f := .exc "NoNumber") rfl)).1, (He.exc_ok (x.d.fact 14 (f := .exc "NoNumber") rfl)).2.1, (He.exc_ok (x.d.fact 14 (f := .exc "NoNumber") rfl)).2.2.1, (He.exc_ok (x.d.fact 14 (f := .exc "NoNumber") rfl)).2.2.2⟩,
    ⟨(He.glo_ok X G (x.d.fact 15 (f := .glo "NoName") rfl)), (He.exc_ok (x.d.fact 16 (f := .exc "NoName") rfl)).1, (He.exc_ok (x.d.fact 16 (f := .exc "NoName") rfl)).2.1, (He.exc_ok (x.d.fact 16 (f := .exc "NoName") rfl)).2.2.1, (He.exc_ok (x.d.fact 16 (f := .exc "NoName") rfl)).2.2.2⟩,
    ⟨(He.glo_ok X G (x.d.fact 17 (f := .glo "NoChance") rfl)), (He.exc_ok (x.d.fact 18 (f := .exc "NoChance") rfl)).1, (He.exc_ok (x.d.fact 18 (f := .exc "NoChance") rfl)).2.1, (He.exc_ok (x.d.fact 18 (f := .exc "NoChance") rfl)).2.2.1, (He.exc_ok (x.d.fact 18 (f := .exc "NoChance") rfl)).2.2.2⟩,
    ⟨(He.glo_ok X G (x.d.fact 19 (f := .glo "NoShare") rfl)), (He.exc_ok (x.d.fact 20 (f := .exc "NoShare") rfl)).1, (He.exc_ok (x.d.fact 20 (f := .exc "NoShare") rfl)).2.1, (He.exc_ok (x.d.fact 20 (f := .exc "NoShare") rfl)).2.2.1, (He.exc_ok (x.d.fact 20 (f := .exc "NoShare") rfl)).2.2.2⟩,
    (He.glo_ok X G (x.d.fact 21 (f := .glo "HallError") rfl)),
    ⟨.type "type", creadB_ok (exs_ok x.e 0 (f := fun K => creadB K (He.ga K "HallError")) rfl), clsBltB_ok (exs_ok x.e 1 (f := fun K => clsBltB K (He.ga K "HallError") "ValueError.__init__") rfl)⟩,
    ⟨(He.glo_ok X G (x.d.fact 22 (f := .glo "NoRow") rfl)), oexB_ok (exs_ok x.e 2 (f := fun K => oexB K (He.ga K "NoRow")) rfl), xfB_ok (exs_ok x.e 3 (f := fun K => xfB K (He.ga K "NoRow")) rfl), He.noat_ok (x.d.fact 23 (f := .noat "NoRow" "row") rfl), by obtain ⟨fd, F⟩ := x.d.def_ 0 rfl; exact ⟨_, fd, (He.meth_ok (x.d.fact 24 (f := .meth "NoRow" "__init__") rfl)).at_, of_decide_eq_true (exs_ok x.e 4 (f := fun K => decide (PySem.W.typeIn K (.ref (He.ma K (He.ga K "NoRow") "__init__")) = some (.type "function"))) rfl), F⟩⟩,
    ⟨(He.glo_ok X G (x.d.fact 25 (f := .glo "NoRoom") rfl)), oexB_ok (exs_ok x.e 5 (f := fun K => oexB K (He.ga K "NoRoom")) rfl), xfB_ok (exs_ok x.e 6 (f := fun K => xfB K (He.ga K "NoRoom")) rfl), He.noat_ok (x.d.fact 26 (f := .noat "NoRoom" "room") rfl), by obtain ⟨fd, F⟩ := x.d.def_ 1 rfl; exact ⟨_, fd, (He.meth_ok (x.d.fact 27 (f := .meth "NoRoom" "__init__") rfl)).at_, of_decide_eq_true (exs_ok x.e 7 (f := fun K => decide (PySem.W.typeIn K (.ref (He.ma K (He.ga K "NoRoom") "__init__")) = some (.type "function"))) rfl), F⟩⟩,
    ⟨(He.glo_ok X G (x.d.fact 28 (f := .glo "NoDoor") rfl)), oexB_ok (exs_ok x.e 8 (f := fun K => oexB K (He.ga K "NoDoor")) rfl), xfB_ok (exs_ok x.e 9 (f := fun K => xfB K (He.ga K "NoDoor")) rfl), He.noat_ok (x.d.fact 29 (f := .noat "NoDoor" "door") rfl), by obtain ⟨fd, F⟩ := x.d.def_ 2 rfl; exact ⟨_, fd, (He.meth_ok (x.d.fact 30 (f := .meth "NoDoor" "__init__") rfl)).at_, of_decide_eq_true (exs_ok x.e 10 (f := fun K => decide (PySem.W.typeIn K (.ref (He.ma K (He.ga K "NoDoor") "__init__")) = some (.type "function"))) rfl), F⟩⟩,
    ⟨(He.glo_ok X G (x.d.fact 31 (f := .glo "NoPlan") rfl)), oexB_ok (exs_ok x.e 11 (f := fun K => oexB K (He.ga K "NoPlan")) rfl), xfB_ok (exs_ok x.e 12 (f := fun K => xfB K (He.ga K "NoPlan")) rfl), He.noat_ok (x.d.fact 32 (f := .noat "NoPlan" "room") rfl), by obtain ⟨fd, F⟩ := x.d.def_ 3 rfl; exact ⟨_, fd, (He.meth_ok (x.d.fact 33 (f := .meth "NoPlan" "__init__") rfl)).at_, of_decide_eq_true (exs_ok x.e 13 (f := fun K => decide (PySem.W.typeIn K (.ref (He.ma K (He.ga K "NoPlan") "__init__")) = some (.type "function"))) rfl), F⟩⟩,
    strV (He.str_ok X G (x.d.fact 34 (f := .str "LETTERS" (SX.S letters)) rfl)),
    strV (He.str_ok X G (x.d.fact 35 (f := .str "FIGURES" (SX.S figures)) rfl)),
    (He.glo_ok X G (x.d.fact 36 (f := .glo "ONE") rfl)),
    fun H => lstW (He.lstB_ok (exs_ok x.e 14 (f := fun K => He.lstB K "ONE" (ones.map fun w => He.Dv.str (SX.S w))) rfl) H),
    (He.glo_ok X G (x.d.fact 37 (f := .glo "NONE") rfl)),
    fun H => lstW (He.lstB_ok (exs_ok x.e 15 (f := fun K => He.lstB K "NONE" (nones.map fun w => He.Dv.str (SX.S w))) rfl) H),
    ⟨He.cls_ok (x.d.fact 38 (f := .cls "Sure") rfl), fun f hf => by
      simp only [List.mem_cons, List.not_mem_nil, or_false] at hf
      rcases hf with rfl | rfl | rfl
      · exact He.noat_ok (x.d.fact 39 (f := .noat "Sure" "name") rfl)
      · exact He.noat_ok (x.d.fact 40 (f := .noat "Sure" "pay") rfl)
      · exact He.noat_ok (x.d.fact 41 (f := .noat "Sure" "room") rfl)
      ⟩,
    ⟨He.cls_ok (x.d.fact 42 (f := .cls "Mixed") rfl), fun f hf => by
      simp only [List.mem_cons, List.not_mem_nil, or_false] at hf
      rcases hf with rfl | rfl | rfl
      · exact He.noat_ok (x.d.fact 43 (f := .noat "Mixed" "name") rfl)
      · exact He.noat_ok (x.d.fact 44 (f := .noat "Mixed" "pay") rfl)
      · exact He.noat_ok (x.d.fact 45 (f := .noat "Mixed" "pairs") rfl)
      ⟩,
    ⟨He.cls_ok (x.d.fact 46 (f := .cls "Toss") rfl), fun f hf => by
      simp only [List.mem_cons, List.not_mem_nil, or_false] at hf
      rcases hf with rfl | rfl | rfl
      · exact He.noat_ok (x.d.fact 47 (f := .noat "Toss" "name") rfl)
      · exact He.noat_ok (x.d.fact 48 (f := .noat "Toss" "pay") rfl)
      · exact He.noat_ok (x.d.fact 49 (f := .noat "Toss" "pairs") rfl)
      ⟩,
    ⟨He.cls_ok (x.d.fact 50 (f := .cls "Hall") rfl), fun f hf => by
      simp only [List.mem_cons, List.not_mem_nil, or_false] at hf
      rcases hf with rfl | rfl | rfl
      · exact He.noat_ok (x.d.fact 51 (f := .noat "Hall" "share") rfl)
      · exact He.noat_ok (x.d.fact 52 (f := .noat "Hall" "titles") rfl)
      · exact He.noat_ok (x.d.fact 53 (f := .noat "Hall" "given") rfl)
      ⟩,
    ⟨He.cls_ok (x.d.fact 54 (f := .cls "Desk") rfl), fun f hf => by
      simp only [List.mem_cons, List.not_mem_nil, or_false] at hf
      rcases hf with rfl | rfl | rfl
      · exact He.noat_ok (x.d.fact 55 (f := .noat "Desk" "share") rfl)
      · exact He.noat_ok (x.d.fact 56 (f := .noat "Desk" "rooms") rfl)
      · exact He.noat_ok (x.d.fact 57 (f := .noat "Desk" "marks") rfl)
      ⟩⟩
  L := ⟨((He.glo_ok X G (x.d.fact 58 (f := .glo "NoText") rfl))    ),
    (fun e => by cases e with
      | num => exact excCB_ok (exs_ok x.e 16 (f := fun K => excCB K (He.ga K "NoNumber")) rfl)
      | name => exact excCB_ok (exs_ok x.e 17 (f := fun K => excCB K (He.ga K "NoName")) rfl)
      | chance => exact excCB_ok (exs_ok x.e 18 (f := fun K => excCB K (He.ga K "NoChance")) rfl)
      | share => exact excCB_ok (exs_ok x.e 19 (f := fun K => excCB K (He.ga K "NoShare")) rfl)
      | row => exact excCB_ok (exs_ok x.e 20 (f := fun K => excCB K (He.ga K "NoRow")) rfl)
      | room z => exact excCB_ok (exs_ok x.e 21 (f := fun K => excCB K (He.ga K "NoRoom")) rfl)
      | door z => exact excCB_ok (exs_ok x.e 22 (f := fun K => excCB K (He.ga K "NoDoor")) rfl)
      | plan z => exact excCB_ok (exs_ok x.e 23 (f := fun K => excCB K (He.ga K "NoPlan")) rfl)
    ),
    (fun e => by cases e with
      | num => exact of_decide_eq_true (exs_ok x.e 24 (f := fun K => decide (PySem.W.kitOne K (.ref (He.ga K "NoNumber")) (.type "ValueError") = some true)) rfl)
      | name => exact of_decide_eq_true (exs_ok x.e 25 (f := fun K => decide (PySem.W.kitOne K (.ref (He.ga K "NoName")) (.type "ValueError") = some true)) rfl)
      | chance => exact of_decide_eq_true (exs_ok x.e 26 (f := fun K => decide (PySem.W.kitOne K (.ref (He.ga K "NoChance")) (.type "ValueError") = some true)) rfl)
      | share => exact of_decide_eq_true (exs_ok x.e 27 (f := fun K => decide (PySem.W.kitOne K (.ref (He.ga K "NoShare")) (.type "ValueError") = some true)) rfl)
      | row => exact of_decide_eq_true (exs_ok x.e 28 (f := fun K => decide (PySem.W.kitOne K (.ref (He.ga K "NoRow")) (.type "ValueError") = some true)) rfl)
      | room z => exact of_decide_eq_true (exs_ok x.e 29 (f := fun K => decide (PySem.W.kitOne K (.ref (He.ga K "NoRoom")) (.type "ValueError") = some true)) rfl)
      | door z => exact of_decide_eq_true (exs_ok x.e 30 (f := fun K => decide (PySem.W.kitOne K (.ref (He.ga K "NoDoor")) (.type "ValueError") = some true)) rfl)
      | plan z => exact of_decide_eq_true (exs_ok x.e 31 (f := fun K => decide (PySem.W.kitOne K (.ref (He.ga K "NoPlan")) (.type "ValueError") = some true)) rfl)
    ),
    (fun e => by cases e with
      | num => exact of_decide_eq_true (exs_ok x.e 32 (f := fun K => decide (PySem.W.kitOne K (.ref (He.ga K "NoNumber")) (.ref (He.ga K "NoNumber")) = some true)) rfl)
      | name => exact of_decide_eq_true (exs_ok x.e 33 (f := fun K => decide (PySem.W.kitOne K (.ref (He.ga K "NoName")) (.ref (He.ga K "NoNumber")) = some false)) rfl)
      | chance => exact of_decide_eq_true (exs_ok x.e 34 (f := fun K => decide (PySem.W.kitOne K (.ref (He.ga K "NoChance")) (.ref (He.ga K "NoNumber")) = some false)) rfl)
      | share => exact of_decide_eq_true (exs_ok x.e 35 (f := fun K => decide (PySem.W.kitOne K (.ref (He.ga K "NoShare")) (.ref (He.ga K "NoNumber")) = some false)) rfl)
      | row => exact of_decide_eq_true (exs_ok x.e 36 (f := fun K => decide (PySem.W.kitOne K (.ref (He.ga K "NoRow")) (.ref (He.ga K "NoNumber")) = some false)) rfl)
      | room z => exact of_decide_eq_true (exs_ok x.e 37 (f := fun K => decide (PySem.W.kitOne K (.ref (He.ga K "NoRoom")) (.ref (He.ga K "NoNumber")) = some false)) rfl)
      | door z => exact of_decide_eq_true (exs_ok x.e 38 (f := fun K => decide (PySem.W.kitOne K (.ref (He.ga K "NoDoor")) (.ref (He.ga K "NoNumber")) = some false)) rfl)
      | plan z => exact of_decide_eq_true (exs_ok x.e 39 (f := fun K => decide (PySem.W.kitOne K (.ref (He.ga K "NoPlan")) (.ref (He.ga K "NoNumber")) = some false)) rfl)
    ),
    (fun e => by cases e with
      | num => exact of_decide_eq_true (exs_ok x.e 40 (f := fun K => decide (PySem.W.kitOne K (.ref (He.ga K "NoNumber")) (.ref (He.ga K "NoName")) = some false)) rfl)
      | name => exact of_decide_eq_true (exs_ok x.e 41 (f := fun K => decide (PySem.W.kitOne K (.ref (He.ga K "NoName")) (.ref (He.ga K "NoName")) = some true)) rfl)
      | chance => exact of_decide_eq_true (exs_ok x.e 42 (f := fun K => decide (PySem.W.kitOne K (.ref (He.ga K "NoChance")) (.ref (He.ga K "NoName")) = some false)) rfl)
      | share => exact of_decide_eq_true (exs_ok x.e 43 (f := fun K => decide (PySem.W.kitOne K (.ref (He.ga K "NoShare")) (.ref (He.ga K "NoName")) = some false)) rfl)
      | row => exact of_decide_eq_true (exs_ok x.e 44 (f := fun K => decide (PySem.W.kitOne K (.ref (He.ga K "NoRow")) (.ref (He.ga K "NoName")) = some false)) rfl)
      | room z => exact of_decide_eq_true (exs_ok x.e 45 (f := fun K => decide (PySem.W.kitOne K (.ref (He.ga K "NoRoom")) (.ref (He.ga K "NoName")) = some false)) rfl)
      | door z => exact of_decide_eq_true (exs_ok x.e 46 (f := fun K => decide (PySem.W.kitOne K (.ref (He.ga K "NoDoor")) (.ref (He.ga K "NoName")) = some false)) rfl)
      | plan z => exact of_decide_eq_true (exs_ok x.e 47 (f := fun K => decide (PySem.W.kitOne K (.ref (He.ga K "NoPlan")) (.ref (He.ga K "NoName")) = some false)) rfl)
    ),
    (fun e => by cases e with
      | num => exact of_decide_eq_true (exs_ok x.e 48 (f := fun K => decide (PySem.W.kitOne K (.ref (He.ga K "NoNumber")) (.ref (He.ga K "NoChance")) = some false)) rfl)
      | name => exact of_decide_eq_true (exs_ok x.e 49 (f := fun K => decide (PySem.W.kitOne K (.ref (He.ga K "NoName")) (.ref (He.ga K "NoChance")) = some false)) rfl)
      | chance => exact of_decide_eq_true (exs_ok x.e 50 (f := fun K => decide (PySem.W.kitOne K (.ref (He.ga K "NoChance")) (.ref (He.ga K "NoChance")) = some true)) rfl)
      | share => exact of_decide_eq_true (exs_ok x.e 51 (f := fun K => decide (PySem.W.kitOne K (.ref (He.ga K "NoShare")) (.ref (He.ga K "NoChance")) = some false)) rfl)
      | row => exact of_decide_eq_true (exs_ok x.e 52 (f := fun K => decide (PySem.W.kitOne K (.ref (He.ga K "NoRow")) (.ref (He.ga K "NoChance")) = some false)) rfl)
      | room z => exact of_decide_eq_true (exs_ok x.e 53 (f := fun K => decide (PySem.W.kitOne K (.ref (He.ga K "NoRoom")) (.ref (He.ga K "NoChance")) = some false)) rfl)
      | door z => exact of_decide_eq_true (exs_ok x.e 54 (f := fun K => decide (PySem.W.kitOne K (.ref (He.ga K "NoDoor")) (.ref (He.ga K "NoChance")) = some false)) rfl)
      | plan z => exact of_decide_eq_true (exs_ok x.e 55 (f := fun K => decide (PySem.W.kitOne K (.ref (He.ga K "NoPlan")) (.ref (He.ga K "NoChance")) = some false)) rfl)
    ),
    (fun e => by cases e with
      | num => exact of_decide_eq_true (exs_ok x.e 56 (f := fun K => decide (PySem.W.kitOne K (.ref (He.ga K "NoNumber")) (.ref (He.ga K "NoShare")) = some false)) rfl)
      | name => exact of_decide_eq_true (exs_ok x.e 57 (f := fun K => decide (PySem.W.kitOne K (.ref (He.ga K "NoName")) (.ref (He.ga K "NoShare")) = some false)) rfl)
      | chance => exact of_decide_eq_true (exs_ok x.e 58 (f := fun K => decide (PySem.W.kitOne K (.ref (He.ga K "NoChance")) (.ref (He.ga K "NoShare")) = some false)) rfl)
      | share => exact of_decide_eq_true (exs_ok x.e 59 (f := fun K => decide (PySem.W.kitOne K (.ref (He.ga K "NoShare")) (.ref (He.ga K "NoShare")) = some true)) rfl)
      | row => exact of_decide_eq_true (exs_ok x.e 60 (f := fun K => decide (PySem.W.kitOne K (.ref (He.ga K "NoRow")) (.ref (He.ga K "NoShare")) = some false)) rfl)
      | room z => exact of_decide_eq_true (exs_ok x.e 61 (f := fun K => decide (PySem.W.kitOne K (.ref (He.ga K "NoRoom")) (.ref (He.ga K "NoShare")) = some false)) rfl)
      | door z => exact of_decide_eq_true (exs_ok x.e 62 (f := fun K => decide (PySem.W.kitOne K (.ref (He.ga K "NoDoor")) (.ref (He.ga K "NoShare")) = some false)) rfl)
      | plan z => exact of_decide_eq_true (exs_ok x.e 63 (f := fun K => decide (PySem.W.kitOne K (.ref (He.ga K "NoPlan")) (.ref (He.ga K "NoShare")) = some false)) rfl)
    ),
    (fun e => by cases e with
      | num => exact of_decide_eq_true (exs_ok x.e 64 (f := fun K => decide (PySem.W.kitOne K (.ref (He.ga K "NoNumber")) (.ref (He.ga K "NoText")) = some false)) rfl)
      | name => exact of_decide_eq_true (exs_ok x.e 65 (f := fun K => decide (PySem.W.kitOne K (.ref (He.ga K "NoName")) (.ref (He.ga K "NoText")) = some false)) rfl)
      | chance => exact of_decide_eq_true (exs_ok x.e 66 (f := fun K => decide (PySem.W.kitOne K (.ref (He.ga K "NoChance")) (.ref (He.ga K "NoText")) = some false)) rfl)
      | share => exact of_decide_eq_true (exs_ok x.e 67 (f := fun K => decide (PySem.W.kitOne K (.ref (He.ga K "NoShare")) (.ref (He.ga K "NoText")) = some false)) rfl)
      | row => exact of_decide_eq_true (exs_ok x.e 68 (f := fun K => decide (PySem.W.kitOne K (.ref (He.ga K "NoRow")) (.ref (He.ga K "NoText")) = some false)) rfl)
      | room z => exact of_decide_eq_true (exs_ok x.e 69 (f := fun K => decide (PySem.W.kitOne K (.ref (He.ga K "NoRoom")) (.ref (He.ga K "NoText")) = some false)) rfl)
      | door z => exact of_decide_eq_true (exs_ok x.e 70 (f := fun K => decide (PySem.W.kitOne K (.ref (He.ga K "NoDoor")) (.ref (He.ga K "NoText")) = some false)) rfl)
      | plan z => exact of_decide_eq_true (exs_ok x.e 71 (f := fun K => decide (PySem.W.kitOne K (.ref (He.ga K "NoPlan")) (.ref (He.ga K "NoText")) = some false)) rfl)
    ),
    (fun e => by cases e with
      | num => exact of_decide_eq_true (exs_ok x.e 72 (f := fun K => decide (PySem.W.kitOne K (.ref (He.ga K "NoNumber")) (.ref (He.ga K "NoRow")) = some false)) rfl)
      | name => exact of_decide_eq_true (exs_ok x.e 73 (f := fun K => decide (PySem.W.kitOne K (.ref (He.ga K "NoName")) (.ref (He.ga K "NoRow")) = some false)) rfl)
      | chance => exact of_decide_eq_true (exs_ok x.e 74 (f := fun K => decide (PySem.W.kitOne K (.ref (He.ga K "NoChance")) (.ref (He.ga K "NoRow")) = some false)) rfl)
      | share => exact of_decide_eq_true (exs_ok x.e 75 (f := fun K => decide (PySem.W.kitOne K (.ref (He.ga K "NoShare")) (.ref (He.ga K "NoRow")) = some false)) rfl)
      | row => exact of_decide_eq_true (exs_ok x.e 76 (f := fun K => decide (PySem.W.kitOne K (.ref (He.ga K "NoRow")) (.ref (He.ga K "NoRow")) = some true)) rfl)
      | room z => exact of_decide_eq_true (exs_ok x.e 77 (f := fun K => decide (PySem.W.kitOne K (.ref (He.ga K "NoRoom")) (.ref (He.ga K "NoRow")) = some false)) rfl)
      | door z => exact of_decide_eq_true (exs_ok x.e 78 (f := fun K => decide (PySem.W.kitOne K (.ref (He.ga K "NoDoor")) (.ref (He.ga K "NoRow")) = some false)) rfl)
      | plan z => exact of_decide_eq_true (exs_ok x.e 79 (f := fun K => decide (PySem.W.kitOne K (.ref (He.ga K "NoPlan")) (.ref (He.ga K "NoRow")) = some false)) rfl)
    ),
    (fun e => by cases e with
      | num => exact of_decide_eq_true (exs_ok x.e 80 (f := fun K => decide (PySem.W.kitOne K (.ref (He.ga K "NoNumber")) (.ref (He.ga K "NoRoom")) = some false)) rfl)
      | name => exact of_decide_eq_true (exs_ok x.e 81 (f := fun K => decide (PySem.W.kitOne K (.ref (He.ga K "NoName")) (.ref (He.ga K "NoRoom")) = some false)) rfl)
      | chance => exact of_decide_eq_true (exs_ok x.e 82 (f := fun K => decide (PySem.W.kitOne K (.ref (He.ga K "NoChance")) (.ref (He.ga K "NoRoom")) = some false)) rfl)
      | share => exact of_decide_eq_true (exs_ok x.e 83 (f := fun K => decide (PySem.W.kitOne K (.ref (He.ga K "NoShare")) (.ref (He.ga K "NoRoom")) = some false)) rfl)
      | row => exact of_decide_eq_true (exs_ok x.e 84 (f := fun K => decide (PySem.W.kitOne K (.ref (He.ga K "NoRow")) (.ref (He.ga K "NoRoom")) = some false)) rfl)
      | room z => exact of_decide_eq_true (exs_ok x.e 85 (f := fun K => decide (PySem.W.kitOne K (.ref (He.ga K "NoRoom")) (.ref (He.ga K "NoRoom")) = some true)) rfl)
      | door z => exact of_decide_eq_true (exs_ok x.e 86 (f := fun K => decide (PySem.W.kitOne K (.ref (He.ga K "NoDoor")) (.ref (He.ga K "NoRoom")) = some false)) rfl)
      | plan z => exact of_decide_eq_true (exs_ok x.e 87 (f := fun K => decide (PySem.W.kitOne K (.ref (He.ga K "NoPlan")) (.ref (He.ga K "NoRoom")) = some false)) rfl)
    ),
    (fun e => by cases e with
      | num => exact of_decide_eq_true (exs_ok x.e 88 (f := fun K => decide (PySem.W.kitOne K (.ref (He.ga K "NoNumber")) (.ref (He.ga K "NoDoor")) = some false)) rfl)
      | name => exact of_decide_eq_true (exs_ok x.e 89 (f := fun K => decide (PySem.W.kitOne K (.ref (He.ga K "NoName")) (.ref (He.ga K "NoDoor")) = some false)) rfl)
      | chance => exact of_decide_eq_true (exs_ok x.e 90 (f := fun K => decide (PySem.W.kitOne K (.ref (He.ga K "NoChance")) (.ref (He.ga K "NoDoor")) = some false)) rfl)
      | share => exact of_decide_eq_true (exs_ok x.e 91 (f := fun K => decide (PySem.W.kitOne K (.ref (He.ga K "NoShare")) (.ref (He.ga K "NoDoor")) = some false)) rfl)
      | row => exact of_decide_eq_true (exs_ok x.e 92 (f := fun K => decide (PySem.W.kitOne K (.ref (He.ga K "NoRow")) (.ref (He.ga K "NoDoor")) = some false)) rfl)
      | room z => exact of_decide_eq_true (exs_ok x.e 93 (f := fun K => decide (PySem.W.kitOne K (.ref (He.ga K "NoRoom")) (.ref (He.ga K "NoDoor")) = some false)) rfl)
      | door z => exact of_decide_eq_true (exs_ok x.e 94 (f := fun K => decide (PySem.W.kitOne K (.ref (He.ga K "NoDoor")) (.ref (He.ga K "NoDoor")) = some true)) rfl)
      | plan z => exact of_decide_eq_true (exs_ok x.e 95 (f := fun K => decide (PySem.W.kitOne K (.ref (He.ga K "NoPlan")) (.ref (He.ga K "NoDoor")) = some false)) rfl)
    ),
    (fun e => by cases e with
      | num => exact of_decide_eq_true (exs_ok x.e 96 (f := fun K => decide (PySem.W.kitOne K (.ref (He.ga K "NoNumber")) (.ref (He.ga K "NoPlan")) = some false)) rfl)
      | name => exact of_decide_eq_true (exs_ok x.e 97 (f := fun K => decide (PySem.W.kitOne K (.ref (He.ga K "NoName")) (.ref (He.ga K "NoPlan")) = some false)) rfl)
      | chance => exact of_decide_eq_true (exs_ok x.e 98 (f := fun K => decide (PySem.W.kitOne K (.ref (He.ga K "NoChance")) (.ref (He.ga K "NoPlan")) = some false)) rfl)
      | share => exact of_decide_eq_true (exs_ok x.e 99 (f := fun K => decide (PySem.W.kitOne K (.ref (He.ga K "NoShare")) (.ref (He.ga K "NoPlan")) = some false)) rfl)
      | row => exact of_decide_eq_true (exs_ok x.e 100 (f := fun K => decide (PySem.W.kitOne K (.ref (He.ga K "NoRow")) (.ref (He.ga K "NoPlan")) = some false)) rfl)
      | room z => exact of_decide_eq_true (exs_ok x.e 101 (f := fun K => decide (PySem.W.kitOne K (.ref (He.ga K "NoRoom")) (.ref (He.ga K "NoPlan")) = some false)) rfl)
      | door z => exact of_decide_eq_true (exs_ok x.e 102 (f := fun K => decide (PySem.W.kitOne K (.ref (He.ga K "NoDoor")) (.ref (He.ga K "NoPlan")) = some false)) rfl)
      | plan z => exact of_decide_eq_true (exs_ok x.e 103 (f := fun K => decide (PySem.W.kitOne K (.ref (He.ga K "NoPlan")) (.ref (He.ga K "NoPlan")) = some true)) rfl)
    ),
    (fun e => by cases e with
      | num => exact He.exm_ok (x.d.fact 59 (f := .exm "NoNumber" "HallError" true) rfl)
      | name => exact He.exm_ok (x.d.fact 60 (f := .exm "NoName" "HallError" true) rfl)
      | chance => exact He.exm_ok (x.d.fact 61 (f := .exm "NoChance" "HallError" true) rfl)
      | share => exact He.exm_ok (x.d.fact 62 (f := .exm "NoShare" "HallError" true) rfl)
      | row => exact He.exm_ok (x.d.fact 63 (f := .exm "NoRow" "HallError" true) rfl)
      | room z => exact He.exm_ok (x.d.fact 64 (f := .exm "NoRoom" "HallError" true) rfl)
      | door z => exact He.exm_ok (x.d.fact 65 (f := .exm "NoDoor" "HallError" true) rfl)
      | plan z => exact He.exm_ok (x.d.fact 66 (f := .exm "NoPlan" "HallError" true) rfl)
    )⟩
  rd_Mixed := creadB_ok (exs_ok x.e 104 (f := fun K => creadB K (He.ga K "Mixed")) rfl)
  fc_Mixed := fun f mk => by
      have e := (He.mkr_ok (x.d.fact 67 (f := .mkr "Mixed") rfl)).init
      have e2 := mk.init.symm.trans e
      cases e2
      exact ⟨clsRefB_ok (exs_ok x.e 105 (f := fun K => clsRefB K (He.ga K "Mixed") (He.ma K (He.ga K "Mixed") "__init__")) rfl), (exs_ok x.e 106 (f := fun K => PySem.W.keepIn K (.ref (He.ma K (He.ga K "Mixed") "__init__"))) rfl)⟩
  F_is_whole := by obtain ⟨fd, F⟩ := x.d.def_ 4 rfl; exact ⟨_, fd, F, (He.glo_ok X G (x.d.fact 68 (f := .glo "is_whole") rfl))⟩
  F_divisor := by obtain ⟨fd, F⟩ := x.d.def_ 5 rfl; exact ⟨_, fd, F, (He.glo_ok X G (x.d.fact 69 (f := .glo "divisor") rfl))⟩
  F_ratio := by obtain ⟨fd, F⟩ := x.d.def_ 6 rfl; exact ⟨_, fd, F, (He.glo_ok X G (x.d.fact 70 (f := .glo "ratio") rfl))⟩
  F_plus := by obtain ⟨fd, F⟩ := x.d.def_ 7 rfl; exact ⟨_, fd, F, (He.glo_ok X G (x.d.fact 71 (f := .glo "plus") rfl))⟩
  F_minus := by obtain ⟨fd, F⟩ := x.d.def_ 8 rfl; exact ⟨_, fd, F, (He.glo_ok X G (x.d.fact 72 (f := .glo "minus") rfl))⟩
  F_under := by obtain ⟨fd, F⟩ := x.d.def_ 9 rfl; exact ⟨_, fd, F, (He.glo_ok X G (x.d.fact 73 (f := .glo "under") rfl))⟩
  F_is_ratio := by obtain ⟨fd, F⟩ := x.d.def_ 10 rfl; exact ⟨_, fd, F, (He.glo_ok X G (x.d.fact 74 (f := .glo "is_ratio") rfl))⟩
  F_level := by obtain ⟨fd, F⟩ := x.d.def_ 11 rfl; exact ⟨_, fd, F, (He.glo_ok X G (x.d.fact 75 (f := .glo "level") rfl))⟩
  F_total := by obtain ⟨fd, F⟩ := x.d.def_ 12 rfl; exact ⟨_, fd, F, (He.glo_ok X G (x.d.fact 76 (f := .glo "total") rfl))⟩
  F_is_word := by obtain ⟨fd, F⟩ := x.d.def_ 13 rfl; exact ⟨_, fd, F, (He.glo_ok X G (x.d.fact 77 (f := .glo "is_word") rfl))⟩
  F_whole_of := by obtain ⟨fd, F⟩ := x.d.def_ 14 rfl; exact ⟨_, fd, F, (He.glo_ok X G (x.d.fact 78 (f := .glo "whole_of") rfl))⟩
  F_number_of := by obtain ⟨fd, F⟩ := x.d.def_ 15 rfl; exact ⟨_, fd, F, (He.glo_ok X G (x.d.fact 79 (f := .glo "number_of") rfl))⟩
  F_number_text := by obtain ⟨fd, F⟩ := x.d.def_ 16 rfl; exact ⟨_, fd, F, (He.glo_ok X G (x.d.fact 80 (f := .glo "number_text") rfl))⟩
  F_word_of := by obtain ⟨fd, F⟩ := x.d.def_ 17 rfl; exact ⟨_, fd, F, (He.glo_ok X G (x.d.fact 81 (f := .glo "word_of") rfl))⟩
  F_is_chance := by obtain ⟨fd, F⟩ := x.d.def_ 18 rfl; exact ⟨_, fd, F, (He.glo_ok X G (x.d.fact 82 (f := .glo "is_chance") rfl))⟩
  F_is_share := by obtain ⟨fd, F⟩ := x.d.def_ 19 rfl; exact ⟨_, fd, F, (He.glo_ok X G (x.d.fact 83 (f := .glo "is_share") rfl))⟩
  F_check_head := by obtain ⟨fd, F⟩ := x.d.def_ 20 rfl; exact ⟨_, fd, F, (He.glo_ok X G (x.d.fact 84 (f := .glo "check_head") rfl))⟩
  M_Door := by obtain ⟨fd, F⟩ := x.d.def_ 21 rfl; exact ⟨_, _, _, fd, (He.glo_ok X G (x.d.fact 85 (f := .glo "Door") rfl)), creadB_ok (exs_ok x.e 107 (f := fun K => creadB K (He.ga K "Door")) rfl), clsRefB_ok (exs_ok x.e 108 (f := fun K => clsRefB K (He.ga K "Door") (He.ma K (He.ga K "Door") "__init__")) rfl), (exs_ok x.e 109 (f := fun K => PySem.W.keepIn K (.ref (He.ma K (He.ga K "Door") "__init__"))) rfl), F⟩
  M_Sure := by obtain ⟨fd, F⟩ := x.d.def_ 22 rfl; exact ⟨_, fd, (He.glo_ok X G (x.d.fact 86 (f := .glo "Sure") rfl)), He.mkr_ok (x.d.fact 87 (f := .mkr "Sure") rfl), F⟩
  M_Mixed := by obtain ⟨fd, F⟩ := x.d.def_ 23 rfl; exact ⟨_, fd, (He.glo_ok X G (x.d.fact 88 (f := .glo "Mixed") rfl)), He.mkr_ok (x.d.fact 67 (f := .mkr "Mixed") rfl), F⟩
  F_Mixed_ways := by obtain ⟨fd, F⟩ := x.d.def_ 24 rfl; exact ⟨He.cls_ok (x.d.fact 42 (f := .cls "Mixed") rfl), _, fd, F, He.meth_ok (x.d.fact 89 (f := .meth "Mixed" "ways") rfl)⟩
  F_Toss_ways := by obtain ⟨fd, F⟩ := x.d.def_ 25 rfl; exact ⟨He.cls_ok (x.d.fact 46 (f := .cls "Toss") rfl), _, fd, F, He.meth_ok (x.d.fact 90 (f := .meth "Toss" "ways") rfl)⟩
  M_Toss := by obtain ⟨fd, F⟩ := x.d.def_ 26 rfl; exact ⟨_, fd, (He.glo_ok X G (x.d.fact 91 (f := .glo "Toss") rfl)), He.mkr_ok (x.d.fact 92 (f := .mkr "Toss") rfl), F⟩
  F_Hall_size := by obtain ⟨fd, F⟩ := x.d.def_ 27 rfl; exact ⟨He.cls_ok (x.d.fact 50 (f := .cls "Hall") rfl), _, fd, F, He.meth_ok (x.d.fact 93 (f := .meth "Hall" "size") rfl)⟩
  F_Hall_names := by obtain ⟨fd, F⟩ := x.d.def_ 28 rfl; exact ⟨He.cls_ok (x.d.fact 50 (f := .cls "Hall") rfl), _, fd, F, He.meth_ok (x.d.fact 94 (f := .meth "Hall" "names") rfl)⟩
  F_Hall_place := by obtain ⟨fd, F⟩ := x.d.def_ 29 rfl; exact ⟨He.cls_ok (x.d.fact 50 (f := .cls "Hall") rfl), _, fd, F, He.meth_ok (x.d.fact 95 (f := .meth "Hall" "place") rfl)⟩
  F_Hall_check_room := by obtain ⟨fd, F⟩ := x.d.def_ 30 rfl; exact ⟨He.cls_ok (x.d.fact 50 (f := .cls "Hall") rfl), _, fd, F, He.meth_ok (x.d.fact 96 (f := .meth "Hall" "check_room") rfl)⟩
  F_Hall_door_at := by obtain ⟨fd, F⟩ := x.d.def_ 31 rfl; exact ⟨He.cls_ok (x.d.fact 50 (f := .cls "Hall") rfl), _, fd, F, He.meth_ok (x.d.fact 97 (f := .meth "Hall" "door_at") rfl)⟩
  F_Hall_offers := by obtain ⟨fd, F⟩ := x.d.def_ 32 rfl; exact ⟨He.cls_ok (x.d.fact 50 (f := .cls "Hall") rfl), _, fd, F, He.meth_ok (x.d.fact 98 (f := .meth "Hall" "offers") rfl)⟩
  F_Hall_taken := by obtain ⟨fd, F⟩ := x.d.def_ 33 rfl; exact ⟨He.cls_ok (x.d.fact 50 (f := .cls "Hall") rfl), _, fd, F, He.meth_ok (x.d.fact 99 (f := .meth "Hall" "taken") rfl)⟩
  M_Hall := by obtain ⟨fd, F⟩ := x.d.def_ 34 rfl; exact ⟨_, fd, (He.glo_ok X G (x.d.fact 100 (f := .glo "Hall") rfl)), He.mkr_ok (x.d.fact 101 (f := .mkr "Hall") rfl), F⟩
  F_told_plan := by obtain ⟨fd, F⟩ := x.d.def_ 35 rfl; exact ⟨_, fd, F, (He.glo_ok X G (x.d.fact 102 (f := .glo "told_plan") rfl))⟩
  F_worth_answer := by obtain ⟨fd, F⟩ := x.d.def_ 36 rfl; exact ⟨_, fd, F, (He.glo_ok X G (x.d.fact 103 (f := .glo "worth_answer") rfl))⟩
  hw := ⟨_, (He.glo_ok X G (x.d.fact 104 (f := .glo "worths_of") rfl)), He.keep_ok (x.d.fact 105 (f := .keep "worths_of") rfl)⟩
  F_chance_answer := by obtain ⟨fd, F⟩ := x.d.def_ 37 rfl; exact ⟨_, fd, F, (He.glo_ok X G (x.d.fact 106 (f := .glo "chance_answer") rfl))⟩
  F_bounds_answer := by obtain ⟨fd, F⟩ := x.d.def_ 38 rfl; exact ⟨_, fd, F, (He.glo_ok X G (x.d.fact 107 (f := .glo "bounds_answer") rfl))⟩
  F_run_answer := by obtain ⟨fd, F⟩ := x.d.def_ 39 rfl; exact ⟨_, fd, F, (He.glo_ok X G (x.d.fact 108 (f := .glo "run_answer") rfl))⟩
  F_door_fits := by obtain ⟨fd, F⟩ := x.d.def_ 40 rfl; exact ⟨_, fd, F, (He.glo_ok X G (x.d.fact 109 (f := .glo "door_fits") rfl))⟩
  F_row_fits := by obtain ⟨fd, F⟩ := x.d.def_ 41 rfl; exact ⟨_, fd, F, (He.glo_ok X G (x.d.fact 110 (f := .glo "row_fits") rfl))⟩
  F_ways_text := by obtain ⟨fd, F⟩ := x.d.def_ 42 rfl; exact ⟨_, fd, F, (He.glo_ok X G (x.d.fact 111 (f := .glo "ways_text") rfl))⟩
  F_show := by obtain ⟨fd, F⟩ := x.d.def_ 43 rfl; exact ⟨_, fd, F, (He.glo_ok X G (x.d.fact 112 (f := .glo "show") rfl))⟩
  F_door_of := by obtain ⟨fd, F⟩ := x.d.def_ 44 rfl; exact ⟨_, fd, F, (He.glo_ok X G (x.d.fact 113 (f := .glo "door_of") rfl))⟩
  hev := ⟨_, (He.glo_ok X G (x.d.fact 114 (f := .glo "Even") rfl)), He.keep_ok (x.d.fact 115 (f := .keep "Even") rfl)⟩
  M_Desk := by obtain ⟨fd, F⟩ := x.d.def_ 45 rfl; exact ⟨_, fd, (He.glo_ok X G (x.d.fact 116 (f := .glo "Desk") rfl)), He.mkr_ok (x.d.fact 117 (f := .mkr "Desk") rfl), F⟩
  F_Desk_hall_now := by obtain ⟨fd, F⟩ := x.d.def_ 46 rfl; exact ⟨He.cls_ok (x.d.fact 54 (f := .cls "Desk") rfl), _, fd, F, He.meth_ok (x.d.fact 118 (f := .meth "Desk" "hall_now") rfl)⟩
  F_Desk_check_name := by obtain ⟨fd, F⟩ := x.d.def_ 47 rfl; exact ⟨He.cls_ok (x.d.fact 54 (f := .cls "Desk") rfl), _, fd, F, He.meth_ok (x.d.fact 119 (f := .meth "Desk" "check_name") rfl)⟩
  F_Desk_set_share := by obtain ⟨fd, F⟩ := x.d.def_ 48 rfl; exact ⟨He.cls_ok (x.d.fact 54 (f := .cls "Desk") rfl), _, fd, F, He.meth_ok (x.d.fact 120 (f := .meth "Desk" "set_share") rfl)⟩
  F_Desk_add_room := by obtain ⟨fd, F⟩ := x.d.def_ 49 rfl; exact ⟨He.cls_ok (x.d.fact 54 (f := .cls "Desk") rfl), _, fd, F, He.meth_ok (x.d.fact 121 (f := .meth "Desk" "add_room") rfl)⟩
  F_Desk_add_door := by obtain ⟨fd, F⟩ := x.d.def_ 50 rfl; exact ⟨He.cls_ok (x.d.fact 54 (f := .cls "Desk") rfl), _, fd, F, He.meth_ok (x.d.fact 122 (f := .meth "Desk" "add_door") rfl)⟩
  F_Desk_shut_door := by obtain ⟨fd, F⟩ := x.d.def_ 51 rfl; exact ⟨He.cls_ok (x.d.fact 54 (f := .cls "Desk") rfl), _, fd, F, He.meth_ok (x.d.fact 123 (f := .meth "Desk" "shut_door") rfl)⟩
  F_Desk_done := by obtain ⟨fd, F⟩ := x.d.def_ 52 rfl; exact ⟨He.cls_ok (x.d.fact 54 (f := .cls "Desk") rfl), _, fd, F, He.meth_ok (x.d.fact 124 (f := .meth "Desk" "done") rfl)⟩
  F_Desk_told := by obtain ⟨fd, F⟩ := x.d.def_ 53 rfl; exact ⟨He.cls_ok (x.d.fact 54 (f := .cls "Desk") rfl), _, fd, F, He.meth_ok (x.d.fact 125 (f := .meth "Desk" "told") rfl)⟩
  F_Desk_say := by obtain ⟨fd, F⟩ := x.d.def_ 54 rfl; exact ⟨He.cls_ok (x.d.fact 54 (f := .cls "Desk") rfl), _, fd, F, He.meth_ok (x.d.fact 126 (f := .meth "Desk" "say") rfl)⟩
  F__law_cell := by obtain ⟨fd, F⟩ := x.d.def_ 55 rfl; exact ⟨_, fd, F, (He.glo_ok X G (x.d.fact 127 (f := .glo "_law_cell") rfl))⟩
  F__law_stream := by obtain ⟨fd, F⟩ := x.d.def_ 56 rfl; exact ⟨_, fd, F, (He.glo_ok X G (x.d.fact 128 (f := .glo "_law_stream") rfl))⟩
  F__law_gcd := by obtain ⟨fd, F⟩ := x.d.def_ 57 rfl; exact ⟨_, fd, F, (He.glo_ok X G (x.d.fact 129 (f := .glo "_law_gcd") rfl))⟩
  F__law_lowest := by obtain ⟨fd, F⟩ := x.d.def_ 58 rfl; exact ⟨_, fd, F, (He.glo_ok X G (x.d.fact 130 (f := .glo "_law_lowest") rfl))⟩
  F__law_number := by obtain ⟨fd, F⟩ := x.d.def_ 59 rfl; exact ⟨_, fd, F, (He.glo_ok X G (x.d.fact 131 (f := .glo "_law_number") rfl))⟩
  F__law_words := by obtain ⟨fd, F⟩ := x.d.def_ 60 rfl; exact ⟨_, fd, F, (He.glo_ok X G (x.d.fact 132 (f := .glo "_law_words") rfl))⟩
  F__law_doors := by obtain ⟨fd, F⟩ := x.d.def_ 61 rfl; exact ⟨_, fd, F, (He.glo_ok X G (x.d.fact 133 (f := .glo "_law_doors") rfl))⟩
  F__law_drawn := by obtain ⟨fd, F⟩ := x.d.def_ 62 rfl; exact ⟨_, fd, F, (He.glo_ok X G (x.d.fact 134 (f := .glo "_law_drawn") rfl))⟩
  F__law_chances := by obtain ⟨fd, F⟩ := x.d.def_ 63 rfl; exact ⟨_, fd, F, (He.glo_ok X G (x.d.fact 135 (f := .glo "_law_chances") rfl))⟩
  F__law_rows := by obtain ⟨fd, F⟩ := x.d.def_ 64 rfl; exact ⟨_, fd, F, (He.glo_ok X G (x.d.fact 136 (f := .glo "_law_rows") rfl))⟩
  F__law_no_doors := by obtain ⟨fd, F⟩ := x.d.def_ 65 rfl; exact ⟨_, fd, F, (He.glo_ok X G (x.d.fact 137 (f := .glo "_law_no_doors") rfl))⟩
  F__law_others := by obtain ⟨fd, F⟩ := x.d.def_ 66 rfl; exact ⟨_, fd, F, (He.glo_ok X G (x.d.fact 138 (f := .glo "_law_others") rfl))⟩
  F__law_no_rows := by obtain ⟨fd, F⟩ := x.d.def_ 67 rfl; exact ⟨_, fd, F, (He.glo_ok X G (x.d.fact 139 (f := .glo "_law_no_rows") rfl))⟩
  F__law_plans := by obtain ⟨fd, F⟩ := x.d.def_ 68 rfl; exact ⟨_, fd, F, (He.glo_ok X G (x.d.fact 140 (f := .glo "_law_plans") rfl))⟩
  F__law_only := by obtain ⟨fd, F⟩ := x.d.def_ 69 rfl; exact ⟨_, fd, F, (He.glo_ok X G (x.d.fact 141 (f := .glo "_law_only") rfl))⟩
  F__law_refused := by obtain ⟨fd, F⟩ := x.d.def_ 70 rfl; exact ⟨_, fd, F, (He.glo_ok X G (x.d.fact 142 (f := .glo "_law_refused") rfl))⟩
theorem law_of (X : K.In h) (G : h.Ns mainGlobals mg) (x : Says K) : ∃ (f : Addr) (fd : FuncData), FunD K "law" "law" (defArgs s_law) (defBody s_law) (defScope s_law) [] [] f fd ∧ mg "law" = some (.ref f) := by
  obtain ⟨fd, F⟩ := x.d.def_ 71 rfl
  exact ⟨_, fd, F, (He.glo_ok X G (x.d.fact 143 (f := .glo "law") rfl))⟩
end
end Dk
namespace Dk
open PySem PySem.Spec PyProof.Rows L2
def hk : PySem.W.Hook where
  α := He.AlD × Bool
  obs := fun s => obK s.heap.get?
  val := fun _ => (He.valD fn, true)
  says := fun _ h => ∃ K : PySem.W.Frag, K.In h ∧ Says K
  of := fun _ _ e => ⟨_, He.frG_in, ⟨congrArg (fun z : He.AlD × Bool => z.1) e, congrArg (fun z : He.AlD × Bool => z.2) e⟩⟩
  keeps := fun _ _ _ ⟨K, hK, c⟩ k => ⟨K, PySem.W.Frag.In.keeps hK k, c⟩
def ob (s : PySem.W.SharedT) : He.AlD × Bool := obK (HandSHeadRun.getT s)
theorem ob_eq (s : PySem.W.SharedT) : ob s = hk.obs s.abs := by
  have e : HandSHeadRun.getT s = s.abs.heap.get? := funext (HandSHeadRun.getT_eq s)
  unfold ob
  rw [e] <;> rfl
end Dk
/-! the end -/
namespace Dk
open PySem PySem.Spec PyProof.Rows L2
theorem runDE (w : World) (os : OsState) : (topEnd w os).map ob = some (He.valD fn, true) := map2 (f := fun s => He.obsD fa fn (frN (HandSHeadRun.getT s))) (g := fun s => exs.all fun f => f (frN (HandSHeadRun.getT s))) (runD w os) (runE w os)
theorem run (w : World) : HandSHeadRun.RunEq R (PySem.W.view R.prog [149]) hk ob 12000 names w :=
  fun os => @map3 _ _ _ _ (topEnd w os) _ _ ob _ _ (hk.val w) (runB w os) (runC w os) (runDE w os)
theorem walk_ofEW {l : PySem.W.OpenLaw} {n k : Nat} {q : Program} {loose : List Str} {XP : (Str → Option Value) → Heap → Prop} {YP : World → Heap → Prop} {d : DefRec} {CX : World → CXT} {x : Str}
    (hn : l.most = some n) (hn2 : n ≤ sizeLine) (hdf : d.params.defaults = []) (hr : Room k callerA)
    (F : ∀ (w : World) (mg : Str → Option Value) (fa : Addr) (h : Heap), YP w h → h.Ns mainGlobals mg → mg d.name = some (.ref fa) →
      ∃ (K : PySem.W.Frag) (fd : FuncData) (sp : Sp), K.In h ∧ (∀ (s : Shared) (u : Value), BindsTo s fd ⟨[u], []⟩ [(x, u)]) ∧
        (∀ (H : Hp) (a : Addr) (ns : List Int), ns.length ≤ n → Only H → SqL K H a (ns.map V.int) → sp [.ref a] H (fun v _ => v = .bl true) fun _ _ _ => False) ∧
        ∀ base : Heap, K.In base → base.Ns mainGlobals mg → FnOk l.prog w K mg base (CX w) k fa fd [x] sp)
    (hCX : ∀ (w : World) (H : Hp) (s : Shared) (e : Value) (s' : Shared), CX w [] H s (fun _ _ _ => False) e s' → False) :
    PySem.W.WalkO q loose XP YP l.row.toRowW d [] (fun f vs => PySem.call f vs) := by
  refine Att.attach_call hn hdf fun w s₀ s₁ mg mb fa o pm cd doc a vs ns G Y ho hd hcd hmg hobj hints hlen hg => ?_
  obtain ⟨K, fd, sp, KX, hb, hsp, hF⟩ := F w mg fa _ Y G.T.g hmg
  exact law_call KX G.T.g G.T.b G.T.builtins G.T.nolimit hg hobj hints (Nat.le_trans hlen hn2) hr hF hb (fun H hO hS => hsp H a ns hlen hO hS) fun H e s' => hCX w H s₁ e s'
theorem ends {P : Program} {w : World} {K : PySem.W.Frag} {h : Heap} {mg : Str → Option Value} {f : Addr} (X : K.In h) (G : h.Ns mainGlobals mg) (hfa : mg ("law" : Str) = some (.ref f)) (c : Says K) :
    ∃ fd : FuncData, (∀ (s : Shared) (v : Value), BindsTo s fd ⟨[v], []⟩ [("_law_script", v)]) ∧ ∀ base : Heap, K.In base → base.Ns mainGlobals mg → FnOk P w K mg base (L2.CX P w) 13 f fd ["_law_script"] (spLaw K) := by
  obtain ⟨f', fd, F, g⟩ := law_of X G c
  have e := hfa.symm.trans g
  cases e
  have b := FunD.bindsA (ps := ["_law_script"]) F fun _ _ _ _ _ _ us hl => match us, hl with | [_], _ => rfl
  exact ⟨fd, fun s v => b s [v] rfl, fun base _ _ => fn_ok F sc_law (fun vs H Q E h => by obtain ⟨x, _, rfl, _⟩ := h; rfl) (chain (gr_of X G c))⟩
end Dk
open PySem PySem.W PySem.Calls PyProof.Rows
theorem PySem.Challenge.cw_chancehall_k61_desk_refusals_holds : PySem.Challenge.rw_chancehall_k61_desk_refusals.Holds := by
  w_on; o_law
  refine HandSHeadRun.head_any (r := OpenLaw.row PySem.Challenge.rw_chancehall_k61_desk_refusals) (q := view (OpenLaw.row PySem.Challenge.rw_chancehall_k61_desk_refusals).prog [149]) (H := Dk.hk) (ob := Dk.ob) (M := 12000) (loose := Dk.names) (d := HandSHeadRun.topDef (OpenLaw.row PySem.Challenge.rw_chancehall_k61_desk_refusals).prog 149) (kwd := []) Dk.ob_eq
    (by kernel_rfl) (fun s => by kernel_rfl) Dk.run (by kernel_rfl) (by kernel_rfl) (by kernel_rfl) (by rfl) (by first | assumption | decide +kernel) (by decide +kernel) ⟨rfl, rfl, rfl, rfl, rfl, by decide +kernel⟩ ?hw ?hc
  case hw => w_witness2
  case hc =>
    refine Dk.walk_ofEW (l := PySem.Challenge.rw_chancehall_k61_desk_refusals) (n := 63) (k := 13) (x := "_law_script") (CX := fun w => L2.CX (PySem.Challenge.rw_chancehall_k61_desk_refusals).prog w) rfl (by decide) (by kernel_rfl) ⟨rfl, by decide, by decide⟩ ?F (fun _ _ _ _ _ ⟨_, _, _, _, _, _, _, _, _, _, _, _, z⟩ => z)
    intro w mg fa h Y G hmg0
    obtain ⟨K, KX, c⟩ := Y
    have hmg : mg ("law" : PySem.Str) = some (.ref fa) := by
      have e : (HandSHeadRun.topDef (OpenLaw.row PySem.Challenge.rw_chancehall_k61_desk_refusals).prog 149).name = ("law" : PySem.Str) := by kernel_rfl
      rw [← e]
      exact hmg0
    obtain ⟨fd, hb, hF⟩ := Dk.ends (P := (PySem.Challenge.rw_chancehall_k61_desk_refusals).prog) (w := w) KX G hmg c
    exact ⟨K, fd, Dk.spLaw K, KX, hb, fun H a ns hl _ hS => ⟨a, ns, rfl, hS, Nat.le_trans hl (by decide), fun _ => rfl⟩, hF⟩
