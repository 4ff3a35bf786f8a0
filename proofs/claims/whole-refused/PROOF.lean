import PyProof.Rows.All
import Wide.All
import OpenK.AllK
import Wide.FinOn
import KE.KStateDown
import HandS.ForMost
import HandS.Exc
import HandS.ExcOwn
import HandS.ExcInit
import HandS.ExcField
import HandS.ExcIs
import HandS.Defaults
import HandS.Lambda
import HandS.EndTab
import HandS.Head0
import HandS.Head1
import HandS.Head2
import HandS.HeadEnd
import HandS.HeadHook1
import HandS.HeadHook2
import HandS.HeadHook4
import HandS.HeadWalk
import KE.KExcInit
import PySem.Challenge.RW_palewalk_k94_whole_refused_at_every_door
import HandS.IsInst
import HandS.TupAny
import HandS.Zip
import HandS.ExcCtx
import HandS.Hot
import HandS.HotCalls
import HandS.Comp
import HandS.Iter
import HandS.Words
import HandS.TupMul
set_option Elab.async false
set_option linter.all false
set_option maxRecDepth 100000
set_option maxHeartbeats 0
/-! The head: what stands behind the top, by literal addresses. -/
namespace Pw
open PySem PySem.Spec PyProof.Rows L2
abbrev R : PySem.W.OpenRow := PySem.W.OpenLaw.row PySem.Challenge.rw_palewalk_k94_whole_refused_at_every_door
def top (i : Nat) : Stmt := PySem.Challenge.pw_palewalk_k94_whole_refused_at_every_door.main.body.getD i (.Pass ⟨0, 0, 0, 0⟩)
/-- a def of the text: its address, its name, its qualified name, its statement -/
structure Df where
  at_ : Addr
  name : Str
  qual : Str
  st : Stmt

abbrev a_is_whole : Addr := 251
abbrev a_is_word : Addr := 258
abbrev a_is_clause : Addr := 265
abbrev a_is_rule : Addr := 270
abbrev a_are_marks : Addr := 275
abbrev a_sure_rule : Addr := 282
abbrev a_sure_life : Addr := 289
abbrev a_pick : Addr := 301
abbrev a_ranked : Addr := 306
abbrev a_alike : Addr := 318
abbrev a_are_ways : Addr := 323
abbrev a_are_rules : Addr := 328
abbrev a_sure_floor : Addr := 335
abbrev a_is_room : Addr := 405
abbrev a_are_rooms : Addr := 410
abbrev a_is_stand : Addr := 417
abbrev a_sure_stand : Addr := 424
abbrev a_picks : Addr := 448
abbrev a_beat : Addr := 455
abbrev a_run : Addr := 462
abbrev a_sure_count : Addr := 523
abbrev a_sure_walker : Addr := 530
abbrev a_is_wish : Addr := 535
abbrev a_sure_wish : Addr := 542
abbrev a_round_of : Addr := 554
abbrev a_at : Addr := 561
abbrev a_visits : Addr := 568
abbrev a_gone : Addr := 573
abbrev a_first_when : Addr := 580
abbrev a_times : Addr := 585
abbrev a_parted : Addr := 599
abbrev a_alone : Addr := 609
abbrev a_together : Addr := 614
abbrev a_are_few : Addr := 619
abbrev a_is_box : Addr := 624
abbrev a_sure_box : Addr := 631
abbrev a_many_in : Addr := 645
abbrev a_holds : Addr := 650
abbrev a_meet : Addr := 662
abbrev a_parts : Addr := 677
abbrev a_onward : Addr := 687
abbrev a_back : Addr := 738
abbrev a_back_by : Addr := 745
abbrev a_many_back : Addr := 750
abbrev a_sure_room : Addr := 785
abbrev a_put : Addr := 792
abbrev a_looked : Addr := 799
abbrev a_led : Addr := 823
abbrev a_fewest : Addr := 877
abbrev a_check_fewest : Addr := 906
abbrev a_keeps : Addr := 935
abbrev a_sure_marks : Addr := 942
abbrev a_many_trails : Addr := 959
abbrev a_trails : Addr := 964
abbrev a_law_cell_at : Addr := 971
abbrev a_law_digit : Addr := 978
abbrev a_law_clause : Addr := 985
abbrev a_law_rule : Addr := 990
abbrev a_law_floor : Addr := 995
abbrev a_law_stand : Addr := 1000
abbrev a_law_parts : Addr := 1005
abbrev a_law_said : Addr := 1010
abbrev a_law_all : Addr := 1015
abbrev a_law_odd_number : Addr := 1022
abbrev a_law_odd_stand : Addr := 1029
abbrev a_law_odd_box : Addr := 1034
abbrev a_law_odd_rule : Addr := 1041
abbrev a_law_stand_doors : Addr := 1048
abbrev a_law_box_doors : Addr := 1055
abbrev a_law_rule_doors : Addr := 1062
abbrev a_law_count_doors : Addr := 1069
abbrev a_law_life_doors : Addr := 1076
abbrev a_law_other_doors : Addr := 1081
abbrev a_law : Addr := 1086
abbrev c_FadeError : Addr := 24
abbrev c_NoRule : Addr := 37
abbrev c_NoLife : Addr := 61
abbrev c_NoStand : Addr := 73
abbrev c_NoCount : Addr := 85
abbrev c_NoWalker : Addr := 97
abbrev c_NoWish : Addr := 109
abbrev c_NoBox : Addr := 121
abbrev c_NoRoom : Addr := 133
abbrev c_NoWorld : Addr := 164
abbrev c_World : Addr := 394
abbrev g_WORDS : Addr := 243
abbrev g_SIDES : Addr := 244
abbrev m_World_init : Addr := 349
abbrev m_World_rooms : Addr := 377
abbrev m_World_walkers : Addr := 384
abbrev m_World_life : Addr := 363
abbrev m_NoWorld_init : Addr := 161
def d_is_whole : Df := ⟨a_is_whole, "is_whole", "is_whole", top 23⟩
def d_is_word : Df := ⟨a_is_word, "is_word", "is_word", top 24⟩
def d_is_clause : Df := ⟨a_is_clause, "is_clause", "is_clause", top 25⟩
def d_is_rule : Df := ⟨a_is_rule, "is_rule", "is_rule", top 26⟩
def d_are_marks : Df := ⟨a_are_marks, "are_marks", "are_marks", top 27⟩
def d_sure_rule : Df := ⟨a_sure_rule, "sure_rule", "sure_rule", top 28⟩
def d_sure_life : Df := ⟨a_sure_life, "sure_life", "sure_life", top 29⟩
def d_pick : Df := ⟨a_pick, "pick", "pick", top 31⟩
def d_ranked : Df := ⟨a_ranked, "ranked", "ranked", top 32⟩
def d_alike : Df := ⟨a_alike, "alike", "alike", top 34⟩
def d_are_ways : Df := ⟨a_are_ways, "are_ways", "are_ways", top 38⟩
def d_are_rules : Df := ⟨a_are_rules, "are_rules", "are_rules", top 39⟩
def d_sure_floor : Df := ⟨a_sure_floor, "sure_floor", "sure_floor", top 40⟩
def d_is_room : Df := ⟨a_is_room, "is_room", "is_room", top 42⟩
def d_are_rooms : Df := ⟨a_are_rooms, "are_rooms", "are_rooms", top 43⟩
def d_is_stand : Df := ⟨a_is_stand, "is_stand", "is_stand", top 44⟩
def d_sure_stand : Df := ⟨a_sure_stand, "sure_stand", "sure_stand", top 45⟩
def d_picks : Df := ⟨a_picks, "picks", "picks", top 51⟩
def d_beat : Df := ⟨a_beat, "beat", "beat", top 52⟩
def d_run : Df := ⟨a_run, "run", "run", top 53⟩
def d_sure_count : Df := ⟨a_sure_count, "sure_count", "sure_count", top 59⟩
def d_sure_walker : Df := ⟨a_sure_walker, "sure_walker", "sure_walker", top 60⟩
def d_is_wish : Df := ⟨a_is_wish, "is_wish", "is_wish", top 61⟩
def d_sure_wish : Df := ⟨a_sure_wish, "sure_wish", "sure_wish", top 62⟩
def d_round_of : Df := ⟨a_round_of, "round_of", "round_of", top 64⟩
def d_at : Df := ⟨a_at, "at", "at", top 65⟩
def d_visits : Df := ⟨a_visits, "visits", "visits", top 66⟩
def d_gone : Df := ⟨a_gone, "gone", "gone", top 67⟩
def d_first_when : Df := ⟨a_first_when, "first_when", "first_when", top 68⟩
def d_times : Df := ⟨a_times, "times", "times", top 69⟩
def d_parted : Df := ⟨a_parted, "parted", "parted", top 72⟩
def d_alone : Df := ⟨a_alone, "alone", "alone", top 74⟩
def d_together : Df := ⟨a_together, "together", "together", top 75⟩
def d_are_few : Df := ⟨a_are_few, "are_few", "are_few", top 78⟩
def d_is_box : Df := ⟨a_is_box, "is_box", "is_box", top 79⟩
def d_sure_box : Df := ⟨a_sure_box, "sure_box", "sure_box", top 80⟩
def d_many_in : Df := ⟨a_many_in, "many_in", "many_in", top 82⟩
def d_holds : Df := ⟨a_holds, "holds", "holds", top 83⟩
def d_meet : Df := ⟨a_meet, "meet", "meet", top 85⟩
def d_parts : Df := ⟨a_parts, "parts", "parts", top 88⟩
def d_onward : Df := ⟨a_onward, "onward", "onward", top 90⟩
def d_back : Df := ⟨a_back, "back", "back", top 102⟩
def d_back_by : Df := ⟨a_back_by, "back_by", "back_by", top 103⟩
def d_many_back : Df := ⟨a_many_back, "many_back", "many_back", top 104⟩
def d_sure_room : Df := ⟨a_sure_room, "sure_room", "sure_room", top 112⟩
def d_put : Df := ⟨a_put, "put", "put", top 113⟩
def d_looked : Df := ⟨a_looked, "looked", "looked", top 114⟩
def d_led : Df := ⟨a_led, "led", "led", top 120⟩
def d_fewest : Df := ⟨a_fewest, "fewest", "fewest", top 122⟩
def d_check_fewest : Df := ⟨a_check_fewest, "check_fewest", "check_fewest", top 127⟩
def d_keeps : Df := ⟨a_keeps, "keeps", "keeps", top 135⟩
def d_sure_marks : Df := ⟨a_sure_marks, "sure_marks", "sure_marks", top 137⟩
def d_many_trails : Df := ⟨a_many_trails, "many_trails", "many_trails", top 140⟩
def d_trails : Df := ⟨a_trails, "trails", "trails", top 141⟩
def d_law_cell_at : Df := ⟨a_law_cell_at, "_law_cell_at", "_law_cell_at", top 143⟩
def d_law_digit : Df := ⟨a_law_digit, "_law_digit", "_law_digit", top 144⟩
def d_law_clause : Df := ⟨a_law_clause, "_law_clause", "_law_clause", top 145⟩
def d_law_rule : Df := ⟨a_law_rule, "_law_rule", "_law_rule", top 146⟩
def d_law_floor : Df := ⟨a_law_floor, "_law_floor", "_law_floor", top 147⟩
def d_law_stand : Df := ⟨a_law_stand, "_law_stand", "_law_stand", top 148⟩
def d_law_parts : Df := ⟨a_law_parts, "_law_parts", "_law_parts", top 149⟩
def d_law_said : Df := ⟨a_law_said, "_law_said", "_law_said", top 150⟩
def d_law_all : Df := ⟨a_law_all, "_law_all", "_law_all", top 151⟩
def d_law_odd_number : Df := ⟨a_law_odd_number, "_law_odd_number", "_law_odd_number", top 152⟩
def d_law_odd_stand : Df := ⟨a_law_odd_stand, "_law_odd_stand", "_law_odd_stand", top 153⟩
def d_law_odd_box : Df := ⟨a_law_odd_box, "_law_odd_box", "_law_odd_box", top 154⟩
def d_law_odd_rule : Df := ⟨a_law_odd_rule, "_law_odd_rule", "_law_odd_rule", top 155⟩
def d_law_stand_doors : Df := ⟨a_law_stand_doors, "_law_stand_doors", "_law_stand_doors", top 156⟩
def d_law_box_doors : Df := ⟨a_law_box_doors, "_law_box_doors", "_law_box_doors", top 157⟩
def d_law_rule_doors : Df := ⟨a_law_rule_doors, "_law_rule_doors", "_law_rule_doors", top 158⟩
def d_law_count_doors : Df := ⟨a_law_count_doors, "_law_count_doors", "_law_count_doors", top 159⟩
def d_law_life_doors : Df := ⟨a_law_life_doors, "_law_life_doors", "_law_life_doors", top 160⟩
def d_law_other_doors : Df := ⟨a_law_other_doors, "_law_other_doors", "_law_other_doors", top 161⟩
def d_law : Df := ⟨a_law, "law", "law", top 162⟩
def d_World_init : Df := ⟨m_World_init, "__init__", "World.__init__", inClass (top 41) 0⟩
def d_World_rooms : Df := ⟨m_World_rooms, "rooms", "World.rooms", inClass (top 41) 4⟩
def d_World_walkers : Df := ⟨m_World_walkers, "walkers", "World.walkers", inClass (top 41) 5⟩
def d_World_life : Df := ⟨m_World_life, "life", "World.life", inClass (top 41) 2⟩
def d_NoWorld_init : Df := ⟨m_NoWorld_init, "__init__", "NoWorld.__init__", inClass (top 12) 0⟩
def dfs0 : List Df := [d_is_whole, d_is_word, d_is_clause, d_is_rule, d_are_marks, d_sure_rule, d_sure_life, d_pick, d_ranked, d_alike, d_are_ways, d_are_rules, d_sure_floor, d_is_room, d_are_rooms, d_is_stand, d_sure_stand, d_picks, d_beat, d_run]
def dfs1 : List Df := [d_sure_count, d_sure_walker, d_is_wish, d_sure_wish, d_round_of, d_at, d_visits, d_gone, d_first_when, d_times, d_parted, d_alone, d_together, d_are_few, d_is_box, d_sure_box, d_many_in, d_holds, d_meet, d_parts]
def dfs2 : List Df := [d_onward, d_back, d_back_by, d_many_back, d_sure_room, d_put, d_looked, d_led, d_fewest, d_check_fewest, d_keeps, d_sure_marks, d_many_trails, d_trails, d_law_cell_at, d_law_digit, d_law_clause, d_law_rule, d_law_floor, d_law_stand]
def dfs3 : List Df := [d_law_parts, d_law_said, d_law_all, d_law_odd_number, d_law_odd_stand, d_law_odd_box, d_law_odd_rule, d_law_stand_doors, d_law_box_doors, d_law_rule_doors, d_law_count_doors, d_law_life_doors, d_law_other_doors, d_law, d_World_init, d_World_rooms, d_World_walkers, d_World_life, d_NoWorld_init]
def dfs : List Df := dfs0 ++ dfs1 ++ dfs2 ++ dfs3
def glos0 : List (Str × Addr) := [("is_whole", 251), ("is_word", 258), ("is_clause", 265), ("is_rule", 270), ("are_marks", 275), ("sure_rule", 282), ("sure_life", 289), ("pick", 301), ("ranked", 306), ("alike", 318), ("are_ways", 323), ("are_rules", 328), ("sure_floor", 335), ("is_room", 405), ("are_rooms", 410), ("is_stand", 417), ("sure_stand", 424), ("picks", 448), ("beat", 455), ("run", 462)]
def glos1 : List (Str × Addr) := [("sure_count", 523), ("sure_walker", 530), ("is_wish", 535), ("sure_wish", 542), ("round_of", 554), ("at", 561), ("visits", 568), ("gone", 573), ("first_when", 580), ("times", 585), ("parted", 599), ("alone", 609), ("together", 614), ("are_few", 619), ("is_box", 624), ("sure_box", 631), ("many_in", 645), ("holds", 650), ("meet", 662), ("parts", 677)]
def glos2 : List (Str × Addr) := [("onward", 687), ("back", 738), ("back_by", 745), ("many_back", 750), ("sure_room", 785), ("put", 792), ("looked", 799), ("led", 823), ("fewest", 877), ("check_fewest", 906), ("keeps", 935), ("sure_marks", 942), ("many_trails", 959), ("trails", 964), ("_law_cell_at", 971), ("_law_digit", 978), ("_law_clause", 985), ("_law_rule", 990), ("_law_floor", 995), ("_law_stand", 1000)]
def glos3 : List (Str × Addr) := [("_law_parts", 1005), ("_law_said", 1010), ("_law_all", 1015), ("_law_odd_number", 1022), ("_law_odd_stand", 1029), ("_law_odd_box", 1034), ("_law_odd_rule", 1041), ("_law_stand_doors", 1048), ("_law_box_doors", 1055), ("_law_rule_doors", 1062), ("_law_count_doors", 1069), ("_law_life_doors", 1076), ("_law_other_doors", 1081), ("law", 1086), ("FadeError", 24), ("NoRule", 37), ("NoLife", 61), ("NoStand", 73), ("NoCount", 85), ("NoWalker", 97)]
def glos4 : List (Str × Addr) := [("NoWish", 109), ("NoBox", 121), ("NoRoom", 133), ("NoWorld", 164), ("World", 394), ("WORDS", 243), ("SIDES", 244)]
def glos : List (Str × Addr) := glos0 ++ glos1 ++ glos2 ++ glos3 ++ glos4
def numbs0 : List (Str × Int) := [("MOST_MARK", 9), ("MOST_LIFE", 6), ("MOST_WAYS", 4), ("MOST_ROOMS", 8), ("MOST_WALKERS", 3), ("MOST_RUN", 400), ("FARTHEST", 10 ^ 40), ("MOST_BACK", 60)]
def numbs : List (Str × Int) := numbs0
def frees0 : List Str := ["len", "isinstance", "int", "bool", "str", "tuple", "list", "all", "range", "max", "min", "zip", "sum"]
def frees : List Str := frees0
def asl0 : List Addr := [cStatics, 24, 23, 73, 72, 121, 120, 37, 36, 109, 108, 85, 84, 97, 96, 133, 132, 61, 60, 164, 163, 394, 393, 243, 244, 349, 377, 384, 363, 161]
def asl1 : List Addr := [348, 376, 383, 362, 160, 251, 258, 265, 270, 275, 282, 289, 301, 306, 318, 323, 328, 335, 405, 410, 417, 424, 448, 455, 462, 523, 530, 535, 542, 554]
def asl2 : List Addr := [561, 568, 573, 580, 585, 599, 609, 614, 619, 624, 631, 645, 650, 662, 677, 687, 738, 745, 750, 785, 792, 799, 823, 877, 906, 935, 942, 959, 964, 971]
def asl3 : List Addr := [978, 985, 990, 995, 1000, 1005, 1010, 1015, 1022, 1029, 1034, 1041, 1048, 1055, 1062, 1069, 1076, 1081, 1086, 250, 257, 264, 269, 274, 281, 288, 300, 305, 317, 322]
def asl4 : List Addr := [327, 334, 404, 409, 416, 423, 447, 454, 461, 522, 529, 534, 541, 553, 560, 567, 572, 579, 584, 598, 608, 613, 618, 623, 630, 644, 649, 661, 676, 686]
def asl5 : List Addr := [737, 744, 749, 784, 791, 798, 822, 876, 905, 934, 941, 958, 963, 970, 977, 984, 989, 994, 999, 1004, 1009, 1014, 1021, 1028, 1033, 1040, 1047, 1054, 1061, 1068]
def asl6 : List Addr := [1075, 1080, 1085]
def asl : List Addr := asl0 ++ asl1 ++ asl2 ++ asl3 ++ asl4 ++ asl5 ++ asl6
def tabs0 : List (Addr × Addr) := [(1047, 1043), (1054, 1050), (1061, 1057), (1068, 1064), (1075, 1071), (1080, 1078)]
def tabs : List (Addr × Addr) := tabs0
def codesL0 : List (Addr × Addr) := [(a_law_stand_doors, 1047), (a_law_box_doors, 1054), (a_law_rule_doors, 1061), (a_law_count_doors, 1068), (a_law_life_doors, 1075), (a_law_other_doors, 1080)]
def codesL : List (Addr × Addr) := codesL0

/-- facts of the written part, one Bool each -/
def veB : List Value := [.type "ValueError", .type "Exception", .type "BaseException", .type "object"]
def isO (a b : Option (Option Value)) : Bool := decide (a = b)
def exF (K : PySem.W.Frag) (C : Addr) : List Bool := [PySem.W.excIn K C veB "ValueError.__new__", PySem.W.keepIn K (.ref C), decide (PySem.W.subIn K (.ref C) (.type "BaseException") = some true), decide (PySem.W.typeIn K (.ref C) = some (.type "type")),
  decide (PySem.W.exmOne K (.ref C) (.ref c_NoWorld) = some false), decide (PySem.W.exmOne K (.ref C) (.ref c_FadeError) = some true),
  isO (PySem.W.findIn K (.ref C) "__getattribute__") (some (some (.builtin "BaseException.__getattribute__"))), isO (PySem.W.findIn K (.ref C) "__getattr__") (some none), PySem.W.hasDictIn K C,
  isO (PySem.W.findIn K (.ref C) "__class__") (some (some (.builtin "object.__class__"))), decide (PySem.W.mroIn K C (.type "object") = some true)]
def exCls : List Addr := [c_NoStand, c_NoBox, c_NoRule, c_NoWish, c_NoCount, c_NoWalker, c_NoRoom, c_NoLife]
def isF (K : PySem.W.Frag) : List Bool := exCls.flatMap fun C => exCls.map fun D => decide (PySem.W.kitOne K (.ref C) (.ref D) = some (decide (C = D)))
def exFs (K : PySem.W.Frag) : List Bool := exCls.flatMap (exF K)
def noW (K : PySem.W.Frag) : List Bool := [PySem.W.excInitIn K c_NoWorld veB "ValueError.__new__", PySem.W.hasDictIn K c_NoWorld, isO (PySem.W.findIn K (.ref c_NoWorld) "__setattr__") (some (some (.builtin "object.__setattr__"))),
  decide (PySem.W.subIn K (.ref c_NoWorld) (.type "BaseException") = some true), decide (PySem.W.typeIn K (.ref c_NoWorld) = some (.type "type")), PySem.W.keepIn K (.ref c_NoWorld),
  isO (PySem.W.findIn K (.ref c_NoWorld) "__getattribute__") (some (some (.builtin "BaseException.__getattribute__"))), isO (PySem.W.findIn K (.ref c_NoWorld) "__getattr__") (some none),
  isO (PySem.W.findIn K (.ref c_NoWorld) "__init__") (some (some (.ref m_NoWorld_init))), decide (PySem.W.typeIn K (.ref m_NoWorld_init) = some (.type "function")), isO (PySem.W.findIn K (.ref c_NoWorld) "what") (some none),
  decide (PySem.W.exmOne K (.ref c_NoWorld) (.ref c_NoWorld) = some true)]
def fadeF (K : PySem.W.Frag) : List Bool := [isO (PySem.W.specialIn K (.ref c_FadeError) "__getattribute__") (some (some (.builtin "type.__getattribute__"))), decide (PySem.W.typeIn K (.ref c_FadeError) = some (.type "type")),
  PySem.W.readsIn K c_FadeError (.type "type"), (match PySem.W.findCls K (.ref c_FadeError) (.type "type") "__init__" with | some (.val (.builtin s)) => decide (s = "ValueError.__init__") | _ => false)]
def gnF (K : PySem.W.Frag) : List Bool := [isO (PySem.W.specialIn K (.builtin "object.__class__") "__get__") (some (some (.builtin "getset_descriptor.__get__"))), decide (PySem.W.takesIn K (.builtin "object.__class__") = some true)]
def methF (K : PySem.W.Frag) (m : Str) (f : Addr) : List Bool := [isO (PySem.W.findIn K (.ref c_World) m) (some (some (.ref f))), PySem.W.isFn K (.ref f), PySem.W.keepIn K (.ref f)]
def wldF (K : PySem.W.Frag) : List Bool := [PySem.W.plainGet K c_World Str.empty, PySem.W.hasDictIn K c_World, PySem.W.plainOver K c_World, isO (PySem.W.findIn K (.ref c_World) "__setattr__") (some (some (.builtin "object.__setattr__"))),
  PySem.W.makesIn K c_World, isO (PySem.W.findIn K (.ref c_World) "__init__") (some (some (.ref m_World_init))), PySem.W.isFn K (.ref m_World_init), PySem.W.keepIn K (.ref c_World),
  isO (PySem.W.findIn K (.ref c_World) "floor") (some none), isO (PySem.W.findIn K (.ref c_World) "lasting") (some none), isO (PySem.W.findIn K (.ref c_World) "wanted") (some none)] ++ methF K "rooms" m_World_rooms ++ methF K "walkers" m_World_walkers ++ methF K "life" m_World_life
def tupA (K : PySem.W.Frag) (a : Addr) (vs : List V) : Bool := match K.lookup a with
  | some ⟨.type c, _, .seq its _, _⟩ => decide (c = "tuple") && (decide (its.size ≤ sizeLine) && He.relAll vs its.toList)
  | _ => false
def tpF (K : PySem.W.Frag) : List Bool := [tupA K g_WORDS [.str "fresh", .str "stale"], tupA K g_SIDES [.str "first", .str "last"]]
def chk (K : PySem.W.Frag) : List Bool := gnF K ++ fadeF K ++ noW K ++ wldF K ++ tpF K ++ exFs K ++ isF K
/-- defs: their text, whether they stand well -/
def fnAt (K : PySem.W.Frag) (a : Addr) : He.FnW := match K.lookup a with
  | some ⟨_, _, .func fd, _⟩ => some (fd.name, fd.qualname, fd.params, fd.body, fd.scope, fd.globals, fd.closure, fd.builtins)
  | _ => none
def isNo : Value → Bool
  | .none => true
  | _ => false
def fnB (K : PySem.W.Frag) (d : Df) : Bool := PySem.W.keepIn K (.ref d.at_) && (match K.lookup d.at_ with
  | some ⟨_, _, .func fd, _⟩ => PySem.W.codeIn K fd.code d.qual && isNo fd.defaults
  | _ => false)
def Df.val (d : Df) : He.FnW := some (d.name, d.qual, defArgs d.st, .stmts (defBody d.st), defScope d.st, mainGlobals, [], builtinsNs)
def tabB (g : Addr → Option Obj) (K : PySem.W.Frag) (p : Addr × Addr) : Bool := PySem.W.codeHdIn K p.1 p.2 && (match g p.2 with
  | some o => He.emptyTab o
  | none => false)
def codeB (K : PySem.W.Frag) (p : Addr × Addr) : Bool := match K.lookup p.1 with
  | some ⟨_, _, .func fd, _⟩ => (match fd.code with | .ref c => c == p.2 | _ => false)
  | _ => false
/-- the part of the heap that is looked at -/
def kB {b : Type} (g : Addr → Option Obj) : List Addr → (PySem.W.Frag → b) → b
  | [], k => k []
  | a :: r, k => match g a with
    | some o => kB g r fun K => k ((a, o) :: K)
    | none => kB g r k
theorem kB_eq {b : Type} {g : Addr → Option Obj} : ∀ (as : List Addr) (k : PySem.W.Frag → b), kB g as k = k (He.frG g as)
  | [], _ => rfl
  | a :: r, k => by
    unfold kB He.frG
    rw [List.filterMap_cons]
    cases h : g a with
    | none => exact kB_eq r k
    | some o => exact kB_eq r _
def intOf : Option (Option Value) → Option Int
  | some (some (.int i _)) => some i
  | _ => none
abbrev Al : Type := List (Option (Option Value)) × List (Option Int) × List (Option (Option Value)) × Bool × List He.FnW
def obs0 (K : PySem.W.Frag) : List (Option (Option Value)) × List (Option Int) × List (Option (Option Value)) := (glos.map fun p => PySem.W.nsIn K mainGlobals p.1, numbs.map fun p => intOf (PySem.W.nsIn K mainGlobals p.1), frees.map fun x => PySem.W.nsIn K mainGlobals x)
def obs1 (g : Addr → Option Obj) (K : PySem.W.Frag) : Bool × List He.FnW := ((chk K).all id && (dfs.all (fnB K) && (tabs.all (tabB g K) && codesL.all (codeB K))), dfs.map fun d => fnAt K d.at_)
abbrev Al2 : Type := (List (Option (Option Value)) × List (Option Int) × List (Option (Option Value))) × Bool × List He.FnW
def obsL (g : Addr → Option Obj) : Al2 := (kB g [mainGlobals] obs0, kB g asl (obs1 g))
def valL : Al2 := ((glos.map fun p => some (some (.ref p.2)), numbs.map fun p => some p.2, frees.map fun _ => some none), true, dfs.map Df.val)
/-- what is known behind the top -/
structure Says (h : Heap) (K : PySem.W.Frag) : Prop where
  kin : K.In h
  glo : ∃ K0 : PySem.W.Frag, K0.In h ∧ obs0 K0 = valL.1
  one : ∃ g : Addr → Option Obj, obs1 g K = valL.2
  out : ∀ p ∈ tabs, K.lookup p.2 = none
  empty : ∀ p ∈ tabs, h.get? p.2 = some { cls := .none, data := .fields #[] }
theorem frG_out {g : Addr → Option Obj} {a : Addr} : ∀ {as : List Addr}, a ∉ as → (He.frG g as).lookup a = none
  | [], _ => rfl
  | b :: r, h => by
    unfold He.frG
    rw [List.filterMap_cons]
    have hr : (He.frG g r).lookup a = none := frG_out fun z => h (List.mem_cons_of_mem _ z)
    cases e : g b with
    | none => exact hr
    | some o =>
      show (match a == b with | true => some o | false => (He.frG g r).lookup a) = none
      have hb : (a == b) = false := beq_eq_false_iff_ne.mpr fun z => h (by rw [z]; exact List.mem_cons_self)
      rw [hb]
      exact hr
theorem says_of {h : Heap} (e : obsL h.get? = valL) : Says h (He.frG h.get? asl) := by
  unfold obsL at e
  rw [kB_eq, kB_eq] at e
  have e1 : obs0 (He.frG h.get? [mainGlobals]) = valL.1 := congrArg (fun z : Al2 => z.1) e
  have e2 : obs1 h.get? (He.frG h.get? asl) = valL.2 := congrArg (fun z : Al2 => z.2) e
  refine ⟨He.frG_in, ⟨_, He.frG_in, e1⟩, ⟨_, e2⟩, fun p hp => frG_out ?_, fun p hp => ?_⟩
  · have z : tabs.all (fun p => !asl.contains p.2) = true := by decide +kernel
    have z2 := List.all_eq_true.mp z p hp
    simpa using z2
  · have e3 : ((chk (He.frG h.get? asl)).all id && (dfs.all (fnB (He.frG h.get? asl)) && (tabs.all (tabB h.get? (He.frG h.get? asl)) && codesL.all (codeB (He.frG h.get? asl))))) = true := congrArg (fun z : Bool × List He.FnW => z.1) e2
    obtain ⟨_, h2⟩ := He.ba e3
    obtain ⟨_, h3'⟩ := He.ba h2
    obtain ⟨h3, _⟩ := He.ba h3'
    obtain ⟨_, h4⟩ := He.ba (List.all_eq_true.mp h3 p hp)
    split at h4
    · rename_i o q
      exact q.trans (congrArg some (He.emptyTab_eq h4))
    · cases h4
def hk : PySem.W.Hook where
  α := Al2
  obs := fun s => obsL s.heap.get?
  val := fun _ => valL
  says := fun _ h => ∃ K : PySem.W.Frag, Says h K
  of := fun _ _ e => ⟨_, says_of e⟩
  keeps := fun _ _ _ ⟨K, c⟩ k => ⟨K, PySem.W.Frag.In.keeps c.kin k, let ⟨K0, h0, e0⟩ := c.glo; ⟨K0, PySem.W.Frag.In.keeps h0 k, e0⟩, c.one, c.out, fun p hp => k _ _ (c.empty p hp)⟩
def ob (s : PySem.W.SharedT) : Al2 := obsL (HandSHeadRun.getT s)
theorem ob_eq (s : PySem.W.SharedT) : ob s = hk.obs s.abs := by
  have e : HandSHeadRun.getT s = s.abs.heap.get? := funext (HandSHeadRun.getT_eq s)
  show obsL (HandSHeadRun.getT s) = obsL s.abs.heap.get?
  rw [e]

def loose0 : List Str := ["FadeError", "NoRule", "NoMarks", "NoLife", "NoStand", "NoCount", "NoWalker", "NoWish", "NoBox", "NoRoom", "NoFit", "NoWorld", "NoSights", "NoPlan", "NoPaper", "TooMany", "MOST_MARK", "MOST_LIFE", "MOST_WAYS", "WORDS"]
def loose1 : List Str := ["SIDES", "is_whole", "is_word", "is_clause", "is_rule", "are_marks", "sure_rule", "sure_life", "place_picked", "pick", "ranked", "pairs_apart", "alike", "MOST_ROOMS", "MOST_WALKERS", "are_ways", "are_rules", "sure_floor", "World", "is_room"]
def loose2 : List Str := ["are_rooms", "is_stand", "sure_stand", "MOST_RUN", "ways_picked", "faded", "behind", "picks", "beat", "run", "MOST_BEATS", "FARTHEST", "track_of", "Track", "sure_count", "sure_walker", "is_wish", "sure_wish", "is_met", "round_of"]
def loose3 : List Str := ["at", "visits", "gone", "first_when", "times", "beats_to_look", "parted", "chain_floor", "alone", "together", "MOST_BOXES", "are_few", "is_box", "sure_box", "size_of", "many_in", "holds", "cut", "meet", "looked_at"]
def loose4 : List Str := ["singled", "parts", "least_stand", "onward", "MOST_BACK", "MOST_CHOICES", "rooms_ahead", "marks_ahead", "leads_to", "ways_back", "choices_of", "sure_few", "ahead_of", "all_ahead", "back", "back_by", "many_back", "MOST_STANDS", "power", "many_stands"]
def loose5 : List Str := ["sure_small", "with_mark", "sure_room", "put", "looked", "MOST_PLAN", "are_puts", "plan_fault", "stands_by", "led", "Search", "fewest", "is_lot", "has_puts", "check_lots", "is_answer", "check_fewest", "MOST_SIGHTS", "MOST_BEAT", "is_sight"]
def loose6 : List Str := ["sure_sights", "fits", "kept_of", "keeps", "sure_marks", "rooms_for", "counts_by_room", "many_trails", "trails", "_law_cell_at", "_law_digit", "_law_clause", "_law_rule", "_law_floor", "_law_stand", "_law_parts", "_law_said", "_law_all", "_law_odd_number", "_law_odd_stand"]
def loose7 : List Str := ["_law_odd_box", "_law_odd_rule", "_law_stand_doors", "_law_box_doors", "_law_rule_doors", "_law_count_doors", "_law_life_doors", "_law_other_doors"]
def loose : List Str := loose0 ++ loose1 ++ loose2 ++ loose3 ++ loose4 ++ loose5 ++ loose6 ++ loose7
end Pw
set_option Elab.async false
set_option linter.all false
set_option maxRecDepth 100000
set_option maxHeartbeats 0
/-! The run of the top, in two pieces. -/
namespace Pw
open PySem PySem.W PySem.Calls PyProof.Rows
abbrev qv : Program := view R.prog [162]
/-- what is seen behind the top, by f -/
def EndIs {α : Type} (f : SharedT → α) (v : World → α) (w : World) : Prop := ∀ os : OsState, (HandSHeadRun.endF (HandSHeadRun.stepQ (HandSHeadRun.denQ HandSHeadRun.tabQ) R.prog w) 9000 R.prog w os).map f = some (v w)
theorem run0 (w : World) : EndIs (fun s => (HandSHeadRun.looksF R.prog (boot_heap w.params) s.abs, HandSHeadRun.seenQ qv loose (importedModules R.prog.main.body) (fun s => xlAt qv [] s && recOk R.toRowW.records s) s.abs)) (fun _ => (true, openGood qv loose)) w := by
  intro os
  kernel_rfl
theorem run4 (w : World) : EndIs (fun s => obsL (HandSHeadRun.getT s)) (fun _ => valL) w := by
  intro os
  kernel_rfl
theorem map_both {α β γ : Type} {o : Option α} {f : α → β} {g : α → γ} {a : β} {b : γ} (h1 : o.map f = some a) (h2 : o.map g = some b) : ∃ s, o = some s ∧ f s = a ∧ g s = b := by
  cases o with
  | none => cases h1
  | some s => exact ⟨s, rfl, Option.some.inj h1, Option.some.inj h2⟩
theorem run (w : World) : HandSHeadRun.RunEq R qv hk ob 9000 loose w := fun os => by
  obtain ⟨s, e, h0, h4⟩ := map_both (run0 w os) (run4 w os)
  rw [e]
  have h1 := congrArg Prod.fst h0
  have h2 := congrArg Prod.snd h0
  exact congrArg some (Prod.ext h1 (Prod.ext h2 h4))
end Pw
set_option Elab.async false
set_option linter.all false
set_option maxRecDepth 100000
set_option maxHeartbeats 4000000
namespace Pw
open PySem PySem.Spec PyProof.Rows L2
def fdOf (K : PySem.W.Frag) (a : Addr) : FuncData := match K.lookup a with
  | some ⟨_, _, .func fd, _⟩ => fd
  | _ => PySem.W.fnOf "" "" (defArgs (top 0)) [] (defScope (top 0)) .none .none .none .none none .none .none
/-- a def of the text as it stands behind the top -/
abbrev Fn (K : PySem.W.Frag) (d : Df) : Prop := FunD K d.name d.qual (defArgs d.st) (defBody d.st) (defScope d.st) [] [] d.at_ (fdOf K d.at_)
/-- the code of the def at a is at c -/
def CodeOf (K : PySem.W.Frag) (a c : Addr) : Prop := ∀ (oc : Value) (od : Option Addr) (fd : FuncData) (osl : Array (Option Value)), K.lookup a = some ⟨oc, od, .func fd, osl⟩ → fd.code = .ref c
/-- what the written part says -/
structure Tx (K : PySem.W.Frag) (mg : Str → Option Value) : Prop where
  glo : ∀ p ∈ glos, mg p.1 = some (.ref p.2)
  num : ∀ p ∈ numbs, ∃ t, mg p.1 = some (.int p.2 t)
  fre : ∀ x ∈ frees, mg x = none
  chk : ∀ b ∈ chk K, b = true
  fns : ∀ d ∈ dfs, Fn K d
  cod : ∀ p ∈ codesL, CodeOf K p.1 p.2
  hds : ∀ p ∈ tabs, PySem.W.codeHdIn K p.1 p.2 = true
theorem isNo_eq {v : Value} (h : isNo v = true) : v = .none := by
  cases v with
  | none => rfl
  | _ => cases h
theorem map_eq_mem {α β γ : Type} {f : α → γ} {g : α → γ} {l : List α} (h : l.map f = l.map g) {a : α} (ha : a ∈ l) : f a = g a := by
  induction l with
  | nil => cases ha
  | cons b r ih =>
    rw [List.map_cons, List.map_cons] at h
    obtain ⟨h1, h2⟩ := List.cons.inj h
    rcases List.mem_cons.mp ha with e | e
    · rw [e]
      exact h1
    · exact ih h2 e
theorem fn_one {K : PySem.W.Frag} {d : Df} (e : fnAt K d.at_ = d.val) (c : fnB K d = true) : Fn K d := by
  obtain ⟨kp, c2⟩ := He.ba c
  unfold fnAt at e
  cases q : K.lookup d.at_ with
  | none =>
    rw [q] at c2
    cases c2
  | some o =>
    obtain ⟨oc, od, dt, osl⟩ := o
    rw [q] at c2 e
    cases dt with
    | func fd =>
      have hfd : fdOf K d.at_ = fd := by
        unfold fdOf
        rw [q]
      obtain ⟨n1, n2, n3, n4, n5, n6, n7, n8, n9, n10, n11, n12, n13, n14, n15⟩ := fd
      have e2 : (some (n1, n2, n3, n4, n5, n6, n7, n15) : He.FnW) = some (d.name, d.qual, defArgs d.st, .stmts (defBody d.st), defScope d.st, mainGlobals, [], builtinsNs) := e
      simp only [Option.some.injEq, Prod.mk.injEq] at e2
      obtain ⟨h1, h2, h3, h4, h5, h6, h7, h8⟩ := e2
      subst h1 h2 h3 h4 h5 h6 h7 h8
      obtain ⟨k1, k2⟩ := He.ba (show (PySem.W.codeIn K n13 d.qual && isNo n8) = true from c2)
      have k3 := isNo_eq k2
      subst k3
      refine ⟨?_, kp⟩
      rw [hfd]
      exact ⟨oc, od, .none, n9, n10, n11, n12, n13, n14, osl, rfl, q, k1, .inl ⟨rfl, rfl⟩, .inl rfl⟩
    | _ => cases c2
theorem intOf_eq {o : Option (Option Value)} {i : Int} (h : intOf o = some i) : ∃ t, o = some (some (.int i t)) := by
  unfold intOf at h
  split at h
  · cases h
    exact ⟨_, rfl⟩
  · cases h
theorem code_of {K : PySem.W.Frag} {p : Addr × Addr} (h : codeB K p = true) : CodeOf K p.1 p.2 := fun oc od fd osl e => by
  unfold codeB at h
  rw [e] at h
  dsimp only at h
  split at h
  · rename_i c q
    rw [q, beq_iff_eq.mp h]
  · cases h
theorem tx_of {h : Heap} {K : PySem.W.Frag} {mg : Str → Option Value} (S : Says h K) (G : h.Ns mainGlobals mg) : Tx K mg := by
  obtain ⟨K0, h0, e0⟩ := S.glo
  have g1 : (glos.map fun p => PySem.W.nsIn K0 mainGlobals p.1) = glos.map fun p => some (some (.ref p.2)) := congrArg (fun z : List (Option (Option Value)) × List (Option Int) × List (Option (Option Value)) => z.1) e0
  have g2 : (numbs.map fun p => intOf (PySem.W.nsIn K0 mainGlobals p.1)) = numbs.map fun p => some p.2 := congrArg (fun z : List (Option (Option Value)) × List (Option Int) × List (Option (Option Value)) => z.2.1) e0
  have g3 : (frees.map fun x => PySem.W.nsIn K0 mainGlobals x) = frees.map fun _ => some none := congrArg (fun z : List (Option (Option Value)) × List (Option Int) × List (Option (Option Value)) => z.2.2) e0
  obtain ⟨g, e1⟩ := S.one
  have c1 : ((chk K).all id && (dfs.all (fnB K) && (tabs.all (tabB g K) && codesL.all (codeB K)))) = true := congrArg (fun z : Bool × List He.FnW => z.1) e1
  have c2 : (dfs.map fun d => fnAt K d.at_) = dfs.map Df.val := congrArg (fun z : Bool × List He.FnW => z.2) e1
  obtain ⟨c3, c4⟩ := He.ba c1
  obtain ⟨c5, c6⟩ := He.ba c4
  obtain ⟨c7, c8⟩ := He.ba c6
  exact ⟨fun p hp => PySem.W.mg_of h0 G (map_eq_mem (β := Unit) g1 hp), fun p hp => by
    obtain ⟨t, ht⟩ := intOf_eq (map_eq_mem (β := Unit) g2 hp)
    exact ⟨t, PySem.W.mg_of h0 G ht⟩, fun x hx => PySem.W.mg_none_of h0 G (map_eq_mem (β := Unit) g3 hx), fun b hb => List.all_eq_true.mp c3 b hb,
    fun d hd => fn_one (map_eq_mem (β := Unit) c2 hd) (List.all_eq_true.mp c5 d hd), fun p hp => code_of (List.all_eq_true.mp c8 p hp), fun p hp => (He.ba (List.all_eq_true.mp c7 p hp)).1⟩
theorem lookup_mem1 {β : Type} {x : Str} {b : β} : ∀ {l : List (Str × β)}, l.lookup x = some b → (x, b) ∈ l
  | [], h => by cases h
  | (y, c) :: r, h => by
    have h2 : (match x == y with | true => some c | false => r.lookup x) = some b := h
    cases q : (x == y) with
    | true =>
      rw [q] at h2
      cases h2
      rw [beq_iff_eq.mp q]
      exact List.mem_cons_self
    | false =>
      rw [q] at h2
      exact List.mem_cons_of_mem _ (lookup_mem1 h2)
section
variable {K : PySem.W.Frag} {mg : Str → Option Value}
theorem Tx.mgl (T : Tx K mg) (i : Nat) {x : Str} {a : Addr} (h : glos[i]? = some (x, a)) : mg x = some (.ref a) := T.glo (x, a) (List.mem_of_getElem? h)
theorem Tx.nu (T : Tx K mg) {x : Str} {i : Int} (h : numbs.lookup x = some i) : ∃ t, mg x = some (.int i t) := T.num _ (lookup_mem1 h)
theorem Tx.fr (T : Tx K mg) {x : Str} (h : frees.contains x = true) : mg x = none := T.fre x (by simpa using h)
theorem Tx.ck (T : Tx K mg) (i : Nat) {b : Bool} (h : (Pw.chk K)[i]? = some b) : b = true := T.chk b (List.mem_of_getElem? h)
theorem Tx.fn (T : Tx K mg) (i : Nat) {d : Df} (h : dfs[i]? = some d) : Fn K d := T.fns d (List.mem_of_getElem? h)
end

theorem bne1 {a b : Str} (h : a ≠ b) : (a == b) = false := beq_eq_false_iff_ne.mpr h
theorem bind1 {nm q : Str} {body : List Stmt} {sc : Scope} {p0 : Str} {x0 : Pos} (hd : [p0].Nodup) (kV doc pm : Value) (an : Option Addr) (cdv ct : Value) (us : List Value) (hl : us.length = [p0].length) : bindArgs (PySem.W.fnOf nm q { posonlyargs := [], args := [{ arg := p0, annotation := none, pos := x0 }], vararg := none, kwonlyargs := [], kw_defaults := [], kwarg := none, defaults := [] } body sc .none kV doc pm an cdv ct) ⟨us, []⟩ = pure ([p0].zip us) := by
  match us, hl with
  | [v0], _ =>
    simp [bindArgs, List.lookup, seqItems?]
    rfl
theorem bind2 {nm q : Str} {body : List Stmt} {sc : Scope} {p0 p1 : Str} {x0 x1 : Pos} (hd : [p0, p1].Nodup) (kV doc pm : Value) (an : Option Addr) (cdv ct : Value) (us : List Value) (hl : us.length = [p0, p1].length) : bindArgs (PySem.W.fnOf nm q { posonlyargs := [], args := [{ arg := p0, annotation := none, pos := x0 }, { arg := p1, annotation := none, pos := x1 }], vararg := none, kwonlyargs := [], kw_defaults := [], kwarg := none, defaults := [] } body sc .none kV doc pm an cdv ct) ⟨us, []⟩ = pure ([p0, p1].zip us) := by
  match us, hl with
  | [v0, v1], _ =>
    simp only [List.nodup_cons, List.mem_cons, List.not_mem_nil, or_false, not_or, not_false_eq_true, List.nodup_nil, and_true] at hd
    have h01 := hd
    have e01 := bne1 (Ne.symm h01)
    simp [bindArgs, List.lookup, seqItems?, e01]
    rfl
theorem bind3 {nm q : Str} {body : List Stmt} {sc : Scope} {p0 p1 p2 : Str} {x0 x1 x2 : Pos} (hd : [p0, p1, p2].Nodup) (kV doc pm : Value) (an : Option Addr) (cdv ct : Value) (us : List Value) (hl : us.length = [p0, p1, p2].length) : bindArgs (PySem.W.fnOf nm q { posonlyargs := [], args := [{ arg := p0, annotation := none, pos := x0 }, { arg := p1, annotation := none, pos := x1 }, { arg := p2, annotation := none, pos := x2 }], vararg := none, kwonlyargs := [], kw_defaults := [], kwarg := none, defaults := [] } body sc .none kV doc pm an cdv ct) ⟨us, []⟩ = pure ([p0, p1, p2].zip us) := by
  match us, hl with
  | [v0, v1, v2], _ =>
    simp only [List.nodup_cons, List.mem_cons, List.not_mem_nil, or_false, not_or, not_false_eq_true, List.nodup_nil, and_true] at hd
    obtain ⟨⟨h01, h02⟩, h12⟩ := hd
    have e01 := bne1 (Ne.symm h01)
    have e02 := bne1 (Ne.symm h02)
    have e12 := bne1 (Ne.symm h12)
    simp [bindArgs, List.lookup, seqItems?, e01, e02, e12]
    rfl
theorem bind4 {nm q : Str} {body : List Stmt} {sc : Scope} {p0 p1 p2 p3 : Str} {x0 x1 x2 x3 : Pos} (hd : [p0, p1, p2, p3].Nodup) (kV doc pm : Value) (an : Option Addr) (cdv ct : Value) (us : List Value) (hl : us.length = [p0, p1, p2, p3].length) : bindArgs (PySem.W.fnOf nm q { posonlyargs := [], args := [{ arg := p0, annotation := none, pos := x0 }, { arg := p1, annotation := none, pos := x1 }, { arg := p2, annotation := none, pos := x2 }, { arg := p3, annotation := none, pos := x3 }], vararg := none, kwonlyargs := [], kw_defaults := [], kwarg := none, defaults := [] } body sc .none kV doc pm an cdv ct) ⟨us, []⟩ = pure ([p0, p1, p2, p3].zip us) := by
  match us, hl with
  | [v0, v1, v2, v3], _ =>
    simp only [List.nodup_cons, List.mem_cons, List.not_mem_nil, or_false, not_or, not_false_eq_true, List.nodup_nil, and_true] at hd
    obtain ⟨⟨h01, h02, h03⟩, ⟨h12, h13⟩, h23⟩ := hd
    have e01 := bne1 (Ne.symm h01)
    have e02 := bne1 (Ne.symm h02)
    have e03 := bne1 (Ne.symm h03)
    have e12 := bne1 (Ne.symm h12)
    have e13 := bne1 (Ne.symm h13)
    have e23 := bne1 (Ne.symm h23)
    simp [bindArgs, List.lookup, seqItems?, e01, e02, e03, e12, e13, e23]
    rfl
theorem bind5 {nm q : Str} {body : List Stmt} {sc : Scope} {p0 p1 p2 p3 p4 : Str} {x0 x1 x2 x3 x4 : Pos} (hd : [p0, p1, p2, p3, p4].Nodup) (kV doc pm : Value) (an : Option Addr) (cdv ct : Value) (us : List Value) (hl : us.length = [p0, p1, p2, p3, p4].length) : bindArgs (PySem.W.fnOf nm q { posonlyargs := [], args := [{ arg := p0, annotation := none, pos := x0 }, { arg := p1, annotation := none, pos := x1 }, { arg := p2, annotation := none, pos := x2 }, { arg := p3, annotation := none, pos := x3 }, { arg := p4, annotation := none, pos := x4 }], vararg := none, kwonlyargs := [], kw_defaults := [], kwarg := none, defaults := [] } body sc .none kV doc pm an cdv ct) ⟨us, []⟩ = pure ([p0, p1, p2, p3, p4].zip us) := by
  match us, hl with
  | [v0, v1, v2, v3, v4], _ =>
    simp only [List.nodup_cons, List.mem_cons, List.not_mem_nil, or_false, not_or, not_false_eq_true, List.nodup_nil, and_true] at hd
    obtain ⟨⟨h01, h02, h03, h04⟩, ⟨h12, h13, h14⟩, ⟨h23, h24⟩, h34⟩ := hd
    have e01 := bne1 (Ne.symm h01)
    have e02 := bne1 (Ne.symm h02)
    have e03 := bne1 (Ne.symm h03)
    have e04 := bne1 (Ne.symm h04)
    have e12 := bne1 (Ne.symm h12)
    have e13 := bne1 (Ne.symm h13)
    have e14 := bne1 (Ne.symm h14)
    have e23 := bne1 (Ne.symm h23)
    have e24 := bne1 (Ne.symm h24)
    have e34 := bne1 (Ne.symm h34)
    simp [bindArgs, List.lookup, seqItems?, e01, e02, e03, e04, e12, e13, e14, e23, e24, e34]
    rfl
section
variable {K : PySem.W.Frag} {mg : Str → Option Value}
theorem mg_is_whole (T : Tx K mg) : mg "is_whole" = some (.ref a_is_whole) := T.mgl 0 rfl
theorem mg_is_word (T : Tx K mg) : mg "is_word" = some (.ref a_is_word) := T.mgl 1 rfl
theorem mg_is_clause (T : Tx K mg) : mg "is_clause" = some (.ref a_is_clause) := T.mgl 2 rfl
theorem mg_is_rule (T : Tx K mg) : mg "is_rule" = some (.ref a_is_rule) := T.mgl 3 rfl
theorem mg_are_marks (T : Tx K mg) : mg "are_marks" = some (.ref a_are_marks) := T.mgl 4 rfl
theorem mg_sure_rule (T : Tx K mg) : mg "sure_rule" = some (.ref a_sure_rule) := T.mgl 5 rfl
theorem mg_sure_life (T : Tx K mg) : mg "sure_life" = some (.ref a_sure_life) := T.mgl 6 rfl
theorem mg_pick (T : Tx K mg) : mg "pick" = some (.ref a_pick) := T.mgl 7 rfl
theorem mg_ranked (T : Tx K mg) : mg "ranked" = some (.ref a_ranked) := T.mgl 8 rfl
theorem mg_alike (T : Tx K mg) : mg "alike" = some (.ref a_alike) := T.mgl 9 rfl
theorem mg_are_ways (T : Tx K mg) : mg "are_ways" = some (.ref a_are_ways) := T.mgl 10 rfl
theorem mg_are_rules (T : Tx K mg) : mg "are_rules" = some (.ref a_are_rules) := T.mgl 11 rfl
theorem mg_sure_floor (T : Tx K mg) : mg "sure_floor" = some (.ref a_sure_floor) := T.mgl 12 rfl
theorem mg_is_room (T : Tx K mg) : mg "is_room" = some (.ref a_is_room) := T.mgl 13 rfl
theorem mg_are_rooms (T : Tx K mg) : mg "are_rooms" = some (.ref a_are_rooms) := T.mgl 14 rfl
theorem mg_is_stand (T : Tx K mg) : mg "is_stand" = some (.ref a_is_stand) := T.mgl 15 rfl
theorem mg_sure_stand (T : Tx K mg) : mg "sure_stand" = some (.ref a_sure_stand) := T.mgl 16 rfl
theorem mg_picks (T : Tx K mg) : mg "picks" = some (.ref a_picks) := T.mgl 17 rfl
theorem mg_beat (T : Tx K mg) : mg "beat" = some (.ref a_beat) := T.mgl 18 rfl
theorem mg_run (T : Tx K mg) : mg "run" = some (.ref a_run) := T.mgl 19 rfl
theorem mg_sure_count (T : Tx K mg) : mg "sure_count" = some (.ref a_sure_count) := T.mgl 20 rfl
theorem mg_sure_walker (T : Tx K mg) : mg "sure_walker" = some (.ref a_sure_walker) := T.mgl 21 rfl
theorem mg_is_wish (T : Tx K mg) : mg "is_wish" = some (.ref a_is_wish) := T.mgl 22 rfl
theorem mg_sure_wish (T : Tx K mg) : mg "sure_wish" = some (.ref a_sure_wish) := T.mgl 23 rfl
theorem mg_round_of (T : Tx K mg) : mg "round_of" = some (.ref a_round_of) := T.mgl 24 rfl
theorem mg_at (T : Tx K mg) : mg "at" = some (.ref a_at) := T.mgl 25 rfl
theorem mg_visits (T : Tx K mg) : mg "visits" = some (.ref a_visits) := T.mgl 26 rfl
theorem mg_gone (T : Tx K mg) : mg "gone" = some (.ref a_gone) := T.mgl 27 rfl
theorem mg_first_when (T : Tx K mg) : mg "first_when" = some (.ref a_first_when) := T.mgl 28 rfl
theorem mg_times (T : Tx K mg) : mg "times" = some (.ref a_times) := T.mgl 29 rfl
theorem mg_parted (T : Tx K mg) : mg "parted" = some (.ref a_parted) := T.mgl 30 rfl
theorem mg_alone (T : Tx K mg) : mg "alone" = some (.ref a_alone) := T.mgl 31 rfl
theorem mg_together (T : Tx K mg) : mg "together" = some (.ref a_together) := T.mgl 32 rfl
theorem mg_are_few (T : Tx K mg) : mg "are_few" = some (.ref a_are_few) := T.mgl 33 rfl
theorem mg_is_box (T : Tx K mg) : mg "is_box" = some (.ref a_is_box) := T.mgl 34 rfl
theorem mg_sure_box (T : Tx K mg) : mg "sure_box" = some (.ref a_sure_box) := T.mgl 35 rfl
theorem mg_many_in (T : Tx K mg) : mg "many_in" = some (.ref a_many_in) := T.mgl 36 rfl
theorem mg_holds (T : Tx K mg) : mg "holds" = some (.ref a_holds) := T.mgl 37 rfl
theorem mg_meet (T : Tx K mg) : mg "meet" = some (.ref a_meet) := T.mgl 38 rfl
theorem mg_parts (T : Tx K mg) : mg "parts" = some (.ref a_parts) := T.mgl 39 rfl
theorem mg_onward (T : Tx K mg) : mg "onward" = some (.ref a_onward) := T.mgl 40 rfl
theorem mg_back (T : Tx K mg) : mg "back" = some (.ref a_back) := T.mgl 41 rfl
theorem mg_back_by (T : Tx K mg) : mg "back_by" = some (.ref a_back_by) := T.mgl 42 rfl
theorem mg_many_back (T : Tx K mg) : mg "many_back" = some (.ref a_many_back) := T.mgl 43 rfl
theorem mg_sure_room (T : Tx K mg) : mg "sure_room" = some (.ref a_sure_room) := T.mgl 44 rfl
theorem mg_put (T : Tx K mg) : mg "put" = some (.ref a_put) := T.mgl 45 rfl
theorem mg_looked (T : Tx K mg) : mg "looked" = some (.ref a_looked) := T.mgl 46 rfl
theorem mg_led (T : Tx K mg) : mg "led" = some (.ref a_led) := T.mgl 47 rfl
theorem mg_fewest (T : Tx K mg) : mg "fewest" = some (.ref a_fewest) := T.mgl 48 rfl
theorem mg_check_fewest (T : Tx K mg) : mg "check_fewest" = some (.ref a_check_fewest) := T.mgl 49 rfl
theorem mg_keeps (T : Tx K mg) : mg "keeps" = some (.ref a_keeps) := T.mgl 50 rfl
theorem mg_sure_marks (T : Tx K mg) : mg "sure_marks" = some (.ref a_sure_marks) := T.mgl 51 rfl
theorem mg_many_trails (T : Tx K mg) : mg "many_trails" = some (.ref a_many_trails) := T.mgl 52 rfl
theorem mg_trails (T : Tx K mg) : mg "trails" = some (.ref a_trails) := T.mgl 53 rfl
theorem mg_law_cell_at (T : Tx K mg) : mg "_law_cell_at" = some (.ref a_law_cell_at) := T.mgl 54 rfl
theorem mg_law_digit (T : Tx K mg) : mg "_law_digit" = some (.ref a_law_digit) := T.mgl 55 rfl
theorem mg_law_clause (T : Tx K mg) : mg "_law_clause" = some (.ref a_law_clause) := T.mgl 56 rfl
theorem mg_law_rule (T : Tx K mg) : mg "_law_rule" = some (.ref a_law_rule) := T.mgl 57 rfl
theorem mg_law_floor (T : Tx K mg) : mg "_law_floor" = some (.ref a_law_floor) := T.mgl 58 rfl
theorem mg_law_stand (T : Tx K mg) : mg "_law_stand" = some (.ref a_law_stand) := T.mgl 59 rfl
theorem mg_law_parts (T : Tx K mg) : mg "_law_parts" = some (.ref a_law_parts) := T.mgl 60 rfl
theorem mg_law_said (T : Tx K mg) : mg "_law_said" = some (.ref a_law_said) := T.mgl 61 rfl
theorem mg_law_all (T : Tx K mg) : mg "_law_all" = some (.ref a_law_all) := T.mgl 62 rfl
theorem mg_law_odd_number (T : Tx K mg) : mg "_law_odd_number" = some (.ref a_law_odd_number) := T.mgl 63 rfl
theorem mg_law_odd_stand (T : Tx K mg) : mg "_law_odd_stand" = some (.ref a_law_odd_stand) := T.mgl 64 rfl
theorem mg_law_odd_box (T : Tx K mg) : mg "_law_odd_box" = some (.ref a_law_odd_box) := T.mgl 65 rfl
theorem mg_law_odd_rule (T : Tx K mg) : mg "_law_odd_rule" = some (.ref a_law_odd_rule) := T.mgl 66 rfl
theorem mg_law_stand_doors (T : Tx K mg) : mg "_law_stand_doors" = some (.ref a_law_stand_doors) := T.mgl 67 rfl
theorem mg_law_box_doors (T : Tx K mg) : mg "_law_box_doors" = some (.ref a_law_box_doors) := T.mgl 68 rfl
theorem mg_law_rule_doors (T : Tx K mg) : mg "_law_rule_doors" = some (.ref a_law_rule_doors) := T.mgl 69 rfl
theorem mg_law_count_doors (T : Tx K mg) : mg "_law_count_doors" = some (.ref a_law_count_doors) := T.mgl 70 rfl
theorem mg_law_life_doors (T : Tx K mg) : mg "_law_life_doors" = some (.ref a_law_life_doors) := T.mgl 71 rfl
theorem mg_law_other_doors (T : Tx K mg) : mg "_law_other_doors" = some (.ref a_law_other_doors) := T.mgl 72 rfl
theorem mg_law (T : Tx K mg) : mg "law" = some (.ref a_law) := T.mgl 73 rfl
theorem mg_FadeError (T : Tx K mg) : mg "FadeError" = some (.ref c_FadeError) := T.mgl 74 rfl
theorem mg_NoRule (T : Tx K mg) : mg "NoRule" = some (.ref c_NoRule) := T.mgl 75 rfl
theorem mg_NoLife (T : Tx K mg) : mg "NoLife" = some (.ref c_NoLife) := T.mgl 76 rfl
theorem mg_NoStand (T : Tx K mg) : mg "NoStand" = some (.ref c_NoStand) := T.mgl 77 rfl
theorem mg_NoCount (T : Tx K mg) : mg "NoCount" = some (.ref c_NoCount) := T.mgl 78 rfl
theorem mg_NoWalker (T : Tx K mg) : mg "NoWalker" = some (.ref c_NoWalker) := T.mgl 79 rfl
theorem mg_NoWish (T : Tx K mg) : mg "NoWish" = some (.ref c_NoWish) := T.mgl 80 rfl
theorem mg_NoBox (T : Tx K mg) : mg "NoBox" = some (.ref c_NoBox) := T.mgl 81 rfl
theorem mg_NoRoom (T : Tx K mg) : mg "NoRoom" = some (.ref c_NoRoom) := T.mgl 82 rfl
theorem mg_NoWorld (T : Tx K mg) : mg "NoWorld" = some (.ref c_NoWorld) := T.mgl 83 rfl
theorem mg_World (T : Tx K mg) : mg "World" = some (.ref c_World) := T.mgl 84 rfl
theorem mg_WORDS (T : Tx K mg) : mg "WORDS" = some (.ref g_WORDS) := T.mgl 85 rfl
theorem mg_SIDES (T : Tx K mg) : mg "SIDES" = some (.ref g_SIDES) := T.mgl 86 rfl
theorem mi_MOST_MARK (T : Tx K mg) : ∃ t, mg "MOST_MARK" = some (.int 9 t) := T.nu (by decide +kernel)
theorem mi_MOST_LIFE (T : Tx K mg) : ∃ t, mg "MOST_LIFE" = some (.int 6 t) := T.nu (by decide +kernel)
theorem mi_MOST_WAYS (T : Tx K mg) : ∃ t, mg "MOST_WAYS" = some (.int 4 t) := T.nu (by decide +kernel)
theorem mi_MOST_ROOMS (T : Tx K mg) : ∃ t, mg "MOST_ROOMS" = some (.int 8 t) := T.nu (by decide +kernel)
theorem mi_MOST_WALKERS (T : Tx K mg) : ∃ t, mg "MOST_WALKERS" = some (.int 3 t) := T.nu (by decide +kernel)
theorem mi_MOST_RUN (T : Tx K mg) : ∃ t, mg "MOST_RUN" = some (.int 400 t) := T.nu (by decide +kernel)
theorem mi_FARTHEST (T : Tx K mg) : ∃ t, mg "FARTHEST" = some (.int (10 ^ 40) t) := T.nu (by decide +kernel)
theorem mi_MOST_BACK (T : Tx K mg) : ∃ t, mg "MOST_BACK" = some (.int 60 t) := T.nu (by decide +kernel)
theorem mf_len (T : Tx K mg) : mg "len" = none := T.fr (by decide +kernel)
theorem mf_isinstance (T : Tx K mg) : mg "isinstance" = none := T.fr (by decide +kernel)
theorem mf_int (T : Tx K mg) : mg "int" = none := T.fr (by decide +kernel)
theorem mf_bool (T : Tx K mg) : mg "bool" = none := T.fr (by decide +kernel)
theorem mf_str (T : Tx K mg) : mg "str" = none := T.fr (by decide +kernel)
theorem mf_tuple (T : Tx K mg) : mg "tuple" = none := T.fr (by decide +kernel)
theorem mf_list (T : Tx K mg) : mg "list" = none := T.fr (by decide +kernel)
theorem mf_all (T : Tx K mg) : mg "all" = none := T.fr (by decide +kernel)
theorem mf_range (T : Tx K mg) : mg "range" = none := T.fr (by decide +kernel)
theorem mf_max (T : Tx K mg) : mg "max" = none := T.fr (by decide +kernel)
theorem mf_min (T : Tx K mg) : mg "min" = none := T.fr (by decide +kernel)
theorem mf_zip (T : Tx K mg) : mg "zip" = none := T.fr (by decide +kernel)
theorem mf_sum (T : Tx K mg) : mg "sum" = none := T.fr (by decide +kernel)
theorem fn_is_whole (T : Tx K mg) : Fn K d_is_whole := T.fn 0 rfl
abbrev p_is_whole : List Str := ["thing", "low", "high"]
abbrev n_is_whole : List Str := ["thing", "low", "high"]
theorem s_is_whole : FnScope n_is_whole p_is_whole (defScope d_is_whole.st) := ⟨rfl, rfl, rfl, by decide +kernel, rfl, by decide +kernel, by decide +kernel⟩
theorem b_is_whole (T : Tx K mg) : Binds K (fdOf K d_is_whole.at_) p_is_whole [] := FunD.bindsN (fn_is_whole T) (bind3 (by decide +kernel))
theorem fn_is_word (T : Tx K mg) : Fn K d_is_word := T.fn 1 rfl
abbrev p_is_word : List Str := ["thing", "words"]
abbrev n_is_word : List Str := ["thing", "words"]
theorem s_is_word : FnScope n_is_word p_is_word (defScope d_is_word.st) := ⟨rfl, rfl, rfl, by decide +kernel, rfl, by decide +kernel, by decide +kernel⟩
theorem b_is_word (T : Tx K mg) : Binds K (fdOf K d_is_word.at_) p_is_word [] := FunD.bindsN (fn_is_word T) (bind2 (by decide +kernel))
theorem fn_is_clause (T : Tx K mg) : Fn K d_is_clause := T.fn 2 rfl
abbrev p_is_clause : List Str := ["thing"]
abbrev n_is_clause : List Str := ["thing", "word", "low", "high", "side"]
theorem s_is_clause : FnScope n_is_clause p_is_clause (defScope d_is_clause.st) := ⟨rfl, rfl, rfl, by decide +kernel, rfl, by decide +kernel, by decide +kernel⟩
theorem b_is_clause (T : Tx K mg) : Binds K (fdOf K d_is_clause.at_) p_is_clause [] := FunD.bindsN (fn_is_clause T) (bind1 (by decide +kernel))
theorem fn_is_rule (T : Tx K mg) : Fn K d_is_rule := T.fn 3 rfl
abbrev p_is_rule : List Str := ["thing"]
abbrev n_is_rule : List Str := ["thing", "one"]
theorem s_is_rule : FnScope n_is_rule p_is_rule (defScope d_is_rule.st) := ⟨rfl, rfl, rfl, by decide +kernel, rfl, by decide +kernel, by decide +kernel⟩
theorem b_is_rule (T : Tx K mg) : Binds K (fdOf K d_is_rule.at_) p_is_rule [] := FunD.bindsN (fn_is_rule T) (bind1 (by decide +kernel))
theorem fn_are_marks (T : Tx K mg) : Fn K d_are_marks := T.fn 4 rfl
abbrev p_are_marks : List Str := ["thing", "many", "most"]
abbrev n_are_marks : List Str := ["thing", "many", "most", "one"]
theorem s_are_marks : FnScope n_are_marks p_are_marks (defScope d_are_marks.st) := ⟨rfl, rfl, rfl, by decide +kernel, rfl, by decide +kernel, by decide +kernel⟩
theorem b_are_marks (T : Tx K mg) : Binds K (fdOf K d_are_marks.at_) p_are_marks [] := FunD.bindsN (fn_are_marks T) (bind3 (by decide +kernel))
theorem fn_sure_rule (T : Tx K mg) : Fn K d_sure_rule := T.fn 5 rfl
abbrev p_sure_rule : List Str := ["thing"]
abbrev n_sure_rule : List Str := ["thing"]
theorem s_sure_rule : FnScope n_sure_rule p_sure_rule (defScope d_sure_rule.st) := ⟨rfl, rfl, rfl, by decide +kernel, rfl, by decide +kernel, by decide +kernel⟩
theorem b_sure_rule (T : Tx K mg) : Binds K (fdOf K d_sure_rule.at_) p_sure_rule [] := FunD.bindsN (fn_sure_rule T) (bind1 (by decide +kernel))
theorem fn_sure_life (T : Tx K mg) : Fn K d_sure_life := T.fn 6 rfl
abbrev p_sure_life : List Str := ["thing"]
abbrev n_sure_life : List Str := ["thing"]
theorem s_sure_life : FnScope n_sure_life p_sure_life (defScope d_sure_life.st) := ⟨rfl, rfl, rfl, by decide +kernel, rfl, by decide +kernel, by decide +kernel⟩
theorem b_sure_life (T : Tx K mg) : Binds K (fdOf K d_sure_life.at_) p_sure_life [] := FunD.bindsN (fn_sure_life T) (bind1 (by decide +kernel))
theorem fn_pick (T : Tx K mg) : Fn K d_pick := T.fn 7 rfl
abbrev p_pick : List Str := ["rule", "marks"]
abbrev n_pick : List Str := ["rule", "marks"]
theorem s_pick : FnScope n_pick p_pick (defScope d_pick.st) := ⟨rfl, rfl, rfl, by decide +kernel, rfl, by decide +kernel, by decide +kernel⟩
theorem b_pick (T : Tx K mg) : Binds K (fdOf K d_pick.at_) p_pick [] := FunD.bindsN (fn_pick T) (bind2 (by decide +kernel))
theorem fn_ranked (T : Tx K mg) : Fn K d_ranked := T.fn 8 rfl
abbrev p_ranked : List Str := ["rule", "life"]
abbrev n_ranked : List Str := ["rule", "life", "order", "left", "word", "low", "high", "side", "some", "mark"]
theorem s_ranked : FnScope n_ranked p_ranked (defScope d_ranked.st) := ⟨rfl, rfl, rfl, by decide +kernel, rfl, by decide +kernel, by decide +kernel⟩
theorem b_ranked (T : Tx K mg) : Binds K (fdOf K d_ranked.at_) p_ranked [] := FunD.bindsN (fn_ranked T) (bind2 (by decide +kernel))
theorem fn_alike (T : Tx K mg) : Fn K d_alike := T.fn 9 rfl
abbrev p_alike : List Str := ["one", "other", "life"]
abbrev n_alike : List Str := ["one", "other", "life", "found"]
theorem s_alike : FnScope n_alike p_alike (defScope d_alike.st) := ⟨rfl, rfl, rfl, by decide +kernel, rfl, by decide +kernel, by decide +kernel⟩
theorem b_alike (T : Tx K mg) : Binds K (fdOf K d_alike.at_) p_alike [] := FunD.bindsN (fn_alike T) (bind3 (by decide +kernel))
theorem fn_are_ways (T : Tx K mg) : Fn K d_are_ways := T.fn 10 rfl
abbrev p_are_ways : List Str := ["thing"]
abbrev n_are_ways : List Str := ["thing", "row", "room"]
theorem s_are_ways : FnScope n_are_ways p_are_ways (defScope d_are_ways.st) := ⟨rfl, rfl, rfl, by decide +kernel, rfl, by decide +kernel, by decide +kernel⟩
theorem b_are_ways (T : Tx K mg) : Binds K (fdOf K d_are_ways.at_) p_are_ways [] := FunD.bindsN (fn_are_ways T) (bind1 (by decide +kernel))
theorem fn_are_rules (T : Tx K mg) : Fn K d_are_rules := T.fn 11 rfl
abbrev p_are_rules : List Str := ["thing"]
abbrev n_are_rules : List Str := ["thing", "one"]
theorem s_are_rules : FnScope n_are_rules p_are_rules (defScope d_are_rules.st) := ⟨rfl, rfl, rfl, by decide +kernel, rfl, by decide +kernel, by decide +kernel⟩
theorem b_are_rules (T : Tx K mg) : Binds K (fdOf K d_are_rules.at_) p_are_rules [] := FunD.bindsN (fn_are_rules T) (bind1 (by decide +kernel))
theorem fn_sure_floor (T : Tx K mg) : Fn K d_sure_floor := T.fn 12 rfl
abbrev p_sure_floor : List Str := ["ways", "life"]
abbrev n_sure_floor : List Str := ["ways", "life"]
theorem s_sure_floor : FnScope n_sure_floor p_sure_floor (defScope d_sure_floor.st) := ⟨rfl, rfl, rfl, by decide +kernel, rfl, by decide +kernel, by decide +kernel⟩
theorem b_sure_floor (T : Tx K mg) : Binds K (fdOf K d_sure_floor.at_) p_sure_floor [] := FunD.bindsN (fn_sure_floor T) (bind2 (by decide +kernel))
theorem fn_is_room (T : Tx K mg) : Fn K d_is_room := T.fn 13 rfl
abbrev p_is_room : List Str := ["world", "thing"]
abbrev n_is_room : List Str := ["world", "thing"]
theorem s_is_room : FnScope n_is_room p_is_room (defScope d_is_room.st) := ⟨rfl, rfl, rfl, by decide +kernel, rfl, by decide +kernel, by decide +kernel⟩
theorem b_is_room (T : Tx K mg) : Binds K (fdOf K d_is_room.at_) p_is_room [] := FunD.bindsN (fn_is_room T) (bind2 (by decide +kernel))
theorem fn_are_rooms (T : Tx K mg) : Fn K d_are_rooms := T.fn 14 rfl
abbrev p_are_rooms : List Str := ["world", "thing"]
abbrev n_are_rooms : List Str := ["world", "thing", "one"]
theorem s_are_rooms : FnScope n_are_rooms p_are_rooms (defScope d_are_rooms.st) := ⟨rfl, rfl, rfl, by decide +kernel, rfl, by decide +kernel, by decide +kernel⟩
theorem b_are_rooms (T : Tx K mg) : Binds K (fdOf K d_are_rooms.at_) p_are_rooms [] := FunD.bindsN (fn_are_rooms T) (bind2 (by decide +kernel))
theorem fn_is_stand (T : Tx K mg) : Fn K d_is_stand := T.fn 15 rfl
abbrev p_is_stand : List Str := ["world", "thing"]
abbrev n_is_stand : List Str := ["world", "thing"]
theorem s_is_stand : FnScope n_is_stand p_is_stand (defScope d_is_stand.st) := ⟨rfl, rfl, rfl, by decide +kernel, rfl, by decide +kernel, by decide +kernel⟩
theorem b_is_stand (T : Tx K mg) : Binds K (fdOf K d_is_stand.at_) p_is_stand [] := FunD.bindsN (fn_is_stand T) (bind2 (by decide +kernel))
theorem fn_sure_stand (T : Tx K mg) : Fn K d_sure_stand := T.fn 16 rfl
abbrev p_sure_stand : List Str := ["world", "thing"]
abbrev n_sure_stand : List Str := ["world", "thing"]
theorem s_sure_stand : FnScope n_sure_stand p_sure_stand (defScope d_sure_stand.st) := ⟨rfl, rfl, rfl, by decide +kernel, rfl, by decide +kernel, by decide +kernel⟩
theorem b_sure_stand (T : Tx K mg) : Binds K (fdOf K d_sure_stand.at_) p_sure_stand [] := FunD.bindsN (fn_sure_stand T) (bind2 (by decide +kernel))
theorem fn_picks (T : Tx K mg) : Fn K d_picks := T.fn 17 rfl
abbrev p_picks : List Str := ["world", "stand"]
abbrev n_picks : List Str := ["world", "stand"]
theorem s_picks : FnScope n_picks p_picks (defScope d_picks.st) := ⟨rfl, rfl, rfl, by decide +kernel, rfl, by decide +kernel, by decide +kernel⟩
theorem b_picks (T : Tx K mg) : Binds K (fdOf K d_picks.at_) p_picks [] := FunD.bindsN (fn_picks T) (bind2 (by decide +kernel))
theorem fn_beat (T : Tx K mg) : Fn K d_beat := T.fn 18 rfl
abbrev p_beat : List Str := ["world", "stand"]
abbrev n_beat : List Str := ["world", "stand"]
theorem s_beat : FnScope n_beat p_beat (defScope d_beat.st) := ⟨rfl, rfl, rfl, by decide +kernel, rfl, by decide +kernel, by decide +kernel⟩
theorem b_beat (T : Tx K mg) : Binds K (fdOf K d_beat.at_) p_beat [] := FunD.bindsN (fn_beat T) (bind2 (by decide +kernel))
theorem fn_run (T : Tx K mg) : Fn K d_run := T.fn 19 rfl
abbrev p_run : List Str := ["world", "stand", "many"]
abbrev n_run : List Str := ["world", "stand", "many", "found", "k"]
theorem s_run : FnScope n_run p_run (defScope d_run.st) := ⟨rfl, rfl, rfl, by decide +kernel, rfl, by decide +kernel, by decide +kernel⟩
theorem b_run (T : Tx K mg) : Binds K (fdOf K d_run.at_) p_run [] := FunD.bindsN (fn_run T) (bind3 (by decide +kernel))
theorem fn_sure_count (T : Tx K mg) : Fn K d_sure_count := T.fn 20 rfl
abbrev p_sure_count : List Str := ["thing", "most"]
abbrev n_sure_count : List Str := ["thing", "most"]
theorem s_sure_count : FnScope n_sure_count p_sure_count (defScope d_sure_count.st) := ⟨rfl, rfl, rfl, by decide +kernel, rfl, by decide +kernel, by decide +kernel⟩
theorem b_sure_count (T : Tx K mg) : Binds K (fdOf K d_sure_count.at_) p_sure_count [] := FunD.bindsN (fn_sure_count T) (bind2 (by decide +kernel))
theorem fn_sure_walker (T : Tx K mg) : Fn K d_sure_walker := T.fn 21 rfl
abbrev p_sure_walker : List Str := ["world", "thing"]
abbrev n_sure_walker : List Str := ["world", "thing"]
theorem s_sure_walker : FnScope n_sure_walker p_sure_walker (defScope d_sure_walker.st) := ⟨rfl, rfl, rfl, by decide +kernel, rfl, by decide +kernel, by decide +kernel⟩
theorem b_sure_walker (T : Tx K mg) : Binds K (fdOf K d_sure_walker.at_) p_sure_walker [] := FunD.bindsN (fn_sure_walker T) (bind2 (by decide +kernel))
theorem fn_is_wish (T : Tx K mg) : Fn K d_is_wish := T.fn 22 rfl
abbrev p_is_wish : List Str := ["world", "thing"]
abbrev n_is_wish : List Str := ["world", "thing", "one"]
theorem s_is_wish : FnScope n_is_wish p_is_wish (defScope d_is_wish.st) := ⟨rfl, rfl, rfl, by decide +kernel, rfl, by decide +kernel, by decide +kernel⟩
theorem b_is_wish (T : Tx K mg) : Binds K (fdOf K d_is_wish.at_) p_is_wish [] := FunD.bindsN (fn_is_wish T) (bind2 (by decide +kernel))
theorem fn_sure_wish (T : Tx K mg) : Fn K d_sure_wish := T.fn 23 rfl
abbrev p_sure_wish : List Str := ["world", "thing"]
abbrev n_sure_wish : List Str := ["world", "thing"]
theorem s_sure_wish : FnScope n_sure_wish p_sure_wish (defScope d_sure_wish.st) := ⟨rfl, rfl, rfl, by decide +kernel, rfl, by decide +kernel, by decide +kernel⟩
theorem b_sure_wish (T : Tx K mg) : Binds K (fdOf K d_sure_wish.at_) p_sure_wish [] := FunD.bindsN (fn_sure_wish T) (bind2 (by decide +kernel))
theorem fn_round_of (T : Tx K mg) : Fn K d_round_of := T.fn 24 rfl
abbrev p_round_of : List Str := ["world", "stand"]
abbrev n_round_of : List Str := ["world", "stand", "track"]
theorem s_round_of : FnScope n_round_of p_round_of (defScope d_round_of.st) := ⟨rfl, rfl, rfl, by decide +kernel, rfl, by decide +kernel, by decide +kernel⟩
theorem b_round_of (T : Tx K mg) : Binds K (fdOf K d_round_of.at_) p_round_of [] := FunD.bindsN (fn_round_of T) (bind2 (by decide +kernel))
theorem fn_at (T : Tx K mg) : Fn K d_at := T.fn 25 rfl
abbrev p_at : List Str := ["world", "stand", "beat"]
abbrev n_at : List Str := ["world", "stand", "beat", "track"]
theorem s_at : FnScope n_at p_at (defScope d_at.st) := ⟨rfl, rfl, rfl, by decide +kernel, rfl, by decide +kernel, by decide +kernel⟩
theorem b_at (T : Tx K mg) : Binds K (fdOf K d_at.at_) p_at [] := FunD.bindsN (fn_at T) (bind3 (by decide +kernel))
theorem fn_visits (T : Tx K mg) : Fn K d_visits := T.fn 26 rfl
abbrev p_visits : List Str := ["world", "stand", "walker", "beats"]
abbrev n_visits : List Str := ["world", "stand", "walker", "beats", "track", "found", "many", "rooms", "marks"]
theorem s_visits : FnScope n_visits p_visits (defScope d_visits.st) := ⟨rfl, rfl, rfl, by decide +kernel, rfl, by decide +kernel, by decide +kernel⟩
theorem b_visits (T : Tx K mg) : Binds K (fdOf K d_visits.at_) p_visits [] := FunD.bindsN (fn_visits T) (bind4 (by decide +kernel))
theorem fn_gone (T : Tx K mg) : Fn K d_gone := T.fn 27 rfl
abbrev p_gone : List Str := ["world", "stand", "walker", "beats"]
abbrev n_gone : List Str := ["world", "stand", "walker", "beats", "track", "found", "row", "one", "many"]
theorem s_gone : FnScope n_gone p_gone (defScope d_gone.st) := ⟨rfl, rfl, rfl, by decide +kernel, rfl, by decide +kernel, by decide +kernel⟩
theorem b_gone (T : Tx K mg) : Binds K (fdOf K d_gone.at_) p_gone [] := FunD.bindsN (fn_gone T) (bind4 (by decide +kernel))
theorem fn_first_when (T : Tx K mg) : Fn K d_first_when := T.fn 28 rfl
abbrev p_first_when : List Str := ["world", "stand", "wish"]
abbrev n_first_when : List Str := ["world", "stand", "wish", "track", "beat", "rooms", "marks"]
theorem s_first_when : FnScope n_first_when p_first_when (defScope d_first_when.st) := ⟨rfl, rfl, rfl, by decide +kernel, rfl, by decide +kernel, by decide +kernel⟩
theorem b_first_when (T : Tx K mg) : Binds K (fdOf K d_first_when.at_) p_first_when [] := FunD.bindsN (fn_first_when T) (bind3 (by decide +kernel))
theorem fn_times (T : Tx K mg) : Fn K d_times := T.fn 29 rfl
abbrev p_times : List Str := ["world", "stand", "wish", "beats"]
abbrev n_times : List Str := ["world", "stand", "wish", "beats", "track", "often", "many", "rooms", "marks"]
theorem s_times : FnScope n_times p_times (defScope d_times.st) := ⟨rfl, rfl, rfl, by decide +kernel, rfl, by decide +kernel, by decide +kernel⟩
theorem b_times (T : Tx K mg) : Binds K (fdOf K d_times.at_) p_times [] := FunD.bindsN (fn_times T) (bind4 (by decide +kernel))
theorem fn_parted (T : Tx K mg) : Fn K d_parted := T.fn 30 rfl
abbrev p_parted : List Str := ["one", "stand", "other", "another"]
abbrev n_parted : List Str := ["one", "stand", "other", "another", "track", "its", "beat"]
theorem s_parted : FnScope n_parted p_parted (defScope d_parted.st) := ⟨rfl, rfl, rfl, by decide +kernel, rfl, by decide +kernel, by decide +kernel⟩
theorem b_parted (T : Tx K mg) : Binds K (fdOf K d_parted.at_) p_parted [] := FunD.bindsN (fn_parted T) (bind4 (by decide +kernel))
theorem fn_alone (T : Tx K mg) : Fn K d_alone := T.fn 31 rfl
abbrev p_alone : List Str := ["one", "other", "life"]
abbrev n_alone : List Str := ["one", "other", "life", "some", "pair"]
theorem s_alone : FnScope n_alone p_alone (defScope d_alone.st) := ⟨rfl, rfl, rfl, by decide +kernel, rfl, by decide +kernel, by decide +kernel⟩
theorem b_alone (T : Tx K mg) : Binds K (fdOf K d_alone.at_) p_alone [] := FunD.bindsN (fn_alone T) (bind3 (by decide +kernel))
theorem fn_together (T : Tx K mg) : Fn K d_together := T.fn 32 rfl
abbrev p_together : List Str := ["world", "stand", "one", "other"]
abbrev n_together : List Str := ["world", "stand", "one", "other", "track", "apart", "beat", "rooms", "marks"]
theorem s_together : FnScope n_together p_together (defScope d_together.st) := ⟨rfl, rfl, rfl, by decide +kernel, rfl, by decide +kernel, by decide +kernel⟩
theorem b_together (T : Tx K mg) : Binds K (fdOf K d_together.at_) p_together [] := FunD.bindsN (fn_together T) (bind4 (by decide +kernel))
theorem fn_are_few (T : Tx K mg) : Fn K d_are_few := T.fn 33 rfl
abbrev p_are_few : List Str := ["thing", "life"]
abbrev n_are_few : List Str := ["thing", "life", "one", "other"]
theorem s_are_few : FnScope n_are_few p_are_few (defScope d_are_few.st) := ⟨rfl, rfl, rfl, by decide +kernel, rfl, by decide +kernel, by decide +kernel⟩
theorem b_are_few (T : Tx K mg) : Binds K (fdOf K d_are_few.at_) p_are_few [] := FunD.bindsN (fn_are_few T) (bind2 (by decide +kernel))
theorem fn_is_box (T : Tx K mg) : Fn K d_is_box := T.fn 34 rfl
abbrev p_is_box : List Str := ["world", "thing"]
abbrev n_is_box : List Str := ["world", "thing", "one"]
theorem s_is_box : FnScope n_is_box p_is_box (defScope d_is_box.st) := ⟨rfl, rfl, rfl, by decide +kernel, rfl, by decide +kernel, by decide +kernel⟩
theorem b_is_box (T : Tx K mg) : Binds K (fdOf K d_is_box.at_) p_is_box [] := FunD.bindsN (fn_is_box T) (bind2 (by decide +kernel))
theorem fn_sure_box (T : Tx K mg) : Fn K d_sure_box := T.fn 35 rfl
abbrev p_sure_box : List Str := ["world", "thing"]
abbrev n_sure_box : List Str := ["world", "thing"]
theorem s_sure_box : FnScope n_sure_box p_sure_box (defScope d_sure_box.st) := ⟨rfl, rfl, rfl, by decide +kernel, rfl, by decide +kernel, by decide +kernel⟩
theorem b_sure_box (T : Tx K mg) : Binds K (fdOf K d_sure_box.at_) p_sure_box [] := FunD.bindsN (fn_sure_box T) (bind2 (by decide +kernel))
theorem fn_many_in (T : Tx K mg) : Fn K d_many_in := T.fn 36 rfl
abbrev p_many_in : List Str := ["world", "box"]
abbrev n_many_in : List Str := ["world", "box"]
theorem s_many_in : FnScope n_many_in p_many_in (defScope d_many_in.st) := ⟨rfl, rfl, rfl, by decide +kernel, rfl, by decide +kernel, by decide +kernel⟩
theorem b_many_in (T : Tx K mg) : Binds K (fdOf K d_many_in.at_) p_many_in [] := FunD.bindsN (fn_many_in T) (bind2 (by decide +kernel))
theorem fn_holds (T : Tx K mg) : Fn K d_holds := T.fn 37 rfl
abbrev p_holds : List Str := ["world", "box", "stand"]
abbrev n_holds : List Str := ["world", "box", "stand", "mark", "few"]
theorem s_holds : FnScope n_holds p_holds (defScope d_holds.st) := ⟨rfl, rfl, rfl, by decide +kernel, rfl, by decide +kernel, by decide +kernel⟩
theorem b_holds (T : Tx K mg) : Binds K (fdOf K d_holds.at_) p_holds [] := FunD.bindsN (fn_holds T) (bind3 (by decide +kernel))
theorem fn_meet (T : Tx K mg) : Fn K d_meet := T.fn 38 rfl
abbrev p_meet : List Str := ["world", "one", "other"]
abbrev n_meet : List Str := ["world", "one", "other"]
theorem s_meet : FnScope n_meet p_meet (defScope d_meet.st) := ⟨rfl, rfl, rfl, by decide +kernel, rfl, by decide +kernel, by decide +kernel⟩
theorem b_meet (T : Tx K mg) : Binds K (fdOf K d_meet.at_) p_meet [] := FunD.bindsN (fn_meet T) (bind3 (by decide +kernel))
theorem fn_parts (T : Tx K mg) : Fn K d_parts := T.fn 39 rfl
abbrev p_parts : List Str := ["world", "box"]
abbrev n_parts : List Str := ["world", "box", "places", "many", "place", "marks"]
theorem s_parts : FnScope n_parts p_parts (defScope d_parts.st) := ⟨rfl, rfl, rfl, by decide +kernel, rfl, by decide +kernel, by decide +kernel⟩
theorem b_parts (T : Tx K mg) : Binds K (fdOf K d_parts.at_) p_parts [] := FunD.bindsN (fn_parts T) (bind2 (by decide +kernel))
theorem fn_onward (T : Tx K mg) : Fn K d_onward := T.fn 40 rfl
abbrev p_onward : List Str := ["world", "box"]
abbrev n_onward : List Str := ["world", "box", "rooms", "marks", "place", "places", "goals", "room", "later", "few", "mark"]
theorem s_onward : FnScope n_onward p_onward (defScope d_onward.st) := ⟨rfl, rfl, rfl, by decide +kernel, rfl, by decide +kernel, by decide +kernel⟩
theorem b_onward (T : Tx K mg) : Binds K (fdOf K d_onward.at_) p_onward [] := FunD.bindsN (fn_onward T) (bind2 (by decide +kernel))
theorem fn_back (T : Tx K mg) : Fn K d_back := T.fn 41 rfl
abbrev p_back : List Str := ["world", "box"]
abbrev n_back : List Str := ["world", "box"]
theorem s_back : FnScope n_back p_back (defScope d_back.st) := ⟨rfl, rfl, rfl, by decide +kernel, rfl, by decide +kernel, by decide +kernel⟩
theorem b_back (T : Tx K mg) : Binds K (fdOf K d_back.at_) p_back [] := FunD.bindsN (fn_back T) (bind2 (by decide +kernel))
theorem fn_back_by (T : Tx K mg) : Fn K d_back_by := T.fn 42 rfl
abbrev p_back_by : List Str := ["world", "box", "beats"]
abbrev n_back_by : List Str := ["world", "box", "beats", "found", "k"]
theorem s_back_by : FnScope n_back_by p_back_by (defScope d_back_by.st) := ⟨rfl, rfl, rfl, by decide +kernel, rfl, by decide +kernel, by decide +kernel⟩
theorem b_back_by (T : Tx K mg) : Binds K (fdOf K d_back_by.at_) p_back_by [] := FunD.bindsN (fn_back_by T) (bind3 (by decide +kernel))
theorem fn_many_back (T : Tx K mg) : Fn K d_many_back := T.fn 43 rfl
abbrev p_many_back : List Str := ["world", "box", "beats"]
abbrev n_many_back : List Str := ["world", "box", "beats", "one"]
theorem s_many_back : FnScope n_many_back p_many_back (defScope d_many_back.st) := ⟨rfl, rfl, rfl, by decide +kernel, rfl, by decide +kernel, by decide +kernel⟩
theorem b_many_back (T : Tx K mg) : Binds K (fdOf K d_many_back.at_) p_many_back [] := FunD.bindsN (fn_many_back T) (bind3 (by decide +kernel))
theorem fn_sure_room (T : Tx K mg) : Fn K d_sure_room := T.fn 44 rfl
abbrev p_sure_room : List Str := ["world", "thing"]
abbrev n_sure_room : List Str := ["world", "thing"]
theorem s_sure_room : FnScope n_sure_room p_sure_room (defScope d_sure_room.st) := ⟨rfl, rfl, rfl, by decide +kernel, rfl, by decide +kernel, by decide +kernel⟩
theorem b_sure_room (T : Tx K mg) : Binds K (fdOf K d_sure_room.at_) p_sure_room [] := FunD.bindsN (fn_sure_room T) (bind2 (by decide +kernel))
theorem fn_put (T : Tx K mg) : Fn K d_put := T.fn 45 rfl
abbrev p_put : List Str := ["world", "stand", "room"]
abbrev n_put : List Str := ["world", "stand", "room"]
theorem s_put : FnScope n_put p_put (defScope d_put.st) := ⟨rfl, rfl, rfl, by decide +kernel, rfl, by decide +kernel, by decide +kernel⟩
theorem b_put (T : Tx K mg) : Binds K (fdOf K d_put.at_) p_put [] := FunD.bindsN (fn_put T) (bind3 (by decide +kernel))
theorem fn_looked (T : Tx K mg) : Fn K d_looked := T.fn 46 rfl
abbrev p_looked : List Str := ["world", "stand", "room"]
abbrev n_looked : List Str := ["world", "stand", "room", "beat"]
theorem s_looked : FnScope n_looked p_looked (defScope d_looked.st) := ⟨rfl, rfl, rfl, by decide +kernel, rfl, by decide +kernel, by decide +kernel⟩
theorem b_looked (T : Tx K mg) : Binds K (fdOf K d_looked.at_) p_looked [] := FunD.bindsN (fn_looked T) (bind3 (by decide +kernel))
theorem fn_led (T : Tx K mg) : Fn K d_led := T.fn 47 rfl
abbrev p_led : List Str := ["world", "stand", "plan"]
abbrev n_led : List Str := ["world", "stand", "plan", "fault"]
theorem s_led : FnScope n_led p_led (defScope d_led.st) := ⟨rfl, rfl, rfl, by decide +kernel, rfl, by decide +kernel, by decide +kernel⟩
theorem b_led (T : Tx K mg) : Binds K (fdOf K d_led.at_) p_led [] := FunD.bindsN (fn_led T) (bind3 (by decide +kernel))
theorem fn_fewest (T : Tx K mg) : Fn K d_fewest := T.fn 48 rfl
abbrev p_fewest : List Str := ["world", "stand", "wish"]
abbrev n_fewest : List Str := ["world", "stand", "wish", "search", "lots", "lot", "new"]
theorem s_fewest : FnScope n_fewest p_fewest (defScope d_fewest.st) := ⟨rfl, rfl, rfl, by decide +kernel, rfl, by decide +kernel, by decide +kernel⟩
theorem b_fewest (T : Tx K mg) : Binds K (fdOf K d_fewest.at_) p_fewest [] := FunD.bindsN (fn_fewest T) (bind3 (by decide +kernel))
theorem fn_check_fewest (T : Tx K mg) : Fn K d_check_fewest := T.fn 49 rfl
abbrev p_check_fewest : List Str := ["world", "stand", "wish", "answer"]
abbrev n_check_fewest : List Str := ["world", "stand", "wish", "answer", "lot"]
theorem s_check_fewest : FnScope n_check_fewest p_check_fewest (defScope d_check_fewest.st) := ⟨rfl, rfl, rfl, by decide +kernel, rfl, by decide +kernel, by decide +kernel⟩
theorem b_check_fewest (T : Tx K mg) : Binds K (fdOf K d_check_fewest.at_) p_check_fewest [] := FunD.bindsN (fn_check_fewest T) (bind4 (by decide +kernel))
theorem fn_keeps (T : Tx K mg) : Fn K d_keeps := T.fn 50 rfl
abbrev p_keeps : List Str := ["world", "stand", "sights"]
abbrev n_keeps : List Str := ["world", "stand", "sights"]
theorem s_keeps : FnScope n_keeps p_keeps (defScope d_keeps.st) := ⟨rfl, rfl, rfl, by decide +kernel, rfl, by decide +kernel, by decide +kernel⟩
theorem b_keeps (T : Tx K mg) : Binds K (fdOf K d_keeps.at_) p_keeps [] := FunD.bindsN (fn_keeps T) (bind3 (by decide +kernel))
theorem fn_sure_marks (T : Tx K mg) : Fn K d_sure_marks := T.fn 51 rfl
abbrev p_sure_marks : List Str := ["ways", "life", "marks"]
abbrev n_sure_marks : List Str := ["ways", "life", "marks"]
theorem s_sure_marks : FnScope n_sure_marks p_sure_marks (defScope d_sure_marks.st) := ⟨rfl, rfl, rfl, by decide +kernel, rfl, by decide +kernel, by decide +kernel⟩
theorem b_sure_marks (T : Tx K mg) : Binds K (fdOf K d_sure_marks.at_) p_sure_marks [] := FunD.bindsN (fn_sure_marks T) (bind3 (by decide +kernel))
theorem fn_many_trails (T : Tx K mg) : Fn K d_many_trails := T.fn 52 rfl
abbrev p_many_trails : List Str := ["ways", "life", "marks"]
abbrev n_many_trails : List Str := ["ways", "life", "marks"]
theorem s_many_trails : FnScope n_many_trails p_many_trails (defScope d_many_trails.st) := ⟨rfl, rfl, rfl, by decide +kernel, rfl, by decide +kernel, by decide +kernel⟩
theorem b_many_trails (T : Tx K mg) : Binds K (fdOf K d_many_trails.at_) p_many_trails [] := FunD.bindsN (fn_many_trails T) (bind3 (by decide +kernel))
theorem fn_trails (T : Tx K mg) : Fn K d_trails := T.fn 53 rfl
abbrev p_trails : List Str := ["ways", "life", "marks"]
abbrev n_trails : List Str := ["ways", "life", "marks", "found", "room", "value", "some", "trail"]
theorem s_trails : FnScope n_trails p_trails (defScope d_trails.st) := ⟨rfl, rfl, rfl, by decide +kernel, rfl, by decide +kernel, by decide +kernel⟩
theorem b_trails (T : Tx K mg) : Binds K (fdOf K d_trails.at_) p_trails [] := FunD.bindsN (fn_trails T) (bind3 (by decide +kernel))
theorem fn_law_cell_at (T : Tx K mg) : Fn K d_law_cell_at := T.fn 54 rfl
abbrev p_law_cell_at : List Str := ["_law_script", "_law_k"]
abbrev n_law_cell_at : List Str := ["_law_script", "_law_k"]
theorem s_law_cell_at : FnScope n_law_cell_at p_law_cell_at (defScope d_law_cell_at.st) := ⟨rfl, rfl, rfl, by decide +kernel, rfl, by decide +kernel, by decide +kernel⟩
theorem b_law_cell_at (T : Tx K mg) : Binds K (fdOf K d_law_cell_at.at_) p_law_cell_at [] := FunD.bindsN (fn_law_cell_at T) (bind2 (by decide +kernel))
theorem fn_law_digit (T : Tx K mg) : Fn K d_law_digit := T.fn 55 rfl
abbrev p_law_digit : List Str := ["_law_state", "_law_base"]
abbrev n_law_digit : List Str := ["_law_state", "_law_base", "_law_cell", "_law_found", "_law_number"]
theorem s_law_digit : FnScope n_law_digit p_law_digit (defScope d_law_digit.st) := ⟨rfl, rfl, rfl, by decide +kernel, rfl, by decide +kernel, by decide +kernel⟩
theorem b_law_digit (T : Tx K mg) : Binds K (fdOf K d_law_digit.at_) p_law_digit [] := FunD.bindsN (fn_law_digit T) (bind2 (by decide +kernel))
theorem fn_law_clause (T : Tx K mg) : Fn K d_law_clause := T.fn 56 rfl
abbrev p_law_clause : List Str := ["_law_state", "_law_most"]
abbrev n_law_clause : List Str := ["_law_state", "_law_most", "_law_low", "_law_high"]
theorem s_law_clause : FnScope n_law_clause p_law_clause (defScope d_law_clause.st) := ⟨rfl, rfl, rfl, by decide +kernel, rfl, by decide +kernel, by decide +kernel⟩
theorem b_law_clause (T : Tx K mg) : Binds K (fdOf K d_law_clause.at_) p_law_clause [] := FunD.bindsN (fn_law_clause T) (bind2 (by decide +kernel))
theorem fn_law_rule (T : Tx K mg) : Fn K d_law_rule := T.fn 57 rfl
abbrev p_law_rule : List Str := ["_law_state", "_law_most"]
abbrev n_law_rule : List Str := ["_law_state", "_law_most", "_law_k"]
theorem s_law_rule : FnScope n_law_rule p_law_rule (defScope d_law_rule.st) := ⟨rfl, rfl, rfl, by decide +kernel, rfl, by decide +kernel, by decide +kernel⟩
theorem b_law_rule (T : Tx K mg) : Binds K (fdOf K d_law_rule.at_) p_law_rule [] := FunD.bindsN (fn_law_rule T) (bind2 (by decide +kernel))
theorem fn_law_floor (T : Tx K mg) : Fn K d_law_floor := T.fn 58 rfl
abbrev p_law_floor : List Str := ["_law_state", "_law_most"]
abbrev n_law_floor : List Str := ["_law_state", "_law_most", "_law_many", "_law_way", "_law_found", "_law_room", "_law_goals", "_law_k"]
theorem s_law_floor : FnScope n_law_floor p_law_floor (defScope d_law_floor.st) := ⟨rfl, rfl, rfl, by decide +kernel, rfl, by decide +kernel, by decide +kernel⟩
theorem b_law_floor (T : Tx K mg) : Binds K (fdOf K d_law_floor.at_) p_law_floor [] := FunD.bindsN (fn_law_floor T) (bind2 (by decide +kernel))
theorem fn_law_stand (T : Tx K mg) : Fn K d_law_stand := T.fn 59 rfl
abbrev p_law_stand : List Str := ["_law_state", "_law_many", "_law_life", "_law_walkers"]
abbrev n_law_stand : List Str := ["_law_state", "_law_many", "_law_life", "_law_walkers", "_law_rooms", "_law_k", "_law_some", "_law_room"]
theorem s_law_stand : FnScope n_law_stand p_law_stand (defScope d_law_stand.st) := ⟨rfl, rfl, rfl, by decide +kernel, rfl, by decide +kernel, by decide +kernel⟩
theorem b_law_stand (T : Tx K mg) : Binds K (fdOf K d_law_stand.at_) p_law_stand [] := FunD.bindsN (fn_law_stand T) (bind4 (by decide +kernel))
theorem fn_law_parts (T : Tx K mg) : Fn K d_law_parts := T.fn 60 rfl
abbrev p_law_parts : List Str := ["_law_state", "_law_most", "_law_great", "_law_walkers"]
abbrev n_law_parts : List Str := ["_law_state", "_law_most", "_law_great", "_law_walkers", "_law_ways", "_law_life", "_law_k"]
theorem s_law_parts : FnScope n_law_parts p_law_parts (defScope d_law_parts.st) := ⟨rfl, rfl, rfl, by decide +kernel, rfl, by decide +kernel, by decide +kernel⟩
theorem b_law_parts (T : Tx K mg) : Binds K (fdOf K d_law_parts.at_) p_law_parts [] := FunD.bindsN (fn_law_parts T) (bind4 (by decide +kernel))
theorem fn_law_said (T : Tx K mg) : Fn K d_law_said := T.fn 61 rfl
abbrev p_law_said : List Str := ["_law_ask"]
abbrev n_law_said : List Str := ["_law_ask", "_law_words", "e", "_law_some", "_law_found", "_law_word", "_law_one"]
theorem s_law_said : FnScope n_law_said p_law_said (defScope d_law_said.st) := ⟨rfl, rfl, rfl, by decide +kernel, rfl, by decide +kernel, by decide +kernel⟩
theorem b_law_said (T : Tx K mg) : Binds K (fdOf K d_law_said.at_) p_law_said [] := FunD.bindsN (fn_law_said T) (bind1 (by decide +kernel))
theorem fn_law_all (T : Tx K mg) : Fn K d_law_all := T.fn 62 rfl
abbrev p_law_all : List Str := ["_law_asks", "_law_word"]
abbrev n_law_all : List Str := ["_law_asks", "_law_word", "_law_ask"]
theorem s_law_all : FnScope n_law_all p_law_all (defScope d_law_all.st) := ⟨rfl, rfl, rfl, by decide +kernel, rfl, by decide +kernel, by decide +kernel⟩
theorem b_law_all (T : Tx K mg) : Binds K (fdOf K d_law_all.at_) p_law_all [] := FunD.bindsN (fn_law_all T) (bind2 (by decide +kernel))
theorem fn_law_odd_number (T : Tx K mg) : Fn K d_law_odd_number := T.fn 63 rfl
abbrev p_law_odd_number : List Str := ["_law_state", "_law_most"]
abbrev n_law_odd_number : List Str := ["_law_state", "_law_most"]
theorem s_law_odd_number : FnScope n_law_odd_number p_law_odd_number (defScope d_law_odd_number.st) := ⟨rfl, rfl, rfl, by decide +kernel, rfl, by decide +kernel, by decide +kernel⟩
theorem b_law_odd_number (T : Tx K mg) : Binds K (fdOf K d_law_odd_number.at_) p_law_odd_number [] := FunD.bindsN (fn_law_odd_number T) (bind2 (by decide +kernel))
theorem fn_law_odd_stand (T : Tx K mg) : Fn K d_law_odd_stand := T.fn 64 rfl
abbrev p_law_odd_stand : List Str := ["_law_state", "_law_stand_here", "_law_life"]
abbrev n_law_odd_stand : List Str := ["_law_state", "_law_stand_here", "_law_life", "_law_rooms", "_law_marks", "_law_spot", "_law_mark", "_law_nth", "_law_turned", "_law_some"]
theorem s_law_odd_stand : FnScope n_law_odd_stand p_law_odd_stand (defScope d_law_odd_stand.st) := ⟨rfl, rfl, rfl, by decide +kernel, rfl, by decide +kernel, by decide +kernel⟩
theorem b_law_odd_stand (T : Tx K mg) : Binds K (fdOf K d_law_odd_stand.at_) p_law_odd_stand [] := FunD.bindsN (fn_law_odd_stand T) (bind3 (by decide +kernel))
theorem fn_law_odd_box (T : Tx K mg) : Fn K d_law_odd_box := T.fn 65 rfl
abbrev p_law_odd_box : List Str := ["_law_state", "_law_stand_here", "_law_life"]
abbrev n_law_odd_box : List Str := ["_law_state", "_law_stand_here", "_law_life", "_law_rooms", "_law_marks", "_law_few", "_law_mark", "_law_spot", "_law_odd", "_law_some"]
theorem s_law_odd_box : FnScope n_law_odd_box p_law_odd_box (defScope d_law_odd_box.st) := ⟨rfl, rfl, rfl, by decide +kernel, rfl, by decide +kernel, by decide +kernel⟩
theorem b_law_odd_box (T : Tx K mg) : Binds K (fdOf K d_law_odd_box.at_) p_law_odd_box [] := FunD.bindsN (fn_law_odd_box T) (bind3 (by decide +kernel))
theorem fn_law_odd_rule (T : Tx K mg) : Fn K d_law_odd_rule := T.fn 66 rfl
abbrev p_law_odd_rule : List Str := ["_law_state", "_law_rule_here"]
abbrev n_law_odd_rule : List Str := ["_law_state", "_law_rule_here", "_law_odd", "_law_some"]
theorem s_law_odd_rule : FnScope n_law_odd_rule p_law_odd_rule (defScope d_law_odd_rule.st) := ⟨rfl, rfl, rfl, by decide +kernel, rfl, by decide +kernel, by decide +kernel⟩
theorem b_law_odd_rule (T : Tx K mg) : Binds K (fdOf K d_law_odd_rule.at_) p_law_odd_rule [] := FunD.bindsN (fn_law_odd_rule T) (bind2 (by decide +kernel))
theorem fn_law_stand_doors (T : Tx K mg) : Fn K d_law_stand_doors := T.fn 67 rfl
abbrev p_law_stand_doors : List Str := ["_law_world", "_law_odd", "_law_stand_here", "_law_box"]
abbrev n_law_stand_doors : List Str := ["_law_world", "_law_odd", "_law_stand_here", "_law_box", "_law_wish", "_law_asks"]
theorem s_law_stand_doors : FnScope n_law_stand_doors p_law_stand_doors (defScope d_law_stand_doors.st) := ⟨rfl, rfl, rfl, by decide +kernel, rfl, by decide +kernel, by decide +kernel⟩
theorem b_law_stand_doors (T : Tx K mg) : Binds K (fdOf K d_law_stand_doors.at_) p_law_stand_doors [] := FunD.bindsN (fn_law_stand_doors T) (bind4 (by decide +kernel))
theorem fn_law_box_doors (T : Tx K mg) : Fn K d_law_box_doors := T.fn 68 rfl
abbrev p_law_box_doors : List Str := ["_law_world", "_law_odd", "_law_stand_here", "_law_box"]
abbrev n_law_box_doors : List Str := ["_law_world", "_law_odd", "_law_stand_here", "_law_box", "_law_asks"]
theorem s_law_box_doors : FnScope n_law_box_doors p_law_box_doors (defScope d_law_box_doors.st) := ⟨rfl, rfl, rfl, by decide +kernel, rfl, by decide +kernel, by decide +kernel⟩
theorem b_law_box_doors (T : Tx K mg) : Binds K (fdOf K d_law_box_doors.at_) p_law_box_doors [] := FunD.bindsN (fn_law_box_doors T) (bind4 (by decide +kernel))
theorem fn_law_rule_doors (T : Tx K mg) : Fn K d_law_rule_doors := T.fn 69 rfl
abbrev p_law_rule_doors : List Str := ["_law_odd", "_law_rule_here", "_law_life"]
abbrev n_law_rule_doors : List Str := ["_law_odd", "_law_rule_here", "_law_life", "_law_asks"]
theorem s_law_rule_doors : FnScope n_law_rule_doors p_law_rule_doors (defScope d_law_rule_doors.st) := ⟨rfl, rfl, rfl, by decide +kernel, rfl, by decide +kernel, by decide +kernel⟩
theorem b_law_rule_doors (T : Tx K mg) : Binds K (fdOf K d_law_rule_doors.at_) p_law_rule_doors [] := FunD.bindsN (fn_law_rule_doors T) (bind3 (by decide +kernel))
theorem fn_law_count_doors (T : Tx K mg) : Fn K d_law_count_doors := T.fn 70 rfl
abbrev p_law_count_doors : List Str := ["_law_state", "_law_world", "_law_stand_here", "_law_box"]
abbrev n_law_count_doors : List Str := ["_law_state", "_law_world", "_law_stand_here", "_law_box", "_law_odd", "_law_far", "_law_wish", "_law_asks"]
theorem s_law_count_doors : FnScope n_law_count_doors p_law_count_doors (defScope d_law_count_doors.st) := ⟨rfl, rfl, rfl, by decide +kernel, rfl, by decide +kernel, by decide +kernel⟩
theorem b_law_count_doors (T : Tx K mg) : Binds K (fdOf K d_law_count_doors.at_) p_law_count_doors [] := FunD.bindsN (fn_law_count_doors T) (bind4 (by decide +kernel))
theorem fn_law_life_doors (T : Tx K mg) : Fn K d_law_life_doors := T.fn 71 rfl
abbrev p_law_life_doors : List Str := ["_law_state", "_law_rule_here"]
abbrev n_law_life_doors : List Str := ["_law_state", "_law_rule_here", "_law_odd", "_law_asks"]
theorem s_law_life_doors : FnScope n_law_life_doors p_law_life_doors (defScope d_law_life_doors.st) := ⟨rfl, rfl, rfl, by decide +kernel, rfl, by decide +kernel, by decide +kernel⟩
theorem b_law_life_doors (T : Tx K mg) : Binds K (fdOf K d_law_life_doors.at_) p_law_life_doors [] := FunD.bindsN (fn_law_life_doors T) (bind2 (by decide +kernel))
theorem fn_law_other_doors (T : Tx K mg) : Fn K d_law_other_doors := T.fn 72 rfl
abbrev p_law_other_doors : List Str := ["_law_state", "_law_world", "_law_stand_here"]
abbrev n_law_other_doors : List Str := ["_law_state", "_law_world", "_law_stand_here", "_law_goer", "_law_room", "_law_good", "_law_k", "_law_spot", "_law_wishes", "_law_wish", "_law_asks", "_law_doors"]
theorem s_law_other_doors : FnScope n_law_other_doors p_law_other_doors (defScope d_law_other_doors.st) := ⟨rfl, rfl, rfl, by decide +kernel, rfl, by decide +kernel, by decide +kernel⟩
theorem b_law_other_doors (T : Tx K mg) : Binds K (fdOf K d_law_other_doors.at_) p_law_other_doors [] := FunD.bindsN (fn_law_other_doors T) (bind3 (by decide +kernel))
theorem fn_law (T : Tx K mg) : Fn K d_law := T.fn 73 rfl
abbrev p_law : List Str := ["_law_script"]
abbrev n_law : List Str := ["_law_script", "_law_k", "_law_state", "_law_ways", "_law_life", "_law_rules", "_law_world", "_law_stand_here", "_law_box", "_law_mark"]
theorem s_law : FnScope n_law p_law (defScope d_law.st) := ⟨rfl, rfl, rfl, by decide +kernel, rfl, by decide +kernel, by decide +kernel⟩
theorem b_law (T : Tx K mg) : Binds K (fdOf K d_law.at_) p_law [] := FunD.bindsN (fn_law T) (bind1 (by decide +kernel))
theorem fn_World_init (T : Tx K mg) : Fn K d_World_init := T.fn 74 rfl
abbrev p_World_init : List Str := ["self", "ways", "life", "rules"]
abbrev n_World_init : List Str := ["self", "ways", "life", "rules"]
theorem s_World_init : FnScope n_World_init p_World_init (defScope d_World_init.st) := ⟨rfl, rfl, rfl, by decide +kernel, rfl, by decide +kernel, by decide +kernel⟩
theorem b_World_init (T : Tx K mg) : Binds K (fdOf K d_World_init.at_) p_World_init [] := FunD.bindsN (fn_World_init T) (bind4 (by decide +kernel))
theorem fn_World_rooms (T : Tx K mg) : Fn K d_World_rooms := T.fn 75 rfl
abbrev p_World_rooms : List Str := ["self"]
abbrev n_World_rooms : List Str := ["self"]
theorem s_World_rooms : FnScope n_World_rooms p_World_rooms (defScope d_World_rooms.st) := ⟨rfl, rfl, rfl, by decide +kernel, rfl, by decide +kernel, by decide +kernel⟩
theorem b_World_rooms (T : Tx K mg) : Binds K (fdOf K d_World_rooms.at_) p_World_rooms [] := FunD.bindsN (fn_World_rooms T) (bind1 (by decide +kernel))
theorem fn_World_walkers (T : Tx K mg) : Fn K d_World_walkers := T.fn 76 rfl
abbrev p_World_walkers : List Str := ["self"]
abbrev n_World_walkers : List Str := ["self"]
theorem s_World_walkers : FnScope n_World_walkers p_World_walkers (defScope d_World_walkers.st) := ⟨rfl, rfl, rfl, by decide +kernel, rfl, by decide +kernel, by decide +kernel⟩
theorem b_World_walkers (T : Tx K mg) : Binds K (fdOf K d_World_walkers.at_) p_World_walkers [] := FunD.bindsN (fn_World_walkers T) (bind1 (by decide +kernel))
theorem fn_World_life (T : Tx K mg) : Fn K d_World_life := T.fn 77 rfl
abbrev p_World_life : List Str := ["self"]
abbrev n_World_life : List Str := ["self"]
theorem s_World_life : FnScope n_World_life p_World_life (defScope d_World_life.st) := ⟨rfl, rfl, rfl, by decide +kernel, rfl, by decide +kernel, by decide +kernel⟩
theorem b_World_life (T : Tx K mg) : Binds K (fdOf K d_World_life.at_) p_World_life [] := FunD.bindsN (fn_World_life T) (bind1 (by decide +kernel))
theorem fn_NoWorld_init (T : Tx K mg) : Fn K d_NoWorld_init := T.fn 78 rfl
abbrev p_NoWorld_init : List Str := ["self", "what"]
abbrev n_NoWorld_init : List Str := ["self", "what"]
theorem s_NoWorld_init : FnScope n_NoWorld_init p_NoWorld_init (defScope d_NoWorld_init.st) := ⟨rfl, rfl, rfl, by decide +kernel, rfl, by decide +kernel, by decide +kernel⟩
theorem b_NoWorld_init (T : Tx K mg) : Binds K (fdOf K d_NoWorld_init.at_) p_NoWorld_init [] := FunD.bindsN (fn_NoWorld_init T) (bind2 (by decide +kernel))
end
end Pw
set_option Elab.async false
set_option linter.all false
set_option maxRecDepth 100000
set_option maxHeartbeats 4000000
/-! Data without the heap, and how the heap bears it. -/
namespace Pw
open PySem PySem.Spec PyProof.Rows L2
inductive D where
  | non | bl (b : Bool) | int (i : Int) | str (x : Str) | tup (l : List D) | lst (l : List D)
mutual
def Dn (H : Hp) : D → V → Prop
  | .non, v => v = .non
  | .bl b, v => v = .bl b
  | .int i, v => v = .int i
  | .str x, v => v = .str x
  | .tup l, v => ∃ p xs, v = .ref p ∧ H p = some (.tup xs) ∧ DnA H l xs
  | .lst l, v => ∃ p xs, v = .ref p ∧ H p = some (.lst xs) ∧ DnA H l xs
def DnA (H : Hp) : List D → List V → Prop
  | [], xs => xs = []
  | d :: l, xs => ∃ v vs, xs = v :: vs ∧ Dn H d v ∧ DnA H l vs
end
mutual
theorem Dn.mono {H H' : Hp} (s : Same H H') : ∀ (d : D) (v : V), Dn H d v → Dn H' d v
  | .non, _, h => by unfold Dn at h ⊢; exact h
  | .bl _, _, h => by unfold Dn at h ⊢; exact h
  | .int _, _, h => by unfold Dn at h ⊢; exact h
  | .str _, _, h => by unfold Dn at h ⊢; exact h
  | .tup l, _, h => by
    unfold Dn at h ⊢
    obtain ⟨p, xs, e, hp, ha⟩ := h
    exact ⟨p, xs, e, s _ _ hp, DnA.mono s l xs ha⟩
  | .lst l, _, h => by
    unfold Dn at h ⊢
    obtain ⟨p, xs, e, hp, ha⟩ := h
    exact ⟨p, xs, e, s _ _ hp, DnA.mono s l xs ha⟩
theorem DnA.mono {H H' : Hp} (s : Same H H') : ∀ (l : List D) (xs : List V), DnA H l xs → DnA H' l xs
  | [], _, h => by unfold DnA at h ⊢; exact h
  | d :: l, _, h => by
    unfold DnA at h ⊢
    obtain ⟨v, vs, e, h1, h2⟩ := h
    exact ⟨v, vs, e, Dn.mono s d v h1, DnA.mono s l vs h2⟩
end
section
variable {H H' : Hp} {v : V} {l : List D} {xs : List V}
theorem Dn.non (h : Dn H .non v) : v = .non := by unfold Dn at h; exact h
theorem Dn.bl {b : Bool} (h : Dn H (.bl b) v) : v = .bl b := by unfold Dn at h; exact h
theorem Dn.int {i : Int} (h : Dn H (.int i) v) : v = .int i := by unfold Dn at h; exact h
theorem Dn.str {x : Str} (h : Dn H (.str x) v) : v = .str x := by unfold Dn at h; exact h
theorem Dn.tup (h : Dn H (.tup l) v) : ∃ p xs, v = .ref p ∧ H p = some (.tup xs) ∧ DnA H l xs := by unfold Dn at h; exact h
theorem Dn.lst (h : Dn H (.lst l) v) : ∃ p xs, v = .ref p ∧ H p = some (.lst xs) ∧ DnA H l xs := by unfold Dn at h; exact h
theorem dn_non : Dn H .non .non := by unfold Dn; rfl
theorem dn_bl (b : Bool) : Dn H (.bl b) (.bl b) := by unfold Dn; rfl
theorem dn_int (i : Int) : Dn H (.int i) (.int i) := by unfold Dn; rfl
theorem dn_str (x : Str) : Dn H (.str x) (.str x) := by unfold Dn; rfl
theorem dn_tup {p : Addr} (h : H p = some (.tup xs)) (ha : DnA H l xs) : Dn H (.tup l) (.ref p) := by unfold Dn; exact ⟨p, xs, rfl, h, ha⟩
theorem dn_lst {p : Addr} (h : H p = some (.lst xs)) (ha : DnA H l xs) : Dn H (.lst l) (.ref p) := by unfold Dn; exact ⟨p, xs, rfl, h, ha⟩
theorem dna_nil : DnA H [] [] := by unfold DnA; rfl
theorem dna_cons {d : D} (h : Dn H d v) (ha : DnA H l xs) : DnA H (d :: l) (v :: xs) := by unfold DnA; exact ⟨v, xs, rfl, h, ha⟩
theorem DnA.nil (h : DnA H [] xs) : xs = [] := by unfold DnA at h; exact h
theorem DnA.cons {d : D} (h : DnA H (d :: l) xs) : ∃ v vs, xs = v :: vs ∧ Dn H d v ∧ DnA H l vs := by unfold DnA at h; exact h
theorem DnA.length : ∀ {l : List D} {xs : List V}, DnA H l xs → xs.length = l.length
  | [], _, h => by rw [h.nil]; rfl
  | d :: l, _, h => by
    obtain ⟨v, vs, rfl, _, h2⟩ := h.cons
    rw [List.length_cons, List.length_cons, DnA.length h2]
theorem DnA.get : ∀ {l : List D} {xs : List V} {i : Nat} {v : V}, DnA H l xs → xs[i]? = some v → ∃ d, l[i]? = some d ∧ Dn H d v
  | [], _, _, _, h, e => by rw [h.nil] at e; simp at e
  | d :: l, _, 0, _, h, e => by
    obtain ⟨v, vs, rfl, h1, h2⟩ := h.cons
    simp at e
    subst e
    exact ⟨d, rfl, h1⟩
  | d :: l, _, i + 1, _, h, e => by
    obtain ⟨v, vs, rfl, h1, h2⟩ := h.cons
    obtain ⟨d', e1, e2⟩ := DnA.get (i := i) h2 (by simpa using e)
    exact ⟨d', by simpa using e1, e2⟩
theorem DnA.at : ∀ {l : List D} {xs : List V} {i : Nat} {d : D}, DnA H l xs → l[i]? = some d → ∃ v, xs[i]? = some v ∧ Dn H d v
  | [], _, _, _, h, e => by simp at e
  | d :: l, _, 0, _, h, e => by
    obtain ⟨v, vs, rfl, h1, h2⟩ := h.cons
    simp at e
    subst e
    exact ⟨v, rfl, h1⟩
  | d :: l, _, i + 1, _, h, e => by
    obtain ⟨v, vs, rfl, h1, h2⟩ := h.cons
    obtain ⟨d', e1, e2⟩ := DnA.at (i := i) h2 (by simpa using e)
    exact ⟨d', by simpa using e1, e2⟩
theorem DnA.append : ∀ {l m : List D} {xs ys : List V}, DnA H l xs → DnA H m ys → DnA H (l ++ m) (xs ++ ys)
  | [], _, _, _, h, h' => by rw [h.nil]; exact h'
  | d :: l, _, _, _, h, h' => by
    obtain ⟨v, vs, rfl, h1, h2⟩ := h.cons
    exact dna_cons h1 (DnA.append h2 h')
theorem DnA.take : ∀ (n : Nat) {l : List D} {xs : List V}, DnA H l xs → DnA H (l.take n) (xs.take n)
  | 0, _, _, _ => by simpa using dna_nil
  | n + 1, [], _, h => by rw [h.nil]; simpa using dna_nil
  | n + 1, d :: l, _, h => by
    obtain ⟨v, vs, rfl, h1, h2⟩ := h.cons
    exact dna_cons h1 (DnA.take n h2)
theorem DnA.drop : ∀ (n : Nat) {l : List D} {xs : List V}, DnA H l xs → DnA H (l.drop n) (xs.drop n)
  | 0, _, _, h => h
  | n + 1, [], _, h => by rw [h.nil]; simpa using dna_nil
  | n + 1, d :: l, _, h => by
    obtain ⟨v, vs, rfl, h1, h2⟩ := h.cons
    exact DnA.drop n h2
theorem DnA.ints : ∀ {is : List Int}, DnA H (is.map D.int) (is.map V.int)
  | [] => dna_nil
  | i :: r => dna_cons (dn_int i) DnA.ints
end
/-! ### types -/
def tyOf : D → String
  | .non => "NoneType"
  | .bl _ => "bool"
  | .int _ => "int"
  | .str _ => "str"
  | .tup _ => "tuple"
  | .lst _ => "list"
theorem Dn.ty {K : PySem.W.Frag} {H : Hp} : ∀ {d : D} {v : V}, Dn H d v → TyX K H v (.type (tyOf d))
  | .non, _, h => by rw [h.non]; exact .base .non
  | .bl b, _, h => by rw [h.bl]; exact .base (.bl b)
  | .int i, _, h => by rw [h.int]; exact .base (.int i)
  | .str x, _, h => by rw [h.str]; exact .base (.str x)
  | .tup l, _, h => by
    obtain ⟨p, xs, rfl, hp, _⟩ := h.tup
    exact .base (.tup hp)
  | .lst l, _, h => by
    obtain ⟨p, xs, rfl, hp, _⟩ := h.lst
    exact .base (.lst hp)
def isInt : D → Bool
  | .int _ => true
  | .bl _ => true
  | _ => false
def isBool : D → Bool
  | .bl _ => true
  | _ => false
def isStr : D → Bool
  | .str _ => true
  | _ => false
def isTup : D → Bool
  | .tup _ => true
  | _ => false
def isLst : D → Bool
  | .lst _ => true
  | _ => false
theorem kit_int (d : D) : kitB (tyOf d) "int" = some (isInt d) := by cases d <;> kernel_rfl
theorem kit_bool (d : D) : kitB (tyOf d) "bool" = some (isBool d) := by cases d <;> kernel_rfl
theorem kit_str (d : D) : kitB (tyOf d) "str" = some (isStr d) := by cases d <;> kernel_rfl
theorem kit_tuple (d : D) : kitB (tyOf d) "tuple" = some (isTup d) := by cases d <;> kernel_rfl
theorem kit_list (d : D) : kitB (tyOf d) "list" = some (isLst d) := by cases d <;> kernel_rfl
/-- isinstance(x, T), x by its datum -/
def rIsD (n : String) (f : D → Bool) : List V → Hp → VK → Prop := fun xs H Q => ∃ x d, xs = [x, .ty n] ∧ Dn H d x ∧ Q (.bl (f d)) H
theorem call_isD {X : Cx} {n : String} {f : D → Bool} (hk : ∀ d, kitB (tyOf d) n = some (f d)) : CallR X (.builtin "isinstance") (rIsD n f) := by
  intro pins s σ H xs us Q I r h
  obtain ⟨x, d, e, hd, q⟩ := h
  exact call_isi pins s σ H xs us Q I r ⟨x, .ty n, _, _, _, e, .ty n, hd.ty, kit_ty (hk d), q⟩
section
variable {X : Cx} {e : Expr} {te : TE} {p p2 pos : Pos}
theorem boot_isi : bootBuiltins "isinstance" = some (.builtin "isinstance") := by decide +kernel
def tIs (n : String) (f : D → Bool) (te : TE) : TE := tCB (rIsD n f) (tCons te (tCons (tC (.ty n)) tNil))
theorem pe_isD {x : Str} {n : String} {f : D → Bool} (hk : ∀ d, kitB (tyOf d) n = some (f d)) (hv : bootBuiltins x = some (.type n)) (hm : X.mg "isinstance" = none) (hmT : X.mg x = none) (ha : PE X e te) (hg : Gl X "isinstance" := by rfl) (hgT : Gl X x := by rfl)
    (hn : x ≠ "__name__" := by decide) (hd : (x == ("__debug__" : Str)) = false := by decide)
    (h1 : starEach [e, .Name x p2] X.env = (false, eval e X.env) :: starEach [.Name x p2] X.env := by rfl) (h2 : starEach [.Name x p2] X.env = (false, eval (.Name x p2) X.env) :: starEach [] X.env := by rfl) (h3 : (backTo pos (starEach [.Name x p2] X.env)).any (·.1) = false := by rfl) :
    PE X (.Call (.Name "isinstance" p) [e, .Name x p2] [] pos) (tIs n f te) :=
  pe_callB (call_isD hk) hg hm boot_isi (pa_cons ha (pa_cons (pe_bltn hgT hmT hv (v := .ty n) rfl hn hd) pa_nil h2) h1) (by decide) (by decide) h1 h3
end
/-! ### weaker readings -/
theorem PE.imp {X : Cx} {e : Expr} {t t' : TE} (h : PE X e t) (i : ∀ σ H Q, t' σ H Q → t σ H Q) : PE X e t' := ⟨fun pins s σ H Q I q => h.run pins s σ H Q I (i σ H Q q)⟩
/-- an int of the module -/
theorem pe_gint {X : Cx} {x : Str} {i : Int} {pos : Pos} (hm : ∃ t, X.mg x = some (.int i t)) (hg : Gl X x := by rfl) (hd : (x == ("__debug__" : Str)) = false := by decide) : PE X (.Name x pos) (tC (.int i)) := by
  obtain ⟨t, hm⟩ := hm
  exact pe_glob hg hm ⟨t, rfl⟩ hd
/-! ### all([f(one) for one in xs]) -/
/-- a name's value -/
theorem var_is {σ : L2.St} {i : Nat} {v : V} {H : Hp} (h : σ[i]? = some (some v)) : ∀ Q' : VK, Q' v H → tVar i σ H Q' := fun _ q => ⟨v, h, q⟩
/-- te gives p of the item's datum -/
def Gives (te : TE) (σ : L2.St) (j : Nat) (H : Hp) (p : D → Bool) (l : List D) : Prop :=
  ∀ (H' : Hp) (d : D) (v : V) (Q : VK), d ∈ l → Same H H' → Dn H' d v → (∀ H'', Same H' H'' → Q (.bl (p d)) H'') → te (σ.set j (some v)) H' Q
theorem set_wipe1 (σ : L2.St) (j : Nat) (v : V) : ((wipe σ [j]).set j (some v)) = σ.set j (some v) := by
  unfold wipe wipe
  rw [List.set_set]
theorem wipe_set1 (σ : L2.St) (j : Nat) (v : Option V) : wipe (σ.set j v) [j] = wipe σ [j] := by
  unfold wipe wipe
  rw [List.set_set]
/-- what a comprehension's turns say -/
structure AllSo (p : D → Bool) (H : Hp) (Dd : Addr) (l : List D) (i : Nat) (H1 : Hp) : Prop where
  same : Same H H1
  acc : H1 Dd = some (.lst ((l.take i).map fun d => V.bl (p d)))
theorem take_succ_map {p : D → V} {l : List D} {i : Nat} {d : D} (h : l[i]? = some d) : (l.take (i + 1)).map p = (l.take i).map p ++ [p d] := by
  rw [List.take_add_one, h]
  simp
theorem small_len {K : PySem.W.Frag} {n : Nat} (h : n < sizeLine) : n < sizeLine := h
def tAll (K : PySem.W.Frag) (wi : TI) (te : TE) (j : Nat) : TE := tCB (rAll K) (tCons (tLc wi (gName j) tYes te [j]) tNil)
/-- over a tuple at slot i -/
theorem rd_allT {K : PySem.W.Frag} {tl te : TE} {σ : L2.St} {j : Nat} {H : Hp} {p : D → Bool} {l : List D} {v : V} {Q : VK} (hs : ∀ Q' : VK, Q' v H → tl σ H Q') (hd : Dn H (.tup l) v) (hl : l.length < 1000) (hg : ∀ H1, Same H H1 → Gives te σ j H1 p l) (hQ : ∀ H', Same H H' → Q (.bl (l.all p)) H') :
    tAll K (iTup K tl) te j σ H Q := by
  obtain ⟨a, xs, rfl, ha, hx⟩ := hd.tup
  have hlen := hx.length
  refine hs _ ⟨a, rfl, ⟨xs, SqT.of ha⟩, fun Dd hD => ?_⟩
  have sD : Same H (upd H Dd (.lst [])) := fun b o e => by rw [upd_ne (ne_of_none e hD)]; exact e
  refine lc_tup (xs := xs) (AllSo p H Dd l) ⟨sD, ?_⟩ (fun k H1 _ S => SqT.of (S.same _ _ ha)) (fun k x H1 hx1 S => ?_) (fun H1 S => ?_)
  · rw [upd_same, List.take_zero, List.map_nil]
  · show _ ∧ _
    obtain ⟨d, hd1, hd2⟩ := hx.get hx1
    refine ⟨?_, ?_⟩
    · show wipe ((wipe σ [j]).set j (some x)) [j] = wipe σ [j]
      rw [set_wipe1, wipe_set1]
    · show if true = true then te ((wipe σ [j]).set j (some x)) H1 _ else AllSo p H Dd l (k + 1) H1
      refine iteT ?_
      rw [set_wipe1]
      refine hg H1 S.same H1 d x _ (List.mem_of_getElem? hd1) (Same.refl _) (Dn.mono S.same d x hd2) fun H2 s2 => ?_
      refine ⟨_, s2 _ _ S.acc, ?_, ?_⟩
      · rw [List.length_map, List.length_take]
        have : sizeLine = 16777216 := sizeLine_eq
        omega
      · refine ⟨fun b o e => ?_, ?_⟩
        · have hb : b ≠ Dd := ne_of_none e hD
          rw [upd_ne hb]
          exact s2 _ _ (S.same _ _ e)
        · rw [upd_same, take_succ_map (p := fun d => V.bl (p d)) hd1]
  · refine ⟨Dd, l.map p, rfl, SqL.of (by rw [S.acc, hlen, List.take_length, List.map_map]; rfl), ?_⟩
    rw [List.all_map]
    exact hQ H1 S.same
/-- over a list at slot i -/
theorem rd_allL {K : PySem.W.Frag} {tl te : TE} {σ : L2.St} {j : Nat} {H : Hp} {p : D → Bool} {l : List D} {v : V} {Q : VK} (hs : ∀ Q' : VK, Q' v H → tl σ H Q') (hd : Dn H (.lst l) v) (hl : l.length < 1000) (hg : ∀ H1, Same H H1 → Gives te σ j H1 p l) (hQ : ∀ H', Same H H' → Q (.bl (l.all p)) H') :
    tAll K (iList K tl) te j σ H Q := by
  obtain ⟨a, xs, rfl, ha, hx⟩ := hd.lst
  have hlen := hx.length
  refine hs _ ⟨a, rfl, ⟨xs, SqL.of ha⟩, fun Dd hD => ?_⟩
  have sD : Same H (upd H Dd (.lst [])) := fun b o e => by rw [upd_ne (ne_of_none e hD)]; exact e
  refine lc_list (xs := xs) (AllSo p H Dd l) ⟨sD, ?_⟩ (fun k H1 _ S => SqL.of (S.same _ _ ha)) (fun k x H1 hx1 S => ?_) (fun H1 S => ?_)
  · rw [upd_same, List.take_zero, List.map_nil]
  · show _ ∧ _
    obtain ⟨d, hd1, hd2⟩ := hx.get hx1
    refine ⟨?_, ?_⟩
    · show wipe ((wipe σ [j]).set j (some x)) [j] = wipe σ [j]
      rw [set_wipe1, wipe_set1]
    · show if true = true then te ((wipe σ [j]).set j (some x)) H1 _ else AllSo p H Dd l (k + 1) H1
      refine iteT ?_
      rw [set_wipe1]
      refine hg H1 S.same H1 d x _ (List.mem_of_getElem? hd1) (Same.refl _) (Dn.mono S.same d x hd2) fun H2 s2 => ?_
      refine ⟨_, s2 _ _ S.acc, ?_, ?_⟩
      · rw [List.length_map, List.length_take]
        have : sizeLine = 16777216 := sizeLine_eq
        omega
      · refine ⟨fun b o e => ?_, ?_⟩
        · have hb : b ≠ Dd := ne_of_none e hD
          rw [upd_ne hb]
          exact s2 _ _ (S.same _ _ e)
        · rw [upd_same, take_succ_map (p := fun d => V.bl (p d)) hd1]
  · refine ⟨Dd, l.map p, rfl, SqL.of (by rw [S.acc, hlen, List.take_length, List.map_map]; rfl), ?_⟩
    rw [List.all_map]
    exact hQ H1 S.same
end Pw
set_option Elab.async false
set_option linter.all false
set_option maxRecDepth 100000
set_option maxHeartbeats 4000000
/-! The program's looks: what is a whole number, a clause, a rule, marks. -/
namespace Pw
open PySem PySem.Spec PyProof.Rows L2
/-! ### mirrors -/
def isWhole (lo hi : Int) : D → Bool
  | .int i => decide (lo ≤ i) && decide (i ≤ hi)
  | _ => false
def isWord (ws : List Str) : D → Bool
  | .str x => ws.contains x
  | _ => false
def wWords : List Str := ["fresh", "stale"]
def wSides : List Str := ["first", "last"]
def hiOk : D → D → Bool
  | .int i, h => isWhole i 9 h
  | _, _ => false
def isClause : D → Bool
  | .tup [w, l, h, s] => isWord wWords w && isWord wSides s && isWhole 0 9 l && hiOk l h
  | _ => false
def isRule : D → Bool
  | .tup l => decide (l.length ≤ 4) && l.all isClause
  | _ => false
def areMarks (n : Nat) (most : Int) : D → Bool
  | .tup l => decide (l.length = n) && l.all (isWhole 0 most)
  | _ => false
section
variable {P : Program} {w : World} {K : PySem.W.Frag} {mg : Str → Option Value} {base : Heap}
theorem boot_int1 : bootBuiltins "int" = some (.type "int") := by decide +kernel
theorem boot_bool1 : bootBuiltins "bool" = some (.type "bool") := by decide +kernel
theorem boot_str1 : bootBuiltins "str" = some (.type "str") := by decide +kernel
theorem boot_tuple1 : bootBuiltins "tuple" = some (.type "tuple") := by decide +kernel
theorem boot_list1 : bootBuiltins "list" = some (.type "list") := by decide +kernel
theorem boot_len1 : bootBuiltins "len" = some (.builtin "len") := by decide +kernel
theorem boot_all1 : bootBuiltins "all" = some (.builtin "all") := by decide +kernel
/-! ### is_whole -/
def sp_is_whole : Sp := fun vs H Q _ => ∃ t lo hi d, vs = [t, .int lo, .int hi] ∧ Dn H d t ∧ Q (.bl (isWhole lo hi d)) H
theorem ok_is_whole (T : Tx K mg) : FnOk P w K mg base CX0 1 d_is_whole.at_ (fdOf K d_is_whole.at_) p_is_whole sp_is_whole := by
  refine FunD.ok (fn_is_whole T) s_is_whole (fun vs H Q E h => ?_) (fun cdv A outer s H vs Q E hr h => ?_)
  · obtain ⟨t, lo, hi, d, rfl, _⟩ := h
    rfl
  obtain ⟨t, lo, hi, d, rfl, hd, hQ⟩ := h
  refine ⟨_, pss_one (ps_ret (pe_and (pe_isD kit_int boot_int1 (mf_isinstance T) (mf_int T) (pv 0)) (pe_and (pe_not (pe_isD kit_bool boot_bool1 (mf_isinstance T) (mf_bool T) (pv 0))) (pe_one (pe_chain op_le op_le (pv 1) (pv 0) (pv 2)))))), ?_⟩
  refine ⟨_, rfl, _, d, rfl, hd, _, rfl, ?_⟩
  cases d with
  | int i =>
    have e := hd.int
    subst e
    refine iteT ⟨_, rfl, _, _, rfl, hd, _, rfl, _, rfl, iteT ⟨_, rfl, _, rfl, _, _, rfl, rfl, _, rfl, ite2 (fun h => ⟨_, rfl, _, _, rfl, rfl, ?_⟩) (fun h => ?_)⟩⟩
    · have z : isWhole lo hi (.int i) = decide (i ≤ hi) := by simp only [isWhole, h, Bool.true_and]
      rw [z] at hQ
      exact hQ
    · have z : isWhole lo hi (.int i) = false := by simp only [isWhole, eq_false_of_ne_true h, Bool.false_and]
      rw [z] at hQ
      exact hQ
  | bl b =>
    refine iteT ⟨_, rfl, _, _, rfl, hd, _, rfl, _, rfl, iteF ?_⟩
    exact hQ
  | _ => exact iteF hQ
/-! ### is_word -/
def sp_is_word : Sp := fun vs H Q _ => ∃ t a ws d, vs = [t, .ref a] ∧ SqT K H a (ws.map V.str) ∧ Dn H d t ∧ Q (.bl (isWord ws d)) H
theorem inV_str (x : Str) : ∀ ws : List Str, inV (.str x) (ws.map V.str) = ws.contains x
  | [] => rfl
  | y :: r => by
    have ih := inV_str x r
    unfold inV at ih ⊢
    rw [List.map_cons, List.any_cons, ih, List.contains_cons]
    show (eqV (.str y) (.str x) || _) = _
    have e : eqV (.str y) (.str x) = (x == y) := by
      show (y == x) = (x == y)
      exact Bool.beq_comm
    rw [e]
theorem flat_strs : ∀ ws : List Str, (ws.map V.str).all flatV = true
  | [] => rfl
  | y :: r => by
    rw [List.map_cons, List.all_cons, flat_strs r]
    rfl
theorem ok_is_word (T : Tx K mg) : FnOk P w K mg base CX0 1 d_is_word.at_ (fdOf K d_is_word.at_) p_is_word (sp_is_word (K := K)) := by
  refine FunD.ok (fn_is_word T) s_is_word (fun vs H Q E h => ?_) (fun cdv A outer s H vs Q E hr h => ?_)
  · obtain ⟨t, a, ws, d, rfl, _⟩ := h
    rfl
  obtain ⟨t, a, ws, d, rfl, ha, hd, hQ⟩ := h
  refine ⟨_, pss_one (ps_ret (pe_and (pe_isD kit_str boot_str1 (mf_isinstance T) (mf_str T) (pv 0)) (pe_one (pe_cmpR op_in_seq (pv 0) (pv 1) (by rfl))))), ?_⟩
  refine ⟨_, rfl, _, d, rfl, hd, _, rfl, ?_⟩
  cases d with
  | str x =>
    have e := hd.str
    subst e
    refine iteT ⟨_, rfl, _, rfl, _, _, rfl, .inr ha, rfl, flat_strs ws, ?_⟩
    show Q (.bl (inV (.str x) (ws.map V.str))) H
    rw [inV_str]
    exact hQ
  | _ => exact iteF hQ
end
end Pw
set_option Elab.async false
set_option linter.all false
set_option maxRecDepth 100000
set_option maxHeartbeats 4000000
/-! The program's looks: clauses, rules, marks; refusals of rules and lives. -/
namespace Pw
open PySem PySem.Spec PyProof.Rows L2
section
variable {P : Program} {w : World} {K : PySem.W.Frag} {mg : Str → Option Value} {base : Heap}
theorem tupA_ok {a : Addr} {vs : List V} (h : tupA K a vs = true) (H : Hp) : SqT K H a vs := by
  unfold tupA at h
  split at h
  · rename_i c dd its n sl q
    obtain ⟨h1, h2⟩ := He.ba h
    obtain ⟨h3, h4⟩ := He.ba h2
    exact .inr ⟨_, its, n, q, congrArg Value.type (of_decide_eq_true h1), rfl, of_decide_eq_true h3, He.relAll_ok h4⟩
  · cases h
theorem words_at (T : Tx K mg) (H : Hp) : SqT K H g_WORDS (wWords.map V.str) := tupA_ok (T.ck 38 rfl) H
theorem sides_at (T : Tx K mg) (H : Hp) : SqT K H g_SIDES (wSides.map V.str) := tupA_ok (T.ck 39 rfl) H
/-! ### is_clause -/
def sp_is_clause : Sp := fun vs H Q _ => ∃ t d, vs = [t] ∧ Dn H d t ∧ Q (.bl (isClause d)) H
theorem isClause_len {l : List D} (h : l.length ≠ 4) : isClause (.tup l) = false := by
  match l, h with
  | [], _ => rfl
  | [_], _ => rfl
  | [_, _], _ => rfl
  | [_, _, _], _ => rfl
  | [_, _, _, _], h => exact absurd rfl h
  | _ :: _ :: _ :: _ :: _ :: _, _ => rfl
theorem ok_is_clause (T : Tx K mg) : FnOk P w K mg base CX0 2 d_is_clause.at_ (fdOf K d_is_clause.at_) p_is_clause sp_is_clause := by
  refine FunD.ok (fn_is_clause T) s_is_clause (fun vs H Q E h => ?_) (fun cdv A outer s H vs Q E hr h => ?_)
  · obtain ⟨t, d, rfl, _⟩ := h
    rfl
  obtain ⟨t, d, rfl, hd, hQ⟩ := h
  refine ⟨_, (pss_cons (ps_if (PW.pt (pw_or (pt_not (pt_val (pe_isD kit_tuple boot_tuple1 (mf_isinstance T) (mf_tuple T) (pv 0)))) (pw_or1 (pt_cmpR op_ne (pe_callB call_len rfl (mf_len T) boot_len1 (pa_cons (pv 0) pa_nil)) pe_int (nomark _))))) (pss_one (ps_ret pe_bl)) pss_nil) (pss_cons (ps_asg (pv 0) (pg_tup rfl (pgs_cons (pg_name (i := 1) s_is_clause.nd rfl (.inl rfl)) (pgs_cons (pg_name (i := 2) s_is_clause.nd rfl (.inl rfl)) (pgs_cons (pg_name (i := 3) s_is_clause.nd rfl (.inl rfl)) (pgs_cons (pg_name (i := 4) s_is_clause.nd rfl (.inl rfl)) pgs_nil)))))) (pss_cons (ps_if (PW.pt (pw_or (pt_not (pt_val (pe_call (ok_is_word T) (hr.mono (by decide)) rfl (mg_is_word T) (fn_is_word T).kp (b_is_word T) .nil pass0 (pa_cons (pv 1) (pa_cons (pe_glob (v := .ref g_WORDS) rfl (mg_WORDS T) rfl) pa_nil))))) (pw_or1 (pt_not (pt_val (pe_call (ok_is_word T) (hr.mono (by decide)) rfl (mg_is_word T) (fn_is_word T).kp (b_is_word T) .nil pass0 (pa_cons (pv 4) (pa_cons (pe_glob (v := .ref g_SIDES) rfl (mg_SIDES T) rfl) pa_nil)))))))) (pss_one (ps_ret pe_bl)) pss_nil) (pss_one (ps_ret (pe_and (pe_call (ok_is_whole T) (hr.mono (by decide)) rfl (mg_is_whole T) (fn_is_whole T).kp (b_is_whole T) .nil pass0 (pa_cons (pv 2) (pa_cons pe_int (pa_cons (pe_gint (mi_MOST_MARK T)) pa_nil)))) (pe_one (pe_call (ok_is_whole T) (hr.mono (by decide)) rfl (mg_is_whole T) (fn_is_whole T).kp (b_is_whole T) .nil pass0 (pa_cons (pv 3) (pa_cons (pv 2) (pa_cons (pe_gint (mi_MOST_MARK T)) pa_nil))))))))))), ?_⟩
  refine ⟨_, rfl, _, d, rfl, hd, _, rfl, ?_⟩
  cases d with
  | tup l =>
    obtain ⟨p, xs, rfl, hp, hx⟩ := hd.tup
    refine iteF ⟨_, rfl, _, xs.length, rfl, .inr ⟨xs, SqT.of hp, rfl⟩, rfl, _, rfl, ?_⟩
    refine ite2 (fun h => ?_) (fun h => ?_)
    · have hn : l.length ≠ 4 := fun e => by
        rw [hx.length, e] at h
        exact absurd h (by decide)
      rw [isClause_len hn] at hQ
      exact hQ
    · have hn : xs.length = 4 := by
        simp only [Bool.not_eq_true, Bool.not_eq_false', decide_eq_true_eq, V.int.injEq] at h
        omega
      match l, hx, hQ with
      | [], hx, _ => have z := hx.length; rw [hn] at z; cases z
      | [_], hx, _ => have z := hx.length; rw [hn] at z; cases z
      | [_, _], hx, _ => have z := hx.length; rw [hn] at z; cases z
      | [_, _, _], hx, _ => have z := hx.length; rw [hn] at z; cases z
      | _ :: _ :: _ :: _ :: _ :: _, hx, _ => have z := hx.length; rw [hn] at z; simp only [List.length_cons] at z; omega
      | [d1, d2, d3, d4], hx, hQ =>
        obtain ⟨v1, xs, rfl, h1, hx⟩ := hx.cons
        obtain ⟨v2, xs, rfl, h2, hx⟩ := hx.cons
        obtain ⟨v3, xs, rfl, h3, hx⟩ := hx.cons
        obtain ⟨v4, xs, rfl, h4, hx⟩ := hx.cons
        rw [hx.nil] at hp
        refine ⟨_, rfl, p, [v1, v2, v3, v4], rfl, SqT.of hp, rfl, _, _, rfl, _, _, rfl, _, _, rfl, _, _, rfl, rfl, ?_⟩
        refine ⟨_, rfl, v1, g_WORDS, wWords, d1, rfl, words_at T H, h1, _, rfl, ?_⟩
        have e0 : isClause (.tup [d1, d2, d3, d4]) = (isWord wWords d1 && isWord wSides d4 && isWhole 0 9 d2 && hiOk d2 d3) := rfl
        cases c1 : isWord wWords d1 with
        | false =>
          refine iteT ?_
          rw [e0, c1] at hQ
          exact hQ
        | true =>
          refine iteF ⟨_, rfl, v4, g_SIDES, wSides, d4, rfl, sides_at T H, h4, _, rfl, ?_⟩
          cases c2 : isWord wSides d4 with
          | false =>
            refine iteT ?_
            rw [e0, c1, c2] at hQ
            exact hQ
          | true =>
            refine iteF ?_
            refine ⟨_, rfl, v2, 0, 9, d2, rfl, h2, _, rfl, ?_⟩
            rw [e0, c1, c2] at hQ
            cases c3 : isWhole 0 9 d2 with
            | false =>
              refine iteF ?_
              rw [c3] at hQ
              exact hQ
            | true =>
              rw [c3] at hQ
              cases d2 with
              | int i =>
                have e2 := h2.int
                subst e2
                exact iteT ⟨_, rfl, _, rfl, v3, i, 9, d3, rfl, h3, hQ⟩
              | _ => cases c3
  | _ => exact iteT hQ
/-! ### is_rule -/
def sp_is_rule : Sp := fun vs H Q _ => ∃ t d, vs = [t] ∧ Dn H d t ∧ ∀ H', Same H H' → Q (.bl (isRule d)) H'
theorem ok_is_rule (T : Tx K mg) : FnOk P w K mg base CX0 3 d_is_rule.at_ (fdOf K d_is_rule.at_) p_is_rule sp_is_rule := by
  refine FunD.ok (fn_is_rule T) s_is_rule (fun vs H Q E h => ?_) (fun cdv A outer s H vs Q E hr h => ?_)
  · obtain ⟨t, d, rfl, _⟩ := h
    rfl
  obtain ⟨t, d, rfl, hd, hQ⟩ := h
  refine ⟨_, (pss_one (ps_ret (pe_and (pe_isD kit_tuple boot_tuple1 (mf_isinstance T) (mf_tuple T) (pv 0)) (pe_and (pe_cmpR op_le (pe_callB call_len rfl (mf_len T) boot_len1 (pa_cons (pv 0) pa_nil)) pe_int (nomark _)) (pe_one (pe_callB (cr_all rfl) rfl (mf_all T) boot_all1 (pa_cons (pe_lc (own := [("one", 1)]) (g := gName 1) rfl s_is_rule.nd (pi_tup (pv 0)) (blkOk_by (own := [("one", 1)]) (N := n_is_rule) (sc := defScope d_is_rule.st) (by decide +kernel)) (fun _ _ _ _ _ => (pg_name (i := 1) s_is_rule.nd rfl (.inl rfl))) (fun _ _ _ _ _ => pts_nil) (fun _ _ _ _ _ => (pe_call (ok_is_clause T) (hr.mono (by decide)) rfl (mg_is_clause T) (fn_is_clause T).kp (b_is_clause T) .nil pass0 (pa_cons (pv 1) pa_nil)))) pa_nil))))))), ?_⟩
  refine ⟨_, rfl, _, d, rfl, hd, _, rfl, ?_⟩
  cases d with
  | tup l =>
    obtain ⟨p, xs, rfl, hp, hx⟩ := hd.tup
    have hlen := hx.length
    refine iteT ⟨_, rfl, _, xs.length, rfl, .inr ⟨xs, SqT.of hp, rfl⟩, _, _, rfl, rfl, _, rfl, ?_⟩
    have e0 : isRule (.tup l) = (decide (l.length ≤ 4) && l.all isClause) := rfl
    refine ite2 (fun h => ?_) (fun h => ?_)
    · have h4 : l.length ≤ 4 := by
        have z := of_decide_eq_true h
        omega
      rw [e0, decide_eq_true h4] at hQ
      refine rd_allT (K := K) (j := 1) (p := isClause) (var_is rfl) hd (by omega) (fun H1 _ H2 d1 v1 Q1 _ s2 h1 q1 => ?_) hQ
      exact ⟨_, rfl, v1, d1, rfl, h1, q1 _ (Same.refl _)⟩
    · have h4 : ¬ l.length ≤ 4 := fun z => h (decide_eq_true (by omega))
      rw [e0, decide_eq_false h4] at hQ
      exact hQ H (Same.refl _)
  | _ => exact iteF (hQ H (Same.refl _))
/-! ### are_marks -/
def sp_are_marks : Sp := fun vs H Q _ => ∃ t d n most, vs = [t, .int (n : Nat), .int most] ∧ n < 1000 ∧ Dn H d t ∧ ∀ H', Same H H' → Q (.bl (areMarks n most d)) H'
theorem ok_are_marks (T : Tx K mg) : FnOk P w K mg base CX0 2 d_are_marks.at_ (fdOf K d_are_marks.at_) p_are_marks sp_are_marks := by
  refine FunD.ok (fn_are_marks T) s_are_marks (fun vs H Q E h => ?_) (fun cdv A outer s H vs Q E hr h => ?_)
  · obtain ⟨t, d, n, m, rfl, _⟩ := h
    rfl
  obtain ⟨t, d, n, m, rfl, hn, hd, hQ⟩ := h
  refine ⟨_, (pss_one (ps_ret (pe_and (pe_isD kit_tuple boot_tuple1 (mf_isinstance T) (mf_tuple T) (pv 0)) (pe_and (pe_cmpR op_eq (pe_callB call_len rfl (mf_len T) boot_len1 (pa_cons (pv 0) pa_nil)) (pv 1) (nomark _)) (pe_one (pe_callB (cr_all rfl) rfl (mf_all T) boot_all1 (pa_cons (pe_lc (own := [("one", 3)]) (g := gName 3) rfl s_are_marks.nd (pi_tup (pv 0)) (blkOk_by (own := [("one", 3)]) (N := n_are_marks) (sc := defScope d_are_marks.st) (by decide +kernel)) (fun _ _ _ _ _ => (pg_name (i := 3) s_are_marks.nd rfl (.inl rfl))) (fun _ _ _ _ _ => pts_nil) (fun _ _ _ _ _ => (pe_call (ok_is_whole T) (hr.mono (by decide)) rfl (mg_is_whole T) (fn_is_whole T).kp (b_is_whole T) .nil pass0 (pa_cons (pv 3) (pa_cons pe_int (pa_cons (pv 2) pa_nil)))))) pa_nil))))))), ?_⟩
  refine ⟨_, rfl, _, d, rfl, hd, _, rfl, ?_⟩
  cases d with
  | tup l =>
    obtain ⟨p, xs, rfl, hp, hx⟩ := hd.tup
    have hlen := hx.length
    refine iteT ⟨_, rfl, _, xs.length, rfl, .inr ⟨xs, SqT.of hp, rfl⟩, _, rfl, rfl, _, rfl, ?_⟩
    have e0 : areMarks n m (.tup l) = (decide (l.length = n) && l.all (isWhole 0 m)) := rfl
    refine ite2 (fun h => ?_) (fun h => ?_)
    · have h4 : l.length = n := by
        have z := of_decide_eq_true h
        injection z with z
        omega
      rw [e0, decide_eq_true h4] at hQ
      refine rd_allT (K := K) (j := 3) (p := isWhole 0 m) (var_is rfl) hd (by omega) (fun H1 _ H2 d1 v1 Q1 _ s2 h1 q1 => ?_) hQ
      exact ⟨_, rfl, _, rfl, v1, 0, m, d1, rfl, h1, q1 _ (Same.refl _)⟩
    · have h4 : ¬ l.length = n := fun z => h (decide_eq_true (by rw [hlen, z]))
      rw [e0, decide_eq_false h4] at hQ
      exact hQ H (Same.refl _)
  | _ => exact iteF (hQ H (Same.refl _))
end
end Pw
set_option Elab.async false
set_option linter.all false
set_option maxRecDepth 100000
set_option maxHeartbeats 4000000
/-! What is raised: the classes' facts; how it passes. -/
namespace Pw
open PySem PySem.Spec PyProof.Rows L2
/-- what the written part says of a class of refusals -/
structure ExA (K : PySem.W.Frag) (C : Addr) : Prop where
  ex : PySem.W.excIn K C veB "ValueError.__new__" = true
  kp : PySem.W.keepIn K (.ref C) = true
  sub : PySem.W.subIn K (.ref C) (.type "BaseException") = some true
  ty : PySem.W.typeIn K (.ref C) = some (.type "type")
  nw : PySem.W.exmOne K (.ref C) (.ref c_NoWorld) = some false
  fd : PySem.W.exmOne K (.ref C) (.ref c_FadeError) = some true
  ec : ExcC K C
section
variable {K : PySem.W.Frag} {mg : Str → Option Value}
theorem isO_eq {a b : Option (Option Value)} (h : isO a b = true) : a = b := of_decide_eq_true h
theorem gn1 (T : Tx K mg) : PySem.W.specialIn K (.builtin "object.__class__") "__get__" = some (some (.builtin "getset_descriptor.__get__")) := isO_eq (T.ck 0 rfl)
theorem gn2 (T : Tx K mg) : PySem.W.takesIn K (.builtin "object.__class__") = some true := of_decide_eq_true (T.ck 1 rfl)
theorem exF_at (T : Tx K mg) (j : Nat) {C : Addr} (h : exCls[j]? = some C) : ∀ b ∈ exF K C, b = true := fun b hb =>
  T.chk b (List.mem_append_left _ (List.mem_append_right _ (List.mem_flatMap.mpr ⟨C, List.mem_of_getElem? h, hb⟩)))
theorem exA_of (T : Tx K mg) {C : Addr} (h : ∀ b ∈ exF K C, b = true) : ExA K C := by
  have g : ∀ (i : Nat) (b : Bool), (exF K C)[i]? = some b → b = true := fun i b e => h b (List.mem_of_getElem? e)
  exact ⟨g 0 _ rfl, g 1 _ rfl, of_decide_eq_true (g 2 _ rfl), of_decide_eq_true (g 3 _ rfl), of_decide_eq_true (g 4 _ rfl), of_decide_eq_true (g 5 _ rfl),
    ⟨isO_eq (g 6 _ rfl), isO_eq (g 7 _ rfl), of_decide_eq_true (g 2 _ rfl), g 8 _ rfl, isO_eq (g 9 _ rfl), gn1 T, gn2 T, of_decide_eq_true (g 10 _ rfl)⟩⟩
theorem exA_NoStand (T : Tx K mg) : ExA K c_NoStand := exA_of T (exF_at T 0 rfl)
theorem exA_NoBox (T : Tx K mg) : ExA K c_NoBox := exA_of T (exF_at T 1 rfl)
theorem exA_NoRule (T : Tx K mg) : ExA K c_NoRule := exA_of T (exF_at T 2 rfl)
theorem exA_NoWish (T : Tx K mg) : ExA K c_NoWish := exA_of T (exF_at T 3 rfl)
theorem exA_NoCount (T : Tx K mg) : ExA K c_NoCount := exA_of T (exF_at T 4 rfl)
theorem exA_NoWalker (T : Tx K mg) : ExA K c_NoWalker := exA_of T (exF_at T 5 rfl)
theorem exA_NoRoom (T : Tx K mg) : ExA K c_NoRoom := exA_of T (exF_at T 6 rfl)
theorem exA_NoLife (T : Tx K mg) : ExA K c_NoLife := exA_of T (exF_at T 7 rfl)
/-- isinstance among them -/
theorem kit_at (T : Tx K mg) {C D : Addr} (hC : C ∈ exCls) (hD : D ∈ exCls) : PySem.W.kitOne K (.ref C) (.ref D) = some (decide (C = D)) :=
  of_decide_eq_true (T.chk _ (List.mem_append_right _ (List.mem_flatMap.mpr ⟨C, hC, List.mem_map.mpr ⟨D, hD, rfl⟩⟩)))
end
section
variable {X : Cx}
/-- X('m') -/
theorem pmk_x {x m : Str} {j : Nat} {p p2 pos : Pos} {C : Addr} (hm : X.mg x = some (.ref C)) (e : ExA X.K C) (hg : Gl X x) (hd : (x == ("__debug__" : Str)) = false := by decide) : L2N.PMk X (.Call (.Name x p) [.Constant (.str m) j p2] [] pos) (fun _ H Q => Q (.ref C) none H) :=
  L2N.pmk_own PySem.F.excBase_ValueError e.ex hm e.kp (raises_own e.sub e.ty) hg hd
theorem passN {P : Program} {w : World} {K : PySem.W.Frag} {mg : Str → Option Value} {base : Heap} {N : List Str} {qual : Str} {scope : Scope} {f : Addr} {cd : Value} {A : Around} {outer : List Env} {s : Shared} {H : Hp} {E : XK} :
    Passes (L2N.CX P w) (cxOf (L2N.CX P w) P w K mg base N qual scope f cd A outer s H E) E := L2N.passes_call (L2N.takes_of rfl rfl rfl rfl) (fun _ _ _ _ h => h)
end
/-- a def that may raise -/
abbrev FnX (P : Program) (w : World) (K : PySem.W.Frag) (mg : Str → Option Value) (base : Heap) (k : Nat) (d : Df) (ps : List Str) (sp : Sp) : Prop := FnOk P w K mg base (L2N.CX P w) k d.at_ (fdOf K d.at_) ps sp
/-- a def that lets nothing out -/
abbrev Fn0 (P : Program) (w : World) (K : PySem.W.Frag) (mg : Str → Option Value) (base : Heap) (k : Nat) (d : Df) (ps : List Str) (sp : Sp) : Prop := FnOk P w K mg base CX0 k d.at_ (fdOf K d.at_) ps sp
/-- refuses by the class at C where b is not true -/
def Sure (b : Bool) (C : Addr) (H : Hp) (Q : VK) (E : XK) : Prop := (b = true → ∀ H', Same H H' → Q .non H') ∧ (b = false → ∀ H', Same H H' → E (.ref C) none H')
section
variable {P : Program} {w : World} {K : PySem.W.Frag} {mg : Str → Option Value} {base : Heap}
/-! ### sure_rule, sure_life -/
def sp_sure_rule : Sp := fun vs H Q E => ∃ t d, vs = [t] ∧ Dn H d t ∧ Sure (isRule d) c_NoRule H Q E
theorem ok_sure_rule (T : Tx K mg) : FnX P w K mg base 4 d_sure_rule p_sure_rule sp_sure_rule := by
  refine FunD.ok (fn_sure_rule T) s_sure_rule (fun vs H Q E h => ?_) (fun cdv A outer s H vs Q E hr h => ?_)
  · obtain ⟨t, d, rfl, _⟩ := h
    rfl
  obtain ⟨t, d, rfl, hd, h1, h2⟩ := h
  refine ⟨_, (pss_one (ps_if (pt_not (pt_val (pe_call (ok_is_rule T) (hr.mono (by decide)) rfl (mg_is_rule T) (fn_is_rule T).kp (b_is_rule T) .nil pass0 (pa_cons (pv 0) pa_nil)))) (pss_one (L2N.ps_raise rfl (L2N.takes_of rfl rfl rfl rfl) (pmk_x (mg_NoRule T) (exA_NoRule T) rfl))) pss_nil)), ?_⟩
  refine ⟨_, rfl, t, d, rfl, hd, fun H' s1 => ⟨_, rfl, ?_⟩⟩
  cases c : isRule d with
  | true => exact iteF (h1 c H' s1)
  | false => exact iteT (h2 c H' s1)
def sp_sure_life : Sp := fun vs H Q E => ∃ t d, vs = [t] ∧ Dn H d t ∧ Sure (isWhole 1 6 d) c_NoLife H Q E
theorem ok_sure_life (T : Tx K mg) : FnX P w K mg base 2 d_sure_life p_sure_life sp_sure_life := by
  refine FunD.ok (fn_sure_life T) s_sure_life (fun vs H Q E h => ?_) (fun cdv A outer s H vs Q E hr h => ?_)
  · obtain ⟨t, d, rfl, _⟩ := h
    rfl
  obtain ⟨t, d, rfl, hd, h1, h2⟩ := h
  refine ⟨_, (pss_one (ps_if (pt_not (pt_val (pe_call (ok_is_whole T) (hr.mono (by decide)) rfl (mg_is_whole T) (fn_is_whole T).kp (b_is_whole T) .nil pass0 (pa_cons (pv 0) (pa_cons pe_int (pa_cons (pe_gint (mi_MOST_LIFE T)) pa_nil)))))) (pss_one (L2N.ps_raise rfl (L2N.takes_of rfl rfl rfl rfl) (pmk_x (mg_NoLife T) (exA_NoLife T) rfl))) pss_nil)), ?_⟩
  refine ⟨_, rfl, t, 1, 6, d, rfl, hd, ⟨_, rfl, ?_⟩⟩
  cases c : isWhole 1 6 d with
  | true => exact iteF (h1 c H (Same.refl _))
  | false => exact iteT (h2 c H (Same.refl _))
end
end Pw
set_option Elab.async false
set_option linter.all false
set_option maxRecDepth 100000
set_option maxHeartbeats 4000000
/-! Worlds, stands, walkers, wishes: the looks and refusals by a world. -/
namespace Pw
open PySem PySem.Spec PyProof.Rows L2
/-- a world as it stands: n rooms, m walkers, the life L -/
def Wd (H : Hp) (v : V) (n m : Nat) (L : Int) : Prop := ∃ (p dx f r : Addr) (fs rs : List V), v = .ref p ∧ H p = some (.ins c_World dx [("floor", .ref f), ("lasting", .int L), ("wanted", .ref r)]) ∧ H f = some (.tup fs) ∧ fs.length = n ∧ H r = some (.tup rs) ∧ rs.length = m ∧ n < 100 ∧ m < 100
theorem Wd.mono {H H' : Hp} {v : V} {n m : Nat} {L : Int} (h : Wd H v n m L) (s : Same H H') : Wd H' v n m L := by
  obtain ⟨p, dx, f, r, fs, rs, e, h1, h2, h3, h4, h5, h6⟩ := h
  exact ⟨p, dx, f, r, fs, rs, e, s _ _ h1, s _ _ h2, h3, s _ _ h4, h5, h6⟩
/-! ### mirrors -/
def isRoom (n : Nat) : D → Bool := isWhole 0 ((n : Int) - 1)
def areRooms (n m : Nat) : D → Bool
  | .tup l => decide (l.length = m) && l.all (isRoom n)
  | _ => false
def isStand (n m : Nat) (L : Int) : D → Bool
  | .tup [a, b] => areRooms n m a && areMarks n L b
  | _ => false
def isNone : D → Bool
  | .non => true
  | _ => false
def isWish (n m : Nat) : D → Bool
  | .tup l => decide (l.length = m) && l.all fun d => isNone d || isRoom n d
  | _ => false
theorem isStand_len {n m : Nat} {L : Int} {l : List D} (h : l.length ≠ 2) : isStand n m L (.tup l) = false := by
  match l, h with
  | [], _ => rfl
  | [_], _ => rfl
  | [_, _], h => exact absurd rfl h
  | _ :: _ :: _ :: _, _ => rfl
section
variable {P : Program} {w : World} {K : PySem.W.Frag} {mg : Str → Option Value} {base : Heap}
theorem cls_World (T : Tx K mg) : Cls K c_World := ⟨T.ck 18 rfl, T.ck 19 rfl, T.ck 20 rfl, isO_eq (T.ck 21 rfl)⟩
theorem mk_World (T : Tx K mg) : Mk K c_World m_World_init := ⟨T.ck 22 rfl, isO_eq (T.ck 23 rfl), T.ck 24 rfl, T.ck 25 rfl⟩
theorem no_floor (T : Tx K mg) : NoAttr K c_World "floor" := isO_eq (T.ck 26 rfl)
theorem no_lasting (T : Tx K mg) : NoAttr K c_World "lasting" := isO_eq (T.ck 27 rfl)
theorem no_wanted (T : Tx K mg) : NoAttr K c_World "wanted" := isO_eq (T.ck 28 rfl)
theorem met_rooms (T : Tx K mg) : Meth K c_World "rooms" m_World_rooms := ⟨isO_eq (T.ck 29 rfl), T.ck 30 rfl, T.ck 31 rfl⟩
theorem met_walkers (T : Tx K mg) : Meth K c_World "walkers" m_World_walkers := ⟨isO_eq (T.ck 32 rfl), T.ck 33 rfl, T.ck 34 rfl⟩
theorem met_life (T : Tx K mg) : Meth K c_World "life" m_World_life := ⟨isO_eq (T.ck 35 rfl), T.ck 36 rfl, T.ck 37 rfl⟩
/-! ### the world's methods -/
def sp_rooms : Sp := fun vs H Q _ => ∃ t n m L, vs = [t] ∧ Wd H t n m L ∧ Q (.int (n : Nat)) H
def sp_walkers : Sp := fun vs H Q _ => ∃ t n m L, vs = [t] ∧ Wd H t n m L ∧ Q (.int (m : Nat)) H
def sp_life : Sp := fun vs H Q _ => ∃ t n m L, vs = [t] ∧ Wd H t n m L ∧ Q (.int L) H
theorem ok_World_rooms (T : Tx K mg) : Fn0 P w K mg base 1 d_World_rooms p_World_rooms sp_rooms := by
  refine FunD.ok (fn_World_rooms T) s_World_rooms (fun vs H Q E h => ?_) (fun cdv A outer s H vs Q E hr h => ?_)
  · obtain ⟨t, n, m, L, rfl, _⟩ := h
    rfl
  obtain ⟨t, n, m, L, rfl, ⟨p, dx, f, r, fs, rs, rfl, h1, h2, h3, h4, h5, h6⟩, hQ⟩ := h
  refine ⟨_, (pss_one (ps_ret (pe_callB call_len rfl (mf_len T) boot_len1 (pa_cons (pe_fld (pv 0) rfl) pa_nil)))), ?_⟩
  refine ⟨_, rfl, p, c_World, dx, _, .ref f, rfl, h1, cls_World T, no_floor T, rfl, _, fs.length, rfl, .inr ⟨fs, SqT.of h2, rfl⟩, ?_⟩
  rw [h3]
  exact hQ
theorem ok_World_walkers (T : Tx K mg) : Fn0 P w K mg base 1 d_World_walkers p_World_walkers sp_walkers := by
  refine FunD.ok (fn_World_walkers T) s_World_walkers (fun vs H Q E h => ?_) (fun cdv A outer s H vs Q E hr h => ?_)
  · obtain ⟨t, n, m, L, rfl, _⟩ := h
    rfl
  obtain ⟨t, n, m, L, rfl, ⟨p, dx, f, r, fs, rs, rfl, h1, h2, h3, h4, h5, h6⟩, hQ⟩ := h
  refine ⟨_, (pss_one (ps_ret (pe_callB call_len rfl (mf_len T) boot_len1 (pa_cons (pe_fld (pv 0) rfl) pa_nil)))), ?_⟩
  refine ⟨_, rfl, p, c_World, dx, _, .ref r, rfl, h1, cls_World T, no_wanted T, rfl, _, rs.length, rfl, .inr ⟨rs, SqT.of h4, rfl⟩, ?_⟩
  rw [h5]
  exact hQ
theorem ok_World_life (T : Tx K mg) : Fn0 P w K mg base 1 d_World_life p_World_life sp_life := by
  refine FunD.ok (fn_World_life T) s_World_life (fun vs H Q E h => ?_) (fun cdv A outer s H vs Q E hr h => ?_)
  · obtain ⟨t, n, m, L, rfl, _⟩ := h
    rfl
  obtain ⟨t, n, m, L, rfl, ⟨p, dx, f, r, fs, rs, rfl, h1, h2, h3, h4, h5, h6⟩, hQ⟩ := h
  refine ⟨_, (pss_one (ps_ret (pe_fld (pv 0) rfl))), ?_⟩
  exact ⟨_, rfl, p, c_World, dx, _, .int L, rfl, h1, cls_World T, no_lasting T, rfl, hQ⟩
/-- a method asked of a world at a slot -/
theorem rd_meth {σ : L2.St} {i : Nat} {H : Hp} {Q : VK} {v : V} {n m : Nat} {L : Int} {x : Str} {sp : Sp} {E : XK} (hs : σ[i]? = some (some v)) (hw : Wd H v n m L) (hx : List.lookup x [(("floor" : Str), V.non), ("lasting", .non), ("wanted", .non)] = none) (q : sp [v] H Q E) : tMeth c_World x sp [] E (tVar i) tNil σ H Q := by
  obtain ⟨p, dx, f, r, fs, rs, rfl, h1, _⟩ := id hw
  refine ⟨.ref p, hs, p, dx, _, rfl, h1, ?_, q⟩
  simp only [List.lookup] at hx ⊢
  split at hx
  · cases hx
  · split at hx
    · cases hx
    · split at hx
      · cases hx
      · rfl
theorem rd_rooms {σ : L2.St} {i : Nat} {H : Hp} {Q : VK} {v : V} {n m : Nat} {L : Int} {E : XK} (hs : σ[i]? = some (some v)) (hw : Wd H v n m L) (q : Q (.int (n : Nat)) H) : tMeth c_World "rooms" sp_rooms [] E (tVar i) tNil σ H Q := rd_meth hs hw (by decide +kernel) ⟨v, n, m, L, rfl, hw, q⟩
theorem rd_walkers {σ : L2.St} {i : Nat} {H : Hp} {Q : VK} {v : V} {n m : Nat} {L : Int} {E : XK} (hs : σ[i]? = some (some v)) (hw : Wd H v n m L) (q : Q (.int (m : Nat)) H) : tMeth c_World "walkers" sp_walkers [] E (tVar i) tNil σ H Q := rd_meth hs hw (by decide +kernel) ⟨v, n, m, L, rfl, hw, q⟩
theorem rd_life {σ : L2.St} {i : Nat} {H : Hp} {Q : VK} {v : V} {n m : Nat} {L : Int} {E : XK} (hs : σ[i]? = some (some v)) (hw : Wd H v n m L) (q : Q (.int L) H) : tMeth c_World "life" sp_life [] E (tVar i) tNil σ H Q := rd_meth hs hw (by decide +kernel) ⟨v, n, m, L, rfl, hw, q⟩
/-! ### is_room, are_rooms -/
def sp_is_room : Sp := fun vs H Q _ => ∃ wv t d n m L, vs = [wv, t] ∧ Wd H wv n m L ∧ Dn H d t ∧ Q (.bl (isRoom n d)) H
theorem ok_is_room (T : Tx K mg) : Fn0 P w K mg base 2 d_is_room p_is_room sp_is_room := by
  refine FunD.ok (fn_is_room T) s_is_room (fun vs H Q E h => ?_) (fun cdv A outer s H vs Q E hr h => ?_)
  · obtain ⟨wv, t, d, n, m, L, rfl, _⟩ := h
    rfl
  obtain ⟨wv, t, d, n, m, L, rfl, hw, hd, hQ⟩ := h
  refine ⟨_, (pss_one (ps_ret (pe_call (ok_is_whole T) (hr.mono (by decide)) rfl (mg_is_whole T) (fn_is_whole T).kp (b_is_whole T) .nil pass0 (pa_cons (pv 1) (pa_cons pe_int (pa_cons (pe_op op_sub (pe_meth0 (pv 0) (cls_World T) (met_rooms T) (ok_World_rooms T) (hr.mono (by decide)) (b_World_rooms T) .nil pass0) pe_int) pa_nil)))))), ?_⟩
  exact ⟨_, rfl, rd_rooms rfl hw ⟨_, _, rfl, rfl, t, 0, (n : Int) - 1, d, rfl, hd, hQ⟩⟩
def sp_are_rooms : Sp := fun vs H Q _ => ∃ wv t d n m L, vs = [wv, t] ∧ Wd H wv n m L ∧ Dn H d t ∧ ∀ H', Same H H' → Q (.bl (areRooms n m d)) H'
theorem ok_are_rooms (T : Tx K mg) : Fn0 P w K mg base 3 d_are_rooms p_are_rooms sp_are_rooms := by
  refine FunD.ok (fn_are_rooms T) s_are_rooms (fun vs H Q E h => ?_) (fun cdv A outer s H vs Q E hr h => ?_)
  · obtain ⟨wv, t, d, n, m, L, rfl, _⟩ := h
    rfl
  obtain ⟨wv, t, d, n, m, L, rfl, hw, hd, hQ⟩ := h
  refine ⟨_, (pss_cons (ps_if (PW.pt (pw_or (pt_not (pt_val (pe_isD kit_tuple boot_tuple1 (mf_isinstance T) (mf_tuple T) (pv 1)))) (pw_or1 (pt_cmpR op_ne (pe_callB call_len rfl (mf_len T) boot_len1 (pa_cons (pv 1) pa_nil)) (pe_meth0 (pv 0) (cls_World T) (met_walkers T) (ok_World_walkers T) (hr.mono (by decide)) (b_World_walkers T) .nil pass0) (nomark _))))) (pss_one (ps_ret pe_bl)) pss_nil) (pss_one (ps_ret (pe_callB (cr_all rfl) rfl (mf_all T) boot_all1 (pa_cons (pe_lc (own := [("one", 2)]) (g := gName 2) rfl s_are_rooms.nd (pi_tup (pv 1)) (blkOk_by (own := [("one", 2)]) (N := n_are_rooms) (sc := defScope d_are_rooms.st) (by decide +kernel)) (fun _ _ _ _ _ => (pg_name (i := 2) s_are_rooms.nd rfl (.inl rfl))) (fun _ _ _ _ _ => pts_nil) (fun _ _ _ _ _ => (pe_call (ok_is_room T) (hr.mono (by decide)) rfl (mg_is_room T) (fn_is_room T).kp (b_is_room T) .nil pass0 (pa_cons (pv 0) (pa_cons (pv 2) pa_nil))))) pa_nil))))), ?_⟩
  refine ⟨_, rfl, _, d, rfl, hd, _, rfl, ?_⟩
  cases d with
  | tup l =>
    obtain ⟨p, xs, rfl, hp, hx⟩ := hd.tup
    have hlen := hx.length
    have hm : m < 100 := by
      obtain ⟨_, _, _, _, _, _, _, _, _, _, _, _, _, z⟩ := hw
      exact z
    refine iteF ⟨_, rfl, _, xs.length, rfl, .inr ⟨xs, SqT.of hp, rfl⟩, rd_walkers rfl hw ⟨rfl, _, rfl, ?_⟩⟩
    have e0 : areRooms n m (.tup l) = (decide (l.length = m) && l.all (isRoom n)) := rfl
    refine ite2 (fun h => ?_) (fun h => ?_)
    · have hn : ¬ l.length = m := fun e => by
        rw [hlen, e] at h
        simp at h
      rw [e0, decide_eq_false hn] at hQ
      exact hQ H (Same.refl _)
    · have hn : l.length = m := by
        simp only [Bool.not_eq_true, Bool.not_eq_false', decide_eq_true_eq, V.int.injEq] at h
        omega
      rw [e0, decide_eq_true hn] at hQ
      refine rd_allT (K := K) (j := 2) (p := isRoom n) (var_is rfl) hd (by omega) (fun H1 s1 H2 d1 v1 Q1 _ s2 h1 q1 => ?_) hQ
      exact ⟨_, rfl, _, rfl, wv, v1, d1, n, m, L, rfl, hw.mono (s1.trans s2), h1, q1 _ (Same.refl _)⟩
  | _ => exact iteT (hQ H (Same.refl _))
/-! ### is_stand, sure_stand -/
theorem atI0 (x : V) (r : List V) : atI (x :: r) 0 = some x := by
  simpa using atI_nat (xs := x :: r) (j := 0) (v := x) rfl
theorem atI1 (x y : V) (r : List V) : atI (x :: y :: r) 1 = some y := by
  simpa using atI_nat (xs := x :: y :: r) (j := 1) (v := y) rfl
def sp_is_stand : Sp := fun vs H Q _ => ∃ wv t d n m L, vs = [wv, t] ∧ Wd H wv n m L ∧ Dn H d t ∧ ∀ H', Same H H' → Q (.bl (isStand n m L d)) H'
theorem ok_is_stand (T : Tx K mg) : Fn0 P w K mg base 4 d_is_stand p_is_stand sp_is_stand := by
  refine FunD.ok (fn_is_stand T) s_is_stand (fun vs H Q E h => ?_) (fun cdv A outer s H vs Q E hr h => ?_)
  · obtain ⟨wv, t, d, n, m, L, rfl, _⟩ := h
    rfl
  obtain ⟨wv, t, d, n, m, L, rfl, hw, hd, hQ⟩ := h
  refine ⟨_, (pss_cons (ps_if (PW.pt (pw_or (pt_not (pt_val (pe_isD kit_tuple boot_tuple1 (mf_isinstance T) (mf_tuple T) (pv 1)))) (pw_or1 (pt_cmpR op_ne (pe_callB call_len rfl (mf_len T) boot_len1 (pa_cons (pv 1) pa_nil)) pe_int (nomark _))))) (pss_one (ps_ret pe_bl)) pss_nil) (pss_one (ps_ret (pe_and (pe_call (ok_are_rooms T) (hr.mono (by decide)) rfl (mg_are_rooms T) (fn_are_rooms T).kp (b_are_rooms T) .nil pass0 (pa_cons (pv 0) (pa_cons (pe_ix ix_tup (pv 1) pe_int (fun _ _ => rfl)) pa_nil))) (pe_one (pe_call (ok_are_marks T) (hr.mono (by decide)) rfl (mg_are_marks T) (fn_are_marks T).kp (b_are_marks T) .nil pass0 (pa_cons (pe_ix ix_tup (pv 1) pe_int (fun _ _ => rfl)) (pa_cons (pe_meth0 (pv 0) (cls_World T) (met_rooms T) (ok_World_rooms T) (hr.mono (by decide)) (b_World_rooms T) .nil pass0) (pa_cons (pe_meth0 (pv 0) (cls_World T) (met_life T) (ok_World_life T) (hr.mono (by decide)) (b_World_life T) .nil pass0) pa_nil))))))))), ?_⟩
  refine ⟨_, rfl, _, d, rfl, hd, _, rfl, ?_⟩
  cases d with
  | tup l =>
    obtain ⟨p, xs, rfl, hp, hx⟩ := hd.tup
    have hlen := hx.length
    refine iteF ⟨_, rfl, _, xs.length, rfl, .inr ⟨xs, SqT.of hp, rfl⟩, rfl, _, rfl, ?_⟩
    refine ite2 (fun h => ?_) (fun h => ?_)
    · have hn : l.length ≠ 2 := fun e => by
        rw [hlen, e] at h
        exact absurd h (by decide)
      rw [isStand_len hn] at hQ
      exact hQ H (Same.refl _)
    · have hn : xs.length = 2 := by
        simp only [Bool.not_eq_true, Bool.not_eq_false', decide_eq_true_eq, V.int.injEq] at h
        omega
      match l, hx, hQ with
      | [], hx, _ => have z := hx.length; rw [hn] at z; cases z
      | [_], hx, _ => have z := hx.length; rw [hn] at z; cases z
      | _ :: _ :: _ :: _, hx, _ => have z := hx.length; rw [hn] at z; simp only [List.length_cons] at z; omega
      | [d1, d2], hx, hQ =>
        obtain ⟨v1, xs, rfl, h1, hx⟩ := hx.cons
        obtain ⟨v2, xs, rfl, h2, hx⟩ := hx.cons
        rw [hx.nil] at hp
        refine ⟨_, rfl, _, rfl, p, _, 0, v1, rfl, rfl, SqT.of hp, atI0 v1 [v2], wv, v1, d1, n, m, L, rfl, hw, h1, fun H1 s1 => ⟨_, rfl, ?_⟩⟩
        have e0 : isStand n m L (.tup [d1, d2]) = (areRooms n m d1 && areMarks n L d2) := rfl
        cases c1 : areRooms n m d1 with
        | false =>
          refine iteF ?_
          rw [e0, c1] at hQ
          exact hQ H1 s1
        | true =>
          rw [e0, c1] at hQ
          refine iteT ⟨_, rfl, p, _, 1, v2, rfl, rfl, SqT.of (s1 _ _ hp), atI1 v1 v2 [], rd_rooms rfl (hw.mono s1) (rd_life rfl (hw.mono s1) ⟨v2, d2, n, L, rfl, ?_, Dn.mono s1 _ _ h2, fun H2 s2 => hQ H2 (s1.trans s2)⟩)⟩
          obtain ⟨_, _, _, _, _, _, _, _, _, _, _, _, z, _⟩ := hw
          exact Nat.lt_of_lt_of_le z (by decide)
  | _ => exact iteT (hQ H (Same.refl _))
def sp_sure_stand : Sp := fun vs H Q E => ∃ wv t d n m L, vs = [wv, t] ∧ Wd H wv n m L ∧ Dn H d t ∧ Sure (isStand n m L d) c_NoStand H Q E
theorem ok_sure_stand (T : Tx K mg) : FnX P w K mg base 5 d_sure_stand p_sure_stand sp_sure_stand := by
  refine FunD.ok (fn_sure_stand T) s_sure_stand (fun vs H Q E h => ?_) (fun cdv A outer s H vs Q E hr h => ?_)
  · obtain ⟨wv, t, d, n, m, L, rfl, _⟩ := h
    rfl
  obtain ⟨wv, t, d, n, m, L, rfl, hw, hd, h1, h2⟩ := h
  refine ⟨_, (pss_one (ps_if (pt_not (pt_val (pe_call (ok_is_stand T) (hr.mono (by decide)) rfl (mg_is_stand T) (fn_is_stand T).kp (b_is_stand T) .nil pass0 (pa_cons (pv 0) (pa_cons (pv 1) pa_nil))))) (pss_one (L2N.ps_raise rfl (L2N.takes_of rfl rfl rfl rfl) (pmk_x (mg_NoStand T) (exA_NoStand T) rfl))) pss_nil)), ?_⟩
  refine ⟨_, rfl, _, rfl, wv, t, d, n, m, L, rfl, hw, hd, fun H' s1 => ⟨_, rfl, ?_⟩⟩
  cases c : isStand n m L d with
  | true => exact iteF (h1 c H' s1)
  | false => exact iteT (h2 c H' s1)
/-! ### sure_count, sure_walker, sure_room -/
def sp_sure_count : Sp := fun vs H Q E => ∃ t d most, vs = [t, .int most] ∧ Dn H d t ∧ Sure (isWhole 0 most d) c_NoCount H Q E
theorem ok_sure_count (T : Tx K mg) : FnX P w K mg base 2 d_sure_count p_sure_count sp_sure_count := by
  refine FunD.ok (fn_sure_count T) s_sure_count (fun vs H Q E h => ?_) (fun cdv A outer s H vs Q E hr h => ?_)
  · obtain ⟨t, d, m, rfl, _⟩ := h
    rfl
  obtain ⟨t, d, m, rfl, hd, h1, h2⟩ := h
  refine ⟨_, (pss_one (ps_if (pt_not (pt_val (pe_call (ok_is_whole T) (hr.mono (by decide)) rfl (mg_is_whole T) (fn_is_whole T).kp (b_is_whole T) .nil pass0 (pa_cons (pv 0) (pa_cons pe_int (pa_cons (pv 1) pa_nil)))))) (pss_one (L2N.ps_raise rfl (L2N.takes_of rfl rfl rfl rfl) (pmk_x (mg_NoCount T) (exA_NoCount T) rfl))) pss_nil)), ?_⟩
  refine ⟨_, rfl, _, rfl, t, 0, m, d, rfl, hd, ⟨_, rfl, ?_⟩⟩
  cases c : isWhole 0 m d with
  | true => exact iteF (h1 c H (Same.refl _))
  | false => exact iteT (h2 c H (Same.refl _))
def sp_sure_walker : Sp := fun vs H Q E => ∃ wv t d n m L, vs = [wv, t] ∧ Wd H wv n m L ∧ Dn H d t ∧ Sure (isWhole 0 ((m : Int) - 1) d) c_NoWalker H Q E
theorem ok_sure_walker (T : Tx K mg) : FnX P w K mg base 2 d_sure_walker p_sure_walker sp_sure_walker := by
  refine FunD.ok (fn_sure_walker T) s_sure_walker (fun vs H Q E h => ?_) (fun cdv A outer s H vs Q E hr h => ?_)
  · obtain ⟨wv, t, d, n, m, L, rfl, _⟩ := h
    rfl
  obtain ⟨wv, t, d, n, m, L, rfl, hw, hd, h1, h2⟩ := h
  refine ⟨_, (pss_one (ps_if (pt_not (pt_val (pe_call (ok_is_whole T) (hr.mono (by decide)) rfl (mg_is_whole T) (fn_is_whole T).kp (b_is_whole T) .nil pass0 (pa_cons (pv 1) (pa_cons pe_int (pa_cons (pe_op op_sub (pe_meth0 (pv 0) (cls_World T) (met_walkers T) (ok_World_walkers T) (hr.mono (by decide)) (b_World_walkers T) .nil pass0) pe_int) pa_nil)))))) (pss_one (L2N.ps_raise rfl (L2N.takes_of rfl rfl rfl rfl) (pmk_x (mg_NoWalker T) (exA_NoWalker T) rfl))) pss_nil)), ?_⟩
  refine ⟨_, rfl, rd_walkers rfl hw ⟨_, _, rfl, rfl, t, 0, (m : Int) - 1, d, rfl, hd, ⟨_, rfl, ?_⟩⟩⟩
  cases c : isWhole 0 ((m : Int) - 1) d with
  | true => exact iteF (h1 c H (Same.refl _))
  | false => exact iteT (h2 c H (Same.refl _))
def sp_sure_room : Sp := fun vs H Q E => ∃ wv t d n m L, vs = [wv, t] ∧ Wd H wv n m L ∧ Dn H d t ∧ Sure (isRoom n d) c_NoRoom H Q E
theorem ok_sure_room (T : Tx K mg) : FnX P w K mg base 3 d_sure_room p_sure_room sp_sure_room := by
  refine FunD.ok (fn_sure_room T) s_sure_room (fun vs H Q E h => ?_) (fun cdv A outer s H vs Q E hr h => ?_)
  · obtain ⟨wv, t, d, n, m, L, rfl, _⟩ := h
    rfl
  obtain ⟨wv, t, d, n, m, L, rfl, hw, hd, h1, h2⟩ := h
  refine ⟨_, (pss_one (ps_if (pt_not (pt_val (pe_call (ok_is_room T) (hr.mono (by decide)) rfl (mg_is_room T) (fn_is_room T).kp (b_is_room T) .nil pass0 (pa_cons (pv 0) (pa_cons (pv 1) pa_nil))))) (pss_one (L2N.ps_raise rfl (L2N.takes_of rfl rfl rfl rfl) (pmk_x (mg_NoRoom T) (exA_NoRoom T) rfl))) pss_nil)), ?_⟩
  refine ⟨_, rfl, _, rfl, wv, t, d, n, m, L, rfl, hw, hd, ⟨_, rfl, ?_⟩⟩
  cases c : isRoom n d with
  | true => exact iteF (h1 c H (Same.refl _))
  | false => exact iteT (h2 c H (Same.refl _))
/-! ### is_wish, sure_wish -/
theorem none_dec {H : Hp} {d : D} {v : V} (h : Dn H d v) : decide (v = .non) = isNone d := by
  cases d with
  | non => rw [h.non]; rfl
  | bl b => rw [h.bl]; rfl
  | int i => rw [h.int]; rfl
  | str x => rw [h.str]; rfl
  | tup l =>
    obtain ⟨p, xs, rfl, _⟩ := h.tup
    rfl
  | lst l =>
    obtain ⟨p, xs, rfl, _⟩ := h.lst
    rfl
def sp_is_wish : Sp := fun vs H Q _ => ∃ wv t d n m L, vs = [wv, t] ∧ Wd H wv n m L ∧ Dn H d t ∧ ∀ H', Same H H' → Q (.bl (isWish n m d)) H'
theorem ok_is_wish (T : Tx K mg) : Fn0 P w K mg base 3 d_is_wish p_is_wish sp_is_wish := by
  refine FunD.ok (fn_is_wish T) s_is_wish (fun vs H Q E h => ?_) (fun cdv A outer s H vs Q E hr h => ?_)
  · obtain ⟨wv, t, d, n, m, L, rfl, _⟩ := h
    rfl
  obtain ⟨wv, t, d, n, m, L, rfl, hw, hd, hQ⟩ := h
  refine ⟨_, (pss_cons (ps_if (PW.pt (pw_or (pt_not (pt_val (pe_isD kit_tuple boot_tuple1 (mf_isinstance T) (mf_tuple T) (pv 1)))) (pw_or1 (pt_cmpR op_ne (pe_callB call_len rfl (mf_len T) boot_len1 (pa_cons (pv 1) pa_nil)) (pe_meth0 (pv 0) (cls_World T) (met_walkers T) (ok_World_walkers T) (hr.mono (by decide)) (b_World_walkers T) .nil pass0) (nomark _))))) (pss_one (ps_ret pe_bl)) pss_nil) (pss_one (ps_ret (pe_callB (cr_all rfl) rfl (mf_all T) boot_all1 (pa_cons (pe_lc (own := [("one", 2)]) (g := gName 2) rfl s_is_wish.nd (pi_tup (pv 1)) (blkOk_by (own := [("one", 2)]) (N := n_is_wish) (sc := defScope d_is_wish.st) (by decide +kernel)) (fun _ _ _ _ _ => (pg_name (i := 2) s_is_wish.nd rfl (.inl rfl))) (fun _ _ _ _ _ => pts_nil) (fun _ _ _ _ _ => (pe_or (pe_cmp (pc_isN (pv 2)) rfl) (pe_one (pe_call (ok_is_room T) (hr.mono (by decide)) rfl (mg_is_room T) (fn_is_room T).kp (b_is_room T) .nil pass0 (pa_cons (pv 0) (pa_cons (pv 2) pa_nil))))))) pa_nil))))), ?_⟩
  refine ⟨_, rfl, _, d, rfl, hd, _, rfl, ?_⟩
  cases d with
  | tup l =>
    obtain ⟨p, xs, rfl, hp, hx⟩ := hd.tup
    have hlen := hx.length
    have hm : m < 100 := by
      obtain ⟨_, _, _, _, _, _, _, _, _, _, _, _, _, z⟩ := hw
      exact z
    refine iteF ⟨_, rfl, _, xs.length, rfl, .inr ⟨xs, SqT.of hp, rfl⟩, rd_walkers rfl hw ⟨rfl, _, rfl, ?_⟩⟩
    have e0 : isWish n m (.tup l) = (decide (l.length = m) && l.all fun d => isNone d || isRoom n d) := rfl
    refine ite2 (fun h => ?_) (fun h => ?_)
    · have hn : ¬ l.length = m := fun e => by
        rw [hlen, e] at h
        simp at h
      rw [e0, decide_eq_false hn] at hQ
      exact hQ H (Same.refl _)
    · have hn : l.length = m := by
        simp only [Bool.not_eq_true, Bool.not_eq_false', decide_eq_true_eq, V.int.injEq] at h
        omega
      rw [e0, decide_eq_true hn] at hQ
      refine rd_allT (K := K) (j := 2) (p := fun d => isNone d || isRoom n d) (var_is rfl) hd (by omega) (fun H1 s1 H2 d1 v1 Q1 _ s2 h1 q1 => ?_) hQ
      refine ⟨_, rfl, _, rfl, ?_⟩
      rw [none_dec h1]
      have q2 : Q1 (.bl (isNone d1 || isRoom n d1)) H2 := q1 H2 (Same.refl _)
      cases c : isNone d1 with
      | true =>
        rw [c] at q2
        exact iteT q2
      | false =>
        rw [c] at q2
        exact iteF ⟨_, rfl, _, rfl, wv, v1, d1, n, m, L, rfl, hw.mono (s1.trans s2), h1, q2⟩
  | _ => exact iteT (hQ H (Same.refl _))
def sp_sure_wish : Sp := fun vs H Q E => ∃ wv t d n m L, vs = [wv, t] ∧ Wd H wv n m L ∧ Dn H d t ∧ Sure (isWish n m d) c_NoWish H Q E
theorem ok_sure_wish (T : Tx K mg) : FnX P w K mg base 4 d_sure_wish p_sure_wish sp_sure_wish := by
  refine FunD.ok (fn_sure_wish T) s_sure_wish (fun vs H Q E h => ?_) (fun cdv A outer s H vs Q E hr h => ?_)
  · obtain ⟨wv, t, d, n, m, L, rfl, _⟩ := h
    rfl
  obtain ⟨wv, t, d, n, m, L, rfl, hw, hd, h1, h2⟩ := h
  refine ⟨_, (pss_one (ps_if (pt_not (pt_val (pe_call (ok_is_wish T) (hr.mono (by decide)) rfl (mg_is_wish T) (fn_is_wish T).kp (b_is_wish T) .nil pass0 (pa_cons (pv 0) (pa_cons (pv 1) pa_nil))))) (pss_one (L2N.ps_raise rfl (L2N.takes_of rfl rfl rfl rfl) (pmk_x (mg_NoWish T) (exA_NoWish T) rfl))) pss_nil)), ?_⟩
  refine ⟨_, rfl, _, rfl, wv, t, d, n, m, L, rfl, hw, hd, fun H' s1 => ⟨_, rfl, ?_⟩⟩
  cases c : isWish n m d with
  | true => exact iteF (h1 c H' s1)
  | false => exact iteT (h2 c H' s1)
end
end Pw
set_option Elab.async false
set_option linter.all false
set_option maxRecDepth 100000
set_option maxHeartbeats 4000000
/-! Boxes; floors, rules of walkers. -/
namespace Pw
open PySem PySem.Spec PyProof.Rows L2
/-! ### mirrors -/
def rise : List D → Bool
  | .int a :: .int b :: r => decide (a < b) && rise (.int b :: r)
  | _ => true
def isFew (L : Int) : D → Bool
  | .tup l => !l.isEmpty && l.all (isWhole 0 L) && rise l
  | _ => false
def boxMarks (n : Nat) (L : Int) : D → Bool
  | .tup b => decide (b.length = n) && b.all (isFew L)
  | _ => false
def isBox (n m : Nat) (L : Int) : D → Bool
  | .tup [a, b] => areRooms n m a && boxMarks n L b
  | _ => false
theorem isBox_len {n m : Nat} {L : Int} {l : List D} (h : l.length ≠ 2) : isBox n m L (.tup l) = false := by
  match l, h with
  | [], _ => rfl
  | [_], _ => rfl
  | [_, _], h => exact absurd rfl h
  | _ :: _ :: _ :: _, _ => rfl
/-- what is at a place, and behind it -/
theorem rise_all : ∀ (l : List D), (∀ d ∈ l, ∃ i, d = .int i) → rise l = (l.zip (l.drop 1)).all fun p => match p.1, p.2 with
    | .int a, .int b => decide (a < b)
    | _, _ => false
  | [], _ => rfl
  | [d], h => by
    obtain ⟨i, rfl⟩ := h d List.mem_cons_self
    rfl
  | d :: e :: r, h => by
    obtain ⟨i, rfl⟩ := h d List.mem_cons_self
    obtain ⟨j, rfl⟩ := h e (List.mem_cons_of_mem _ List.mem_cons_self)
    have ih := rise_all (.int j :: r) fun d hd => h d (List.mem_cons_of_mem _ hd)
    show (decide (i < j) && rise (.int j :: r)) = _
    rw [ih]
    rfl
section
variable {P : Program} {w : World} {K : PySem.W.Frag} {mg : Str → Option Value} {base : Heap}
/-- what the turns of [a < b for a, b in zip(t, u)] say -/
structure ZipSo (H : Hp) (Dd : Addr) (is js : List Int) (i : Nat) (H1 : Hp) : Prop where
  same : Same H H1
  acc : H1 Dd = some (.lst (((is.zip js).take i).map fun p => V.bl (decide (p.1 < p.2))))
theorem set_wipe2 (σ : L2.St) (i j : Nat) (x y : V) : ((wipe σ [i, j]).set i (some x)).set j (some y) = (σ.set i (some x)).set j (some y) := by
  unfold wipe wipe wipe
  apply List.ext_getElem?
  intro k
  simp only [List.getElem?_set, List.length_set]
  by_cases h1 : j = k <;> by_cases h2 : i = k <;> simp [h1, h2]
theorem wipe_set2 (σ : L2.St) (i j : Nat) (x y : Option V) : wipe ((σ.set i x).set j y) [i, j] = wipe σ [i, j] := by
  unfold wipe wipe wipe
  apply List.ext_getElem?
  intro k
  simp only [List.getElem?_set, List.length_set]
  by_cases h1 : j = k <;> by_cases h2 : i = k <;> simp [h1, h2]
/-- all([a < b for a, b in zip(t, u)]) over two tuples of ints -/
theorem rd_zipLt {ta : TA} {σ : L2.St} {i j : Nat} {H : Hp} {is js : List Int} {a : Addr} {Q : VK} (hs : ∀ Q' : List V → Hp → Prop, (∀ H1 b, Same H H1 → H1 b = some (.tup (js.map V.int)) → Q' [.ref a, .ref b] H1) → ta σ H Q')
    (hi : i < σ.length) (hj : j < σ.length) (hij : i ≠ j) (ha : H a = some (.tup (is.map V.int))) (hl : is.length < 1000) (hQ : ∀ H', Same H H' → Q (.bl ((is.zip js).all fun p => decide (p.1 < p.2))) H') :
    tCB (rAll K) (tCons (tLc (RZ.iZipA K ta) (gTup K 2 (gCons (gName i) (gCons (gName j) gNil))) tYes (tOp (rI0 fun i j => .bl (decide (i < j))) (tVar i) (tVar j)) [i, j]) tNil) σ H Q := by
  refine hs _ fun H1 b s1 hb => ⟨a, b, is.map V.int, js.map V.int, rfl, .inr ⟨SqT.of (s1 _ _ ha), SqT.of hb, fun Dd hD => ?_⟩⟩
  have sD : Same H (upd H1 Dd (.lst [])) := fun c o e => by
    have e1 := s1 _ _ e
    rw [upd_ne (ne_of_none e1 hD)]
    exact e1
  have hbD : b ≠ Dd := ne_of_none hb hD
  refine ⟨fun k m H2 => m = (is.zip js).length - k ∧ k ≤ (is.zip js).length ∧ ZipSo H Dd is js k H2 ∧ H2 b = some (.tup (js.map V.int)), ⟨_, rfl, Nat.zero_le _, ⟨sD, by rw [upd_same]; rfl⟩, by rw [upd_ne hbD]; exact hb⟩, ?_⟩
  rintro k m H2 ⟨rfl, hk, S, hb2⟩
  have ha2 := S.same _ _ ha
  by_cases hlt : k < (is.zip js).length
  · have h1 : k < is.length := by rw [List.length_zip] at hlt; omega
    have h2 : k < js.length := by rw [List.length_zip] at hlt; omega
    have e1 : (is.map V.int)[k]? = some (.int is[k]) := by rw [List.getElem?_map, List.getElem?_eq_getElem h1]; rfl
    have e2 : (js.map V.int)[k]? = some (.int js[k]) := by rw [List.getElem?_map, List.getElem?_eq_getElem h2]; rfl
    refine .inr ⟨⟨_, _, _, _, SqT.of ha2, SqT.of hb2, e1, e2⟩, fun H' => ZipSo H Dd is js (k + 1) H' ∧ H' b = some (.tup (js.map V.int)), fun H' p => ⟨_, by omega, rfl, hlt, p.1, p.2⟩, fun x H' y => ?_⟩
    obtain ⟨Tt, x1, y1, rfl, hT, rfl, f1, f2⟩ := y
    have g1 := f1 _ (SqT.of ha2)
    have g2 := f2 _ (SqT.of hb2)
    rw [e1] at g1
    rw [e2] at g2
    cases g1
    cases g2
    refine ⟨Tt, [.int is[k], .int js[k]], rfl, SqT.of upd_same, rfl, _, _, rfl, _, _, rfl, rfl, ?_⟩
    refine ⟨?_, ?_⟩
    · rw [set_wipe2, wipe_set2]
    · show (if true = true then (tOp (rI0 fun i j => .bl (decide (i < j))) (tVar i) (tVar j)) (((wipe σ [i, j]).set i (some (V.int is[k]))).set j (some (V.int js[k]))) (upd H2 Tt (.tup [.int is[k], .int js[k]])) (fun y H4 => ∃ acc, H4 Dd = some (.lst acc) ∧ acc.length < sizeLine ∧ ZipSo H Dd is js (k + 1) (upd H4 Dd (.lst (acc ++ [y]))) ∧ (upd H4 Dd (.lst (acc ++ [y]))) b = some (.tup (js.map V.int))) else (ZipSo H Dd is js (k + 1) (upd H2 Tt (.tup [.int is[k], .int js[k]])) ∧ (upd H2 Tt (.tup [.int is[k], .int js[k]])) b = some (.tup (js.map V.int))))
      refine iteT ?_
      rw [set_wipe2]
      have s3 : Same H2 (upd H2 Tt (.tup [.int is[k], .int js[k]])) := fun c o e => by rw [upd_ne (ne_of_none e hT)]; exact e
      refine ⟨.int is[k], ?_, .int js[k], ?_, is[k], js[k], rfl, rfl, _, s3 _ _ S.acc, ?_, ⟨fun c o e => ?_, ?_⟩, ?_⟩
      · rw [List.getElem?_set_ne (Ne.symm hij), List.getElem?_set_self hi]
      · rw [List.getElem?_set_self (by rw [List.length_set]; exact hj)]
      · rw [List.length_map, List.length_take]
        have : sizeLine = 16777216 := sizeLine_eq
        have : (is.zip js).length ≤ is.length := by rw [List.length_zip]; omega
        omega
      · have hc : c ≠ Dd := ne_of_none (s1 _ _ e) hD
        rw [upd_ne hc]
        exact s3 _ _ (S.same _ _ e)
      · rw [upd_same, List.take_add_one, List.getElem?_eq_getElem hlt, List.map_append]
        simp
      · rw [upd_ne hbD]
        exact s3 _ _ hb2
  · have e : k = (is.zip js).length := by omega
    subst e
    refine .inl ⟨⟨_, _, SqT.of ha2, SqT.of hb2, ?_⟩, ?_⟩
    · rw [List.length_map, List.length_map]
      rw [List.length_zip] at hk hlt ⊢
      omega
    · refine ⟨Dd, (is.zip js).map fun p => decide (p.1 < p.2), rfl, SqL.of (by rw [S.acc, List.take_length, List.map_map]; rfl), ?_⟩
      rw [List.all_map]
      exact hQ H2 S.same
/-! ### are_few -/
theorem wholes {L : Int} : ∀ {l : List D}, l.all (isWhole 0 L) = true → ∃ is : List Int, l = is.map D.int
  | [], _ => ⟨[], rfl⟩
  | d :: r, h => by
    rw [List.all_cons] at h
    obtain ⟨h1, h2⟩ := He.ba h
    obtain ⟨is, rfl⟩ := wholes h2
    cases d with
    | int i => exact ⟨i :: is, rfl⟩
    | _ => cases h1
theorem DnA.of_ints {H : Hp} : ∀ {is : List Int} {xs : List V}, DnA H (is.map D.int) xs → xs = is.map V.int
  | [], _, h => h.nil
  | i :: r, _, h => by
    obtain ⟨v, vs, rfl, h1, h2⟩ := h.cons
    rw [h1.int, DnA.of_ints h2]
    rfl
theorem rise_ints (is : List Int) : rise (is.map D.int) = (is.zip (is.drop 1)).all fun p => decide (p.1 < p.2) := by
  rw [rise_all _ fun d hd => by
    obtain ⟨i, _, e⟩ := List.mem_map.mp hd
    exact ⟨i, e.symm⟩]
  rw [← List.map_drop, List.zip_map, List.all_map]
  rfl
def sp_are_few : Sp := fun vs H Q _ => ∃ t d L, vs = [t, .int L] ∧ Dn H d t ∧ (∀ l, d = .tup l → l.length < 1000) ∧ ∀ H', Same H H' → Q (.bl (isFew L d)) H'
theorem ok_are_few (T : Tx K mg) : Fn0 P w K mg base 2 d_are_few p_are_few sp_are_few := by
  refine FunD.ok (fn_are_few T) s_are_few (fun vs H Q E h => ?_) (fun cdv A outer s H vs Q E hr h => ?_)
  · obtain ⟨t, d, L, rfl, _⟩ := h
    rfl
  obtain ⟨t, d, L, rfl, hd, hsz, hQ⟩ := h
  refine ⟨_, (pss_cons (ps_if (PW.pt (pw_or (pt_not (pt_val (pe_isD kit_tuple boot_tuple1 (mf_isinstance T) (mf_tuple T) (pv 0)))) (pw_or (pt_not (pt_truth (pv 0) (by intro _; rfl))) (pw_or1 (pt_not (pt_val (pe_callB (cr_all rfl) rfl (mf_all T) boot_all1 (pa_cons (pe_lc (own := [("one", 2)]) (g := gName 2) rfl s_are_few.nd (pi_tup (pv 0)) (blkOk_by (own := [("one", 2)]) (N := n_are_few) (sc := defScope d_are_few.st) (by decide +kernel)) (fun _ _ _ _ _ => (pg_name (i := 2) s_are_few.nd rfl (.inl rfl))) (fun _ _ _ _ _ => pts_nil) (fun _ _ _ _ _ => (pe_call (ok_is_whole T) (hr.mono (by decide)) rfl (mg_is_whole T) (fn_is_whole T).kp (b_is_whole T) .nil pass0 (pa_cons (pv 2) (pa_cons pe_int (pa_cons (pv 1) pa_nil)))))) pa_nil)))))))) (pss_one (ps_ret pe_bl)) pss_nil) (pss_one (ps_ret (pe_callB (cr_all rfl) rfl (mf_all T) boot_all1 (pa_cons (pe_lc (own := [("one", 2), ("other", 3)]) (g := gTup K 2 (gCons (gName 2) (gCons (gName 3) gNil))) rfl s_are_few.nd (RZ.pi_zipA rfl (mf_zip T) (pa_cons (pv 0) (pa_cons (pe_slice sl_tupA (pv 0) (po_some pe_int) po_none) pa_nil))) (blkOk_by (own := [("one", 2), ("other", 3)]) (N := n_are_few) (sc := defScope d_are_few.st) (by decide +kernel)) (fun _ _ _ _ _ => (pg_tup rfl (pgs_cons (pg_name (i := 2) s_are_few.nd rfl (.inl rfl)) (pgs_cons (pg_name (i := 3) s_are_few.nd rfl (.inl rfl)) pgs_nil)))) (fun _ _ _ _ _ => pts_nil) (fun _ _ _ _ _ => (pe_cmpR op_lt (pv 2) (pv 3) (nomark _)))) pa_nil))))), ?_⟩
  refine ⟨_, rfl, _, d, rfl, hd, _, rfl, ?_⟩
  cases d with
  | tup l =>
    obtain ⟨p, xs, rfl, hp, hx⟩ := hd.tup
    have hlen := hx.length
    have hl := hsz l rfl
    refine iteF ⟨_, rfl, _, .inr (.inl ⟨xs, SqT.of hp, rfl⟩), ?_⟩
    cases l with
    | nil =>
      rw [hx.nil]
      exact iteT (hQ H (Same.refl _))
    | cons d1 r =>
      obtain ⟨v1, vs1, rfl, h1, h2⟩ := hx.cons
      refine iteF ?_
      have e0 : isFew L (.tup (d1 :: r)) = ((d1 :: r).all (isWhole 0 L) && rise (d1 :: r)) := rfl
      rw [e0] at hQ
      generalize hl1 : (d1 :: r : List D) = l at hd hx hl hQ hsz
      refine rd_allT (K := K) (j := 2) (p := isWhole 0 L) (var_is rfl) hd hl (fun H1 s1 H2 d1 v1 Q1 _ s2 h1 q1 => ⟨_, rfl, _, rfl, v1, 0, L, d1, rfl, h1, q1 _ (Same.refl _)⟩) fun H1 s1 => ⟨_, rfl, ?_⟩
      cases c : l.all (isWhole 0 L) with
      | false =>
        rw [c] at hQ
        exact iteT (hQ H1 s1)
      | true =>
        rw [c] at hQ
        refine iteF ?_
        obtain ⟨is, rfl⟩ := wholes c
        have ex := DnA.of_ints hx
        rw [ex] at hp
        have hp1 := s1 _ _ hp
        rw [rise_ints] at hQ
        have hn : is.length < 1000 := by simpa using hl
        have hpos : 0 < is.length := by
          cases is with
          | nil => cases hl1
          | cons _ _ => exact Nat.zero_lt_succ _
        unfold tNext
        dsimp only
        unfold tRet
        dsimp only
        refine rd_zipLt (K := K) (i := 2) (j := 3) (is := is) (js := is.drop 1) (fun Q' q => ?_) ?hi ?hj (by decide) hp1 hn fun H2 s2 => hQ H2 (s1.trans s2)
        case hi => exact (show 2 < 4 by decide)
        case hj => exact (show 3 < 4 by decide)
        refine ⟨_, rfl, _, rfl, 1, rfl, p, is.map V.int, rfl, SqT.of hp1, fun z => ?_, fun _ pn hpn => ?_⟩
        · exfalso
          have z1 : HT.sIx (is.map V.int).length 0 (some 1) = 0 := z.1
          have z2 : HT.sIx (is.map V.int).length 0 (some 1) = min 1 (is.map V.int).length := HT.sIx_nat _ 0 1
          rw [z1, List.length_map] at z2
          omega
        · have z2 : HT.sIx (is.map V.int).length 0 (some 1) = min 1 (is.map V.int).length := HT.sIx_nat _ 0 1
          have ec : cutV (is.map V.int) (some 1) none = (is.drop 1).map V.int := by
            unfold cutV
            rw [z2, HT.sIx_none, List.length_map, show min 1 is.length = 1 by omega, List.map_drop, List.take_of_length_le]
            rw [List.length_drop, List.length_map]
            omega
          rw [ec]
          exact q _ pn (fun c o e => by rw [upd_ne (ne_of_none e hpn)]; exact e) upd_same
  | _ => exact iteT (hQ H (Same.refl _))
end
end Pw
set_option Elab.async false
set_option linter.all false
set_option maxRecDepth 100000
set_option maxHeartbeats 4000000
/-! Rules whose reading names K itself (for the elements of comprehensions). -/
namespace Pw
open PySem PySem.Spec PyProof.Rows L2
section
variable {X : Cx} {K : PySem.W.Frag} {e : Expr} {ta : TE} {pos : Pos} {f : Str}
def rLen (K : PySem.W.Frag) : List V → Hp → VK → Prop := fun xs H Q => ∃ x n, xs = [x] ∧ LenV K x H n ∧ Q (.int n) H
theorem call_lenK (hK : X.K = K := by rfl) : CallR X (.builtin "len") (rLen K) := by
  subst hK
  exact call_len
theorem pe_fldK (he : PE X e ta) (hb : attributeBase e f X.env (eval e X.env) = eval e X.env) (hK : X.K = K := by rfl) : PE X (.Attribute e f pos) (tFld K ta f) := by
  subst hK
  exact pe_fld he hb
theorem ix_listK (hK : X.K = K := by rfl) : IxR X (rIxL K) := by
  subst hK
  exact ix_list
theorem ix_tupK (hK : X.K = K := by rfl) : IxR X (rIxT K) := by
  subst hK
  exact ix_tup
theorem pt_truthK (ha : PE X e ta) (he : ∀ whole, isTrue e X.env whole = (do let v ← whole; standAt e.pos; holding [v] (truthy v))) (hK : X.K = K := by rfl) : PT X e (fun σ H Q => ta σ H fun x H' => ∃ k, TruV K x H' k ∧ Q k H') := by
  subst hK
  exact pt_truth ha he
end
end Pw
set_option Elab.async false
set_option linter.all false
set_option maxRecDepth 100000
set_option maxHeartbeats 4000000
/-! is_box; floors and rules of walkers. -/
namespace Pw
open PySem PySem.Spec PyProof.Rows L2
section
variable {P : Program} {w : World} {K : PySem.W.Frag} {mg : Str → Option Value} {base : Heap}
theorem nxI {D : Ends} {σ : L2.St} {H : Hp} (h : D.nx σ H) : tNext D σ H := h
theorem iteP {p a b : Prop} [Decidable p] (h : p) (ha : a) : if decide p = true then a else b := by
  rw [decide_eq_true h]
  exact ha
theorem rd_lasting (T : Tx K mg) {σ : L2.St} {i : Nat} {H : Hp} {Q : VK} {v : V} {n m : Nat} {L : Int} (hs : σ[i]? = some (some v)) (hw : Wd H v n m L) (q : Q (.int L) H) : tFld K (tVar i) "lasting" σ H Q := by
  obtain ⟨p, dx, f, r, fs, rs, rfl, h1, _⟩ := hw
  exact ⟨.ref p, hs, p, c_World, dx, _, .int L, rfl, h1, cls_World T, no_lasting T, rfl, q⟩
/-- t[1] of a pair -/
theorem rd_at1 {σ : L2.St} {i : Nat} {H : Hp} {Q : VK} {p : Addr} {v1 v2 : V} (hs : σ[i]? = some (some (.ref p))) (hp : H p = some (.tup [v1, v2])) (q : Q v2 H) : tOp (rIxT K) (tVar i) (tC (.int 1)) σ H Q :=
  ⟨_, hs, p, _, 1, v2, rfl, rfl, SqT.of hp, atI1 v1 v2 [], q⟩
theorem rd_at0 {σ : L2.St} {i : Nat} {H : Hp} {Q : VK} {p : Addr} {v1 : V} {r : List V} (hs : σ[i]? = some (some (.ref p))) (hp : H p = some (.tup (v1 :: r))) (q : Q v1 H) : tOp (rIxT K) (tVar i) (tC (.int 0)) σ H Q :=
  ⟨_, hs, p, _, 0, v1, rfl, rfl, SqT.of hp, atI0 v1 r, q⟩
/-! ### is_box -/
def slim (d : D) : Prop := ∀ a b, d = .tup [a, .tup b] → ∀ l, D.tup l ∈ b → l.length < 1000
def sp_is_box : Sp := fun vs H Q _ => ∃ wv t d n m L, vs = [wv, t] ∧ Wd H wv n m L ∧ Dn H d t ∧ slim d ∧ ∀ H', Same H H' → Q (.bl (isBox n m L d)) H'
theorem ok_is_box (T : Tx K mg) : Fn0 P w K mg base 4 d_is_box p_is_box sp_is_box := by
  refine FunD.ok (fn_is_box T) s_is_box (fun vs H Q E h => ?_) (fun cdv A outer s H vs Q E hr h => ?_)
  · obtain ⟨wv, t, d, n, m, L, rfl, _⟩ := h
    rfl
  obtain ⟨wv, t, d, n, m, L, rfl, hw, hd, hsl, hQ⟩ := h
  refine ⟨_, (pss_cons (ps_if (PW.pt (pw_or (pt_not (pt_val (pe_isD kit_tuple boot_tuple1 (mf_isinstance T) (mf_tuple T) (pv 1)))) (pw_or (pt_cmpR op_ne (pe_callB call_len rfl (mf_len T) boot_len1 (pa_cons (pv 1) pa_nil)) pe_int (nomark _)) (pw_or1 (pt_not (pt_val (pe_call (ok_are_rooms T) (hr.mono (by decide)) rfl (mg_are_rooms T) (fn_are_rooms T).kp (b_are_rooms T) .nil pass0 (pa_cons (pv 0) (pa_cons (pe_ix ix_tup (pv 1) pe_int (fun _ _ => rfl)) pa_nil))))))))) (pss_one (ps_ret pe_bl)) pss_nil) (pss_cons (ps_if (PW.pt (pw_or (pt_not (pt_val (pe_isD kit_tuple boot_tuple1 (mf_isinstance T) (mf_tuple T) (pe_ix ix_tup (pv 1) pe_int (fun _ _ => rfl))))) (pw_or1 (pt_cmpR op_ne (pe_callB call_len rfl (mf_len T) boot_len1 (pa_cons (pe_ix ix_tup (pv 1) pe_int (fun _ _ => rfl)) pa_nil)) (pe_meth0 (pv 0) (cls_World T) (met_rooms T) (ok_World_rooms T) (hr.mono (by decide)) (b_World_rooms T) .nil pass0) (nomark _))))) (pss_one (ps_ret pe_bl)) pss_nil) (pss_one (ps_ret (pe_callB (cr_all rfl) rfl (mf_all T) boot_all1 (pa_cons (pe_lc (own := [("one", 2)]) (g := gName 2) rfl s_is_box.nd (pi_tup (pe_ix ix_tup (pv 1) pe_int (fun _ _ => rfl))) (blkOk_by (own := [("one", 2)]) (N := n_is_box) (sc := defScope d_is_box.st) (by decide +kernel)) (fun _ _ _ _ _ => (pg_name (i := 2) s_is_box.nd rfl (.inl rfl))) (fun _ _ _ _ _ => pts_nil) (fun _ _ _ _ _ => (pe_call (ok_are_few T) (hr.mono (by decide)) rfl (mg_are_few T) (fn_are_few T).kp (b_are_few T) .nil pass0 (pa_cons (pv 2) (pa_cons (pe_fldK (pv 0) rfl) pa_nil))))) pa_nil)))))), ?_⟩
  refine ⟨_, rfl, _, d, rfl, hd, _, rfl, ?_⟩
  cases d with
  | tup l =>
    obtain ⟨p, xs, rfl, hp, hx⟩ := hd.tup
    have hlen := hx.length
    refine iteF ⟨_, rfl, _, xs.length, rfl, .inr ⟨xs, SqT.of hp, rfl⟩, rfl, _, rfl, ?_⟩
    refine ite2 (fun h => ?_) (fun h => ?_)
    · have hn : l.length ≠ 2 := fun e => by
        rw [hlen, e] at h
        exact absurd h (by decide)
      rw [isBox_len hn] at hQ
      exact hQ H (Same.refl _)
    · have hn : xs.length = 2 := by
        simp only [Bool.not_eq_true, Bool.not_eq_false', decide_eq_true_eq, V.int.injEq] at h
        omega
      match l, hx, hQ, hsl with
      | [], hx, _, _ => have z := hx.length; rw [hn] at z; cases z
      | [_], hx, _, _ => have z := hx.length; rw [hn] at z; cases z
      | _ :: _ :: _ :: _, hx, _, _ => have z := hx.length; rw [hn] at z; simp only [List.length_cons] at z; omega
      | [d1, d2], hx, hQ, hsl =>
        obtain ⟨v1, xs, rfl, h1, hx⟩ := hx.cons
        obtain ⟨v2, xs, rfl, h2, hx⟩ := hx.cons
        rw [hx.nil] at hp
        refine ⟨_, rfl, rd_at0 rfl hp ⟨wv, v1, d1, n, m, L, rfl, hw, h1, fun H1 s1 => ⟨_, rfl, ?_⟩⟩⟩
        have e0 : isBox n m L (.tup [d1, d2]) = (areRooms n m d1 && boxMarks n L d2) := rfl
        cases c1 : areRooms n m d1 with
        | false =>
          refine iteT ?_
          rw [e0, c1] at hQ
          exact hQ H1 s1
        | true =>
          rw [e0, c1] at hQ
          have hp1 := s1 _ _ hp
          have hw1 := hw.mono s1
          have h21 := Dn.mono s1 _ _ h2
          refine iteF (rd_at1 rfl hp1 ⟨v2, d2, rfl, h21, _, rfl, ?_⟩)
          cases d2 with
          | tup b =>
            obtain ⟨p2, xs2, rfl, hp2, hx2⟩ := h21.tup
            have hlen2 := hx2.length
            have hnn : n < 100 := by
              obtain ⟨_, _, _, _, _, _, _, _, _, _, _, _, z, _⟩ := hw
              exact z
            refine iteF (rd_at1 rfl hp1 ⟨_, xs2.length, rfl, .inr ⟨xs2, SqT.of hp2, rfl⟩, rd_rooms rfl hw1 ⟨rfl, _, rfl, ?_⟩⟩)
            have e1 : boxMarks n L (.tup b) = (decide (b.length = n) && b.all (isFew L)) := rfl
            rw [e1] at hQ
            refine ite2 (fun h => ?_) (fun h => ?_)
            · have hb : ¬ b.length = n := fun e => by
                rw [hlen2, e] at h
                simp at h
              rw [decide_eq_false hb] at hQ
              exact hQ H1 s1
            · have hb : b.length = n := by
                simp only [Bool.not_eq_true, Bool.not_eq_false', decide_eq_true_eq, V.int.injEq] at h
                omega
              rw [decide_eq_true hb] at hQ
              refine rd_allT (K := K) (j := 2) (p := isFew L) (fun Q' q => rd_at1 rfl hp1 q) h21 (by omega) (fun H2 s2 H3 d3 v3 Q3 m3 s3 h3 q3 => ?_) fun H2 s2 => hQ H2 (s1.trans s2)
              exact ⟨_, rfl, rd_lasting T rfl (hw1.mono (s2.trans s3)) ⟨v3, d3, L, rfl, h3, fun l e => hsl _ b rfl l (e ▸ m3), fun H4 s4 => q3 H4 s4⟩⟩
          | _ => exact iteT (hQ H1 s1)
  | _ => exact iteT (hQ H (Same.refl _))
def sp_sure_box : Sp := fun vs H Q E => ∃ wv t d n m L, vs = [wv, t] ∧ Wd H wv n m L ∧ Dn H d t ∧ slim d ∧ Sure (isBox n m L d) c_NoBox H Q E
theorem ok_sure_box (T : Tx K mg) : FnX P w K mg base 5 d_sure_box p_sure_box sp_sure_box := by
  refine FunD.ok (fn_sure_box T) s_sure_box (fun vs H Q E h => ?_) (fun cdv A outer s H vs Q E hr h => ?_)
  · obtain ⟨wv, t, d, n, m, L, rfl, _⟩ := h
    rfl
  obtain ⟨wv, t, d, n, m, L, rfl, hw, hd, hsl, h1, h2⟩ := h
  refine ⟨_, (pss_one (ps_if (pt_not (pt_val (pe_call (ok_is_box T) (hr.mono (by decide)) rfl (mg_is_box T) (fn_is_box T).kp (b_is_box T) .nil pass0 (pa_cons (pv 0) (pa_cons (pv 1) pa_nil))))) (pss_one (L2N.ps_raise rfl (L2N.takes_of rfl rfl rfl rfl) (pmk_x (mg_NoBox T) (exA_NoBox T) rfl))) pss_nil)), ?_⟩
  refine ⟨_, rfl, _, rfl, wv, t, d, n, m, L, rfl, hw, hd, hsl, fun H' s1 => ⟨_, rfl, ?_⟩⟩
  cases c : isBox n m L d with
  | true => exact iteF (h1 c H' s1)
  | false => exact iteT (h2 c H' s1)
/-! ### are_ways, are_rules -/
def rowOk (n : Nat) : D → Bool
  | .tup r => decide (1 ≤ r.length) && decide (r.length ≤ 4) && r.all (isWhole 0 ((n : Int) - 1))
  | _ => false
def waysOk : D → Bool
  | .lst l => decide (1 ≤ l.length) && decide (l.length ≤ 8) && l.all (rowOk l.length)
  | _ => false
def rulesOk : D → Bool
  | .lst l => decide (1 ≤ l.length) && decide (l.length ≤ 3) && l.all isRule
  | _ => false
def sp_are_ways : Sp := fun vs H Q _ => ∃ t d, vs = [t] ∧ Dn H d t ∧ waysOk d = true ∧ ∀ H', Same H H' → Q (.bl true) H'
theorem ok_are_ways (T : Tx K mg) : Fn0 P w K mg base 2 d_are_ways p_are_ways sp_are_ways := by
  refine FunD.ok (fn_are_ways T) s_are_ways (fun vs H Q E h => ?_) (fun cdv A outer s H vs Q E hr h => ?_)
  · obtain ⟨t, d, rfl, _⟩ := h
    rfl
  obtain ⟨t, d, rfl, hd, hok, hQ⟩ := h
  refine ⟨_, PSs.nox (pss_cons (ps_if (PW.pt (pw_or (pt_not (pt_val (pe_isD kit_list boot_list1 (mf_isinstance T) (mf_list T) (pv 0)))) (pw_or1 (pt_not (pt_chain op_le op_le pe_int (pe_callB call_len rfl (mf_len T) boot_len1 (pa_cons (pv 0) pa_nil)) (pe_gint (mi_MOST_ROOMS T))))))) (pss_one (ps_ret pe_bl)) pss_nil) (pss_cons (ps_for PassesOwn.never rfl (pi_list (pv 0)) (pg_name (i := 1) s_are_ways.nd rfl (.inl rfl)) (pss_cons (ps_if (PW.pt (pw_or (pt_not (pt_val (pe_isD kit_tuple boot_tuple1 (mf_isinstance T) (mf_tuple T) (pv 1)))) (pw_or1 (pt_not (pt_chain op_le op_le pe_int (pe_callB call_len rfl (mf_len T) boot_len1 (pa_cons (pv 1) pa_nil)) (pe_gint (mi_MOST_WAYS T))))))) (pss_one (ps_ret pe_bl)) pss_nil) (pss_one (ps_if (pt_not (pt_val (pe_callB (cr_all rfl) rfl (mf_all T) boot_all1 (pa_cons (pe_lc (own := [("room", 2)]) (g := gName 2) rfl s_are_ways.nd (pi_tup (pv 1)) (blkOk_by (own := [("room", 2)]) (N := n_are_ways) (sc := defScope d_are_ways.st) (by decide +kernel)) (fun _ _ _ _ _ => (pg_name (i := 2) s_are_ways.nd rfl (.inl rfl))) (fun _ _ _ _ _ => pts_nil) (fun _ _ _ _ _ => (pe_call (ok_is_whole T) (hr.mono (by decide)) rfl (mg_is_whole T) (fn_is_whole T).kp (b_is_whole T) .nil pass0 (pa_cons (pv 2) (pa_cons pe_int (pa_cons (pe_op op_sub (pe_callB call_lenK rfl (mf_len T) boot_len1 (pa_cons (pv 0) pa_nil)) pe_int) pa_nil)))))) pa_nil)))) (pss_one (ps_ret pe_bl)) pss_nil)))) (pss_one (ps_ret pe_bl)))), ?_⟩
  refine ⟨_, rfl, _, d, rfl, hd, _, rfl, ?_⟩
  cases d with
  | lst l =>
    obtain ⟨p, xs, rfl, hp, hx⟩ := hd.lst
    have hlen := hx.length
    obtain ⟨h12, h3⟩ := He.ba (show (decide (1 ≤ l.length) && decide (l.length ≤ 8) && l.all (rowOk l.length)) = true from hok)
    obtain ⟨h1, h2⟩ := He.ba h12
    have g1 := of_decide_eq_true h1
    have g2 := of_decide_eq_true h2
    refine iteF ⟨_, rfl, _, xs.length, rfl, .inl ⟨xs, SqL.of hp, rfl⟩, _, _, rfl, rfl, _, rfl, ?_⟩
    refine iteP (by omega) ⟨_, _, rfl, rfl, _, rfl, ?_⟩
    rw [decide_eq_true (by omega)]
    refine iteF ?_
    refine nxI ?_
    dsimp only
    show tFor _ (gName 1) _ _ _ _
    refine ⟨_, rfl, p, rfl, ⟨xs, SqL.of hp⟩, ?_⟩
    refine for_list (xs := xs) (fun _ σ H1 => Same H H1 ∧ σ.length = 3 ∧ σ[0]? = some (some (.ref p))) ⟨Same.refl _, rfl, rfl⟩ (fun i σ H1 _ z => SqL.of (z.1 _ _ hp)) (fun i x σ H1 hi z => ?_) fun σ H1 z => hQ H1 z.1
    obtain ⟨s1, z3, z0⟩ := z
    obtain ⟨d1, hd1, hx1⟩ := hx.get hi
    have hm := List.mem_of_getElem? hd1
    have hr1 := List.all_eq_true.mp h3 d1 hm
    cases d1 with
    | tup r =>
      obtain ⟨h45, h6⟩ := He.ba (show (decide (1 ≤ r.length) && decide (r.length ≤ 4) && r.all (isWhole 0 ((l.length : Int) - 1))) = true from hr1)
      obtain ⟨h4, h5⟩ := He.ba h45
      have g4 := of_decide_eq_true h4
      have g5 := of_decide_eq_true h5
      have hx1' := Dn.mono s1 _ _ hx1
      obtain ⟨pr, rs, rfl, hpr, hrs⟩ := hx1'.tup
      have hrl := hrs.length
      have e1 : (σ.set 1 (some (V.ref pr)))[1]? = some (some (V.ref pr)) := List.getElem?_set_self (by omega)
      have e0 : (σ.set 1 (some (V.ref pr)))[0]? = some (some (V.ref p)) := by
        rw [List.getElem?_set_ne (by decide)]
        exact z0
      refine ⟨_, e1, _, _, rfl, hx1', _, rfl, ?_⟩
      refine iteF ⟨_, e1, _, rs.length, rfl, .inr ⟨rs, SqT.of hpr, rfl⟩, _, _, rfl, rfl, _, rfl, ?_⟩
      refine iteP (by omega) ⟨_, _, rfl, rfl, _, rfl, ?_⟩
      rw [decide_eq_true (by omega)]
      refine iteF ?_
      refine nxI ?_
      dsimp only
      refine rd_allT (K := K) (j := 2) (p := isWhole 0 ((l.length : Int) - 1)) (var_is e1) hx1' (by omega) (fun H2 s2 H3 d3 v3 Q3 m3 s3 h3 q3 => ?_) fun H2 s2 => ⟨_, rfl, ?_⟩
      · refine ⟨v3, List.getElem?_set_self (by rw [List.length_set]; omega), V.ref p, by rw [List.getElem?_set_ne (by decide)]; exact e0, _, xs.length, rfl, .inl ⟨xs, SqL.of (s3 _ _ (s2 _ _ (s1 _ _ hp))), rfl⟩, _, _, rfl, rfl, ?_⟩
        rw [hlen]
        exact ⟨_, _, _, d3, rfl, h3, q3 _ (Same.refl _)⟩
      · rw [h6]
        refine iteF ?_
        exact ⟨s1.trans s2, by rw [List.length_set]; exact z3, e0⟩
    | _ => cases hr1
  | _ => cases hok
def sp_are_rules : Sp := fun vs H Q _ => ∃ t d, vs = [t] ∧ Dn H d t ∧ ∀ H', Same H H' → Q (.bl (rulesOk d)) H'
theorem ok_are_rules (T : Tx K mg) : Fn0 P w K mg base 4 d_are_rules p_are_rules sp_are_rules := by
  refine FunD.ok (fn_are_rules T) s_are_rules (fun vs H Q E h => ?_) (fun cdv A outer s H vs Q E hr h => ?_)
  · obtain ⟨t, d, rfl, _⟩ := h
    rfl
  obtain ⟨t, d, rfl, hd, hQ⟩ := h
  refine ⟨_, (pss_one (ps_ret (pe_and (pe_isD kit_list boot_list1 (mf_isinstance T) (mf_list T) (pv 0)) (pe_and (pe_chain op_le op_le pe_int (pe_callB call_len rfl (mf_len T) boot_len1 (pa_cons (pv 0) pa_nil)) (pe_gint (mi_MOST_WALKERS T))) (pe_one (pe_callB (cr_all rfl) rfl (mf_all T) boot_all1 (pa_cons (pe_lc (own := [("one", 1)]) (g := gName 1) rfl s_are_rules.nd (pi_list (pv 0)) (blkOk_by (own := [("one", 1)]) (N := n_are_rules) (sc := defScope d_are_rules.st) (by decide +kernel)) (fun _ _ _ _ _ => (pg_name (i := 1) s_are_rules.nd rfl (.inl rfl))) (fun _ _ _ _ _ => pts_nil) (fun _ _ _ _ _ => (pe_call (ok_is_rule T) (hr.mono (by decide)) rfl (mg_is_rule T) (fn_is_rule T).kp (b_is_rule T) .nil pass0 (pa_cons (pv 1) pa_nil)))) pa_nil))))))), ?_⟩
  refine ⟨_, rfl, _, d, rfl, hd, _, rfl, ?_⟩
  cases d with
  | lst l =>
    obtain ⟨p, xs, rfl, hp, hx⟩ := hd.lst
    have hlen := hx.length
    have e0 : rulesOk (.lst l) = (decide (1 ≤ l.length) && decide (l.length ≤ 3) && l.all isRule) := rfl
    rw [e0] at hQ
    refine iteT ⟨_, rfl, _, xs.length, rfl, .inl ⟨xs, SqL.of hp, rfl⟩, _, _, rfl, rfl, _, rfl, ?_⟩
    refine ite2 (fun h => ?_) (fun h => ?_)
    · have g1 : 1 ≤ l.length := by
        have z := of_decide_eq_true h
        omega
      rw [decide_eq_true g1, Bool.true_and] at hQ
      refine ⟨_, _, rfl, rfl, _, rfl, ?_⟩
      refine ite2 (fun h => ?_) (fun h => ?_)
      · have g3 : l.length ≤ 3 := by
          have z := of_decide_eq_true h
          omega
        rw [decide_eq_true g3, Bool.true_and] at hQ
        refine rd_allL (K := K) (j := 1) (p := isRule) (var_is rfl) hd (by omega) (fun H1 _ H2 d1 v1 Q1 _ s2 h1 q1 => ?_) hQ
        exact ⟨_, rfl, v1, d1, rfl, h1, q1⟩
      · have g3 : ¬ l.length ≤ 3 := fun z => h (decide_eq_true (by omega))
        rw [decide_eq_false g3] at hQ
        exact hQ H (Same.refl _)
    · have g1 : ¬ 1 ≤ l.length := fun z => h (decide_eq_true (by omega))
      rw [decide_eq_false g1] at hQ
      exact ⟨_, rfl, iteF (hQ H (Same.refl _))⟩
  | _ => exact iteF (hQ H (Same.refl _))
end
end Pw
set_option Elab.async false
set_option linter.all false
set_option maxRecDepth 100000
set_option maxHeartbeats 4000000
/-! While an exception is handled: the end of a tuple's and of a list's iterator, of a zip; taking a tuple apart. -/
namespace Pw
open PySem PySem.Spec PyProof.Rows HotX
section
variable {pr : Program} {w : World} {A : Around} {E : Value → Shared → Prop} {s : Shared} {y it l t : Addr} {k : Nat} {xs : Array Value}
/-- the stop that an iterator raises -/
theorem stopHot {Q : Fin → Shared → Prop} (hot : HotAt A y s.heap) (h : ∀ h' e, (∀ b o, s.heap.get? b = some o → h'.get? b = some o) → (∃ o, h'.get? e = some o ∧ o.cls = .type "StopIteration") → E (.ref e) { s with heap := h' }) :
    wpAny (model pr w) A Builtin.SmallTypes.stopIteration Q E s := by
  obtain ⟨hh, o1, v1, e1, d1, c1⟩ := hot
  show wpAny _ _ (newExc (.type "StopIteration") [] >>= _) _ _ _
  refine wpAny_bind ?_
  simp only [newExc, newTuple]
  refine wpAny_bind (wpAny_newObj_type (wpAny_bind (m := firstArgMember _ _) (wpAny_of_eq (a := Value.none) (by first | rfl | (simp only [firstArgMember]; rfl)) (wpAny_newObj_type ?_ (by size_fits)))) (by size_fits))
  have kp : ∀ b o, s.heap.get? b = some o → ((s.heap.push { cls := .type "tuple", data := .seq ([] : List Value).toArray }).get? b = some o) := fun b o e => Heap.get?_push_of_some _ e
  refine raiseNew_hot ⟨hh, o1, v1, Heap.get?_push_of_some _ (kp _ _ e1), d1, c1⟩ (Nat.ne_of_lt (Heap.lt_size (kp _ _ e1))) (Heap.get?_push_size _ rfl) rfl (by first | (simp; done) | (simp; omega)) ?_
  refine h _ _ (fun b o e => ?_) ⟨_, Heap.get?_update_self _ (Heap.get?_push_size _ rfl) rfl, rfl⟩
  rw [Heap.get?_update_other _ _ (Nat.ne_of_gt (Heap.lt_size (kp _ _ e)))]
  exact Heap.get?_push_of_some _ (kp _ _ e)
theorem tupEndHot {Q : Option Value → Shared → Prop} (hot : HotAt A y s.heap) (hi : s.heap.IsTupleIter it t k) (ht : s.heap.IsTuple t xs) (hx : xs[k]? = none) (hy : y ≠ it)
    (hQ : ∀ h', Heap.ExtBut it s.heap h' → Q none { s with heap := h' }) : wpAny (model pr w) A (pyNext (.ref it)) Q E s := by
  obtain ⟨o, ho, hc, hd⟩ := id hi
  obtain ⟨ol, hol, _, nl, hdl⟩ := ht
  unfold pyNext
  refine wpAny_bind (wpAny_attempt (wpAny_callSpecial?_slot (name := Str.ofString "__next__") hi.typeIs F.slot_tuple_iterator_next (wpAny_call_entry F.slot_tuple_iterator_next hi.typeIs F.entry_tuple_iterator_next ?_ (F.args_tuple_iterator_next_1 _))))
  show wpAny _ _ (field (.ref it) 0 >>= _) _ _ _
  refine wpAny_bind (wpAny_field ho hd (x := .ref t) rfl ?_)
  show wpAny _ _ (ite ((Value.ref t == Value.none) = true) _ _) _ _ _
  rw [if_neg (show ¬ (Value.ref t == Value.none) = true from Bool.false_ne_true)]
  show wpAny _ _ (field (.ref it) 1 >>= _) _ _ _
  refine wpAny_bind (wpAny_field ho hd (x := .int k 0) rfl ?_)
  show wpAny _ _ (seqItems? (.ref t) >>= _) _ _ _
  refine wpAny_bind (wpAny_seqItems hol hdl ?_)
  simp only [Int.toNat_natCast, hx]
  obtain ⟨hh, o1, v1, e1, d1, c1⟩ := hot
  refine wpAny_bind (wpAny_rule (wpAny_bind (wpAny_setField ho hd (by simp) (stopHot (A := A.in1) (y := y) ⟨hh, o1, v1, ?_, d1, c1⟩ fun h' e kp he => ?_))))
  · rw [Heap.get?_update_other _ _ (Ne.symm hy)]
    exact e1
  · obtain ⟨oe, he, hce⟩ := he
    refine wpAny_bind (wpAny_isInstance (T := "StopIteration") (b := true) ⟨oe, he, hce⟩ isSubtype_stop (wpAny_pure (hQ _ fun b o hb q => kp b o ?_)))
    rw [Heap.get?_update_other _ _ (Ne.symm hb)]
    exact q
theorem lstEndHot {Q : Value → Shared → Prop} (hot : HotAt A y s.heap) (hi : s.heap.IsListIter it l k) (hl : s.heap.IsList l xs) (hx : xs[k]? = none) (hy : y ≠ it)
    (hE : ∀ h' e, Heap.ExtBut it s.heap h' → (∃ o, h'.get? e = some o ∧ o.cls = .type "StopIteration") → E (.ref e) { s with heap := h' }) :
    wpAny (model pr w) A (Builtin.SmallTypes.nextOf (.ref it)) Q E s := by
  obtain ⟨o, ho, hc, hd⟩ := id hi
  obtain ⟨ol, hol, _, nl, hdl⟩ := hl
  unfold Builtin.SmallTypes.nextOf
  refine wpAny_bind (wpAny_callSpecial?_slot (name := Str.ofString "__next__") hi.typeIs slot_listiter_next (wpAny_call_entry slot_listiter_next hi.typeIs entry_listiter_next ?_ (args_listiter_next _)))
  show wpAny _ _ (field (.ref it) 0 >>= _) _ _ _
  refine wpAny_bind (wpAny_field ho hd (x := .ref l) rfl ?_)
  show wpAny _ _ (ite ((Value.ref l == Value.none) = true) _ _) _ _ _
  rw [if_neg (show ¬ (Value.ref l == Value.none) = true from Bool.false_ne_true)]
  show wpAny _ _ (field (.ref it) 1 >>= _) _ _ _
  refine wpAny_bind (wpAny_field ho hd (x := .int k 0) rfl ?_)
  show wpAny _ _ (seqItems? (.ref l) >>= _) _ _ _
  refine wpAny_bind (wpAny_seqItems hol hdl ?_)
  simp only [Int.toNat_natCast, hx]
  obtain ⟨hh, o1, v1, e1, d1, c1⟩ := hot
  refine wpAny_bind (wpAny_rule (wpAny_bind (wpAny_setField ho hd (by simp) (stopHot (A := A.in1) (y := y) ⟨hh, o1, v1, ?_, d1, c1⟩ fun h' e kp he => hE _ _ (fun b o hb q => kp b o ?_) he))))
  · rw [Heap.get?_update_other _ _ (Ne.symm hy)]
    exact e1
  · rw [Heap.get?_update_other _ _ (Ne.symm hb)]
    exact q
theorem zipEndHot {z TI TO i1 i2 l1 l2 : Addr} {k1 k2 : Nat} {ys zs : Array Value} {a b : Value} {Q : Fin → Shared → Prop} (hot : HotAt A y s.heap) (hyz : y ≠ z) (hyT : y ≠ TO) (hy1 : y ≠ i1) (hy2 : y ≠ i2) (D : ZipApart z TI TO i1 i2 l1 l2) (hz : IsZip s.heap z TI TO .none) (hTI : IsPair s.heap TI (.ref i1) (.ref i2)) (hTO : IsPair s.heap TO a b)
    (h1 : s.heap.IsListIter i1 l1 k1) (h2 : s.heap.IsListIter i2 l2 k2) (q1 : s.heap.IsList l1 ys) (q2 : s.heap.IsList l2 zs) (hend : ys[k1]? = none ∨ zs[k2]? = none)
    (hE : ∀ h' e, (∀ c o, c ≠ z → c ≠ TO → c ≠ i1 → c ≠ i2 → s.heap.get? c = some o → h'.get? c = some o) → (∃ o, h'.get? e = some o ∧ o.cls = .type "StopIteration") → E (.ref e) { s with heap := h' }) :
    wpAny (model pr w) A (Builtin.«zip.__next__» ⟨[.ref z], []⟩) Q E s := by
  obtain ⟨hh, o1, v1, e1, d1, c1⟩ := hot
  show wpAny _ _ (field (.ref z) 2 >>= _) _ _ s
  refine wpAny_bind (wpAny_field hz rfl (x := .bool false) rfl ?_)
  show wpAny _ _ (field (.ref z) 3 >>= _) _ _ s
  refine wpAny_bind (wpAny_field hz rfl (x := .ref TI) rfl (wpAny_bind (wpAny_seqItems hTI rfl ?_)))
  show wpAny _ _ (Builtin.SmallTypes.ownedTupleIsFree (.ref z) >>= _) _ _ s
  refine wpAny_bind ?_
  unfold Builtin.SmallTypes.ownedTupleIsFree
  refine wpAny_bind (wpAny_field hz rfl (x := .none) rfl (wpAny_pure ?_))
  simp only [if_true]
  refine wpAny_bind (wpAny_rule (wpAny_bind (wpAny_field hz rfl (x := .ref TO) rfl (wpAny_bind (wpAny_setField_rec hz (by simp) fun g1 hz1 s1 => ?_)))))
  replace hz1 : IsZip g1 z TI TO .ellipsis := hz1
  have x1 := s1.extBut
  refine wpAny_bind ?_
  simp only [List.zipIdx_cons, List.zipIdx_nil, List.forIn_cons, List.forIn_nil]
  refine wpAny_bind (wpAny_bind (wpAny_onRaise ?_))
  show wpAny _ _ (Builtin.SmallTypes.nextOf (.ref i1) >>= _) _ _ _
  by_cases c : ys[k1]? = none
  · refine wpAny_bind (lstEndHot (y := y) ⟨hh, o1, v1, x1 _ _ hyz e1, d1, c1⟩ (h1.extBut x1 D.i1z) (q1.extBut x1 D.l1z) c hy1 fun g2 e s2 he => ?_)
    obtain ⟨oe, hoe, hce⟩ := he
    have hz2 : IsZip g2 z TI TO .ellipsis := s2 _ _ D.i1z.symm hz1
    have ne : e ≠ z := fun x => by
      subst x
      rw [hz2] at hoe
      cases hoe
      simp at hce
    exact wpAny_setField_rec hz2 (by simp) fun g3 _ s3 => hE g3 e (fun c o c1 _ c3 _ x => s3.extBut _ _ c1 (s2 _ _ c3 (x1 _ _ c1 x))) ⟨oe, s3.extBut _ _ ne hoe, hce⟩
  · obtain ⟨x, hx⟩ : ∃ x, ys[k1]? = some x := Option.ne_none_iff_exists'.mp c
    have hy : zs[k2]? = none := hend.elim (fun h => absurd h c) fun h => h
    refine wpAny_bind (wpAny_nextOf_list_item (h1.extBut x1 D.i1z) (q1.extBut x1 D.l1z) hx fun g2 _ s2 => wpAny_pure ?_)
    have x2 := s2.extBut
    have t2 : IsPair g2 TO a b := x2 _ _ D.TOi1 (x1 _ _ D.TOz hTO)
    refine wpAny_bind (wpAny_seqItems t2 rfl (wpAny_bind (wpAny_updateSeq_pair t2 fun g3 t3 s3 => wpAny_bind (wpAny_letGo (wpAny_pure ?_)))))
    have x3 := s3.extBut
    refine wpAny_bind (wpAny_bind (wpAny_onRaise ?_))
    show wpAny _ _ (Builtin.SmallTypes.nextOf (.ref i2) >>= _) _ _ _
    refine wpAny_bind (lstEndHot (y := y) ⟨hh, o1, v1, x3 _ _ hyT (x2 _ _ hy1 (x1 _ _ hyz e1)), d1, c1⟩ (((h2.extBut x1 D.i2z).extBut x2 D.i12.symm).extBut x3 D.TOi2.symm) (((q2.extBut x1 D.l2z).extBut x2 D.l2i1).extBut x3 D.l2TO) hy hy2 fun g4 e s4 he => ?_)
    obtain ⟨oe, hoe, hce⟩ := he
    have hz4 : IsZip g4 z TI TO .ellipsis := s4 _ _ D.i2z.symm (x3 _ _ D.TOz.symm (x2 _ _ D.i1z.symm hz1))
    have ne : e ≠ z := fun x => by
      subst x
      rw [hz4] at hoe
      cases hoe
      simp at hce
    exact wpAny_setField_rec hz4 (by simp) fun g5 _ s5 => hE g5 e (fun c o c1 c2 c3 c4 x => s5.extBut _ _ c1 (s4 _ _ c4 (x3 _ _ c2 (x2 _ _ c3 (x1 _ _ c1 x))))) ⟨oe, s5.extBut _ _ ne hoe, hce⟩
theorem nextZipHot {z TI TO i1 i2 l1 l2 : Addr} {k1 k2 : Nat} {ys zs : Array Value} {a b : Value} {Q : Option Value → Shared → Prop} (hot : HotAt A y s.heap) (hyz : y ≠ z) (hyT : y ≠ TO) (hy1 : y ≠ i1) (hy2 : y ≠ i2) (D : ZipApart z TI TO i1 i2 l1 l2) (hz : IsZip s.heap z TI TO .none) (hTI : IsPair s.heap TI (.ref i1) (.ref i2)) (hTO : IsPair s.heap TO a b)
    (h1 : s.heap.IsListIter i1 l1 k1) (h2 : s.heap.IsListIter i2 l2 k2) (q1 : s.heap.IsList l1 ys) (q2 : s.heap.IsList l2 zs) (hend : ys[k1]? = none ∨ zs[k2]? = none)
    (hQ : ∀ h', (∀ c o, c ≠ z → c ≠ TO → c ≠ i1 → c ≠ i2 → s.heap.get? c = some o → h'.get? c = some o) → Q none { s with heap := h' }) : wpAny (model pr w) A (pyNext (.ref z)) Q E s := by
  have hT : s.TypeIs (.ref z) "zip" := ⟨_, hz, rfl⟩
  unfold pyNext
  refine wpAny_bind (wpAny_attempt (wpAny_callSpecial?_slot (name := Str.ofString "__next__") hT F.slot_zip_next (wpAny_call_entry F.slot_zip_next hT F.entry_zip_next (zipEndHot (A := A.in1) (y := y) hot hyz hyT hy1 hy2 D hz hTI hTO h1 h2 q1 q2 hend fun h' e kp he => ?_) (F.args_zip_next_1 _))))
  obtain ⟨o, ho, hc⟩ := he
  exact wpAny_bind (wpAny_isInstance (T := "StopIteration") (b := true) ⟨o, ho, hc⟩ isSubtype_stop (wpAny_pure (hQ _ kp)))
/-- a tuple is taken apart -/
theorem unpackHot {Q : List Value → Shared → Prop} (hot : HotAt A y s.heap) (ht : s.heap.IsTuple t xs) (hQ : ∀ h', Heap.ExtBut s.heap.objs.size s.heap h' → Q xs.toList { s with heap := h' }) : wpAny (model pr w) A (unpackItems (.ref t) xs.size none) Q E s := by
  obtain ⟨hh, o1, v1, e1, d1, c1⟩ := hot
  have hlt : t ≠ s.heap.objs.size := by
    obtain ⟨o, ho, _⟩ := id ht
    exact Nat.ne_of_lt (Heap.lt_size ho)
  have hyl : y ≠ s.heap.objs.size := Nat.ne_of_lt (Heap.lt_size e1)
  unfold unpackItems notIterableAtAll
  refine wpAny_bind (wpAny_bind (wpAny_specialOf ht.typeIs F.slot_tuple_iter.lookup (wpAny_pure ?_)))
  simp only [Bool.false_eq_true, if_false]
  refine wpAny_bind (wpAny_holding (wpAny_pyIter_tuple ht (wpAny_bind (wpAny_holding (wpAny_draw_tuple hlt xs.size 0 _ _ ⟨_, Heap.get?_push_size _ rfl, rfl, rfl⟩ (ht.push _) (by omega) fun g1 i1 s1 => ?_)))))
  rw [List.drop_zero, List.take_of_length_le (by simp), if_neg (by simp)]
  have t1 : g1.IsTuple t xs := (ht.push _).extBut s1.extBut hlt
  refine wpAny_bind (wpAny_holding (tupEndHot (y := y) ⟨hh, o1, v1, s1.extBut _ _ hyl (Heap.get?_push_of_some _ e1), d1, c1⟩ i1 t1 (by simp) hyl fun g2 s2 => ?_))
  simp only [Option.isSome_none, Bool.false_eq_true, if_false]
  exact wpAny_pure (hQ g2 fun b o hb e => s2 b o hb (s1.extBut b o hb (Heap.get?_push_of_some _ e)))
theorem asgTupHot {env : Env} {es : List Expr} {x1 : Nat} {pos : Pos} {Q : Unit → Shared → Prop} (hot : HotAt A y s.heap) (ht : s.heap.IsTuple t xs) (hn : (assignEach es env).length = xs.size) (hst : (assignEach es env).findIdx? (·.1) = none)
    (h : ∀ h', Heap.ExtBut s.heap.objs.size s.heap h' → wpAny (model pr w) A (assignInOrder ((assignEach es env).map (·.2)) xs.toList) Q E { s with heap := h' }) : wpAny (model pr w) A (assign (.Tuple es x1 pos) env (.ref t)) Q E s := by
  rw [arm_assign_Tuple]
  refine wpAny_bind (wpAny_standAt ?_)
  unfold unpack
  rw [hn, hst]
  exact wpAny_bind (wpAny_holding (unpackHot hot ht h))
end
end Pw
set_option Elab.async false
set_option linter.all false
set_option maxRecDepth 100000
set_option maxHeartbeats 4000000
/-! A comprehension over zip of two lists while an exception is handled. -/
namespace Pw
open PySem PySem.Spec PyProof.Rows L2 HotX
def iZipL (K : PySem.W.Frag) (ta : TA) : TI := fun σ H R => ta σ H fun vs H1 => ∃ a b xs ys, vs = [.ref a, .ref b] ∧ SqL K H1 a xs ∧ SqL K H1 b ys ∧ R (Itz K a b) H1
section
variable {X : Cx} {pins : List (Addr × Obj)} {σ : L2.St} {H2 : Hp} {s2 : Shared}
/-- from the zip object on -/
theorem zloop {elt e : Expr} {es ifs : List Expr} {scope : Scope} {own : List (Str × Nat)} {pos2 tpos : Pos} {kk : Nat} {g : TGs} {tt : TT} {te : TE} {Q : VK} {use : Option (Value → Sem Unit)} {Qf : Value → Shared → Prop} {a b z TI TO i1 i2 : Addr} {p0 : Addr × Obj} (post : ∀ L C s' m H', Inv X pins σ H' s' → Q (.ref L) H' → s'.heap.Ns C m → FpOk X pins H' C → compPost (model X.prog X.w) X.A X.xe use Qf (.ref L) C (.ok .next) s') (I2 : Inv X pins σ H2 s2) (hA : L2H.Hot1 X.A p0) (hp0 : p0 ∈ X.pn) (hN : X.N.Nodup) (ok : BlkOk X.N X.env.scope scope own)
    (D : ZipApart z TI TO i1 i2 a b) (hz : IsZip s2.heap z TI TO .none) (hTI : IsPair s2.heap TI (.ref i1) (.ref i2)) (hTO : ∃ x y, IsPair s2.heap TO x y) (h1 : s2.heap.IsListIter i1 a 0) (h2 : s2.heap.IsListIter i2 b 0) (fr : ∀ c ∈ [z, TI, TO, i1, i2], FpOk X pins H2 c ∧ c < s2.heap.objs.size)
    (hg : ∀ (s : Shared) (H : Hp) (C : Addr) (cl : List (Str × Addr)) (fp : List Addr), PGs (X.blk s H scope (compEnvC scope cl C X.env) fp) es g) (hn : ∀ (C : Addr) (cl : List (Str × Addr)), (assignEach es (compEnvC scope cl C X.env)).length = 2) (hst : ∀ (C : Addr) (cl : List (Str × Addr)), (assignEach es (compEnvC scope cl C X.env)).findIdx? (·.1) = none)
    (ht : ∀ (s : Shared) (H : Hp) (C : Addr) (cl : List (Str × Addr)) (fp : List Addr), PTs (X.blk s H scope (compEnvC scope cl C X.env) fp) ifs tt) (he : ∀ (s : Shared) (H : Hp) (C : Addr) (cl : List (Str × Addr)) (fp : List Addr), PE (X.blk s H scope (compEnvC scope cl C X.env) fp) elt te)
    (q : ∀ L, H2 L = none → ∃ W : Nat → Nat → Hp → Prop, (∃ m, W 0 m (upd H2 L (.lst []))) ∧ ∀ i m H, W i m H → ((Itz X.K a b).stop i H ∧ Q (.ref L) H) ∨ ((Itz X.K a b).go i H ∧ ∃ Nx : Hp → Prop, (∀ H', Nx H' → ∃ m', m' < m ∧ W (i + 1) m' H') ∧
      ∀ x H', (Itz X.K a b).yld i H x H' → gTup X.K 2 g x (wipe σ (own.map (·.2))) H' fun σ2 H2 => wipe σ2 (own.map (·.2)) = wipe σ (own.map (·.2)) ∧ tt σ2 H2 fun b H3 => if b = true then te σ2 H3 fun y H4 => ∃ acc, H4 L = some (.lst acc) ∧ acc.length < sizeLine ∧ Nx (upd H4 L (.lst (acc ++ [y]))) else Nx H3)) :
    wpAny (model X.prog X.w) X.A (newList []) (fun acc s3 => wpAny (model X.prog X.w) X.A (newFunctionEnv scope X.env.globals (cloFrom X.env.cells scope.names []) [] X.env.qual none .none (some X.env)) (fun ce s4 =>
      codeAny (model X.prog X.w) X.A (.compStart (.ListComp elt [⟨.Tuple es kk tpos, e, ifs, 0⟩] scope pos2) 0 (.ref z) acc { ce with scope := relabel scope X.env }) (compPost (model X.prog X.w) X.A X.xe use Qf acc ce.locals) s4) X.xe s3) X.xe s2 := by
  obtain ⟨hA, pv, hpd, hpc⟩ := hA
  generalize hfp : [z, TI, TO, i1, i2] = fp at fr
  refine wpAny_newObj_type (newEnv_comp ?_) (by show 0 ≤ sizeLine; decide)
  generalize hD : s2.heap.objs.size = L
  have hDn : H2 L = none := I2.hok.fresh (Nat.le_of_eq hD)
  obtain ⟨W, ⟨m0, w0⟩, turn⟩ := q L hDn
  generalize hs3 : ({ s2 with heap := s2.heap.push { cls := .type "list", data := .seq ([] : List Value).toArray } } : Shared) = s3
  have up3 : ∀ b o, s2.heap.get? b = some o → s3.heap.get? b = some o := fun b o e => by
    rw [← hs3]
    exact Heap.get?_push_of_some _ e
  have I3 : Inv X pins σ (upd H2 L (.lst [])) s3 := by
    rw [← hs3]
    refine I2.laid (t' := s2.toks) (fun b o => Heap.get?_push_of_some _) (Nat.le_of_eq hD) ⟨Nat.zero_le _, [], 0, .nil, ?_⟩
    rw [← hD]
    exact Heap.get?_push_size _ rfl
  have z3 : s3.heap.objs.size = s2.heap.objs.size + 1 := by
    rw [← hs3]
    exact Heap.size_push ..
  have f3 : ∀ b ∈ fp, FpOk X pins (upd H2 L (.lst [])) b ∧ b < s3.heap.objs.size := fun b hb => by
    obtain ⟨q1, q2⟩ := fr b hb
    refine ⟨⟨?_, q1.2⟩, Nat.lt_of_lt_of_le q2 (by rw [z3]; exact Nat.le_succ _)⟩
    rw [upd_ne (by rw [← hD]; exact Nat.ne_of_lt q2)]
    exact q1.1
  have P3 := I3.pin p0 (List.mem_append_left _ hp0)
  have pst : p0.1 ∉ frs X.stack := fun hm => (List.mem_cons.mp (I3.stkSub p0.1 hm)).elim P3.2.2.1 P3.2.2.2.1
  have pfp : p0.1 ∉ fp := fun hm => (f3 _ hm).1.2.2.2.2.2 p0 (List.mem_append_left _ hp0) rfl
  have I4 := block_start I3 ok hN f3
  generalize hcl : cellsFrom (s3.heap.objs.size + 1) scope.names (cloFrom X.env.cells scope.names []) = cl at I4 ⊢
  have pg := hg s3 (upd H2 L (.lst [])) s3.heap.objs.size cl fp
  have pt := ht s3 (upd H2 L (.lst [])) s3.heap.objs.size cl fp
  have pe := he s3 (upd H2 L (.lst [])) s3.heap.objs.size cl fp
  have hn2 := hn s3.heap.objs.size cl
  have hst2 := hst s3.heap.objs.size cl
  show codeAny _ _ (.compStart (.ListComp elt [⟨.Tuple es kk tpos, e, ifs, 0⟩] scope pos2) 0 (.ref z) (.ref L) (compEnvC scope cl s3.heap.objs.size X.env)) (compPost (model X.prog X.w) X.A X.xe use Qf (.ref L) s3.heap.objs.size) { s3 with heap := pushCells (s3.heap.push { cls := .type "dict", data := .dict #[] }) scope.names }
  have nfp : ∀ b ∈ fp, (upd H2 L (.lst [])) b = none := fun b hb => (f3 b hb).1.1
  generalize hce : compEnvC scope cl s3.heap.objs.size X.env = ce at I4 pg pt pe hn2 hst2 ⊢
  have cL : ce.locals = s3.heap.objs.size := by
    subst hce
    rfl
  generalize hH3 : upd H2 L (.lst []) = H3 at I3 I4 pg pt pe w0 nfp f3 P3
  generalize hs4 : ({ s3 with heap := pushCells (s3.heap.push { cls := .type "dict", data := .dict #[] }) scope.names } : Shared) = s4 at I4 ⊢
  have up4 : ∀ b o, s2.heap.get? b = some o → s4.heap.get? b = some o := fun b o e => by
    rw [← hs4]
    exact pushCells_keeps _ _ _ _ (Heap.get?_push_of_some _ (up3 b o e))
  let tn : Nat → Heap → Prop := fun i h => IsZip h z TI TO .none ∧ IsPair h TI (.ref i1) (.ref i2) ∧ (∃ x y, IsPair h TO x y) ∧ h.IsListIter i1 a i ∧ h.IsListIter i2 b i
  have st4 : tn 0 s4.heap := by
    obtain ⟨x, y, hTO⟩ := hTO
    exact ⟨up4 _ _ hz, up4 _ _ hTI, ⟨x, y, up4 _ _ hTO⟩, h1.at fun o e => up4 _ o e, h2.at fun o e => up4 _ o e⟩
  have m5 : z ∈ fp ∧ TI ∈ fp ∧ TO ∈ fp ∧ i1 ∈ fp ∧ i2 ∈ fp := by
    rw [← hfp]
    simp
  have hotB : ∀ {pn σ' H' s'}, Inv (X.blk s3 H3 scope ce fp) pn σ' H' s' → HotAt X.A p0.1 s'.heap := fun {pn σ' H' s'} I' => ⟨hA, p0.2, pv, I'.base.keep p0.1 p0.2 P3.1 P3.2.1 pst pfp, hpd, hpc⟩
  have ne5 : ∀ c ∈ fp, p0.1 ≠ c := fun c hc e => pfp (e ▸ hc)
  have fpB : ∀ {σ' H' s'}, Inv (X.blk s3 H3 scope ce fp) [] σ' H' s' → (∀ b ∈ fp, H' b = none) → ∀ b ∈ fp, FpOk (X.blk s3 H3 scope ce fp) [] H' b := fun {σ' H' s'} I' hn b hb =>
    ⟨hn b hb, (I'.ok.exf b hb).1, I'.ok.exfs b hb, .inl hb, fun x c e => (I'.ok.exf b hb).2 x c e, fun p hp => absurd (show p ∈ ([] : List (Addr × Obj)) ++ [] from hp) (by simp)⟩
  have obj5 : ∀ i h, tn i h → ∀ c ∈ fp, ∃ o, h.get? c = some o ∧ ∀ v, o.data ≠ .cell v := fun i h st c hc => by
    obtain ⟨hz, hTI, ⟨x, y, hTO⟩, ⟨o1, e1, _, d1⟩, ⟨o2, e2, _, d2⟩⟩ := st
    rw [← hfp] at hc
    have hc : c = z ∨ c = TI ∨ c = TO ∨ c = i1 ∨ c = i2 := by simpa using hc
    rcases hc with q | q | q | q | q <;> rw [q]
    · exact ⟨_, hz, fun v q => by cases q⟩
    · exact ⟨_, hTI, fun v q => by cases q⟩
    · exact ⟨_, hTO, fun v q => by cases q⟩
    · exact ⟨o1, e1, fun v q => by rw [d1] at q; cases q⟩
    · exact ⟨o2, e2, fun v q => by rw [d2] at q; cases q⟩
  have keep5 : ∀ i h h', tn i h → (∀ b ∈ fp, ∀ o, h.get? b = some o → h'.get? b = some o) → tn i h' := fun i h h' st k => by
    obtain ⟨hz, hTI, ⟨x, y, hTO⟩, h1, h2⟩ := st
    exact ⟨k z m5.1 _ hz, k TI m5.2.1 _ hTI, ⟨x, y, k TO m5.2.2.1 _ hTO⟩, h1.at fun o q => k i1 m5.2.2.2.1 o q, h2.at fun o q => k i2 m5.2.2.2.2 o q⟩
  have loop : codeAny (model X.prog X.w) X.A (.compLoop (.ListComp elt [⟨.Tuple es kk tpos, e, ifs, 0⟩] scope pos2) 0 (.ref z) (.ref L) ce) (compPost (model X.prog X.w) X.A X.xe use Qf (.ref L) s3.heap.objs.size) s4 := by
    refine compLoop_any (fun n s' => ∃ i H', Inv (X.blk s3 H3 scope ce fp) [] (wipe σ (own.map (·.2))) H' s' ∧ tn i s'.heap ∧ (∀ b ∈ fp, H' b = none) ∧ W i n H') ?_ m0 ⟨0, H3, I4, st4, nfp, w0⟩
    rintro n s5 ⟨i, H5, I5, ⟨gz, gI, ⟨x0, y0, gO⟩, g1, g2⟩, n5, w5⟩
    have F5 := fpB I5 n5
    rcases turn i n H5 w5 with ⟨⟨xs, ys, qx, qy, hend⟩, qq⟩ | ⟨⟨xs, ys, x, y, qx, qy, hx, hy⟩, Nx, hNx, step⟩
    · obtain ⟨l1, v1, p1, _⟩ := I5.list qx
      obtain ⟨l2, v2, p2, _⟩ := I5.list qy
      have hend : l1.toArray[i]? = none ∨ l2.toArray[i]? = none := by
        have e1 := v1.length
        have e2 := v2.length
        rcases hend with q | q
        · exact .inl (by simp; omega)
        · exact .inr (by simp; omega)
      refine nextZipHot (y := p0.1) (hotB I5) (ne5 _ m5.1) (ne5 _ m5.2.2.1) (ne5 _ m5.2.2.2.1) (ne5 _ m5.2.2.2.2) D gz gI gO g1 g2 p1.isList p2.isList hend fun h' kp => ?_
      have I6 : Inv (X.blk s3 H3 scope ce fp) [] (wipe σ (own.map (·.2))) H5 { s5 with heap := h' } := I5.turnedL (t' := s5.toks) (ch := fp) (fun c o hb q => kp c o (fun e => hb (e ▸ m5.1)) (fun e => hb (e ▸ m5.2.2.1)) (fun e => hb (e ▸ m5.2.2.2.1)) (fun e => hb (e ▸ m5.2.2.2.2)) q) F5
      have I7 : Inv X pins σ H5 { s5 with heap := h' } := I3.call' (ch := fp) I6.os I6.base I6.hok I6.bare fun b hb => ⟨(f3 b hb).1.2.2.2.1, (f3 b hb).1.2.1, (f3 b hb).1.2.2.2.2.1, (f3 b hb).1.2.2.2.2.2⟩
      have nC : H5 ce.locals = none := I6.free
      obtain ⟨m, hn', _⟩ := I6.loc
      have hn' : h'.Ns ce.locals m := hn'
      rw [cL] at hn' nC
      exact post L s3.heap.objs.size _ m H5 I7 qq hn' (I3.fpOk (Nat.le_refl _) nC)
    · obtain ⟨l1, v1, p1, _⟩ := I5.list qx
      obtain ⟨l2, v2, p2, _⟩ := I5.list qy
      obtain ⟨u, hu, ru⟩ := v1.get hx
      obtain ⟨u2, hu2, ru2⟩ := v2.get hy
      have zl : z < s5.heap.objs.size := Heap.lt_size gz
      refine wpAny_pyNext_zip_item D gz gI gO g1 g2 p1.isList p2.isList (x := u) (y := u2) (by simpa using hu) (by simpa using hu2) fun h' gz' gO' g1' g2' hT hsz hk => ?_
      refine wpAny_letOwnedTupleGo_zip (s := { s5 with heap := h' }) gz' fun h'' gz2 sb => ?_
      have hT2 : h''.get? s5.heap.objs.size = some { cls := .type "tuple", data := .seq #[u, u2] } := (sb.2 _ (Nat.ne_of_gt zl)).trans hT
      have I6 : Inv (X.blk s3 H3 scope ce fp) [] (wipe σ (own.map (·.2))) (upd H5 s5.heap.objs.size (.tup [x, y])) { s5 with heap := h'' } :=
        I5.turnedNew (t' := s5.toks) (ch := fp) (fun c o hb q => (sb.2 c fun e => hb (e ▸ m5.1)).trans (hk c o (fun e => hb (e ▸ m5.1)) (fun e => hb (e ▸ m5.2.2.1)) (fun e => hb (e ▸ m5.2.2.2.1)) (fun e => hb (e ▸ m5.2.2.2.2)) q)) F5 (Nat.le_refl _)
          ⟨by show 2 ≤ sizeLine; decide, [u, u2], .cons ru (.cons ru2 .nil), ⟨_, hT2, rfl, _, rfl⟩⟩
      have st6 : tn (i + 1) h'' := ⟨gz2, (sb.2 _ D.TIz).trans (hk _ _ D.TIz D.TITO D.TIi1 D.TIi2 gI), ⟨u, u2, (sb.2 _ D.TOz).trans gO'⟩, g1'.at fun o q => (sb.2 _ D.i1z).trans q, g2'.at fun o q => (sb.2 _ D.i2z).trans q⟩
      have n6 : ∀ b ∈ fp, (upd H5 s5.heap.objs.size (.tup [x, y])) b = none := fun b hb => by
        obtain ⟨o, e, _⟩ := obj5 i s5.heap ⟨gz, gI, ⟨x0, y0, gO⟩, g1, g2⟩ b hb
        rw [upd_ne (Nat.ne_of_lt (Heap.lt_size e))]
        exact n5 b hb
      have I7 := I6.pinned (fpB I6 n6) (obj5 _ _ st6)
      obtain ⟨a', xs', ea, qs, hl, hw⟩ := step (.ref s5.heap.objs.size) _ ⟨_, x, y, rfl, I5.hok.fresh (Nat.le_refl _), rfl, fun l hl => by rw [I5.list_inj hl qx]; exact hx, fun l hl => by rw [I5.list_inj hl qy]; exact hy⟩
      cases ea
      obtain ⟨its, rv, tt', _⟩ := I6.tuple qs
      refine asgTupHot (y := p0.1) (hotB I6) tt' (by simp [hn2, ← hl, rv.length]) hst2 fun g hx' => ?_
      have I8 := I7.kept (h' := g) (t' := s5.toks) fun b o e => hx' b o (Nat.ne_of_lt (Heap.lt_size e)) e
      refine thnF (pg.run _ _ _ _ xs' _ _ I8 (by simpa using rv) hw) fun _ s8 ⟨σ8, H8, I8, hw8, q8⟩ => ?_
      refine thnF (pt.run _ s8 σ8 H8 _ I8 q8) fun b s9 ⟨H9, I9, q9⟩ => ?_
      have fin : ∀ {s' : Shared} {H' : Hp}, Inv (X.blk s3 H3 scope ce fp) ([] ++ pinsAt fp h'') σ8 H' s' → Nx H' → ∃ m, m < n ∧ ∃ i H', Inv (X.blk s3 H3 scope ce fp) [] (wipe σ (own.map (·.2))) H' s' ∧ tn i s'.heap ∧ (∀ b ∈ fp, H' b = none) ∧ W i m H' := fun {s' H'} I' nx => by
        obtain ⟨m', hm, w'⟩ := hNx H' nx
        have pin' : ∀ b ∈ fp, ∀ o, h''.get? b = some o → s'.heap.get? b = some o ∧ H' b = none := fun b hb o e =>
          have w := I'.pin (b, o) (List.mem_append_right _ (List.mem_append_right _ (mem_pinsAt hb e)))
          ⟨w.1, w.2.1⟩
        have hl' : (wipe σ (own.map (·.2))).length = σ8.length := by rw [← hw8, wipe_length]
        refine ⟨m', hm, i + 1, H', (I'.unpinned (pins := [])).weak hl' (fun j v e => ?_), keep5 _ _ _ st6 fun b hb o e => (pin' b hb o e).1, fun b hb => ?_, w'⟩
        · rw [← hw8] at e
          exact (wipe_some e).1
        · obtain ⟨o, e, _⟩ := obj5 _ _ st6 b hb
          exact (pin' b hb o e).2
      cases b with
      | false =>
        simp only [Bool.false_eq_true, if_false] at q9 ⊢
        exact fin I9 q9
      | true =>
        simp only [if_true] at q9 ⊢
        refine thnF (pe.run _ s9 σ8 H9 _ I9 q9) fun v s10 ⟨yv, H10, I10, r10, acc, hD10, hz10, nx⟩ => ?_
        exact app_ok (X := X.blk s3 H3 scope ce fp) I10 hD10 hz10 r10 fun s11 I11 => fin I11 nx
  exact codeAny_compStart_list loop (wpAny_pyIter_zip st4.1 loop)
/-- both forms -/
theorem zcore {elt e e2 : Expr} {es ifs : List Expr} {scope : Scope} {own : List (Str × Nat)} {p pos pos2 pos3 tpos : Pos} {kk : Nat} {ta : TA} {g : TGs} {tt : TT} {te : TE} {H : Hp} {s : Shared} {Q : VK} {use : Option (Value → Sem Unit)} {Qf : Value → Shared → Prop} (post : ∀ L C s' m H', Inv X pins σ H' s' → Q (.ref L) H' → s'.heap.Ns C m → FpOk X pins H' C → compPost (model X.prog X.w) X.A X.xe use Qf (.ref L) C (.ok .next) s') (I : Inv X pins σ H s)
    (hc : L2H.HotC X) (hN : X.N.Nodup) (hgz : Gl X "zip") (hmz : X.mg "zip" = none) (ha : PA X [e, e2] ta) (ok : BlkOk X.N X.env.scope scope own)
    (hg : ∀ (s : Shared) (H : Hp) (C : Addr) (cl : List (Str × Addr)) (fp : List Addr), PGs (X.blk s H scope (compEnvC scope cl C X.env) fp) es g) (hn : ∀ (C : Addr) (cl : List (Str × Addr)), (assignEach es (compEnvC scope cl C X.env)).length = 2) (hst : ∀ (C : Addr) (cl : List (Str × Addr)), (assignEach es (compEnvC scope cl C X.env)).findIdx? (·.1) = none)
    (ht : ∀ (s : Shared) (H : Hp) (C : Addr) (cl : List (Str × Addr)) (fp : List Addr), PTs (X.blk s H scope (compEnvC scope cl C X.env) fp) ifs tt) (he : ∀ (s : Shared) (H : Hp) (C : Addr) (cl : List (Str × Addr)) (fp : List Addr), PE (X.blk s H scope (compEnvC scope cl C X.env) fp) elt te)
    (hs : starEach [e, e2] X.env = (false, eval e X.env) :: starEach [e2] X.env) (hpl : (backTo pos (starEach [e2] X.env)).any (·.1) = false) (hf : ∀ x, foldedSetIterable (.Call (.Name "zip" p) [e, e2] [] pos) X.env x = pure x) (h : tLc (iZipL X.K ta) (gTup X.K 2 g) tt te (own.map (·.2)) σ H Q) :
    wpAny (model X.prog X.w) X.A (comprehension (.ListComp elt [⟨.Tuple es kk tpos, .Call (.Name "zip" p) [e, e2] [] pos, ifs, 0⟩] scope pos2) scope X.env pos3 (newList []) false (eval (.Call (.Name "zip" p) [e, e2] [] pos) X.env) use) Qf X.xe s := by
  obtain ⟨p0, hA, hp0⟩ := hc
  have hfree : ∀ y ∈ scope.names, y.2 = .free → ∃ c, X.env.cells.lookup y.1 = some c := fun y hy e => (ok.free y hy e).elim (fun k => I.ok.has _ (.inl k)) fun k => I.ok.has _ (.inr k)
  refine wpAny_comprehension_free (use := use) rfl hf (closure_ok hfree) ok.kind (fun y hy e => by rw [ok.uniq y hy, e]) ?_
  refine Call_ (ld_blt I hgz hmz PyProof.Rows.boot_zip (PyProof.Rows.callWith_type1 (thn (ha.run pos pins s σ H _ I h) fun us s1 ⟨vs, H2, I1, r1, a, b, xs, ys, ex, qx, qy, q⟩ => ?_) hs hpl))
  subst ex
  obtain ⟨u1, u2, rfl, ra, rb⟩ : ∃ u1 u2, us = [u1, u2] ∧ RelV (V.ref a) u1 ∧ RelV (V.ref b) u2 := by
    cases r1 with
    | cons r rr => cases rr with
      | cons r' rr => cases rr; exact ⟨_, _, rfl, r, r'⟩
  cases ra
  cases rb
  obtain ⟨l1, v1, p1, _⟩ := I1.list qx
  obtain ⟨l2, v2, p2, _⟩ := I1.list qy
  refine call_zip_2 p1.isList p2.isList fun h' hz hTI hTO h1 h2 hsz hk => wpAny_pyIter_zip hz ?_
  have I2 : Inv X pins σ H2 { s1 with heap := h' } := I1.kept (t' := s1.toks) hk
  refine zloop post I2 hA hp0 hN ok (PySem.W.ktu_apart s1.heap.objs.size a b p1.lt p2.lt) hz hTI ⟨_, _, hTO⟩ h1 h2 (fun c hc => ?_) hg hn hst ht he q
  have hle : s1.heap.objs.size ≤ c ∧ c < s1.heap.objs.size + 5 := by
    simp only [List.mem_cons, List.not_mem_nil, or_false] at hc
    rcases hc with rfl | rfl | rfl | rfl | rfl <;> exact ⟨by simp, by simp⟩
  exact ⟨I1.fpOk hle.1 (I1.hok.fresh hle.1), by rw [show ({ s1 with heap := h' } : Shared).heap.objs.size = s1.heap.objs.size + 5 from hsz]; exact hle.2⟩
end
/-- name = [..] on one line -/
theorem ps_setLcZH {X : Cx} {K : PySem.W.Frag} {i : Nat} {y : Str} {py : Pos} {elt e e2 : Expr} {es ifs : List Expr} {scope : Scope} {own : List (Str × Nat)} {p pos pos2 spos tpos : Pos} {kk : Nat} {ta : TA} {g : TGs} {tt : TT} {te : TE} (hK : X.K = K) (hc : L2H.HotC X) (hN : X.N.Nodup) (hy : X.N[i]? = some y) (hyl : X.env.scope.names.lookup y = some .local)
    (hsw : swapsWith (.ListComp elt [⟨.Tuple es kk tpos, .Call (.Name "zip" p) [e, e2] [] pos, ifs, 0⟩] scope pos2) (some (.Name y py)) spos.line X.env = pure true) (hgz : Gl X "zip") (hmz : X.mg "zip" = none) (ha : PA X [e, e2] ta) (ok : BlkOk X.N X.env.scope scope own)
    (hg : ∀ (s : Shared) (H : Hp) (C : Addr) (cl : List (Str × Addr)) (fp : List Addr), PGs (X.blk s H scope (compEnvC scope cl C X.env) fp) es g) (hn : ∀ (C : Addr) (cl : List (Str × Addr)), (assignEach es (compEnvC scope cl C X.env)).length = 2) (hst : ∀ (C : Addr) (cl : List (Str × Addr)), (assignEach es (compEnvC scope cl C X.env)).findIdx? (·.1) = none)
    (ht : ∀ (s : Shared) (H : Hp) (C : Addr) (cl : List (Str × Addr)) (fp : List Addr), PTs (X.blk s H scope (compEnvC scope cl C X.env) fp) ifs tt) (he : ∀ (s : Shared) (H : Hp) (C : Addr) (cl : List (Str × Addr)) (fp : List Addr), PE (X.blk s H scope (compEnvC scope cl C X.env) fp) elt te)
    (hs : starEach [e, e2] X.env = (false, eval e X.env) :: starEach [e2] X.env := by rfl) (hpl : (backTo pos (starEach [e2] X.env)).any (·.1) = false := by rfl) (hf : ∀ x, foldedSetIterable (.Call (.Name "zip" p) [e, e2] [] pos) X.env x = pure x := by intro _; rfl) :
    PS X (.Assign [.Name y py] (.ListComp elt [⟨.Tuple es kk tpos, .Call (.Name "zip" p) [e, e2] [] pos, ifs, 0⟩] scope pos2) spos) (tAsg (tLc (iZipL K ta) (gTup K 2 g) tt te (own.map (·.2))) (gName i)) := by
  subst hK
  refine ⟨fun pins s σ H D I h => ?_⟩
  rw [exec_Assign_Name_used _ _ _ _ hsw]
  refine wpAny_bind (wpAny_standAt (wpAny_bind ?_))
  show wpAny _ X.A (do let _ ← comprehension (.ListComp elt [⟨.Tuple es kk tpos, .Call (.Name "zip" p) [e, e2] [] pos, ifs, 0⟩] scope pos2) scope X.env (firstIterPos [⟨.Tuple es kk tpos, .Call (.Name "zip" p) [e, e2] [] pos, ifs, 0⟩] pos2) (newList []) false (eval (.Call (.Name "zip" p) [e, e2] [] pos) X.env) (some (assign (.Name y py) X.env))) _ _ s
  have h : tLc (iZipL X.K ta) (gTup X.K 2 g) tt te (own.map (·.2)) σ H (fun x H1 => gName i x σ H1 D.nx) := h
  refine wpAny_bind (thn (zcore (Qf := fun _ s' => SP X pins D .next s') (fun L C s' m H' I' q hn f => ?_) I hc hN hgz hmz ha ok hg hn hst ht he hs hpl hf h) fun _ s' hq => wpAny_pure (wpAny_pure hq))
  show wpAny _ _ (assign (.Name y py) X.env (.ref L)) _ _ _
  refine wpAny_assign_Name (store_ok2 (v := V.ref L) I' hN hy (.inl hyl) rfl (fun s2 I2 ⟨a, sb, ha⟩ => ?_) (.inr hyl))
  have haC : C ≠ a := by
    rcases ha with z | z
    · rw [z]
      exact f.2.1
    · exact fun e => f.2.2.2.2.1 y a z e.symm
  exact ⟨m, hn.sameBut sb haC, fun h3 sb3 => ⟨_, H', I2.turned (t' := s2.toks) (fun b o hb e => (sb3.2 b hb).trans e) f.1 f.2.1 f.2.2.2.1 f.2.2.2.2.1 f.2.2.2.2.2, q⟩⟩
end Pw
set_option Elab.async false
set_option linter.all false
set_option maxRecDepth 100000
set_option maxHeartbeats 4000000
/-! try with several clauses `except x as n`. -/
namespace Pw
open PySem PySem.Spec PyProof.Rows L2
abbrev HandL := List (Value × (Addr → Value → Option Addr → TS))
def endsAs (i : Nat) (D : Ends) : Ends := { nx := fun σ' H' => D.nx (σ'.set i none) H', rt := D.rt, bk := fun σ' H' => D.bk (σ'.set i none) H', ct := fun σ' H' => D.ct (σ'.set i none) H' }
def wAsL (K : PySem.W.Frag) (i : Nat) (Wout : WX) (D : Ends) : HandL → WX
  | [] => Wout
  | (c, ts) :: r => fun cls d σ H => ∃ b, PySem.W.exmOne K cls c = some b ∧ (b = true → ∀ a, H a = none → ts a cls d (endsAs i D) (σ.set i (some (.ref a))) H) ∧ (b = false → wAsL K i Wout D r cls d σ H)
inductive HdsAs (X : Cx) (n : Str) : List ExceptHandler → HandL → Prop
  | nil : HdsAs X n [] []
  | cons {x : Str} {c : Value} {ts : Addr → Value → Option Addr → TS} {b0 : Stmt} {bs : List Stmt} {np p' : Pos} {hds : List ExceptHandler} {l : HandL} (hc : Names X x c)
      (hsu : ∀ (a : Addr) (oe : Obj) (cls : Value) (d : Option Addr) (pn : List (Addr × Obj)), L2N.Zn cls d oe → (∃ vs, oe.data = .fields vs) → PSs (X.suite a ((a, oe) :: pn)) (b0 :: bs) (ts a cls d)) (r : HdsAs X n hds l) :
      HdsAs X n (.ExceptHandler (some (.Name x np)) (some n) (b0 :: bs) p' :: hds) ((c, ts) :: l)
section
variable {X : Cx} {n : Str} {i : Nat} {body : List Stmt} {h0 : ExceptHandler} {hds : List ExceptHandler} {l : HandL} {pos : Pos} {tb : WX → TS} {Wout : WX}
theorem ps_try_asL (hs : X.stack = X.env :: X.outer) (hf : X.env.frame = some X.env.locals) (hN : X.N.Nodup) (hi : X.N[i]? = some n) (hln : X.env.kindOf n = some .local) (tk : L2N.Takes X Wout)
    (hb : ∀ (W : WX) (pn : List (Addr × Obj)) (xe : Value → Shared → Prop), L2N.Takes (X.tr pn xe) W → PSs (X.tr pn xe) body (tb W)) (hh : HdsAs X n (h0 :: hds) l) :
    PS X (.Try body (h0 :: hds) [] [] pos) (fun D σ H => tb (wAsL X.K i Wout D l) D σ H) := by
  refine ⟨fun pins s σ H D I h => ?_⟩
  have ok := I.ok
  have hfr : X.A.frames = some (X.env :: X.outer) := by rw [ok.frames, hs]
  refine wpAny_Try_except (wpAny_mono ((hb (wAsL X.K i Wout D l) (X.pn ++ pins) (fun e s1 => wpAny (model X.prog X.w) X.A (noteFrame e X.env) (fun _ s2 => wpAny (model X.prog X.w) X.A (setFlight e none) (fun _ s3 => wpAny (model X.prog X.w) X.A (handleBy e X.env (h0 :: hds)) (SP X pins D) X.xe s3) X.xe s2) X.xe s1) (fun u s' xx => ?_)).run [] s σ H D (I.toTry _) h) (fun f s1 hsp => ?_) fun e s1 he => he)
  · obtain ⟨a, B, sI, pins', σ', H', cls, d, rfl, J', nb, up, sky, na, os, ag, w⟩ := xx
    have J : Inv X pins σ' H' sI := J'.ofTry ok
    have sky' : Sky B (X.env :: X.outer) a (L2N.Zn cls d) X.env.locals s'.heap := hs ▸ sky
    show wpAny (model X.prog X.w) X.A (noteFrame (.ref a) X.env) _ _ _
    refine L2N.Sky.land L2N.Zn.steady hfr hf sky' fun h3 fl3 up3 => ?_
    have J3 : Inv X pins σ' H' { s' with heap := h3 } := J.landed nb fl3.1 (up.trans up3) os ag
    obtain ⟨oe3, vs3, he3, hz3, hd3⟩ := fl3.there
    have nfr : a ∉ frs (X.env :: X.outer) := fun hm => by
      obtain ⟨_, o', e', hnf⟩ := fl3.2.2.1.mem hm
      rw [he3] at e'
      cases e'
      exact hnf _ hd3
    have nL : a ≠ X.env.locals := fun z => nfr (List.mem_filterMap.mpr ⟨X.env, List.mem_cons_self, by rw [hf, z]⟩)
    have nF : a ∉ X.fs := fun hm => by
      obtain ⟨e, he, q⟩ := List.mem_filterMap.mp hm
      exact nfr (List.mem_filterMap.mpr ⟨e, List.mem_cons_of_mem _ he, q⟩)
    have go : ∀ {hs' : List ExceptHandler} {l' : HandL}, HdsAs X n hs' l' → wAsL X.K i Wout D l' cls d σ' H' → wpAny (model X.prog X.w) X.A (handleBy (.ref a) X.env hs') (SP X pins D) X.xe { s' with heap := h3 } := by
      intro hs' l' hk
      induction hk with
      | nil =>
        intro w
        refine wpAny_handleBy_nil ?_
        obtain ⟨k1, k2, k3, oe, vs, T, oT, ts', he, hz, hd, h1, hr⟩ := id fl3
        unfold PySem.passOn
        refine wpAny_bind (wpAny_field he hd h1 ?_)
        rw [if_neg (show ¬ ((Value.ref T == Value.none) = true) from by simp)]
        have fin : wpAny (model X.prog X.w) X.A (setFlight (.ref a) X.env.frame) (fun _ s4 => wpAny (model X.prog X.w) X.A (throw (.ref a) : Sem Flow) (SP X pins D) X.xe s4) X.xe { s' with heap := h3 } := by
          rw [hf]
          exact HandSPX.setFlight_upZ fl3 fun h4 hh4 up4 => wpAny_throw (tk _ _ ⟨a, B, sI, pins, σ', H', cls, d, rfl, J, nb, (up.trans up3).trans up4, .inr (.inr (by rw [hs]; exact hh4)), na, os, ag, w⟩)
        first
          | exact wpAny_bind (wpAny_pure (wpAny_bind fin))
          | exact wpAny_bind fin
      | @cons x c ts b0 bs np p' hds2 l2 hc hsu r ih =>
        intro w
        obtain ⟨b, hb1, hyes, hno⟩ := w
        refine wpAny_handleBy_cons (codeAny_handlers_test ?_) (by intro q; cases q)
        have LT : PySem.W.Looks (model X.prog X.w) h3 (typeOf (.ref a)) cls := fun A Q E s k q => wpAny_typeOf_ref (k _ _ he3) (by rw [hz3.1]; exact q)
        have LM := PySem.W.exm_one (M := model X.prog X.w) (J3.kIn) LT hb1
        have S3 := J3.suite he3 hd3 na nL nF
        have test : ∀ {Q : Value → Shared → Prop} {E : Value → Shared → Prop}, Q c { s' with heap := h3 } → wpAny (model X.prog X.w) (X.A.mark (some (.ref a))) (eval (.Name x np) X.env) Q E { s' with heap := h3 } := fun {Q E} q => by
          obtain ⟨hg, hdbg, hm | ⟨hm, hv, hnn⟩⟩ := hc
          · exact ld_glob (X := X.suite a ((a, oe3) :: (X.pn ++ pins))) S3 hg hm q hdbg
          · exact ld_blt (X := X.suite a ((a, oe3) :: (X.pn ++ pins))) S3 hg hm hv q hnn hdbg
        refine test (LM.here ?_)
        cases b with
        | true =>
          refine codeAny_handlers_suite_as (HandSPX.lands_againZ fl3 fun h4 fl4 up4 => ?_)
          have J4 : Inv X pins σ' H' { s' with heap := h4 } := J.landed nb fl4.1 ((up.trans up3).trans up4) os ag
          obtain ⟨oe4, vs4, he4, hz4, hd4⟩ := fl4.there
          refine store_ok (X := X.suite a ((a, oe4) :: (X.pn ++ pins))) (v := .ref a) (J4.suite he4 hd4 na nL nF) hN hi (.inl hln) rfl (fun s5 S5 => ?_) (.inr hln)
          refine wpAny_mono ((hsu a oe4 cls d (X.pn ++ pins) hz4 ⟨_, hd4⟩).run [] s5 _ H' _ S5 (hyes rfl a na)) (fun f s6 hsp => ?_) fun _ _ z => z.elim
          have out : ∀ {σ6 : L2.St} {H6 : Hp} {Q : Shared → Prop}, Inv (X.suite a ((a, oe4) :: (X.pn ++ pins))) [] σ6 H6 s6 → (∀ s7, Inv X pins (σ6.set i none) H6 s7 → Q s7) → wpAny (model X.prog X.w) X.A (do bindName X.env n .none; unbindBehindTheSuite X.env n p') (fun _ s7 => Q s7) X.xe s6 := fun {σ6 H6 Q} S6 hq => gone_ok (S6.unsuite ok) hN hi hln hq
          cases f with
          | ret u =>
            obtain ⟨v6, σ6, H6, S6, r6, q6⟩ := hsp
            exact out S6 fun s7 J7 => ⟨_, _, _, J7, r6, q6⟩
          | _ =>
            obtain ⟨σ6, H6, S6, q6⟩ := hsp
            exact out S6 fun s7 J7 => ⟨_, _, J7, q6⟩
        | false =>
          show wpAny _ X.A (handleBy (.ref a) X.env hds2) _ _ _
          exact ih (hno rfl)
    exact go hh w
  · cases f with
    | next =>
      obtain ⟨σ', H', J', q⟩ := hsp
      exact wpAny_execs_nil ⟨σ', H', J'.ofTry ok, q⟩
    | ret u =>
      obtain ⟨v, σ', H', J', r, q⟩ := hsp
      exact ⟨v, σ', H', J'.ofTry ok, r, q⟩
    | _ =>
      obtain ⟨σ', H', J', q⟩ := hsp
      exact ⟨σ', H', J'.ofTry ok, q⟩
end
end Pw
set_option Elab.async false
set_option linter.all false
set_option maxRecDepth 100000
set_option maxHeartbeats 4000000
/-! Lambdas without parameters that lie in a list; functions that are asked. -/
namespace Pw
open PySem PySem.Spec PyProof.Rows L2 LamX
abbrev lamO (q : Str) (params : Arguments) (body : Expr) (scope : Scope) (cl : List (Str × Addr)) (pm : Value) (c' : Addr) (ctv : Value) : HO := .frz (PySem.W.kla_obj "<lambda>" q params body scope cl pm c' ctv) (.own 0)
section
variable {X : Cx} {pins : List (Addr × Obj)} {σ : L2.St} {H : Hp} {s : Shared}
/-- a lambda is made, its object known from now on -/
theorem lam_made {T : List (Addr × Str)} {c P : Addr} {params : Arguments} {body : Expr} {scope : Scope} {pos : Pos} {E : Value → Shared → Prop} {Q : Value → Shared → Prop} (I : Inv X pins σ H s) (TB : TabB X.base X.mg c P) (hcode : X.env.code = .ref c)
    (hm : (P, X.env.qual ++ "<lambda>") ∈ T) (hu : ∀ p ∈ T, p.1 = P → p.2 = X.env.qual ++ "<lambda>") (hT : Tabs T H) (hdef : defaultsOf params X.env = ([], [])) (hfree : ∀ y ∈ scope.names, y.2 = .free → ∃ c, X.env.cells.lookup y.1 = some c)
    (h : ∀ (f c' : Addr) (pm ctv : Value) (H1 : Hp) (s' : Shared), Inv X pins σ H1 s' → ExtN H H1 → Tabs T H1 → H f = none → H1 f = some (lamO (X.env.qual ++ "<lambda>") params body scope (cloFrom X.env.cells scope.names []) pm c' ctv) → H1 c' = some (CodeO c' (X.env.qual ++ "<lambda>")) → Q (.ref f) s') :
    wpAny (model X.prog X.w) X.A (eval (.Lambda params body scope pos) X.env) Q E s := by
  obtain ⟨ps, hP, ht, ha⟩ := hT _ hm
  refine PySem.W.kla_eval hdef ?_
  have bP : s.heap.BuiltinsAt X.mg P := TB.bm.keeps I.bk
  have hP' : s.heap.get? P = some { cls := .none, data := .fields ps } := I.hok P _ hP
  have add : ∀ {H1 : Hp} {g : Heap} {tk : Nat} {ob : Obj}, ob.isFreed = false → Inv X pins σ H1 { s with heap := g, toks := tk } → s.heap.objs.size ≤ g.objs.size → Inv X pins σ (upd H1 g.objs.size (.frz ob (.own 0))) { s with heap := g.push ob, toks := tk } := fun {H1 g tk ob} hf J _ =>
    J.laid (t' := tk) (fun b o e => Heap.get?_push_of_some _ e) (Nat.le_refl _) ⟨Heap.get?_push_size _ hf, _, Heap.get?_push_size _ hf⟩
  cases hc : codeAmong pos ps.toList with
  | none =>
    refine PySem.W.kla_makeFunction (mg := X.mg) (c := c) (P := P) (ps := ps) (closure_ok hfree) I.ok.glob (I.mod.glob.keeps I.bk) hcode (TB.code.keeps I.bk) hP' ht hc TB.gP bP fun c' ctv h' tk hx hge hlt hrec htb => ?_
    obtain ⟨c2, oc, vs, t, e2, hoc, hd, hv⟩ := hrec
    cases e2
    have hsz : s.heap.objs.size ≤ h'.objs.size := Nat.le_trans hge (Nat.le_of_lt hlt)
    have nC : H c' = none := I.hok.fresh hge
    have I0 := inv_table (t' := tk) (more := #[rawInt pos.line, rawInt pos.col, .ref c']) (h' := h') I hP hx htb hge ⟨oc, vs, t, hoc, hd, hv⟩
    generalize hH0 : upd (upd H P (.tbl (ps ++ #[rawInt pos.line, rawInt pos.col, .ref c']))) c' (CodeO c' (X.env.qual ++ "<lambda>")) = H0 at I0
    have hE : ExtN H H0 := fun b o e n => by
      rw [← hH0, upd_ne (ne_of_none e nC), upd_ne (fun z => n ps (Option.some.inj (e.symm.trans (by rw [z]; exact hP))))]
      exact e
    have nL : H0 h'.objs.size = none := I0.hok.fresh (Nat.le_refl _)
    have eL : (ps ++ #[rawInt pos.line, rawInt pos.col, .ref c']).toList = ps.toList ++ [rawInt pos.line, rawInt pos.col, .ref c'] := by simp
    have T0 : Tabs T H0 := fun p hp => by
      by_cases hb : p.1 = P
      · rw [hu p hp hb, hb]
        refine ⟨_, by rw [← hH0, upd_ne (ne_of_none hP nC), upd_same], by rw [eL]; exact PySem.TriplesOk_snoc _ _ _ _ ht, fun p' cv hcv => ?_⟩
        rw [eL] at hcv
        rcases among_app _ ht hcv with z | z
        · obtain ⟨c0, e1, e2⟩ := ha p' cv z
          exact ⟨c0, e1, hE _ _ e2 codeO_ne⟩
        · exact ⟨c', z, by rw [← hH0]; exact upd_same⟩
      · obtain ⟨ps', a1, a2, a3⟩ := hT p hp
        refine ⟨ps', by rw [← hH0, upd_ne (ne_of_none a1 nC), upd_ne hb]; exact a1, a2, fun p' cv hcv => ?_⟩
        obtain ⟨c0, e1, e2⟩ := a3 p' cv hcv
        exact ⟨c0, e1, hE _ _ e2 codeO_ne⟩
    have k2 : ∀ b o, H0 b = some o → upd H0 h'.objs.size (lamO (X.env.qual ++ "<lambda>") params body scope (cloFrom X.env.cells scope.names []) ((X.mg "__name__").getD .none) c' ctv) b = some o := fun b o e => by
      rw [upd_ne (ne_of_none e nL)]
      exact e
    exact h h'.objs.size c' ((X.mg "__name__").getD .none) ctv _ _ (add rfl I0 hsz) (hE.trans (.of k2)) (T0.ext k2) (I.hok.fresh hsz) upd_same (k2 _ _ (by rw [← hH0]; exact upd_same))
  | some cv =>
    obtain ⟨c', e, hco⟩ := ha pos cv hc
    subst e
    refine PySem.W.kla_makeFunctionHit (mg := X.mg) (c := c) (P := P) (ps := ps) (closure_ok hfree) I.ok.glob (I.mod.glob.keeps I.bk) hcode (TB.code.keeps I.bk) hP' ht hc bP fun ctv h' tk hx hsz => ?_
    have I0 : Inv X pins σ H { s with heap := h', toks := tk } := I.kept hx
    have nL : H h'.objs.size = none := I.hok.fresh hsz
    have k2 : ∀ b o, H b = some o → upd H h'.objs.size (lamO (X.env.qual ++ "<lambda>") params body scope (cloFrom X.env.cells scope.names []) ((X.mg "__name__").getD .none) c' ctv) b = some o := fun b o e => by
      rw [upd_ne (ne_of_none e nL)]
      exact e
    exact h h'.objs.size c' ((X.mg "__name__").getD .none) ctv _ _ (add rfl I0 hsz) (.of k2) (hT.ext k2) nL upd_same (k2 _ _ hco)
end
/-! ### what a lambda is, as it lies in a list -/
def lamCxN (X : Cx) (A : Around) (outer : List Env) (s : Shared) (H : Hp) (E : XK) (scope : Scope) (f c' : Addr) : Cx := (lamCx X A outer s H E scope f c').tr [] (fun e s' => wpAny (model X.prog X.w) (A.deeper (lamEnv X scope s.heap.objs.size f c')) (leaving (lamEnv X scope s.heap.objs.size f c') e) (fun _ s'' => L2N.CX X.prog X.w outer H s E e s'') (fun e' s'' => L2N.CX X.prog X.w outer H s E e' s'') s')
theorem passL {X : Cx} {P : Program} {w : World} {A : Around} {outer : List Env} {s : Shared} {H : Hp} {E : XK} {scope : Scope} {f c' : Addr} (hP : X.prog = P := by rfl) (hw : X.w = w := by rfl) : Passes (L2N.CX P w) (lamCxN X A outer s H E scope f c') E := by
  subst hP hw
  exact L2N.passes_call (L2N.takes_of rfl rfl rfl rfl) (fun _ _ _ _ h => h)
/-- at f lies a lambda of X's whose body reads as t -/
def LamAt (X : Cx) (t : XK → TE) (k : Nat) (H : Hp) (f : Addr) : Prop := ∃ (params : Arguments) (body : Expr) (scope : Scope) (pm : Value) (c' : Addr) (ctv : Value), H f = some (lamO (X.env.qual ++ "<lambda>") params body scope (cloFrom X.env.cells scope.names []) pm c' ctv) ∧
  H c' = some (CodeO c' (X.env.qual ++ "<lambda>")) ∧ LamS X.env.scope scope ∧ bindArgs (PySem.W.kla_fn "<lambda>" (X.env.qual ++ "<lambda>") params body scope (cloFrom X.env.cells scope.names []) pm (.ref c') ctv) ⟨[], []⟩ = pure [] ∧
  ∀ (A : Around) (outer : List Env) (s : Shared) (H : Hp) (E : XK), Room k (A.deeper (lamEnv X scope s.heap.objs.size f c')) → PE (lamCxN X A outer s H E scope f c') body (t E)
theorem LamAt.ext {X : Cx} {t : XK → TE} {k : Nat} {H H' : Hp} {f : Addr} (L : LamAt X t k H f) (e : ExtN H H') : LamAt X t k H' f := by
  obtain ⟨params, body, scope, pm, c', ctv, h1, h2, r⟩ := L
  exact ⟨params, body, scope, pm, c', ctv, e _ _ h1 (fun ps z => by cases z), e _ _ h2 (fun ps => codeO_ne ps), r⟩
def tLam0 (X : Cx) (T : List (Addr × Str)) (t : XK → TE) (k : Nat) : TE := fun σ H Q => Tabs T H ∧ ∀ f H1, ExtN H H1 → Tabs T H1 → H f = none → LamAt X t k H1 f → Q (.ref f) H1
theorem pe_lam {X : Cx} {T : List (Addr × Str)} {c P : Addr} {k : Nat} {params : Arguments} {body : Expr} {scope : Scope} {t : XK → TE} {pos : Pos} (TB : TabB X.base X.mg c P) (hcode : X.env.code = .ref c) (hmT : (P, X.env.qual ++ "<lambda>") ∈ T) (hu : ∀ p ∈ T, p.1 = P → p.2 = X.env.qual ++ "<lambda>")
    (L : LamS X.env.scope scope) (hdef : defaultsOf params X.env = ([], [])) (hbind : ∀ (q : Str) (cl : List (Str × Addr)) (pm cv ctv : Value), bindArgs (PySem.W.kla_fn "<lambda>" q params body scope cl pm cv ctv) ⟨[], []⟩ = pure [])
    (hbody : ∀ (A : Around) (outer : List Env) (s : Shared) (H : Hp) (E : XK) (f c' : Addr), Room k (A.deeper (lamEnv X scope s.heap.objs.size f c')) → PE (lamCxN X A outer s H E scope f c') body (t E)) : PE X (.Lambda params body scope pos) (tLam0 X T t k) := by
  refine ⟨fun pins s σ H Q I h => ?_⟩
  obtain ⟨hT, h⟩ := h
  exact lam_made I TB hcode hmT hu hT hdef (L.has I.ok) fun f c' pm ctv H1 s' I1 e1 T1 n1 f1 c1 => ⟨.ref f, H1, I1, rfl, h f H1 e1 T1 n1 ⟨params, body, scope, pm, c', ctv, f1, c1, L, hbind _ _ _ _ _, fun A outer s H E hr => hbody A outer s H E f c' hr⟩⟩
/-! ### a function that is asked -/
/-- called where all of H stands, f raises what W tells -/
def Asks (P : Program) (w : World) (K : PySem.W.Frag) (mg : Str → Option Value) (base : Heap) (k : Nat) (W : XK) (H : Hp) (f : Addr) : Prop :=
  (∃ (ob : Obj) (u : HO) (fd : FuncData), H f = some (.frz ob u) ∧ ob.data = .func fd) ∧ ∀ (A : Around) (outer : List Env) (s : Shared) (H' : Hp), Same H H' → Room k A → Env0 P w K mg base A outer s H' →
    codeAny (model P w) A (.call (.ref f) ⟨[], []⟩) (CR (L2N.CX P w) outer P w H' s (fun _ _ => False) (fun cls d H'' => Same H' H'' ∧ W cls d H'')) s
theorem Asks.mono {P : Program} {w : World} {K : PySem.W.Frag} {mg : Str → Option Value} {base : Heap} {k : Nat} {W : XK} {H H' : Hp} {f : Addr} (a : Asks P w K mg base k W H f) (s : Same H H') : Asks P w K mg base k W H' f := by
  obtain ⟨⟨ob, u, fd, h1, h2⟩, r⟩ := a
  exact ⟨⟨ob, u, fd, s _ _ h1, h2⟩, fun A outer s1 H1 s2 => r A outer s1 H1 (s.trans s2)⟩
/-- x(), x a slot -/
theorem pe_ask {X : Cx} {k i : Nat} {a : Str} {W : WX} {WA : XK} {p1 p2 : Pos} (tk : L2N.Takes X W) (hr : Room k X.A) (hN : X.N[i]? = some a) (hv : Vis X.env.scope a) (hd : (a == ("__debug__" : Str)) = false := by decide) (hcd : (a == ("__classdict__" : Str)) = false := by decide) :
    PE X (.Call (.Name a p1) [] [] p2) (fun σ H Q => ∃ f, σ[i]? = some (some (.ref f)) ∧ Asks X.prog X.w X.K X.mg X.base k WA H f ∧ ∀ cls d H', Same H H' → WA cls d H' → W cls d σ H') := by
  refine ⟨fun pins s σ H Q I h => ?_⟩
  obtain ⟨f, hs, ⟨⟨ob, u, fd, h1, h2⟩, ask⟩, hW⟩ := h
  refine wpAny_Call_Name_kw (thn ((pe_var (pos := p1) (i := i) hN hv hd hcd).run pins s σ H (fun v H1 => v = .ref f ∧ H1 = H) I ⟨.ref f, hs, rfl, rfl⟩) fun u s1 ⟨v, H1, I1, r1, q1⟩ => ?_)
  obtain ⟨ev, eH⟩ := q1
  subst ev
  rw [eH] at I1
  obtain rfl : u = Value.ref f := r1
  have of1 : s1.heap.get? f = some ob := (I1.hok f _ h1).1
  refine PySem.W.callWith_F0 ⟨ob.cls, ob.dict, fd, ob.slots, by rw [of1, ← h2]⟩ ?_
  refine wpAny_call (codeAny_mono (ask X.A X.stack s1 H (Same.refl H) hr I1.env0) fun r s' hq => ?_)
  cases r with
  | error e => exact tk e s' (L2N.XE.of_call I1 (fun cls d H' z => hW cls d H' z.1 z.2) hq)
  | ok fl =>
    cases fl with
    | ret u =>
      obtain ⟨_, _, _, _, _, _, _, z⟩ := hq
      exact z.elim
    | next => exact False.elim hq
    | brk => exact False.elim hq
    | cont => exact False.elim hq
end Pw
set_option Elab.async false
set_option linter.all false
set_option maxRecDepth 100000
set_option maxHeartbeats 4000000
/-! The cells of a def are known while its lambdas are asked. -/
namespace Pw
open PySem PySem.Spec PyProof.Rows L2 LamX
/-- what is captured -/
def capC (X : Cx) : List Addr := X.env.cells.filterMap fun p => X.env.cells.lookup p.1
theorem mem_cap {X : Cx} {c : Addr} : c ∈ capC X ↔ ∃ y, X.env.cells.lookup y = some c := by
  constructor
  · intro h
    obtain ⟨p, _, e⟩ := List.mem_filterMap.mp h
    exact ⟨p.1, e⟩
  · rintro ⟨y, e⟩
    exact List.mem_filterMap.mpr ⟨(y, c), PySem.mem_of_lookup e, e⟩
def frzC (C : List Addr) (h : Heap) (H : Hp) : Hp := fun b => if b ∈ C then (h.get? b).map fun o => .frz o (.own 0) else H b
def delC (C : List Addr) (H : Hp) : Hp := fun b => if b ∈ C then none else H b
section
variable {C : List Addr} {H H' : Hp} {h h' : Heap} {b : Addr} {P : Program} {w : World}
theorem frzC_in (m : b ∈ C) : frzC C h H b = (h.get? b).map fun o => .frz o (.own 0) := if_pos m
theorem frzC_out (m : b ∉ C) : frzC C h H b = H b := if_neg m
theorem delC_in (m : b ∈ C) : delC C H b = none := if_pos m
theorem delC_out (m : b ∉ C) : delC C H b = H b := if_neg m
/-- what stands at the cells -/
structure CellS (C : List Addr) (H : Hp) (h : Heap) : Prop where
  free : ∀ c ∈ C, H c = none
  there : ∀ c ∈ C, ∃ o v, h.get? c = some o ∧ o.data = .cell v
theorem same_frz (S : CellS C H h) : Same H (frzC C h H) := fun b o e => by
  rw [frzC_out fun m => by rw [S.free b m] at e; cases e]
  exact e
theorem hok_frz (S : CellS C H h) (x : HOk P w H h) : HOk P w (frzC C h H) h := fun a o e => by
  by_cases m : a ∈ C
  · obtain ⟨ob, v, e1, _⟩ := S.there a m
    rw [frzC_in m, e1] at e
    cases e
    exact ⟨e1, ob, e1⟩
  · rw [frzC_out m] at e
    exact (x a o e).stay (fun _ _ _ q => q) (fun b q => same_frz S _ _ q) fun b xs q => same_frz S _ _ q
/-- the cells known in H' -/
def Knows (C : List Addr) (h : Heap) (H' : Hp) : Prop := ∀ c ∈ C, ∃ o v, h.get? c = some o ∧ o.data = .cell v ∧ H' c = some (.frz o (.own 0))
theorem knows_of (S : CellS C H h) (s : Same (frzC C h H) H') : Knows C h H' := fun c m => by
  obtain ⟨o, v, e1, e2⟩ := S.there c m
  exact ⟨o, v, e1, e2, s _ _ (by rw [frzC_in m, e1]; rfl)⟩
theorem same_del (S : CellS C H h) (s : Same (frzC C h H) H') : Same H (delC C H') := fun b o e => by
  have m : b ∉ C := fun m => by
    rw [S.free b m] at e
    cases e
  rw [delC_out m]
  exact s _ _ (by rw [frzC_out m]; exact e)
theorem hok_del (k : Knows C h H') (x : HOk P w H' h') : HOk P w (delC C H') h' := fun a o e => by
  have m : a ∉ C := fun m => by
    rw [delC_in m] at e
    cases e
  rw [delC_out m] at e
  refine (x a o e).stay (fun _ _ _ q => q) (fun b q => ?_) fun b xs q => ?_
  · rw [delC_out fun mb => by obtain ⟨o', v, _, _, z⟩ := k b mb; rw [z] at q; cases q]
    exact q
  · rw [delC_out fun mb => by obtain ⟨o', v, _, _, z⟩ := k b mb; rw [z] at q; cases q]
    exact q
/-- back without the cells -/
theorem un_del {fs : List Addr} (S : CellS C H h) (u : Un fs [] (frzC C h H) H' h h') (x : HOk P w H' h') : Un fs [] H (delC C H') h h' := by
  have kc : ∀ c ∈ C, ∃ o, h.get? c = some o ∧ h'.get? c = some o := fun c m => by
    obtain ⟨o, v, e1, _⟩ := S.there c m
    exact ⟨o, e1, (x c _ (u.frzs c o (.own 0) (by rw [frzC_in m, e1]; rfl))).1⟩
  refine ⟨fun b o e n hb hx => ?_, fun b o e n hb hx => ?_, fun b o e n hx => ?_, u.there, fun b xs e => ?_, fun b o v e => ?_, fun b ps e => ?_⟩
  · by_cases m : b ∈ C
    · obtain ⟨o', e1, e2⟩ := kc b m
      rw [e] at e1
      cases e1
      exact e2
    · exact u.keep b o e (by rw [frzC_out m]; exact n) hb hx
  · by_cases m : b ∈ C
    · obtain ⟨o', e1, e2⟩ := kc b m
      rw [e] at e1
      cases e1
      exact ⟨o.slots, e2⟩
    · exact u.slot b o e (by rw [frzC_out m]; exact n) hb hx
  · by_cases m : b ∈ C
    · exact delC_in m
    · rw [delC_out m]
      exact u.free b o e (by rw [frzC_out m]; exact n) hx
  · have m : b ∉ C := fun m => by rw [S.free b m] at e; cases e
    rw [delC_out m]
    exact u.tups b xs (by rw [frzC_out m]; exact e)
  · have m : b ∉ C := fun m => by rw [S.free b m] at e; cases e
    rw [delC_out m]
    exact u.frzs b o v (by rw [frzC_out m]; exact e)
  · have m : b ∉ C := fun m => by rw [S.free b m] at e; cases e
    obtain ⟨more, q⟩ := u.tbls b ps (by rw [frzC_out m]; exact e)
    exact ⟨more, by rw [delC_out m]; exact q⟩
end
section
variable {X : Cx} {pins : List (Addr × Obj)} {σ : L2.St} {H : Hp} {s : Shared}
theorem cell_s (I : Inv X pins σ H s) : CellS (capC X) H s.heap where
  free := fun c m => by
    obtain ⟨y, e⟩ := mem_cap.mp m
    exact I.freeC y c e
  there := fun c m => by
    obtain ⟨y, e⟩ := mem_cap.mp m
    obtain ⟨v, o, e1, e2⟩ := I.cell y c e
    exact ⟨o, v, e1, e2⟩
theorem env0_frz (I : Inv X pins σ H s) (hfn : ∀ y, X.fn y = true) : Env0 X.prog X.w X.K X.mg X.base X.A X.stack s (frzC (capC X) s.heap H) := by
  have e0 := I.env0
  have lo : ∀ c ∈ capC X, X.s_0.heap.objs.size ≤ c := fun c m => by
    obtain ⟨y, e⟩ := mem_cap.mp m
    exact I.ok.cab y c (hfn y) e
  refine ⟨e0.frames, e0.mod, fun b o e => ⟨(e0.bs b o e).1, ?_⟩, e0.bsz, e0.funs, fun b hb => ?_, hok_frz (cell_s I) e0.hok, e0.bare⟩
  · rw [frzC_out fun m => absurd (Nat.lt_of_lt_of_le (Heap.lt_size e) (Nat.le_trans I.ok.bsz (lo b m))) (Nat.lt_irrefl _)]
    exact (e0.bs b o e).2
  · rw [frzC_out fun m => ?_]
    · exact e0.frf b hb
    · rcases List.mem_cons.mp (I.stkSub b hb) with z | z
      · obtain ⟨o, v, e1, e2⟩ := (cell_s I).there b m
        obtain ⟨mm, ⟨ob, es, ep, q1, q2, q3, _⟩, _⟩ := I.loc
        rw [← z, e1] at q1
        cases q1
        rw [e2] at q2
        cases q2
      · obtain ⟨_, o, e1, _⟩ := I.ok.funs.mem z
        exact absurd (Nat.lt_of_lt_of_le (Heap.lt_size e1) (lo b m)) (Nat.lt_irrefl _)
/-- the lambda's body begins: the cells as they stand -/
theorem lam_begin {A : Around} {outer : List Env} {E : XK} {scope : Scope} {f c' : Addr} {h1 : Heap} {tk : Nat} {HZ : Hp} {s1 : Shared} (I : Inv X pins σ H s) (L : LamS X.env.scope scope) (e0 : Env0 X.prog X.w X.K X.mg X.base A outer s1 HZ) (hd : A.handled = none)
    (cz : ∀ c ∈ capC X, HZ c = none ∧ s1.heap.get? c = s.heap.get? c) (hns : h1.Ns s1.heap.objs.size fun y => ([] : List (Str × Value)).reverse.lookup y) (kp : ∀ b o, s1.heap.get? b = some o → h1.get? b = some o) :
    Inv (lamCxN X A outer s1 HZ E scope f c') [] σ HZ { s1 with heap := h1, toks := tk } := by
  have hfree := L.has I.ok
  have cm : ∀ {y c}, (cloFrom X.env.cells scope.names []).lookup y = some c → X.env.cells.lookup y = some c := fun {y c} e => by
    rcases cloFrom_mem (PySem.mem_of_lookup e) with hm | ⟨h1, h2⟩
    · cases hm
    · obtain ⟨c1, hc⟩ := hfree _ h1 rfl
      have hc : X.env.cells.lookup y = some c1 := hc
      have e2 : c = c1 := by rw [h2, hc] <;> rfl
      rw [e2]
      exact hc
  have look : ∀ {y}, scope.names.lookup y = some .free → ∃ c, (cloFrom X.env.cells scope.names []).lookup y = some c := fun {y} hl => mem_lookup (cloFrom_has (cells := X.env.cells) (acc := []) (show (y, NameKind.free) ∈ scope.names from PySem.mem_of_lookup hl))
  have cellK : ∀ {y c} {v : Option Value}, X.env.cells.lookup y = some c → s.heap.IsCell c v → h1.IsCell c v := fun {y c v} m ⟨o, ho, hd⟩ => ⟨o, kp _ _ (by rw [(cz c (mem_cap.mpr ⟨y, m⟩)).2]; exact ho), hd⟩
  have noA : ∀ b : Addr, b ∉ (lamCxN X A outer s1 HZ E scope f c').ex := fun b z => absurd (show b ∈ ([] : List Addr) from z) (by simp)
  refine ⟨⟨e0.mod, L.kind, rfl, rfl, Nat.le_refl _, fun y z c e1 e2 => I.ok.inj y z c (cm e1) (cm e2), fun y hy => ?_, fun y c z _ => ?_, fun _ => hd, Around.frames_deeper e0.frames, .inr ⟨rfl, rfl⟩, fun b z => absurd z (noA b), e0.bs, e0.bsz, fun b _ _ => noA b, fun b z => absurd z (noA b), e0.funs, e0.frf⟩,
    rfl, e0.bare, Un.kept kp, ⟨_, hns, fun i y v e1 e2 e3 => ?_⟩, fun y c e => ?_, e0.hok.fresh (Nat.le_refl _), fun y c e => (cz c (mem_cap.mpr ⟨y, cm e⟩)).1, fun q hq => absurd (show q ∈ ([] : List (Addr × Obj)) ++ [] from hq) (by simp), e0.hok.kept kp, I.len⟩
  · have hy : scope.names.lookup y = some .cell ∨ scope.names.lookup y = some .free := hy
    rcases hy with hy | hy
    · exact absurd rfl (L.own _ (PySem.mem_of_lookup hy)).2
    · exact look hy
  · have z : false = true := z
    cases z
  · have e3 : Vis scope y := e3
    rcases e3 with k | k | k
    · exact absurd rfl (L.own _ (PySem.mem_of_lookup k)).1
    · exact absurd rfl (L.own _ (PySem.mem_of_lookup k)).2
    · obtain ⟨m, hn, hl⟩ := I.loc
      have hvis : Vis X.env.scope y := (L.free _ (PySem.mem_of_lookup k) rfl).elim (fun k => .inr (.inl k)) (fun k => .inr (.inr k))
      obtain ⟨w', r, q⟩ := hl i y v e1 e2 hvis
      obtain ⟨c2, h2⟩ := look k
      refine ⟨w', r, .inr ⟨.inr k, c2, h2, ?_⟩⟩
      have c1 := cm h2
      rcases q with ⟨k', _⟩ | ⟨_, c3, e', z⟩
      · have k' : X.env.scope.names.lookup y = some .local := k'
        rcases L.free _ (PySem.mem_of_lookup k) rfl with k2 | k2 <;> rw [show X.env.scope.names.lookup y = _ from k2] at k' <;> cases k'
      · rw [c1] at e'
        cases e'
        exact cellK c1 z
  · obtain ⟨w', z⟩ := I.cell y c (cm e)
    exact ⟨w', cellK (cm e) z⟩
/-- what is told goes on in a larger heap -/
def Grows (W : XK) : Prop := ∀ cls d H H', Same H H' → W cls d H → W cls d H'
/-- a lambda of the def may be asked, its cells known -/
theorem asks_of {t : XK → TE} {k : Nat} {W : XK} {f : Addr} (I : Inv X pins σ H s) (L : LamAt X t k H f) (hW : Grows W) (hb : ∀ H1, Same H H1 → t (fun cls d H'' => Same H1 H'' ∧ W cls d H'') σ H1 (fun _ _ => False)) :
    Asks X.prog X.w X.K X.mg X.base (k + 1) W (frzC (capC X) s.heap H) f := by
  obtain ⟨params, body, scope, pm, c', ctv, hf, hco, LS, hbind, hbody⟩ := L
  have S := cell_s I
  have s0 := same_frz S
  refine ⟨⟨_, _, _, s0 _ _ hf, rfl⟩, fun A outer s1 H1 sm hr e0 => ?_⟩
  have kn := knows_of S sm
  have of1 : s1.heap.get? f = some (PySem.W.kla_obj "<lambda>" (X.env.qual ++ "<lambda>") params body scope (cloFrom X.env.cells scope.names []) pm c' ctv) := (e0.hok f _ (sm _ _ (s0 _ _ hf))).1
  obtain ⟨⟨oc, vs, tk, hoc, hdc, hvc⟩, _, _⟩ := e0.hok c' _ (sm _ _ (s0 _ _ hco))
  have cz : ∀ c ∈ capC X, delC (capC X) H1 c = none ∧ s1.heap.get? c = s.heap.get? c := fun c m => by
    obtain ⟨o, v, e1, _, e3⟩ := kn c m
    exact ⟨delC_in m, by rw [e1]; exact (e0.hok c _ e3).1⟩
  have eZ : Env0 X.prog X.w X.K X.mg X.base A outer s1 (delC (capC X) H1) := by
    refine ⟨e0.frames, e0.mod, fun b o e => ⟨(e0.bs b o e).1, ?_⟩, e0.bsz, e0.funs, fun b hb => ?_, hok_del kn e0.hok, e0.bare⟩
    · by_cases m : b ∈ capC X
      · exact delC_in m
      · rw [delC_out m]
        exact (e0.bs b o e).2
    · by_cases m : b ∈ capC X
      · exact delC_in m
      · rw [delC_out m]
        exact e0.frf b hb
  have lim : s1.heap.NoLimit := e0.mod.nolimit.keeps fun b o e => (e0.bs b o e).1
  have rc : codeAny (model X.prog X.w) A (.call (.ref f) ⟨[], []⟩) (CR (L2N.CX X.prog X.w) outer X.prog X.w (delC (capC X) H1) s1 (fun _ _ => False) (fun cls d H'' => Same (delC (capC X) H1) H'' ∧ W cls d H'')) s1 := by
    refine PySem.W.kla_callFunE hr.depth of1 rfl LS.co LS.gen rfl ⟨c', oc, vs, tk, rfl, hoc, hdc, hvc⟩ ?_
    rw [hbind]
    refine wpAny_pure (wpAny_newFunctionEnv (fun y hy => (LS.own y hy).2) (fun y hy => absurd hy (by simp)) (fun h1 hns hsb => ⟨lim.fresh _ hsb, ?_⟩) LS.kind)
    show codeAny _ _ (.expr body (lamEnv X scope s1.heap.objs.size f c')) _ _
    have kp : ∀ b o, s1.heap.get? b = some o → h1.get? b = some o := fun b o e => hsb.extBut b o (Nat.ne_of_lt (Heap.lt_size e)) (Heap.get?_push_of_some _ e)
    have J : Inv (lamCxN X A outer s1 (delC (capC X) H1) (fun cls d H'' => Same (delC (capC X) H1) H'' ∧ W cls d H'') scope f c') [] σ (delC (capC X) H1) { s1 with heap := h1, toks := s1.toks + ([] : List (Str × Value)).length } := lam_begin I LS eZ hr.hd cz hns kp
    refine PySem.W.kla_codeExpr (wpAny_mono ((hbody A outer s1 (delC (capC X) H1) _ (hr.deeper _)).run [] _ _ _ _ J (hb _ (same_del S sm))) (fun v s' hq => ?_) fun e s' hq => hq)
    obtain ⟨_, _, _, _, z⟩ := hq
    exact z.elim
  refine codeAny_mono rc fun r s' hq => ?_
  cases r with
  | ok fl =>
    cases fl with
    | ret u =>
      obtain ⟨_, _, _, _, _, _, _, z⟩ := hq
      exact z.elim
    | next => exact hq
    | brk => exact hq
    | cont => exact hq
  | error e =>
    obtain ⟨a, B, H2, cls, d, rfl, fl, hok, ub, na, os, ag, sE, wE⟩ := hq
    have nfr : ∀ c ∈ capC X, c ∉ frs outer := fun c m hm => by
      obtain ⟨o, v, _, _, e3⟩ := kn c m
      rw [e0.frf c hm] at e3
      cases e3
    have cB : ∀ c ∈ capC X, B.get? c = s.heap.get? c := fun c m => by
      obtain ⟨o, v, e1, _, e3⟩ := kn c m
      rw [e1]
      exact ub.keep c o ((cz c m).2.trans e1) (cz c m).1 (nfr c m)
    have n2 : ∀ c ∈ capC X, H2 c = none := fun c m => by
      obtain ⟨o, v, e1, _, e3⟩ := kn c m
      exact ub.free c o ((cz c m).2.trans e1) (cz c m).1
    have SB : CellS (capC X) H2 B := ⟨n2, fun c m => by
      obtain ⟨o, v, e1, e2, _⟩ := kn c m
      exact ⟨o, v, (cB c m).trans e1, e2⟩⟩
    have inB : ∀ c ∈ capC X, ∀ o, H1 c = some o → frzC (capC X) B H2 c = some o := fun c m o' e => by
      obtain ⟨o, v, e1, e2, e3⟩ := kn c m
      rw [frzC_in m, (cB c m).trans e1]
      rw [e3] at e
      exact e
    have s2 : Same H1 (frzC (capC X) B H2) := fun b o e => by
      by_cases m : b ∈ capC X
      · exact inB b m o e
      · rw [frzC_out m]
        exact sE _ _ (by rw [delC_out m]; exact e)
    refine ⟨a, B, frzC (capC X) B H2, cls, d, rfl, fl, hok_frz SB hok, ⟨fun b o e n hb => ?_, ub.slot, fun b o e n => ?_, ub.there, fun b xs => s2 _ _, fun b o u => s2 _ _, fun b ps e => ⟨#[], by simpa using s2 _ _ e⟩⟩, ?_, os, ag, s2, hW _ _ _ _ (same_frz SB) wE⟩
    · by_cases m : b ∈ capC X
      · obtain ⟨o, v, e1, e2, e3⟩ := kn b m
        rw [e3] at n
        cases n
      · exact ub.keep b o e (by rw [delC_out m]; exact n) hb
    · by_cases m : b ∈ capC X
      · obtain ⟨o, v, e1, e2, e3⟩ := kn b m
        rw [e3] at n
        cases n
      · rw [frzC_out m]
        exact ub.free b o e (by rw [delC_out m]; exact n)
    · by_cases m : a ∈ capC X
      · obtain ⟨o, v, e1, e2, e3⟩ := kn a m
        have z := (cB a m).trans e1
        rw [fl.2.1] at z
        cases z
      · rw [frzC_out m]
        exact na
end
/-- x(e, ..), the lambdas of the def handed on: sp answers True -/
def tAsked (X : Cx) (sp : Sp) (E : XK) (t : TA) : TE := fun σ H Q => t σ H fun vs H1 => (∀ (H2 : Hp) (Q2 : VK), Same H1 H2 → (∀ (t : XK → TE) (k : Nat) (W : XK) (f : Addr), LamAt X t k H1 f → Grows W → (∀ H3, Same H1 H3 → t (fun cls d H'' => Same H3 H'' ∧ W cls d H'') σ H3 (fun _ _ => False)) → Asks X.prog X.w X.K X.mg X.base (k + 1) W H2 f) →
  (∀ H', Same H2 H' → Q2 (.bl true) H') → sp vs H2 Q2 E) ∧ ∀ H', Same H1 H' → Q (.bl true) H'
theorem pe_asked {X : Cx} {CX : CXT} {k : Nat} {f : Addr} {fd : FuncData} {ps : List Str} {sp : Sp} {E : XK} {x : Str} {e : Expr} {es : List Expr} {t : TA} {p pos : Pos} (F : FnOk X.prog X.w X.K X.mg X.base CX k f fd ps sp) (hr : Room k X.A) (hfn : ∀ y, X.fn y = true) (hg : Gl X x) (hm : X.mg x = some (.ref f)) (hk : PySem.W.keepIn X.K (.ref f) = true) (hb : Binds X.K fd ps [])
    (hx : ∀ outer H s E1 e s', CX outer H s E1 e s' → False) (ha : PA X (e :: es) t) (hdb : (x == ("__debug__" : Str)) = false := by decide) (he : starEach (e :: es) X.env = (false, eval e X.env) :: starEach es X.env := by rfl) (hpl : (backTo pos (starEach es X.env)).any (·.1) = false := by rfl) :
    PE X (.Call (.Name x p) (e :: es) [] pos) (tAsked X sp E t) := by
  refine ⟨fun pins s σ H Q I h => ?_⟩
  refine wpAny_Call_Name_kw (ld_glob I hg hm ?_ hdb)
  refine PySem.W.callWith_K (h₀ := X.base) I.ok.mod.kin hk (thn (ha.run pos pins s σ H _ I h) fun us s1 ⟨vs, H1, I1, r, q, hQ⟩ => ⟨I1.kIn, ?_⟩) he hpl
  have S := cell_s I1
  have h2 := q (frzC (capC X) s1.heap H1) (fun v H' => v = .bl true ∧ Same (frzC (capC X) s1.heap H1) H') (same_frz S) (fun t k W f L gW hb => asks_of I1 L gW hb) (fun H' s' => ⟨rfl, s'⟩)
  have hl : us.length = ps.length := by
    rw [← r.length]
    exact F.len _ _ _ _ h2
  have hl2 : (us ++ []).length = ps.length := by
    rw [List.append_nil]
    exact hl
  have hb2 := hb s1 us I1.kIn hl2
  rw [List.append_nil] at hb2
  refine wpAny_call (codeAny_mono (F.run X.A X.stack s1 _ ⟨us, []⟩ us vs _ E hr (env0_frz I1 hfn) hb2 r h2) fun r s' hq => ?_)
  cases r with
  | error e => exact (hx _ _ _ _ _ _ hq).elim
  | ok fl =>
    cases fl with
    | ret u =>
      obtain ⟨v, H', os, bare, un, hok, rv, ev, sm⟩ := hq
      subst ev
      exact I1.after ⟨.bl true, delC (capC X) H', os, bare, un_del S un hok, hok_del (knows_of S sm) hok, rv, hQ _ (same_del S sm)⟩
    | next => exact False.elim hq
    | brk => exact False.elim hq
    | cont => exact False.elim hq
end Pw
set_option Elab.async false
set_option linter.all false
set_option maxRecDepth 100000
set_option maxHeartbeats 400000
/-! What an asked function says: the law's own words. -/
namespace Pw
open PySem PySem.Spec PyProof.Rows L2 LamX
def wordsL : List Str := ["stand", "box", "rule", "wish", "count", "walker", "room", "life"]
/-- the refusal that the word x names -/
def TW (x : Str) : XK := fun cls d H => (cls = .ref c_NoWorld ∧ ∃ dd, d = some dd ∧ H dd = some (.xd [("what", .str x)])) ∨ (d = none ∧ ∃ (i : Nat) (C : Addr), exCls[i]? = some C ∧ wordsL[i]? = some x ∧ cls = .ref C)
theorem tw_grows (x : Str) : Grows (TW x) := fun cls d H H' s h => h.imp (fun ⟨h1, dd, h2, h3⟩ => ⟨h1, dd, h2, s _ _ h3⟩) fun h => h
section
variable {P : Program} {w : World} {K : PySem.W.Frag} {mg : Str → Option Value} {base : Heap}
theorem xf_NoWorld (T : Tx K mg) : XfC K c_NoWorld := ⟨isO_eq (T.ck 12 rfl), isO_eq (T.ck 13 rfl), of_decide_eq_true (T.ck 9 rfl), T.ck 7 rfl⟩
theorem no_what (T : Tx K mg) : PySem.W.findIn K (.ref c_NoWorld) "what" = some none := isO_eq (T.ck 16 rfl)
theorem nw_self (T : Tx K mg) : PySem.W.exmOne K (.ref c_NoWorld) (.ref c_NoWorld) = some true := of_decide_eq_true (T.ck 17 rfl)
theorem op_eqDK {X : Cx} {K : PySem.W.Frag} (hu : X.A.units + 64 < cLine) (hK : X.K = K := by rfl) : OpR X (compareOp .Eq) (rEqD K) := by
  subst hK
  exact op_eqD hu
def rJoin (K : PySem.W.Frag) : V → List V → Hp → VK → Prop := fun x xs H Q => ∃ a p, ∃ ys : List Str, x = .str a ∧ xs = [.ref p] ∧ (SqL K H p (ys.map V.str) ∨ SqT K H p (ys.map V.str)) ∧ (ys.map (·.length)).sum + ys.length * a.length ≤ 16777216 ∧ Q (.str (Txt.join a ys)) H
theorem mt_joinK {X : Cx} {K : PySem.W.Frag} (hK : X.K = K := by rfl) : MtR X "str.join" (rJoin K) := by
  subst hK
  exact mt_join
theorem pe_bmK {X : Cx} {K : PySem.W.Frag} {T : String} {name : Str} {id : String} {r : V → List V → Hp → VK → Prop} {o e : Expr} {es : List Expr} {to : TE} {t : TA} {apos cpos : Pos} (pa : PlainAttrs T) (slot : Slot T name id) (hty : typeOf (.builtin id) = pure (.type "method_descriptor")) (hm : MtR X id r) (ho : PE X o to) (ha : PA X (e :: es) t)
    (hK : X.K = K := by rfl) (hbase : attributeBase o name X.env (eval o X.env) = eval o X.env := by rfl)
    (hfew : ((backTo cpos (starEach (e :: es) X.env)).all (fun x => !x.1) && (backToKw cpos (keywordEach [] X.env)).all (fun x => x.1.isSome) && decide ((e :: es).length + ([] : List Keyword).length + (if ([] : List Keyword).isEmpty then 0 else 1) < 30)) = true := by rfl)
    (hline : (apos.endLine == cpos.line) = true := by rfl) (hs : starEach (e :: es) X.env = (false, eval e X.env) :: starEach es X.env := by rfl) (hpl : (backTo cpos (starEach es X.env)).any (·.1) = false := by rfl) : PE X (.Call (.Attribute o name apos) (e :: es) [] cpos) (tBM K T r to t) := by
  subst hK
  exact pe_bm pa slot hty hm ho ha hbase hfew hline hs hpl
def tAsk (P : Program) (w : World) (K : PySem.W.Frag) (mg : Str → Option Value) (base : Heap) (k : Nat) (WA : XK) (i : Nat) (W : WX) : TE := fun σ H Q => ∃ f, σ[i]? = some (some (.ref f)) ∧ Asks P w K mg base k WA H f ∧ ∀ cls d H', Same H H' → WA cls d H' → W cls d σ H'
theorem pe_askK {X : Cx} {k i : Nat} {a : Str} {W : WX} {WA : XK} {p1 p2 : Pos} (tk : L2N.Takes X W) (hr : Room k X.A) (hN : X.N[i]? = some a) (hv : Vis X.env.scope a) (h1 : X.prog = P := by rfl) (h2 : X.w = w := by rfl) (h3 : X.K = K := by rfl) (h4 : X.mg = mg := by rfl) (h5 : X.base = base := by rfl)
    (hd : (a == ("__debug__" : Str)) = false := by decide) (hcd : (a == ("__classdict__" : Str)) = false := by decide) : PE X (.Call (.Name a p1) [] [] p2) (tAsk P w K mg base k WA i W) := by
  subst h1 h2 h3 h4 h5
  exact pe_ask tk hr hN hv hd hcd
def rIsC (K : PySem.W.Frag) (cls : Value) (d : Option Addr) (a : Addr) : List V → Hp → VK → Prop := fun xs H Q => ∃ D, cls = .ref D ∧ d = none ∧ ExcC K D ∧ rIsE K D a xs H Q
theorem call_isC {X : Cx} {a : Addr} {oe : Obj} {cls : Value} {d : Option Addr} {pn : List (Addr × Obj)} {K : PySem.W.Frag} (hz : L2N.Zn cls d oe) (hf : ∃ vs, oe.data = .fields vs) (hK : X.K = K := by rfl) : CallR (X.suite a ((a, oe) :: pn)) (.builtin "isinstance") (rIsC K cls d a) := by
  subst hK
  intro pins s σ H xs us Q I r h
  obtain ⟨D, rfl, rfl, hD, h⟩ := h
  exact call_isE hD hz.zc hf pins s σ H xs us Q I r h
theorem hot_suite {X : Cx} {a : Addr} {oe : Obj} {cls : Value} {d : Option Addr} {pn : List (Addr × Obj)} (hz : L2N.Zn cls d oe) (hf : ∃ vs, oe.data = .fields vs) : L2H.HotC (X.suite a ((a, oe) :: pn)) := by
  obtain ⟨vs, hv⟩ := hf
  exact ⟨(a, oe), ⟨rfl, vs, hv, hz.2.2 vs hv⟩, List.mem_cons_self⟩
theorem takesF {X : Cx} : L2N.Takes X (fun _ _ _ _ => False) := fun _ _ ⟨_, _, _, _, _, _, _, _, _, _, _, _, _, _, _, _, z⟩ => z.elim
/-! ### the comprehension's reading -/
structure PickSo (H : Hp) (Dd : Addr) (zs : List (Str × Bool)) (k : Nat) (H1 : Hp) : Prop where
  same : Same H H1
  acc : H1 Dd = some (.lst (((zs.take k).filter (·.2)).map fun p => V.str p.1))
theorem take_filter {zs : List (Str × Bool)} {k : Nat} {x : Str} {b : Bool} (h : zs[k]? = some (x, b)) : ((zs.take (k + 1)).filter (·.2)).map (fun p => V.str p.1) = ((zs.take k).filter (·.2)).map (fun p => V.str p.1) ++ (if b = true then [V.str x] else []) := by
  rw [List.take_add_one, h, List.filter_append, List.map_append]
  cases b <;> rfl
theorem rd_zipH {ta : TA} {σ : L2.St} {i j : Nat} {H : Hp} {ws : List Str} {bs : List Bool} {a b : Addr} {Q : VK} (hs : ∀ Q' : List V → Hp → Prop, Q' [.ref a, .ref b] H → ta σ H Q') (hi : i < σ.length) (hj : j < σ.length) (hij : i ≠ j) (ha : H a = some (.lst (ws.map V.str))) (hb : H b = some (.lst (bs.map V.bl)))
    (hl : ws.length = bs.length) (hn : ws.length < 1000) (hQ : ∀ p H', Same H H' → H' p = some (.lst (((ws.zip bs).filter (·.2)).map fun p => V.str p.1)) → Q (.ref p) H') :
    tLc (iZipL K ta) (gTup K 2 (gCons (gName i) (gCons (gName j) gNil))) (fun σ H Q => tVar j σ H fun x H' => ∃ k, TruV K x H' k ∧ Q k H') (tVar i) [i, j] σ H Q := by
  have hz : (ws.zip bs).length = ws.length := by
    rw [List.length_zip]
    omega
  refine hs _ ⟨a, b, ws.map V.str, bs.map V.bl, rfl, SqL.of ha, SqL.of hb, fun Dd hD => ?_⟩
  have sD : Same H (upd H Dd (.lst [])) := fun c o e => by
    rw [upd_ne (ne_of_none e hD)]
    exact e
  refine ⟨fun k m H2 => m = ws.length - k ∧ k ≤ ws.length ∧ PickSo H Dd (ws.zip bs) k H2, ⟨_, rfl, Nat.zero_le _, ⟨sD, by rw [upd_same]; rfl⟩⟩, ?_⟩
  rintro k m H2 ⟨rfl, hk, S⟩
  have ha2 := S.same _ _ ha
  have hb2 := S.same _ _ hb
  by_cases hlt : k < ws.length
  · have hlt2 : k < bs.length := by omega
    have e1 : (ws.map V.str)[k]? = some (.str ws[k]) := by rw [List.getElem?_map, List.getElem?_eq_getElem hlt]; rfl
    have e2 : (bs.map V.bl)[k]? = some (.bl bs[k]) := by rw [List.getElem?_map, List.getElem?_eq_getElem hlt2]; rfl
    have ez : (ws.zip bs)[k]? = some (ws[k], bs[k]) := by
      rw [List.getElem?_eq_getElem (by rw [hz]; exact hlt), List.getElem_zip]
    refine .inr ⟨⟨_, _, _, _, SqL.of ha2, SqL.of hb2, e1, e2⟩, fun H' => PickSo H Dd (ws.zip bs) (k + 1) H', fun H' p => ⟨_, by omega, rfl, hlt, p⟩, fun x H' y => ?_⟩
    obtain ⟨Tt, x1, y1, rfl, hT, rfl, f1, f2⟩ := y
    have g1 := f1 _ (SqL.of ha2)
    have g2 := f2 _ (SqL.of hb2)
    rw [e1] at g1
    rw [e2] at g2
    cases g1
    cases g2
    have s3 : Same H2 (upd H2 Tt (.tup [.str ws[k], .bl bs[k]])) := fun c o e => by
      rw [upd_ne (ne_of_none e hT)]
      exact e
    refine ⟨Tt, [.str ws[k], .bl bs[k]], rfl, SqT.of upd_same, rfl, _, _, rfl, _, _, rfl, rfl, ?_⟩
    refine ⟨?_, ?_⟩
    · rw [set_wipe2, wipe_set2]
    · rw [set_wipe2]
      refine ⟨.bl bs[k], by rw [List.getElem?_set_self (by rw [List.length_set]; exact hj)], bs[k], rfl, ?_⟩
      have tf := take_filter ez
      cases hbk : bs[k] with
      | false =>
        rw [hbk] at tf s3
        simp only [Bool.false_eq_true, if_false, List.append_nil] at tf ⊢
        exact ⟨S.same.trans s3, by rw [tf]; exact s3 _ _ S.acc⟩
      | true =>
        rw [hbk] at tf s3
        simp only [if_true] at tf ⊢
        refine ⟨.str ws[k], by rw [List.getElem?_set_ne (Ne.symm hij), List.getElem?_set_self hi], _, s3 _ _ S.acc, ?_, ⟨fun c o e => ?_, ?_⟩⟩
        · rw [List.length_map]
          have z1 := List.length_filter_le (·.2) ((ws.zip bs).take k)
          rw [List.length_take] at z1
          have : sizeLine = 16777216 := sizeLine_eq
          omega
        · rw [upd_ne (ne_of_none e hD)]
          exact s3 _ _ (S.same _ _ e)
        · rw [upd_same, tf]
  · have e : k = ws.length := by omega
    subst e
    refine .inl ⟨⟨_, _, SqL.of ha2, SqL.of hb2, .inl (by rw [List.length_map]; exact Nat.le_refl _)⟩, hQ Dd H2 S.same ?_⟩
    have z := S.acc
    rw [← hz, List.take_length] at z
    exact z
theorem pick_one {i : Nat} {C : Addr} {x : Str} (h1 : exCls[i]? = some C) (h2 : wordsL[i]? = some x) : ((wordsL.zip (exCls.map fun D => decide (C = D))).filter (·.2)).map (fun p => V.str p.1) = [V.str x] := by
  match i, h1, h2 with
  | 0, h1, h2 => cases h1; cases h2; rfl
  | 1, h1, h2 => cases h1; cases h2; rfl
  | 2, h1, h2 => cases h1; cases h2; rfl
  | 3, h1, h2 => cases h1; cases h2; rfl
  | 4, h1, h2 => cases h1; cases h2; rfl
  | 5, h1, h2 => cases h1; cases h2; rfl
  | 6, h1, h2 => cases h1; cases h2; rfl
  | 7, h1, h2 => cases h1; cases h2; rfl
  | n + 8, h1, h2 => cases h1
theorem word_len {i : Nat} {x : Str} (h : wordsL[i]? = some x) : x.length ≤ 6 := by
  match i, h with
  | 0, h => cases h; decide
  | 1, h => cases h; decide
  | 2, h => cases h; decide
  | 3, h => cases h; decide
  | 4, h => cases h; decide
  | 5, h => cases h; decide
  | 6, h => cases h; decide
  | 7, h => cases h; decide
  | n + 8, h => cases h
theorem word_shape {i : Nat} {x : Str} (h : wordsL[i]? = some x) : SeqAt.shaped (.list [.str x]) = true := by
  match i, h with
  | 0, h => cases h; decide +kernel
  | 1, h => cases h; decide +kernel
  | 2, h => cases h; decide +kernel
  | 3, h => cases h; decide +kernel
  | 4, h => cases h; decide +kernel
  | 5, h => cases h; decide +kernel
  | 6, h => cases h; decide +kernel
  | 7, h => cases h; decide +kernel
  | n + 8, h => cases h
theorem rd_isC (T : Tx K mg) {σ : L2.St} {H : Hp} {a C D : Addr} {R : VK} (hs : σ[2]? = some (some (.ref a))) {i j : Nat} (hC : exCls[i]? = some C) (hD : exCls[j]? = some D) (q : R (.bl (decide (C = D))) H) : tCB (rIsC K (.ref C) none a) (tCons (tVar 2) (tCons (tC (.ref D)) tNil)) σ H R :=
  ⟨.ref a, hs, C, rfl, rfl, (exA_of T (exF_at T i hC)).ec, .ref D, .ref D, _, rfl, fun _ r => r, kit_at T (List.mem_of_getElem? hC) (List.mem_of_getElem? hD), q⟩
theorem upd2 {H : Hp} {a b : Addr} {o u : HO} (h : H a = some o) (n : H b = none) : upd H b u a = some o := by
  rw [upd_ne (ne_of_none h n)]
  exact h
theorem same_upd {H : Hp} {b : Addr} {u : HO} (n : H b = none) : Same H (upd H b u) := fun _ _ e => upd2 e n
theorem rd_is4 (T : Tx K mg) {σ : L2.St} {H : Hp} {a C D0 D1 D2 D3 : Addr} {R : VK} {i j0 j1 j2 j3 : Nat} (hs : σ[2]? = some (some (.ref a))) (hC : exCls[i]? = some C) (h0 : exCls[j0]? = some D0) (h1 : exCls[j1]? = some D1) (h2 : exCls[j2]? = some D2) (h3 : exCls[j3]? = some D3)
    (q : ∀ p, H p = none → R (.ref p) (upd H p (.lst [.bl (decide (C = D0)), .bl (decide (C = D1)), .bl (decide (C = D2)), .bl (decide (C = D3))]))) :
    tLst (tCons (tCB (rIsC K (.ref C) none a) (tCons (tVar 2) (tCons (tC (.ref D0)) tNil))) (tCons (tCB (rIsC K (.ref C) none a) (tCons (tVar 2) (tCons (tC (.ref D1)) tNil))) (tCons (tCB (rIsC K (.ref C) none a) (tCons (tVar 2) (tCons (tC (.ref D2)) tNil))) (tCons (tCB (rIsC K (.ref C) none a) (tCons (tVar 2) (tCons (tC (.ref D3)) tNil))) tNil)))) σ H R :=
  rd_isC T hs hC h0 (rd_isC T hs hC h1 (rd_isC T hs hC h2 (rd_isC T hs hC h3 ⟨by show 4 ≤ sizeLine; rw [sizeLine_eq]; decide, q⟩)))
theorem sqA {te : TE} {g : TG} {u : TS} {D : Ends} {σ : L2.St} {H : Hp} (h : te σ H fun x H1 => g x σ H1 (u D)) : tSeq (tAsg te g) u D σ H := h
theorem sqN {te : TE} {i : Nat} {u : TS} {D : Ends} {σ : L2.St} {H : Hp} (h : te σ H fun x H1 => u D (σ.set i (some x)) H1) : tSeq (tAsg te (gName i)) u D σ H := h
theorem join_one (a x : Str) : Txt.join a [x] = x := StrLaws.glued_eq_join a [x]
/-! ### _law_said -/
def sp_said (P : Program) (w : World) (K : PySem.W.Frag) (mg : Str → Option Value) (base : Heap) (k : Nat) : Sp := fun vs H Q _ => ∃ f x, vs = [.ref f] ∧ Asks P w K mg base k (TW x) H f ∧ ∀ H', Same H H' → Q (.str x) H'
theorem ok_law_said (T : Tx K mg) (k : Nat) : Fn0 P w K mg base (k + 1) d_law_said p_law_said (sp_said P w K mg base k) := by
  refine FunD.ok (fn_law_said T) s_law_said (fun vs H Q E h => ?_) (fun cdv A outer s H vs Q E hr h => ?_)
  · obtain ⟨f, x, rfl, _⟩ := h
    rfl
  obtain ⟨f, x, rfl, hask, hQ⟩ := h
  have hu : (A.deeper (envOfC d_law_said.qual (defScope d_law_said.st) s.heap.objs.size d_law_said.at_ cdv)).units + 64 < cLine := by
    have z := hr.un
    omega
  refine ⟨_, (pss_cons (ps_set (i := 1) s_law_said.nd rfl (.inl rfl) (pe_lst (pa_cons pe_str (pa_cons pe_str (pa_cons pe_str (pa_cons pe_str (pa_cons pe_str (pa_cons pe_str (pa_cons pe_str (pa_cons pe_str pa_nil)))))))))) (pss_cons (ps_try_asL (i := 2) rfl rfl s_law_said.nd rfl rfl takesF
    (fun W pn xe tk => pss_one (ps_expr (pe_askK (WA := TW x) (i := 0) tk hr rfl (.inl rfl))))
    (HdsAs.cons ⟨rfl, by decide, .inl (mg_NoWorld T)⟩ (fun a oe cls d pn hz hf => pss_one (ps_ret (pe_xf (xf_NoWorld T) (no_what T) hz.zc hf (pv 2))))
    (HdsAs.cons ⟨rfl, by decide, .inl (mg_FadeError T)⟩ (fun a oe cls d pn hz hf =>
      pss_cons (ps_set (i := 3) s_law_said.nd rfl (.inl rfl) (pe_lst (pa_cons (pe_callB (call_isC hz hf) rfl (mf_isinstance T) boot_isi (pa_cons (pv 2) (pa_cons (pe_glob (v := .ref c_NoStand) rfl (mg_NoStand T) rfl) pa_nil))) (pa_cons (pe_callB (call_isC hz hf) rfl (mf_isinstance T) boot_isi (pa_cons (pv 2) (pa_cons (pe_glob (v := .ref c_NoBox) rfl (mg_NoBox T) rfl) pa_nil))) (pa_cons (pe_callB (call_isC hz hf) rfl (mf_isinstance T) boot_isi (pa_cons (pv 2) (pa_cons (pe_glob (v := .ref c_NoRule) rfl (mg_NoRule T) rfl) pa_nil))) (pa_cons (pe_callB (call_isC hz hf) rfl (mf_isinstance T) boot_isi (pa_cons (pv 2) (pa_cons (pe_glob (v := .ref c_NoWish) rfl (mg_NoWish T) rfl) pa_nil))) pa_nil))))))
      (pss_cons (ps_set (i := 3) s_law_said.nd rfl (.inl rfl) (pe_op op_cat (pv 3) (pe_lst (pa_cons (pe_callB (call_isC hz hf) rfl (mf_isinstance T) boot_isi (pa_cons (pv 2) (pa_cons (pe_glob (v := .ref c_NoCount) rfl (mg_NoCount T) rfl) pa_nil))) (pa_cons (pe_callB (call_isC hz hf) rfl (mf_isinstance T) boot_isi (pa_cons (pv 2) (pa_cons (pe_glob (v := .ref c_NoWalker) rfl (mg_NoWalker T) rfl) pa_nil))) (pa_cons (pe_callB (call_isC hz hf) rfl (mf_isinstance T) boot_isi (pa_cons (pv 2) (pa_cons (pe_glob (v := .ref c_NoRoom) rfl (mg_NoRoom T) rfl) pa_nil))) (pa_cons (pe_callB (call_isC hz hf) rfl (mf_isinstance T) boot_isi (pa_cons (pv 2) (pa_cons (pe_glob (v := .ref c_NoLife) rfl (mg_NoLife T) rfl) pa_nil))) pa_nil)))))))
      (pss_cons (ps_setLcZH (i := 4) (own := [("_law_word", 5), ("_law_one", 6)]) (g := gCons (gName 5) (gCons (gName 6) gNil)) rfl (hot_suite hz hf) s_law_said.nd rfl rfl (sw_true rfl rfl rfl (by decide +kernel)) rfl (mf_zip T) (pa_cons (pv 1) (pa_cons (pv 3) pa_nil)) (blkOk_by (own := [("_law_word", 5), ("_law_one", 6)]) (N := n_law_said) (sc := defScope d_law_said.st) (by decide +kernel))
        (fun _ _ _ _ _ => (pgs_cons (pg_name (i := 5) s_law_said.nd rfl (.inl rfl)) (pgs_cons (pg_name (i := 6) s_law_said.nd rfl (.inl rfl)) pgs_nil))) (fun _ _ => rfl) (fun _ _ => rfl) (fun _ _ _ _ _ => (pts_one (pt_truthK (pv 6) (by intro _; rfl)))) (fun _ _ _ _ _ => (pv 5)))
      (pss_one (ps_ret (pe_bmK PySem.F.plainAttrs_str PySem.F.slot_str_join PySem.F.type_str_join mt_joinK pe_str (pa_cons (pe_op op_cat (pv 4) (pe_op op_rep (pe_lst (pa_cons pe_str pa_nil)) (pe_callTy call_int1 rfl (mf_int T) boot_int1 (pa_cons (pe_cmpR (op_eqDK hu) (pv 4) (pe_lst pa_nil) (nomark _)) pa_nil)))) pa_nil)))))))
    .nil))) (pss_one (ps_ret pe_str)))), ?_⟩
  refine ⟨by show 8 ≤ sizeLine; rw [sizeLine_eq]; decide, fun p n0 => ?_⟩
  have s0 := same_upd (u := .lst (wordsL.map V.str)) n0
  refine ⟨f, rfl, hask.mono s0, fun cls d H1 s1 tw => ?_⟩
  have e0 : H1 p = some (.lst (wordsL.map V.str)) := s1 _ _ upd_same
  have s01 := s0.trans s1
  rcases tw with ⟨rfl, dd, rfl, hdd⟩ | ⟨rfl, i, C, hC, hx, rfl⟩
  · exact ⟨true, nw_self T, fun _ a na => ⟨.ref a, rfl, rfl, rfl, dd, _, .str x, rfl, hdd, rfl, hQ _ s01⟩, fun h => by cases h⟩
  · have xA := exA_of T (exF_at T i hC)
    refine ⟨false, xA.nw, (fun h => by cases h), fun _ => ⟨true, xA.fd, fun _ a na => ?_, fun h => by cases h⟩⟩
    refine sqN ?_
    refine rd_is4 T rfl hC (j0 := 0) (j1 := 1) (j2 := 2) (j3 := 3) rfl rfl rfl rfl fun p1 n1 => ?_
    refine sqN ⟨.ref p1, rfl, ?_⟩
    refine rd_is4 T rfl hC (j0 := 4) (j1 := 5) (j2 := 6) (j3 := 7) rfl rfl rfl rfl fun p2 n2 => ?_
    refine ⟨p1, p2, _, _, rfl, rfl, upd2 upd_same n2, upd_same, by show 4 + 4 ≤ sizeLine; rw [sizeLine_eq]; decide, fun p3 n3 => ?_⟩
    refine sqN ?_
    refine rd_zipH (ws := wordsL) (bs := exCls.map fun D => decide (C = D)) (a := p) (b := p3) (fun Q' q => ⟨.ref p, rfl, .ref p3, rfl, q⟩) (show 5 < 7 by decide) (show 6 < 7 by decide) (by decide) (upd2 (upd2 (upd2 e0 n1) n2) n3) upd_same rfl (by decide) fun p4 H4 s4 e4 => ?_
    rw [pick_one hC hx] at e4
    have sH : Same H H4 := s01.trans (((same_upd n1).trans ((same_upd n2).trans (same_upd n3))).trans s4)
    refine ⟨rfl, .ref p4, rfl, by show 1 ≤ sizeLine; rw [sizeLine_eq]; decide, fun p5 n5 => ?_⟩
    have e45 := upd2 (u := .lst [V.str "other"]) e4 n5
    refine ⟨.ref p4, rfl, Nat.zero_le _, fun p6 n6 => ?_⟩
    refine ⟨.list [.str x], .list [], .lst (SqL.of (upd2 e45 n6)) (.cons (.str x) .nil), .lst (SqL.of upd_same) .nil, word_shape hx, rfl, .inr ⟨false, rfl, ?_⟩⟩
    refine ⟨p5, 0, _, rfl, rfl, upd2 upd_same n6, by decide, by decide, Nat.zero_le _, fun p7 n7 => ?_⟩
    refine ⟨p4, p7, _, _, rfl, rfl, upd2 (upd2 e45 n6) n7, upd_same, by show 1 + 0 ≤ sizeLine; rw [sizeLine_eq]; decide, fun p8 n8 => ?_⟩
    refine ⟨" ", p8, [x], rfl, rfl, .inl (SqL.of upd_same), ?_, ?_⟩
    · have z := word_len hx
      show x.length + 0 + 1 * 1 ≤ 16777216
      omega
    · rw [join_one]
      exact hQ _ (sH.trans ((same_upd n5).trans ((same_upd n6).trans ((same_upd n7).trans (same_upd n8)))))
end
end Pw
set_option Elab.async false
set_option linter.all false
set_option maxRecDepth 100000
set_option maxHeartbeats 400000
/-! Asking all. -/
namespace Pw
open PySem PySem.Spec PyProof.Rows L2 LamX
section
variable {P : Program} {w : World} {K : PySem.W.Frag} {mg : Str → Option Value} {base : Heap}
theorem retI {te : TE} {D : Ends} {σ : L2.St} {H : Hp} (h : te σ H D.rt) : tRet te D σ H := h
theorem opI {r : R2} {ta tb : TE} {Q : VK} {σ : L2.St} {H : Hp} (h : ta σ H fun x H1 => tb σ H1 fun y H2 => r x y H2 Q) : tOp r ta tb σ H Q := h
/-- f(one) for one in a list -/
theorem rd_mapL {tl te : TE} {σ : L2.St} {j : Nat} {H : Hp} {xs : List V} {g : V → V} {a : Addr} {Q : VK} (hs : ∀ Q' : VK, Q' (.ref a) H → tl σ H Q') (ha : H a = some (.lst xs)) (hl : xs.length < 1000)
    (hg : ∀ H1 x (Q' : VK), Same H H1 → x ∈ xs → (∀ H2, Same H1 H2 → Q' (g x) H2) → te (σ.set j (some x)) H1 Q') (hQ : ∀ p H', Same H H' → H' p = some (.lst (xs.map g)) → Q (.ref p) H') :
    tLc (iList K tl) (gName j) tYes te [j] σ H Q := by
  refine hs _ ⟨a, rfl, ⟨xs, SqL.of ha⟩, fun Dd hD => ?_⟩
  have sD : Same H (upd H Dd (.lst [])) := same_upd hD
  refine lc_list (xs := xs) (fun i H1 => Same H H1 ∧ H1 Dd = some (.lst ((xs.take i).map g))) ⟨sD, by rw [upd_same]; rfl⟩ (fun k H1 _ S => SqL.of (S.1 _ _ ha)) (fun k x H1 hx1 S => ?_) (fun H1 S => ?_)
  · show _ ∧ _
    refine ⟨?_, ?_⟩
    · show wipe ((wipe σ [j]).set j (some x)) [j] = wipe σ [j]
      rw [set_wipe1, wipe_set1]
    · show if true = true then te ((wipe σ [j]).set j (some x)) H1 _ else (Same H H1 ∧ H1 Dd = some (.lst ((xs.take (k + 1)).map g)))
      refine iteT ?_
      rw [set_wipe1]
      refine hg H1 x _ S.1 (List.mem_of_getElem? hx1) fun H2 s2 => ⟨_, s2 _ _ S.2, ?_, fun b o e => ?_, ?_⟩
      · rw [List.length_map, List.length_take]
        have : sizeLine = 16777216 := sizeLine_eq
        omega
      · rw [upd_ne (ne_of_none e hD)]
        exact s2 _ _ (S.1 _ _ e)
      · rw [upd_same, List.take_add_one, hx1, List.map_append]
        rfl
  · exact hQ Dd H1 S.1 (by rw [S.2, List.take_length])
/-! ### _law_all -/
def sp_all (P : Program) (w : World) (K : PySem.W.Frag) (mg : Str → Option Value) (base : Heap) : Sp := fun vs H Q _ => ∃ (p : Addr) (fs : List Addr) (x : Str), vs = [.ref p, .str x] ∧ H p = some (.lst (fs.map V.ref)) ∧ fs.length < 1000 ∧ SeqAt.shaped (.list (List.replicate fs.length (.str x))) = true ∧
  PyData.eqv (.list (List.replicate fs.length (.str x))) (.list (List.replicate fs.length (.str x))) = true ∧ (∀ f ∈ fs, Asks P w K mg base 21 (TW x) H f) ∧ ∀ H', Same H H' → Q (.bl true) H'
theorem ok_said21 (T : Tx K mg) : Fn0 P w K mg base 22 d_law_said p_law_said (sp_said P w K mg base 21) := ok_law_said T 21
theorem dp_reps {H : Hp} {x : Str} : ∀ n, DpAll K H (List.replicate n (.str x)) (List.replicate n (.str x))
  | 0 => .nil
  | n + 1 => .cons (.str x) (dp_reps n)
theorem ok_law_all (T : Tx K mg) : Fn0 P w K mg base 23 d_law_all p_law_all (sp_all P w K mg base) := by
  refine FunD.ok (fn_law_all T) s_law_all (fun vs H Q E h => ?_) (fun cdv A outer s H vs Q E hr h => ?_)
  · obtain ⟨p, fs, x, rfl, _⟩ := h
    rfl
  obtain ⟨p, fs, x, rfl, hp, hn, hsh, heq, hask, hQ⟩ := h
  have hu : (A.deeper (envOfC d_law_all.qual (defScope d_law_all.st) s.heap.objs.size d_law_all.at_ cdv)).units + 64 < cLine := by
    have z := hr.un
    omega
  refine ⟨_, (pss_one (ps_ret (pe_cmpR (op_eqD hu) (pe_lc (own := [("_law_ask", 2)]) (g := gName 2) rfl s_law_all.nd (pi_list (pv 0)) (blkOk_by (own := [("_law_ask", 2)]) (N := n_law_all) (sc := defScope d_law_all.st) (by decide +kernel)) (fun _ _ _ _ _ => (pg_name (i := 2) s_law_all.nd rfl (.inl rfl))) (fun _ _ _ _ _ => pts_nil) (fun _ _ _ _ _ => (pe_call (ok_said21 (P := P) (w := w) (base := base) T) (hr.mono (by decide)) rfl (mg_law_said T) (fn_law_said T).kp (b_law_said T) .nil pass0 (pa_cons (pv 2) pa_nil)))) (pe_op op_rep (pe_lst (pa_cons (pv 1) pa_nil)) (pe_callB call_len rfl (mf_len T) boot_len1 (pa_cons (pv 0) pa_nil))) (nomark _)))), ?_⟩
  have hsz : sizeLine = 16777216 := sizeLine_eq
  refine retI (opI ?_)
  refine rd_mapL (g := fun _ => .str x) (var_is rfl) hp (by rw [List.length_map]; exact hn) (fun H1 v Q' s1 hv q => ?_) fun p1 H1 s1 e1 => ?_
  · obtain ⟨f, hf, rfl⟩ := List.mem_map.mp hv
    exact ⟨_, rfl, f, x, rfl, (hask f hf).mono s1, q⟩
  · rw [show (fs.map V.ref).map (fun _ => V.str x) = List.replicate fs.length (V.str x) by rw [List.map_const', List.length_map]] at e1
    refine ⟨_, rfl, by show 1 ≤ sizeLine; omega, fun p2 n2 => ?_⟩
    have hp2 := upd2 (u := .lst [V.str x]) (s1 _ _ hp) n2
    refine ⟨_, rfl, _, _, rfl, .inl ⟨_, SqL.of hp2, rfl⟩, ?_⟩
    refine ⟨p2, _, _, rfl, rfl, upd_same, by omega, ?_, ?_, fun p3 n3 => ?_⟩
    · rw [List.length_map]
      omega
    · rw [List.length_map, Int.toNat_natCast]
      show 1 * fs.length ≤ sizeLine
      omega
    · have er : (List.replicate (((fs.map V.ref).length : Nat) : Int).toNat [V.str x]).flatten = List.replicate fs.length (V.str x) := by
        rw [List.length_map, Int.toNat_natCast]
        induction fs.length with
        | zero => rfl
        | succ n ih => rw [List.replicate_succ, List.replicate_succ, List.flatten_cons, ih]; rfl
      refine ⟨.list (List.replicate fs.length (.str x)), .list (List.replicate fs.length (.str x)), .lst (SqL.of (upd2 (upd2 e1 n2) n3)) (dp_reps _), .lst (SqL.of (by rw [upd_same, er])) (dp_reps _), hsh, hsh, ?_⟩
      rw [heq]
      exact hQ _ (s1.trans ((same_upd n2).trans (same_upd n3)))
end
end Pw
set_option Elab.async false
set_option linter.all false
set_option maxRecDepth 100000
set_option maxHeartbeats 400000
/-! NoWorld, whose __init__ calls FadeError.__init__ and keeps what it is told. -/
namespace Pw
open PySem PySem.Spec PyProof.Rows L2
section
variable {P : Program} {w : World} {K : PySem.W.Frag} {mg : Str → Option Value} {base : Heap}
theorem refs_tail : ∀ l : List Value, PySem.W.excTail veB l = true → PySem.HandSPX.refsVE l = true := by
  intro l
  induction l with
  | nil => intro h; exact h
  | cons a r ih =>
    intro h
    rcases PySem.W.excTail_cases (a :: r) h with ⟨c, r', q, h'⟩ | q
    · obtain ⟨rfl, rfl⟩ := List.cons.inj q
      exact ih h'
    · rw [q]
      decide
theorem oex_NoWorld (T : Tx K mg) : OexC K c_NoWorld := by
  refine ⟨?_, isO_eq (T.ck 8 rfl), of_decide_eq_true (T.ck 9 rfl), of_decide_eq_true (T.ck 10 rfl), T.ck 11 rfl⟩
  have q : PySem.W.excInitIn K c_NoWorld veB "ValueError.__new__" = true := T.ck 6 rfl
  have hd : PySem.W.hasDictIn K c_NoWorld = true := T.ck 7 rfl
  unfold PySem.W.excInitIn at q
  split at q
  · rename_i dd cd sl ho
    split at q
    · rename_i C' bm k0 k1 k2 k3 n k5 hm hs
      simp only [Bool.and_eq_true, beq_iff_eq, Bool.not_eq_true'] at q
      obtain ⟨⟨⟨rfl, rfl⟩, hdel⟩, ht⟩ := q
      have hdc : cd.hasDict = true := by
        unfold PySem.W.hasDictIn PySem.W.clsIn at hd
        rw [ho] at hd
        simpa using hd
      obtain ⟨nm, bs, mro, ns, qn, hd, sn, sub, ab, col, del⟩ := cd
      dsimp only at hm hdel hdc
      subst hm hdel hdc
      have hsl : sl = #[k0, k1, k2, k3, some (.builtin "ValueError.__new__"), k5] := by
        obtain ⟨l⟩ := sl
        simp only at hs
        rw [hs]
      subst hsl
      exact ⟨nm, qn, ns, bs, bm, sn, sub, ab, col, dd, k0, k1, k2, k3, k5, ho, refs_tail bm ht⟩
    · cases q
  · cases q
theorem fd_get (T : Tx K mg) : PySem.W.specialIn K (.ref c_FadeError) "__getattribute__" = some (some (.builtin "type.__getattribute__")) := isO_eq (T.ck 2 rfl)
theorem fd_init (T : Tx K mg) : PySem.W.findCls K (.ref c_FadeError) (.type "type") "__init__" = some (.val (.builtin "ValueError.__init__")) := by
  have q : (match PySem.W.findCls K (.ref c_FadeError) (.type "type") "__init__" with | some (.val (.builtin s)) => decide (s = "ValueError.__init__") | _ => false) = true := T.ck 5 rfl
  split at q
  · rename_i z e
    rw [e, of_decide_eq_true q]
  · cases q
/-- FadeError.__init__(self, ..) -/
theorem pe_fdinit {X : Cx} {e : Expr} {es : List Expr} {ta : TA} {p1 p2 pos : Pos} {pl : Sem Bool} (T : Tx K mg) (ha : PA X (e :: es) ta) (hK : X.K = K := by rfl) (hg : Gl X "FadeError" := by rfl) (hm : X.mg "FadeError" = some (.ref c_FadeError))
    (hc : eval (.Call (.Attribute (.Name "FadeError" p1) "__init__" p2) (e :: es) [] pos) X.env = (do
      let ov ← eval (.Name "FadeError" p1) X.env
      standAt p2.atName
      let (f, first) ← holding [ov] (getMethod ov "__init__" pl)
      callWith pos f first (backTo pos (starEach (e :: es) X.env)) (backToKw pos (keywordEach [] X.env))) := by rfl)
    (he : starEach (e :: es) X.env = (false, eval e X.env) :: starEach es X.env := by rfl) (hpl : (backTo pos (starEach es X.env)).any (·.1) = false := by rfl) :
    PE X (.Call (.Attribute (.Name "FadeError" p1) "__init__" p2) (e :: es) [] pos) (tVeI K ta) := by
  subst hK
  refine ⟨fun pins s σ H Q I h => ?_⟩
  refine PySem.W.methodCall_KW (ld_glob I hg hm ?_ (by decide)) hc
  refine PySem.W.method_cls I.kIn (fd_get T) (PySem.W.cls_value I.kIn (T.ck 4 rfl) (fd_init T) rfl ?_)
  show wpAny _ _ (callWith pos (Value.builtin "ValueError.__init__") [] (backTo pos (starEach (e :: es) X.env)) []) _ _ _
  refine PyProof.Rows.callWith_method1 (thn (ha.run pos pins _ σ H _ (I.tok _) h) fun us s1 ⟨vs, H1, I1, r1, a, C, ws, ev, hl, TC, ea, q⟩ => ?_) he hpl
  subst ev
  cases r1 with
  | @cons _ u0 _ ur ra rw' =>
    obtain rfl : u0 = Value.ref a := ra
    have hlen : ur.length ≤ sizeLine := by
      rw [← Paired.length rw', sizeLine_eq]
      omega
    exact oinit_ok TC I1 ea hlen fun s' J => ⟨.non, H1, J, rfl, q⟩
def sp_nwinit : Sp := fun vs H Q _ => ∃ a x, vs = [.ref a, .str x] ∧ H a = some (exo a c_NoWorld none) ∧ ∀ dx, H dx = none → dx ≠ a → Q .non (upd (upd H dx (exd dx [("what", .str x)])) a (exo a c_NoWorld (some dx)))
theorem ok_NoWorld_init (T : Tx K mg) : FnX P w K mg base 1 d_NoWorld_init p_NoWorld_init sp_nwinit := by
  refine FunD.ok (fn_NoWorld_init T) s_NoWorld_init (fun vs H Q E h => ?_) (fun cdv A outer s H vs Q E hr h => ?_)
  · obtain ⟨a, x, rfl, _⟩ := h
    rfl
  obtain ⟨a, x, rfl, ha, hQ⟩ := h
  refine ⟨_, pss_cons (ps_expr (pe_fdinit (hm := mg_FadeError T) T (pa_cons (pv 0) (pa_cons pe_str pa_nil)))) (pss_one (ps_ost (pv 0) (pv 1))), ?_⟩
  refine ⟨.ref a, rfl, a, c_NoWorld, _, rfl, by show 1 ≤ 1000; decide, oex_NoWorld T, ha, ?_⟩
  exact ⟨.str x, rfl, .ref a, rfl, a, c_NoWorld, rfl, oex_NoWorld T, no_what T, .inl ⟨ha, hQ⟩⟩
/-- NoWorld(e) -/
theorem pmk_nw {X : Cx} {e : Expr} {ta : TA} {p pos : Pos} (T : Tx X.K X.mg) (hr : Room 2 X.A) (ha : PA X [e] ta) (hg : Gl X "NoWorld" := by rfl) (hx : Passes (L2N.CX X.prog X.w) X (fun _ _ _ => False) := by exact fun _ _ _ _ _ _ _ ⟨_, _, _, _, _, _, _, _, _, _, _, _, z⟩ => z.elim)
    (he : starEach [e] X.env = (false, eval e X.env) :: starEach [] X.env := by rfl) (hpl : (backTo pos (starEach [] X.env)).any (·.1) = false := by rfl) :
    L2N.PMk X (.Call (.Name "NoWorld" p) [e] [] pos) (fun σ H Q => ta σ H fun vs H1 => ∃ x, vs = [.str x] ∧ ∀ d, H1 d = none → Q (.ref c_NoWorld) (some d) (upd H1 d (.xd [("what", .str x)]))) := by
  intro pins s σ H Q I h
  have TC := oex_NoWorld T
  obtain ⟨nm, q, N, bs, bm, sn, sub, ab, col, dd, k0, k1, k2, k3, k5, hC, hbm⟩ := TC.cls
  have iC : PySem.W.findIn X.K (.ref c_NoWorld) "__init__" = some (some (.ref m_NoWorld_init)) := isO_eq (T.ck 14 rfl)
  have tI : PySem.W.typeIn X.K (.ref m_NoWorld_init) = some (.type "function") := of_decide_eq_true (T.ck 15 rfl)
  have F1 := ok_NoWorld_init (P := X.prog) (w := X.w) (base := X.base) T
  refine wpAny_Call_Name_kw (ld_glob I hg (mg_NoWorld T) ?_ (by decide))
  refine PySem.W.callWith_K (h₀ := X.base) I.ok.mod.kin TC.kC (thn (ha.run pos pins s σ H _ I h) fun us s1 ⟨vs, H1, I1, r1, x, ex, q1⟩ => ⟨I1.kIn, ?_⟩) he hpl
  subst ex
  show wpAny _ _ (call (.ref c_NoWorld) us) _ _ _
  obtain ⟨hp, g, dr, tk, os⟩ := s1
  have hsz : hp.objs.size ≤ hp.objs.size + 1 := Nat.le_succ _
  have hn : H1 (hp.objs.size + 1) = none := I1.hok.fresh hsz
  generalize hC0 : c_NoWorld = C0 at *
  have hget : ((hp.push (PySem.W.kdv_tup us)).push (PySem.HandSPX.excO C0 hp.objs.size)).get? (hp.objs.size + 1) = some (PySem.HandSPX.excO C0 hp.objs.size) := by heap_get
  have kk : ∀ b o, hp.get? b = some o → ((hp.push (PySem.W.kdv_tup us)).push (PySem.HandSPX.excO C0 hp.objs.size)).get? b = some o := fun b o e => Heap.get?_push_of_some _ (Heap.get?_push_of_some _ e)
  have I2 := I1.laid (t' := tk) (a := hp.objs.size + 1) (o := exo (hp.objs.size + 1) C0 none) kk hsz (exo_ok hget)
  have r2 : Vals [V.ref (hp.objs.size + 1), .str x] (Value.ref (hp.objs.size + 1) :: us) := .cons rfl r1
  have hus : us.length = 1 := by rw [← r1.length]; rfl
  have sp1 : sp_nwinit [V.ref (hp.objs.size + 1), .str x] (upd H1 (hp.objs.size + 1) (exo (hp.objs.size + 1) C0 none)) (fun v H2 => v = .non ∧ ∃ d, H1 d = none ∧ d ≠ hp.objs.size + 1 ∧ H2 = upd (upd (upd H1 (hp.objs.size + 1) (exo (hp.objs.size + 1) C0 none)) d (exd d [("what", .str x)])) (hp.objs.size + 1) (exo (hp.objs.size + 1) C0 (some d))) (fun _ _ _ => False) := by
    subst hC0
    refine ⟨_, x, rfl, upd_same, fun dx n ne => ⟨rfl, dx, ?_, ne, rfl⟩⟩
    rw [upd_ne ne] at n
    exact n
  have b2 := b_NoWorld_init T _ (Value.ref (hp.objs.size + 1) :: us) I2.kIn (by rw [List.append_nil, List.length_cons, hus]; rfl)
  rw [List.append_nil] at b2
  refine wpAny_call (PySem.HandSPX.call_own F.excBase_ValueError (fun Y => PySem.HandSPX.refsVE_contains Y bm hbm) (I1.kIn _ _ hC) (PySem.W.looks_findIn I1.kIn iC) (fun self => PySem.W.bind_fn I1.kIn self tI) (by rw [hus, sizeLine_eq]; decide)
    (codeAny_mono (F1.run _ X.stack _ _ ⟨Value.ref (hp.objs.size + 1) :: us, []⟩ (Value.ref (hp.objs.size + 1) :: us) _ _ (fun _ _ _ => False) (hr.make C0 us []) (I2.env0.make C0 us []) b2 r2 sp1) fun r s' hq' => ?_))
  cases r with
  | error er => exact hx pins σ _ _ er s' I2 hq'
  | ok fl =>
    cases fl with
    | ret u =>
      obtain ⟨v, H2, os2, bare2, un2, hok2, rv, ev, d, hd1, hda, eH⟩ := hq'
      subst ev
      subst eH
      obtain ⟨h2, g2, d2, t2, os'⟩ := s'
      obtain ⟨t0, G, J, kG, ge, hoe, na⟩ := mk_end0 (d2 := d2) (t2 := t2) I1 hsz kk un2 hok2 os2 bare2 (d := d) (fs := [("what", .str x)]) upd_same (by rw [upd_ne hda, upd_same]) hd1
      have eF : upd (del (upd (upd (upd H1 (hp.objs.size + 1) (exo (hp.objs.size + 1) C0 none)) d (exd d [("what", .str x)])) (hp.objs.size + 1) (exo (hp.objs.size + 1) C0 (some d))) (hp.objs.size + 1)) d (.xd [("what", .str x)]) = upd H1 d (.xd [("what", .str x)]) := by
        funext b
        by_cases h1 : b = d
        · subst h1
          rw [upd_same, upd_same]
        · rw [upd_ne h1, upd_ne h1]
          by_cases h2 : b = hp.objs.size + 1
          · rw [h2, del_same, hn]
          · rw [del_ne h2, upd_ne h2, upd_ne h1, upd_ne h2]
      rw [eF] at J na
      exact ⟨rv, hp.objs.size + 1, _, _, ⟨G, g2, d2, t2, os'⟩, _, .ref C0, some d, rfl, J, kG, ge, hoe, ⟨rfl, rfl, fun vs hv => by cases hv; rfl⟩, rfl, rfl, na, rfl, bare2, raises_own TC.exC TC.tyC, q1 d hd1⟩
    | next => exact False.elim hq'
    | brk => exact False.elim hq'
    | cont => exact False.elim hq'
end
end Pw
set_option Elab.async false
set_option linter.all false
set_option maxRecDepth 100000
set_option maxHeartbeats 400000
/-! A world is made, or refused. -/
namespace Pw
open PySem PySem.Spec PyProof.Rows L2
/-- refused as no world, what is told is x -/
def RaisesW (x : Str) (H : Hp) (E : XK) : Prop := ∀ H' dd, Same H H' → H' dd = some (.xd [("what", .str x)]) → E (.ref c_NoWorld) (some dd) H'
section
variable {P : Program} {w : World} {K : PySem.W.Frag} {mg : Str → Option Value} {base : Heap}
def sp_sure_floor : Sp := fun vs H Q E => ∃ t l dw dl, vs = [t, l] ∧ Dn H dw t ∧ waysOk dw = true ∧ Dn H dl l ∧ (isWhole 1 6 dl = true → ∀ H', Same H H' → Q .non H') ∧ (isWhole 1 6 dl = false → RaisesW "life" H E)
theorem ok_sure_floor (T : Tx K mg) : FnX P w K mg base 3 d_sure_floor p_sure_floor sp_sure_floor := by
  refine FunD.ok (fn_sure_floor T) s_sure_floor (fun vs H Q E h => ?_) (fun cdv A outer s H vs Q E hr h => ?_)
  · obtain ⟨t, l, dw, dl, rfl, _⟩ := h
    rfl
  obtain ⟨t, l, dw, dl, rfl, hd, hw, hl, h1, h2⟩ := h
  refine ⟨_, (pss_cons (ps_if (pt_not (pt_val (pe_call (ok_are_ways T) (hr.mono (by decide)) rfl (mg_are_ways T) (fn_are_ways T).kp (b_are_ways T) .nil pass0 (pa_cons (pv 0) pa_nil)))) (pss_one (L2N.ps_raise rfl (L2N.takes_of rfl rfl rfl rfl) (pmk_nw T (hr.mono (by decide)) (pa_cons pe_str pa_nil)))) pss_nil) (pss_one (ps_if (pt_not (pt_val (pe_call (ok_is_whole T) (hr.mono (by decide)) rfl (mg_is_whole T) (fn_is_whole T).kp (b_is_whole T) .nil pass0 (pa_cons (pv 1) (pa_cons pe_int (pa_cons (pe_gint (mi_MOST_LIFE T)) pa_nil)))))) (pss_one (L2N.ps_raise rfl (L2N.takes_of rfl rfl rfl rfl) (pmk_nw T (hr.mono (by decide)) (pa_cons pe_str pa_nil)))) pss_nil))), ?_⟩
  refine ⟨_, rfl, t, dw, rfl, hd, hw, fun H1 s1 => ⟨_, rfl, iteF ?_⟩⟩
  refine ⟨_, rfl, l, 1, 6, dl, rfl, Dn.mono s1 _ _ hl, ⟨_, rfl, ?_⟩⟩
  cases c : isWhole 1 6 dl with
  | true => exact iteF (h1 c H1 s1)
  | false => exact iteT ⟨_, rfl, fun d n => h2 c _ d (s1.trans (same_upd n)) upd_same⟩
def sp_sure_marks : Sp := fun vs H Q E => ∃ t l m dw dl, vs = [t, l, m] ∧ Dn H dw t ∧ waysOk dw = true ∧ Dn H dl l ∧ isWhole 1 6 dl = false ∧ RaisesW "life" H E
theorem ok_sure_marks (T : Tx K mg) : FnX P w K mg base 4 d_sure_marks p_sure_marks sp_sure_marks := by
  refine FunD.ok (fn_sure_marks T) s_sure_marks (fun vs H Q E h => ?_) (fun cdv A outer s H vs Q E hr h => ?_)
  · obtain ⟨t, l, m, dw, dl, rfl, _⟩ := h
    rfl
  obtain ⟨t, l, m, dw, dl, rfl, hd, hw, hl, hb, hE⟩ := h
  refine ⟨_, (pss_cons (ps_expr (pe_call (ok_sure_floor T) (hr.mono (by decide)) rfl (mg_sure_floor T) (fn_sure_floor T).kp (b_sure_floor T) .nil passN (pa_cons (pv 0) (pa_cons (pv 1) pa_nil)))) pss_never), ?_⟩
  exact ⟨_, rfl, _, rfl, t, l, dw, dl, rfl, hd, hw, hl, (fun z => by rw [hb] at z; cases z), fun _ => hE⟩
def sp_Winit : Sp := fun vs H Q E => ∃ a dx t l r dw dl dr, vs = [.ref a, t, l, r] ∧ H a = some (.ins c_World dx []) ∧ Dn H (.lst dw) t ∧ waysOk (.lst dw) = true ∧ Dn H dl l ∧ Dn H (.lst dr) r ∧ (isWhole 1 6 dl = false → RaisesW "life" H E) ∧ (isWhole 1 6 dl = true → rulesOk (.lst dr) = false → RaisesW "rules" H E) ∧
  (isWhole 1 6 dl = true → rulesOk (.lst dr) = true → ∀ H' f g xs ys, Same (del H a) (del H' a) → H' a = some (.ins c_World dx [("floor", .ref f), ("lasting", l), ("wanted", .ref g)]) → H' f = some (.tup xs) → xs.length = dw.length → H' g = some (.tup ys) → ys.length = dr.length → Q .non H')
theorem ok_World_init (T : Tx K mg) : FnX P w K mg base 5 d_World_init p_World_init sp_Winit := by
  refine FunD.ok (fn_World_init T) s_World_init (fun vs H Q E h => ?_) (fun cdv A outer s H vs Q E hr h => ?_)
  · obtain ⟨a, dx, t, l, r, dw, dl, dr, rfl, _⟩ := h
    rfl
  obtain ⟨a, dx, t, l, r, dw, dl, dr, rfl, ha, hd, hw, hl, hd2, hlife, hrules, hQ⟩ := h
  refine ⟨_, (pss_cons (ps_expr (pe_call (ok_sure_floor T) (hr.mono (by decide)) rfl (mg_sure_floor T) (fn_sure_floor T).kp (b_sure_floor T) .nil passN (pa_cons (pv 1) (pa_cons (pv 2) pa_nil)))) (pss_cons (ps_if (pt_not (pt_val (pe_call (ok_are_rules T) (hr.mono (by decide)) rfl (mg_are_rules T) (fn_are_rules T).kp (b_are_rules T) .nil pass0 (pa_cons (pv 3) pa_nil)))) (pss_one (L2N.ps_raise rfl (L2N.takes_of rfl rfl rfl rfl) (pmk_nw T (hr.mono (by decide)) (pa_cons pe_str pa_nil)))) pss_nil) (pss_cons (ps_fld (pv 0) (pe_callTy call_tuple_of rfl (mf_tuple T) boot_tuple1 (pa_cons (pv 1) pa_nil)) rfl) (pss_cons (ps_fld (pv 0) (pv 2) rfl) (pss_one (ps_fld (pv 0) (pe_callTy call_tuple_of rfl (mf_tuple T) boot_tuple1 (pa_cons (pv 3) pa_nil)) rfl)))))), ?_⟩
  refine ⟨_, rfl, _, rfl, t, l, .lst dw, dl, rfl, hd, hw, hl, fun c1 H1 s1 => ?_, hlife⟩
  refine ⟨_, rfl, r, .lst dr, rfl, Dn.mono s1 _ _ hd2, fun H2 s2 => ⟨_, rfl, ?_⟩⟩
  have s12 := s1.trans s2
  cases c2 : rulesOk (.lst dr) with
  | false => exact iteT ⟨_, rfl, fun d n => hrules c1 c2 _ d (s12.trans (same_upd n)) upd_same⟩
  | true =>
    refine iteF ?_
    obtain ⟨pt, xs, rfl, hp, hx⟩ := (Dn.mono s12 _ _ hd).lst
    obtain ⟨pr, ys, rfl, hp2, hy⟩ := (Dn.mono s12 _ _ hd2).lst
    have ha2 := s12 _ _ ha
    refine ⟨_, rfl, pt, xs, rfl, .inl ⟨SqL.of hp, fun f nf => ?_⟩⟩
    have fa : f ≠ a := fun z => by
      rw [z, ha2] at nf
      cases nf
    refine ⟨.ref a, rfl, a, c_World, dx, [], rfl, upd2 ha2 nf, cls_World T, no_floor T, by decide, ?_⟩
    refine ⟨l, rfl, .ref a, rfl, a, c_World, dx, _, rfl, upd_same, cls_World T, no_lasting T, (show 1 < 1000 by decide), ?_⟩
    have pra : pr ≠ a := fun z => by
      rw [z, ha2] at hp2
      cases hp2
    refine ⟨.ref pr, rfl, pr, ys, rfl, .inl ⟨SqL.of ?_, fun g ng => ?_⟩⟩
    · rw [upd_ne pra, upd_ne pra]
      exact upd2 hp2 nf
    · have ga : g ≠ a := fun z => by
        rw [z, upd_same] at ng
        cases ng
      have gf : f ≠ g := fun z => by
        rw [← z, upd_ne fa, upd_ne fa, upd_same] at ng
        cases ng
      refine ⟨.ref a, rfl, a, c_World, dx, _, rfl, upd2 upd_same ng, cls_World T, no_wanted T, (show 2 < 1000 by decide), ?_⟩
      refine hQ c1 c2 _ f g xs ys (fun b o e => ?_) (by rw [upd_same]; rfl) ?_ hx.length ?_ hy.length
      · have ba : b ≠ a := fun z => by
          rw [z, del_same] at e
          cases e
        rw [del_ne ba] at e ⊢
        have e2 := s12 _ _ e
        have e3 := upd2 (u := .tup xs) e2 nf
        rw [upd_ne ba]
        refine upd2 ?_ ng
        rw [upd_ne ba, upd_ne ba]
        exact e3
      · rw [upd_ne fa, upd_ne gf, upd_ne fa, upd_ne fa, upd_same]
      · rw [upd_ne ga, upd_same]
end
end Pw
set_option Elab.async false
set_option linter.all false
set_option maxRecDepth 100000
set_option maxHeartbeats 400000
/-! The doors: each refuses by the first of its looks that is not true. -/
namespace Pw
open PySem PySem.Spec PyProof.Rows L2
/-- the first that is not true refuses -/
def Refuse : List (Bool × Addr) → Hp → XK → Prop
  | [], _, _ => False
  | (b, C) :: r, H, E => (b = false → ∀ H', Same H H' → E (.ref C) none H') ∧ (b = true → Refuse r H E)
theorem Refuse.mono {H H' : Hp} {E : XK} (s : Same H H') : ∀ {l : List (Bool × Addr)}, Refuse l H E → Refuse l H' E
  | [], h => h
  | (b, C) :: r, h => ⟨fun c H1 s1 => h.1 c H1 (s.trans s1), fun c => Refuse.mono s (h.2 c)⟩
section
variable {P : Program} {w : World} {K : PySem.W.Frag} {mg : Str → Option Value} {base : Heap}
def sp_picks : Sp := fun vs H Q E => ∃ wv v1 d1 n m L, vs = [wv, v1] ∧ Wd H wv n m L ∧ Dn H d1 v1 ∧ Refuse [(isStand n m L d1, c_NoStand)] H E
theorem ok_picks (T : Tx K mg) : FnX P w K mg base 6 d_picks p_picks sp_picks := by
  refine FunD.ok (fn_picks T) s_picks (fun vs H Q E h => ?_) (fun cdv A outer s H vs Q E hr h => ?_)
  · obtain ⟨wv, v1, d1, n, m, L, rfl, _⟩ := h
    rfl
  obtain ⟨wv, v1, d1, n, m, L, rfl, hw, h1, R⟩ := h
  refine ⟨_, (pss_cons (ps_expr (pe_call (ok_sure_stand T) (hr.mono (by decide)) rfl (mg_sure_stand T) (fn_sure_stand T).kp (b_sure_stand T) .nil passN (pa_cons (pv 0) (pa_cons (pv 1) pa_nil)))) pss_never), ?_⟩
  refine ⟨_, rfl, _, rfl, wv, v1, d1, n, m, L, rfl, hw, h1, fun c H1 s1 => ?_, R.1⟩
  exact (R.2 c).elim
def sp_beat : Sp := fun vs H Q E => ∃ wv v1 d1 n m L, vs = [wv, v1] ∧ Wd H wv n m L ∧ Dn H d1 v1 ∧ Refuse [(isStand n m L d1, c_NoStand)] H E
theorem ok_beat (T : Tx K mg) : FnX P w K mg base 6 d_beat p_beat sp_beat := by
  refine FunD.ok (fn_beat T) s_beat (fun vs H Q E h => ?_) (fun cdv A outer s H vs Q E hr h => ?_)
  · obtain ⟨wv, v1, d1, n, m, L, rfl, _⟩ := h
    rfl
  obtain ⟨wv, v1, d1, n, m, L, rfl, hw, h1, R⟩ := h
  refine ⟨_, (pss_cons (ps_expr (pe_call (ok_sure_stand T) (hr.mono (by decide)) rfl (mg_sure_stand T) (fn_sure_stand T).kp (b_sure_stand T) .nil passN (pa_cons (pv 0) (pa_cons (pv 1) pa_nil)))) pss_never), ?_⟩
  refine ⟨_, rfl, _, rfl, wv, v1, d1, n, m, L, rfl, hw, h1, fun c H1 s1 => ?_, R.1⟩
  exact (R.2 c).elim
def sp_run : Sp := fun vs H Q E => ∃ wv v1 v2 d1 d2 n m L, vs = [wv, v1, v2] ∧ Wd H wv n m L ∧ Dn H d1 v1 ∧ Dn H d2 v2 ∧ Refuse [(isStand n m L d1, c_NoStand), (isWhole 0 400 d2, c_NoCount)] H E
theorem ok_run (T : Tx K mg) : FnX P w K mg base 6 d_run p_run sp_run := by
  refine FunD.ok (fn_run T) s_run (fun vs H Q E h => ?_) (fun cdv A outer s H vs Q E hr h => ?_)
  · obtain ⟨wv, v1, v2, d1, d2, n, m, L, rfl, _⟩ := h
    rfl
  obtain ⟨wv, v1, v2, d1, d2, n, m, L, rfl, hw, h1, h2, R⟩ := h
  refine ⟨_, (pss_cons (ps_expr (pe_call (ok_sure_stand T) (hr.mono (by decide)) rfl (mg_sure_stand T) (fn_sure_stand T).kp (b_sure_stand T) .nil passN (pa_cons (pv 0) (pa_cons (pv 1) pa_nil)))) (pss_cons (ps_if (pt_not (pt_val (pe_call (ok_is_whole T) (hr.mono (by decide)) rfl (mg_is_whole T) (fn_is_whole T).kp (b_is_whole T) .nil pass0 (pa_cons (pv 2) (pa_cons pe_int (pa_cons (pe_gint (mi_MOST_RUN T)) pa_nil)))))) (pss_one (L2N.ps_raise rfl (L2N.takes_of rfl rfl rfl rfl) (pmk_x (mg_NoCount T) (exA_NoCount T) rfl))) pss_nil) pss_never)), ?_⟩
  refine ⟨_, rfl, _, rfl, wv, v1, d1, n, m, L, rfl, hw, h1, fun c H1 s1 => ?_, R.1⟩
  replace R := Refuse.mono s1 (R.2 c)
  replace hw := hw.mono s1
  replace h1 := Dn.mono s1 _ _ h1
  replace h2 := Dn.mono s1 _ _ h2
  clear c s1
  refine ⟨_, rfl, v2, 0, 400, d2, rfl, h2, ⟨_, rfl, ?_⟩⟩
  cases c : isWhole 0 400 d2 with
  | false => exact iteT (R.1 c _ (Same.refl _))
  | true => exact (R.2 c).elim
def sp_round_of : Sp := fun vs H Q E => ∃ wv v1 d1 n m L, vs = [wv, v1] ∧ Wd H wv n m L ∧ Dn H d1 v1 ∧ Refuse [(isStand n m L d1, c_NoStand)] H E
theorem ok_round_of (T : Tx K mg) : FnX P w K mg base 6 d_round_of p_round_of sp_round_of := by
  refine FunD.ok (fn_round_of T) s_round_of (fun vs H Q E h => ?_) (fun cdv A outer s H vs Q E hr h => ?_)
  · obtain ⟨wv, v1, d1, n, m, L, rfl, _⟩ := h
    rfl
  obtain ⟨wv, v1, d1, n, m, L, rfl, hw, h1, R⟩ := h
  refine ⟨_, (pss_cons (ps_expr (pe_call (ok_sure_stand T) (hr.mono (by decide)) rfl (mg_sure_stand T) (fn_sure_stand T).kp (b_sure_stand T) .nil passN (pa_cons (pv 0) (pa_cons (pv 1) pa_nil)))) pss_never), ?_⟩
  refine ⟨_, rfl, _, rfl, wv, v1, d1, n, m, L, rfl, hw, h1, fun c H1 s1 => ?_, R.1⟩
  exact (R.2 c).elim
def sp_at : Sp := fun vs H Q E => ∃ wv v1 v2 d1 d2 n m L, vs = [wv, v1, v2] ∧ Wd H wv n m L ∧ Dn H d1 v1 ∧ Dn H d2 v2 ∧ Refuse [(isStand n m L d1, c_NoStand), (isWhole 0 (10 ^ 40) d2, c_NoCount)] H E
theorem ok_at (T : Tx K mg) : FnX P w K mg base 6 d_at p_at sp_at := by
  refine FunD.ok (fn_at T) s_at (fun vs H Q E h => ?_) (fun cdv A outer s H vs Q E hr h => ?_)
  · obtain ⟨wv, v1, v2, d1, d2, n, m, L, rfl, _⟩ := h
    rfl
  obtain ⟨wv, v1, v2, d1, d2, n, m, L, rfl, hw, h1, h2, R⟩ := h
  refine ⟨_, (pss_cons (ps_expr (pe_call (ok_sure_stand T) (hr.mono (by decide)) rfl (mg_sure_stand T) (fn_sure_stand T).kp (b_sure_stand T) .nil passN (pa_cons (pv 0) (pa_cons (pv 1) pa_nil)))) (pss_cons (ps_expr (pe_call (ok_sure_count T) (hr.mono (by decide)) rfl (mg_sure_count T) (fn_sure_count T).kp (b_sure_count T) .nil passN (pa_cons (pv 2) (pa_cons (pe_gint (mi_FARTHEST T)) pa_nil)))) pss_never)), ?_⟩
  refine ⟨_, rfl, _, rfl, wv, v1, d1, n, m, L, rfl, hw, h1, fun c H1 s1 => ?_, R.1⟩
  replace R := Refuse.mono s1 (R.2 c)
  replace hw := hw.mono s1
  replace h1 := Dn.mono s1 _ _ h1
  replace h2 := Dn.mono s1 _ _ h2
  clear c s1
  refine ⟨_, rfl, v2, d2, _, rfl, h2, fun c H1 s1 => ?_, R.1⟩
  exact (R.2 c).elim
def sp_visits : Sp := fun vs H Q E => ∃ wv v1 v2 v3 d1 d2 d3 n m L, vs = [wv, v1, v2, v3] ∧ Wd H wv n m L ∧ Dn H d1 v1 ∧ Dn H d2 v2 ∧ Dn H d3 v3 ∧ Refuse [(isStand n m L d1, c_NoStand), (isWhole 0 ((m : Int) - 1) d2, c_NoWalker), (isWhole 0 (10 ^ 40) d3, c_NoCount)] H E
theorem ok_visits (T : Tx K mg) : FnX P w K mg base 6 d_visits p_visits sp_visits := by
  refine FunD.ok (fn_visits T) s_visits (fun vs H Q E h => ?_) (fun cdv A outer s H vs Q E hr h => ?_)
  · obtain ⟨wv, v1, v2, v3, d1, d2, d3, n, m, L, rfl, _⟩ := h
    rfl
  obtain ⟨wv, v1, v2, v3, d1, d2, d3, n, m, L, rfl, hw, h1, h2, h3, R⟩ := h
  refine ⟨_, (pss_cons (ps_expr (pe_call (ok_sure_stand T) (hr.mono (by decide)) rfl (mg_sure_stand T) (fn_sure_stand T).kp (b_sure_stand T) .nil passN (pa_cons (pv 0) (pa_cons (pv 1) pa_nil)))) (pss_cons (ps_expr (pe_call (ok_sure_walker T) (hr.mono (by decide)) rfl (mg_sure_walker T) (fn_sure_walker T).kp (b_sure_walker T) .nil passN (pa_cons (pv 0) (pa_cons (pv 2) pa_nil)))) (pss_cons (ps_expr (pe_call (ok_sure_count T) (hr.mono (by decide)) rfl (mg_sure_count T) (fn_sure_count T).kp (b_sure_count T) .nil passN (pa_cons (pv 3) (pa_cons (pe_gint (mi_FARTHEST T)) pa_nil)))) pss_never))), ?_⟩
  refine ⟨_, rfl, _, rfl, wv, v1, d1, n, m, L, rfl, hw, h1, fun c H1 s1 => ?_, R.1⟩
  replace R := Refuse.mono s1 (R.2 c)
  replace hw := hw.mono s1
  replace h1 := Dn.mono s1 _ _ h1
  replace h2 := Dn.mono s1 _ _ h2
  replace h3 := Dn.mono s1 _ _ h3
  clear c s1
  refine ⟨_, rfl, _, rfl, wv, v2, d2, n, m, L, rfl, hw, h2, fun c H1 s1 => ?_, R.1⟩
  replace R := Refuse.mono s1 (R.2 c)
  replace hw := hw.mono s1
  replace h1 := Dn.mono s1 _ _ h1
  replace h2 := Dn.mono s1 _ _ h2
  replace h3 := Dn.mono s1 _ _ h3
  clear c s1
  refine ⟨_, rfl, v3, d3, _, rfl, h3, fun c H1 s1 => ?_, R.1⟩
  exact (R.2 c).elim
def sp_gone : Sp := fun vs H Q E => ∃ wv v1 v2 v3 d1 d2 d3 n m L, vs = [wv, v1, v2, v3] ∧ Wd H wv n m L ∧ Dn H d1 v1 ∧ Dn H d2 v2 ∧ Dn H d3 v3 ∧ Refuse [(isStand n m L d1, c_NoStand), (isWhole 0 ((m : Int) - 1) d2, c_NoWalker), (isWhole 0 (10 ^ 40) d3, c_NoCount)] H E
theorem ok_gone (T : Tx K mg) : FnX P w K mg base 6 d_gone p_gone sp_gone := by
  refine FunD.ok (fn_gone T) s_gone (fun vs H Q E h => ?_) (fun cdv A outer s H vs Q E hr h => ?_)
  · obtain ⟨wv, v1, v2, v3, d1, d2, d3, n, m, L, rfl, _⟩ := h
    rfl
  obtain ⟨wv, v1, v2, v3, d1, d2, d3, n, m, L, rfl, hw, h1, h2, h3, R⟩ := h
  refine ⟨_, (pss_cons (ps_expr (pe_call (ok_sure_stand T) (hr.mono (by decide)) rfl (mg_sure_stand T) (fn_sure_stand T).kp (b_sure_stand T) .nil passN (pa_cons (pv 0) (pa_cons (pv 1) pa_nil)))) (pss_cons (ps_expr (pe_call (ok_sure_walker T) (hr.mono (by decide)) rfl (mg_sure_walker T) (fn_sure_walker T).kp (b_sure_walker T) .nil passN (pa_cons (pv 0) (pa_cons (pv 2) pa_nil)))) (pss_cons (ps_expr (pe_call (ok_sure_count T) (hr.mono (by decide)) rfl (mg_sure_count T) (fn_sure_count T).kp (b_sure_count T) .nil passN (pa_cons (pv 3) (pa_cons (pe_gint (mi_FARTHEST T)) pa_nil)))) pss_never))), ?_⟩
  refine ⟨_, rfl, _, rfl, wv, v1, d1, n, m, L, rfl, hw, h1, fun c H1 s1 => ?_, R.1⟩
  replace R := Refuse.mono s1 (R.2 c)
  replace hw := hw.mono s1
  replace h1 := Dn.mono s1 _ _ h1
  replace h2 := Dn.mono s1 _ _ h2
  replace h3 := Dn.mono s1 _ _ h3
  clear c s1
  refine ⟨_, rfl, _, rfl, wv, v2, d2, n, m, L, rfl, hw, h2, fun c H1 s1 => ?_, R.1⟩
  replace R := Refuse.mono s1 (R.2 c)
  replace hw := hw.mono s1
  replace h1 := Dn.mono s1 _ _ h1
  replace h2 := Dn.mono s1 _ _ h2
  replace h3 := Dn.mono s1 _ _ h3
  clear c s1
  refine ⟨_, rfl, v3, d3, _, rfl, h3, fun c H1 s1 => ?_, R.1⟩
  exact (R.2 c).elim
def sp_first_when : Sp := fun vs H Q E => ∃ wv v1 v2 d1 d2 n m L, vs = [wv, v1, v2] ∧ Wd H wv n m L ∧ Dn H d1 v1 ∧ Dn H d2 v2 ∧ Refuse [(isStand n m L d1, c_NoStand), (isWish n m d2, c_NoWish)] H E
theorem ok_first_when (T : Tx K mg) : FnX P w K mg base 6 d_first_when p_first_when sp_first_when := by
  refine FunD.ok (fn_first_when T) s_first_when (fun vs H Q E h => ?_) (fun cdv A outer s H vs Q E hr h => ?_)
  · obtain ⟨wv, v1, v2, d1, d2, n, m, L, rfl, _⟩ := h
    rfl
  obtain ⟨wv, v1, v2, d1, d2, n, m, L, rfl, hw, h1, h2, R⟩ := h
  refine ⟨_, (pss_cons (ps_expr (pe_call (ok_sure_stand T) (hr.mono (by decide)) rfl (mg_sure_stand T) (fn_sure_stand T).kp (b_sure_stand T) .nil passN (pa_cons (pv 0) (pa_cons (pv 1) pa_nil)))) (pss_cons (ps_expr (pe_call (ok_sure_wish T) (hr.mono (by decide)) rfl (mg_sure_wish T) (fn_sure_wish T).kp (b_sure_wish T) .nil passN (pa_cons (pv 0) (pa_cons (pv 2) pa_nil)))) pss_never)), ?_⟩
  refine ⟨_, rfl, _, rfl, wv, v1, d1, n, m, L, rfl, hw, h1, fun c H1 s1 => ?_, R.1⟩
  replace R := Refuse.mono s1 (R.2 c)
  replace hw := hw.mono s1
  replace h1 := Dn.mono s1 _ _ h1
  replace h2 := Dn.mono s1 _ _ h2
  clear c s1
  refine ⟨_, rfl, _, rfl, wv, v2, d2, n, m, L, rfl, hw, h2, fun c H1 s1 => ?_, R.1⟩
  exact (R.2 c).elim
def sp_times : Sp := fun vs H Q E => ∃ wv v1 v2 v3 d1 d2 d3 n m L, vs = [wv, v1, v2, v3] ∧ Wd H wv n m L ∧ Dn H d1 v1 ∧ Dn H d2 v2 ∧ Dn H d3 v3 ∧ Refuse [(isStand n m L d1, c_NoStand), (isWish n m d2, c_NoWish), (isWhole 0 (10 ^ 40) d3, c_NoCount)] H E
theorem ok_times (T : Tx K mg) : FnX P w K mg base 6 d_times p_times sp_times := by
  refine FunD.ok (fn_times T) s_times (fun vs H Q E h => ?_) (fun cdv A outer s H vs Q E hr h => ?_)
  · obtain ⟨wv, v1, v2, v3, d1, d2, d3, n, m, L, rfl, _⟩ := h
    rfl
  obtain ⟨wv, v1, v2, v3, d1, d2, d3, n, m, L, rfl, hw, h1, h2, h3, R⟩ := h
  refine ⟨_, (pss_cons (ps_expr (pe_call (ok_sure_stand T) (hr.mono (by decide)) rfl (mg_sure_stand T) (fn_sure_stand T).kp (b_sure_stand T) .nil passN (pa_cons (pv 0) (pa_cons (pv 1) pa_nil)))) (pss_cons (ps_expr (pe_call (ok_sure_wish T) (hr.mono (by decide)) rfl (mg_sure_wish T) (fn_sure_wish T).kp (b_sure_wish T) .nil passN (pa_cons (pv 0) (pa_cons (pv 2) pa_nil)))) (pss_cons (ps_expr (pe_call (ok_sure_count T) (hr.mono (by decide)) rfl (mg_sure_count T) (fn_sure_count T).kp (b_sure_count T) .nil passN (pa_cons (pv 3) (pa_cons (pe_gint (mi_FARTHEST T)) pa_nil)))) pss_never))), ?_⟩
  refine ⟨_, rfl, _, rfl, wv, v1, d1, n, m, L, rfl, hw, h1, fun c H1 s1 => ?_, R.1⟩
  replace R := Refuse.mono s1 (R.2 c)
  replace hw := hw.mono s1
  replace h1 := Dn.mono s1 _ _ h1
  replace h2 := Dn.mono s1 _ _ h2
  replace h3 := Dn.mono s1 _ _ h3
  clear c s1
  refine ⟨_, rfl, _, rfl, wv, v2, d2, n, m, L, rfl, hw, h2, fun c H1 s1 => ?_, R.1⟩
  replace R := Refuse.mono s1 (R.2 c)
  replace hw := hw.mono s1
  replace h1 := Dn.mono s1 _ _ h1
  replace h2 := Dn.mono s1 _ _ h2
  replace h3 := Dn.mono s1 _ _ h3
  clear c s1
  refine ⟨_, rfl, v3, d3, _, rfl, h3, fun c H1 s1 => ?_, R.1⟩
  exact (R.2 c).elim
def sp_holds : Sp := fun vs H Q E => ∃ wv v1 v2 d1 d2 n m L, vs = [wv, v1, v2] ∧ Wd H wv n m L ∧ Dn H d1 v1 ∧ Dn H d2 v2 ∧ slim d1 ∧ Refuse [(isBox n m L d1, c_NoBox), (isStand n m L d2, c_NoStand)] H E
theorem ok_holds (T : Tx K mg) : FnX P w K mg base 6 d_holds p_holds sp_holds := by
  refine FunD.ok (fn_holds T) s_holds (fun vs H Q E h => ?_) (fun cdv A outer s H vs Q E hr h => ?_)
  · obtain ⟨wv, v1, v2, d1, d2, n, m, L, rfl, _⟩ := h
    rfl
  obtain ⟨wv, v1, v2, d1, d2, n, m, L, rfl, hw, h1, h2, z1, R⟩ := h
  refine ⟨_, (pss_cons (ps_expr (pe_call (ok_sure_box T) (hr.mono (by decide)) rfl (mg_sure_box T) (fn_sure_box T).kp (b_sure_box T) .nil passN (pa_cons (pv 0) (pa_cons (pv 1) pa_nil)))) (pss_cons (ps_expr (pe_call (ok_sure_stand T) (hr.mono (by decide)) rfl (mg_sure_stand T) (fn_sure_stand T).kp (b_sure_stand T) .nil passN (pa_cons (pv 0) (pa_cons (pv 2) pa_nil)))) pss_never)), ?_⟩
  refine ⟨_, rfl, _, rfl, wv, v1, d1, n, m, L, rfl, hw, h1, z1, fun c H1 s1 => ?_, R.1⟩
  replace R := Refuse.mono s1 (R.2 c)
  replace hw := hw.mono s1
  replace h1 := Dn.mono s1 _ _ h1
  replace h2 := Dn.mono s1 _ _ h2
  clear c s1
  refine ⟨_, rfl, _, rfl, wv, v2, d2, n, m, L, rfl, hw, h2, fun c H1 s1 => ?_, R.1⟩
  exact (R.2 c).elim
def sp_keeps : Sp := fun vs H Q E => ∃ wv v1 v2 d1 n m L, vs = [wv, v1, v2] ∧ Wd H wv n m L ∧ Dn H d1 v1 ∧ Refuse [(isStand n m L d1, c_NoStand)] H E
theorem ok_keeps (T : Tx K mg) : FnX P w K mg base 6 d_keeps p_keeps sp_keeps := by
  refine FunD.ok (fn_keeps T) s_keeps (fun vs H Q E h => ?_) (fun cdv A outer s H vs Q E hr h => ?_)
  · obtain ⟨wv, v1, v2, d1, n, m, L, rfl, _⟩ := h
    rfl
  obtain ⟨wv, v1, v2, d1, n, m, L, rfl, hw, h1, R⟩ := h
  refine ⟨_, (pss_cons (ps_expr (pe_call (ok_sure_stand T) (hr.mono (by decide)) rfl (mg_sure_stand T) (fn_sure_stand T).kp (b_sure_stand T) .nil passN (pa_cons (pv 0) (pa_cons (pv 1) pa_nil)))) pss_never), ?_⟩
  refine ⟨_, rfl, _, rfl, wv, v1, d1, n, m, L, rfl, hw, h1, fun c H1 s1 => ?_, R.1⟩
  exact (R.2 c).elim
def sp_put : Sp := fun vs H Q E => ∃ wv v1 v2 d1 d2 n m L, vs = [wv, v1, v2] ∧ Wd H wv n m L ∧ Dn H d1 v1 ∧ Dn H d2 v2 ∧ Refuse [(isStand n m L d1, c_NoStand), (isRoom n d2, c_NoRoom)] H E
theorem ok_put (T : Tx K mg) : FnX P w K mg base 6 d_put p_put sp_put := by
  refine FunD.ok (fn_put T) s_put (fun vs H Q E h => ?_) (fun cdv A outer s H vs Q E hr h => ?_)
  · obtain ⟨wv, v1, v2, d1, d2, n, m, L, rfl, _⟩ := h
    rfl
  obtain ⟨wv, v1, v2, d1, d2, n, m, L, rfl, hw, h1, h2, R⟩ := h
  refine ⟨_, (pss_cons (ps_expr (pe_call (ok_sure_stand T) (hr.mono (by decide)) rfl (mg_sure_stand T) (fn_sure_stand T).kp (b_sure_stand T) .nil passN (pa_cons (pv 0) (pa_cons (pv 1) pa_nil)))) (pss_cons (ps_expr (pe_call (ok_sure_room T) (hr.mono (by decide)) rfl (mg_sure_room T) (fn_sure_room T).kp (b_sure_room T) .nil passN (pa_cons (pv 0) (pa_cons (pv 2) pa_nil)))) pss_never)), ?_⟩
  refine ⟨_, rfl, _, rfl, wv, v1, d1, n, m, L, rfl, hw, h1, fun c H1 s1 => ?_, R.1⟩
  replace R := Refuse.mono s1 (R.2 c)
  replace hw := hw.mono s1
  replace h1 := Dn.mono s1 _ _ h1
  replace h2 := Dn.mono s1 _ _ h2
  clear c s1
  refine ⟨_, rfl, _, rfl, wv, v2, d2, n, m, L, rfl, hw, h2, fun c H1 s1 => ?_, R.1⟩
  exact (R.2 c).elim
def sp_looked : Sp := fun vs H Q E => ∃ wv v1 v2 d1 d2 n m L, vs = [wv, v1, v2] ∧ Wd H wv n m L ∧ Dn H d1 v1 ∧ Dn H d2 v2 ∧ Refuse [(isStand n m L d1, c_NoStand), (isRoom n d2, c_NoRoom)] H E
theorem ok_looked (T : Tx K mg) : FnX P w K mg base 6 d_looked p_looked sp_looked := by
  refine FunD.ok (fn_looked T) s_looked (fun vs H Q E h => ?_) (fun cdv A outer s H vs Q E hr h => ?_)
  · obtain ⟨wv, v1, v2, d1, d2, n, m, L, rfl, _⟩ := h
    rfl
  obtain ⟨wv, v1, v2, d1, d2, n, m, L, rfl, hw, h1, h2, R⟩ := h
  refine ⟨_, (pss_cons (ps_expr (pe_call (ok_sure_stand T) (hr.mono (by decide)) rfl (mg_sure_stand T) (fn_sure_stand T).kp (b_sure_stand T) .nil passN (pa_cons (pv 0) (pa_cons (pv 1) pa_nil)))) (pss_cons (ps_expr (pe_call (ok_sure_room T) (hr.mono (by decide)) rfl (mg_sure_room T) (fn_sure_room T).kp (b_sure_room T) .nil passN (pa_cons (pv 0) (pa_cons (pv 2) pa_nil)))) pss_never)), ?_⟩
  refine ⟨_, rfl, _, rfl, wv, v1, d1, n, m, L, rfl, hw, h1, fun c H1 s1 => ?_, R.1⟩
  replace R := Refuse.mono s1 (R.2 c)
  replace hw := hw.mono s1
  replace h1 := Dn.mono s1 _ _ h1
  replace h2 := Dn.mono s1 _ _ h2
  clear c s1
  refine ⟨_, rfl, _, rfl, wv, v2, d2, n, m, L, rfl, hw, h2, fun c H1 s1 => ?_, R.1⟩
  exact (R.2 c).elim
def sp_led : Sp := fun vs H Q E => ∃ wv v1 v2 d1 n m L, vs = [wv, v1, v2] ∧ Wd H wv n m L ∧ Dn H d1 v1 ∧ Refuse [(isStand n m L d1, c_NoStand)] H E
theorem ok_led (T : Tx K mg) : FnX P w K mg base 6 d_led p_led sp_led := by
  refine FunD.ok (fn_led T) s_led (fun vs H Q E h => ?_) (fun cdv A outer s H vs Q E hr h => ?_)
  · obtain ⟨wv, v1, v2, d1, n, m, L, rfl, _⟩ := h
    rfl
  obtain ⟨wv, v1, v2, d1, n, m, L, rfl, hw, h1, R⟩ := h
  refine ⟨_, (pss_cons (ps_expr (pe_call (ok_sure_stand T) (hr.mono (by decide)) rfl (mg_sure_stand T) (fn_sure_stand T).kp (b_sure_stand T) .nil passN (pa_cons (pv 0) (pa_cons (pv 1) pa_nil)))) pss_never), ?_⟩
  refine ⟨_, rfl, _, rfl, wv, v1, d1, n, m, L, rfl, hw, h1, fun c H1 s1 => ?_, R.1⟩
  exact (R.2 c).elim
def sp_fewest : Sp := fun vs H Q E => ∃ wv v1 v2 d1 d2 n m L, vs = [wv, v1, v2] ∧ Wd H wv n m L ∧ Dn H d1 v1 ∧ Dn H d2 v2 ∧ Refuse [(isStand n m L d1, c_NoStand), (isWish n m d2, c_NoWish)] H E
theorem ok_fewest (T : Tx K mg) : FnX P w K mg base 6 d_fewest p_fewest sp_fewest := by
  refine FunD.ok (fn_fewest T) s_fewest (fun vs H Q E h => ?_) (fun cdv A outer s H vs Q E hr h => ?_)
  · obtain ⟨wv, v1, v2, d1, d2, n, m, L, rfl, _⟩ := h
    rfl
  obtain ⟨wv, v1, v2, d1, d2, n, m, L, rfl, hw, h1, h2, R⟩ := h
  refine ⟨_, (pss_cons (ps_expr (pe_call (ok_sure_stand T) (hr.mono (by decide)) rfl (mg_sure_stand T) (fn_sure_stand T).kp (b_sure_stand T) .nil passN (pa_cons (pv 0) (pa_cons (pv 1) pa_nil)))) (pss_cons (ps_expr (pe_call (ok_sure_wish T) (hr.mono (by decide)) rfl (mg_sure_wish T) (fn_sure_wish T).kp (b_sure_wish T) .nil passN (pa_cons (pv 0) (pa_cons (pv 2) pa_nil)))) pss_never)), ?_⟩
  refine ⟨_, rfl, _, rfl, wv, v1, d1, n, m, L, rfl, hw, h1, fun c H1 s1 => ?_, R.1⟩
  replace R := Refuse.mono s1 (R.2 c)
  replace hw := hw.mono s1
  replace h1 := Dn.mono s1 _ _ h1
  replace h2 := Dn.mono s1 _ _ h2
  clear c s1
  refine ⟨_, rfl, _, rfl, wv, v2, d2, n, m, L, rfl, hw, h2, fun c H1 s1 => ?_, R.1⟩
  exact (R.2 c).elim
def sp_check_fewest : Sp := fun vs H Q E => ∃ wv v1 v2 v3 d1 d2 n m L, vs = [wv, v1, v2, v3] ∧ Wd H wv n m L ∧ Dn H d1 v1 ∧ Dn H d2 v2 ∧ Refuse [(isStand n m L d1, c_NoStand), (isWish n m d2, c_NoWish)] H E
theorem ok_check_fewest (T : Tx K mg) : FnX P w K mg base 6 d_check_fewest p_check_fewest sp_check_fewest := by
  refine FunD.ok (fn_check_fewest T) s_check_fewest (fun vs H Q E h => ?_) (fun cdv A outer s H vs Q E hr h => ?_)
  · obtain ⟨wv, v1, v2, v3, d1, d2, n, m, L, rfl, _⟩ := h
    rfl
  obtain ⟨wv, v1, v2, v3, d1, d2, n, m, L, rfl, hw, h1, h2, R⟩ := h
  refine ⟨_, (pss_cons (ps_expr (pe_call (ok_sure_stand T) (hr.mono (by decide)) rfl (mg_sure_stand T) (fn_sure_stand T).kp (b_sure_stand T) .nil passN (pa_cons (pv 0) (pa_cons (pv 1) pa_nil)))) (pss_cons (ps_expr (pe_call (ok_sure_wish T) (hr.mono (by decide)) rfl (mg_sure_wish T) (fn_sure_wish T).kp (b_sure_wish T) .nil passN (pa_cons (pv 0) (pa_cons (pv 2) pa_nil)))) pss_never)), ?_⟩
  refine ⟨_, rfl, _, rfl, wv, v1, d1, n, m, L, rfl, hw, h1, fun c H1 s1 => ?_, R.1⟩
  replace R := Refuse.mono s1 (R.2 c)
  replace hw := hw.mono s1
  replace h1 := Dn.mono s1 _ _ h1
  replace h2 := Dn.mono s1 _ _ h2
  clear c s1
  refine ⟨_, rfl, _, rfl, wv, v2, d2, n, m, L, rfl, hw, h2, fun c H1 s1 => ?_, R.1⟩
  exact (R.2 c).elim
def sp_together : Sp := fun vs H Q E => ∃ wv v1 v2 v3 d1 d2 d3 n m L, vs = [wv, v1, v2, v3] ∧ Wd H wv n m L ∧ Dn H d1 v1 ∧ Dn H d2 v2 ∧ Dn H d3 v3 ∧ Refuse [(isStand n m L d1, c_NoStand), (isWhole 0 ((m : Int) - 1) d2, c_NoWalker), (isWhole 0 ((m : Int) - 1) d3, c_NoWalker)] H E
theorem ok_together (T : Tx K mg) : FnX P w K mg base 6 d_together p_together sp_together := by
  refine FunD.ok (fn_together T) s_together (fun vs H Q E h => ?_) (fun cdv A outer s H vs Q E hr h => ?_)
  · obtain ⟨wv, v1, v2, v3, d1, d2, d3, n, m, L, rfl, _⟩ := h
    rfl
  obtain ⟨wv, v1, v2, v3, d1, d2, d3, n, m, L, rfl, hw, h1, h2, h3, R⟩ := h
  refine ⟨_, (pss_cons (ps_expr (pe_call (ok_sure_stand T) (hr.mono (by decide)) rfl (mg_sure_stand T) (fn_sure_stand T).kp (b_sure_stand T) .nil passN (pa_cons (pv 0) (pa_cons (pv 1) pa_nil)))) (pss_cons (ps_expr (pe_call (ok_sure_walker T) (hr.mono (by decide)) rfl (mg_sure_walker T) (fn_sure_walker T).kp (b_sure_walker T) .nil passN (pa_cons (pv 0) (pa_cons (pv 2) pa_nil)))) (pss_cons (ps_expr (pe_call (ok_sure_walker T) (hr.mono (by decide)) rfl (mg_sure_walker T) (fn_sure_walker T).kp (b_sure_walker T) .nil passN (pa_cons (pv 0) (pa_cons (pv 3) pa_nil)))) pss_never))), ?_⟩
  refine ⟨_, rfl, _, rfl, wv, v1, d1, n, m, L, rfl, hw, h1, fun c H1 s1 => ?_, R.1⟩
  replace R := Refuse.mono s1 (R.2 c)
  replace hw := hw.mono s1
  replace h1 := Dn.mono s1 _ _ h1
  replace h2 := Dn.mono s1 _ _ h2
  replace h3 := Dn.mono s1 _ _ h3
  clear c s1
  refine ⟨_, rfl, _, rfl, wv, v2, d2, n, m, L, rfl, hw, h2, fun c H1 s1 => ?_, R.1⟩
  replace R := Refuse.mono s1 (R.2 c)
  replace hw := hw.mono s1
  replace h1 := Dn.mono s1 _ _ h1
  replace h2 := Dn.mono s1 _ _ h2
  replace h3 := Dn.mono s1 _ _ h3
  clear c s1
  refine ⟨_, rfl, _, rfl, wv, v3, d3, n, m, L, rfl, hw, h3, fun c H1 s1 => ?_, R.1⟩
  exact (R.2 c).elim
def sp_many_in : Sp := fun vs H Q E => ∃ wv v1 d1 n m L, vs = [wv, v1] ∧ Wd H wv n m L ∧ Dn H d1 v1 ∧ slim d1 ∧ Refuse [(isBox n m L d1, c_NoBox)] H E
theorem ok_many_in (T : Tx K mg) : FnX P w K mg base 6 d_many_in p_many_in sp_many_in := by
  refine FunD.ok (fn_many_in T) s_many_in (fun vs H Q E h => ?_) (fun cdv A outer s H vs Q E hr h => ?_)
  · obtain ⟨wv, v1, d1, n, m, L, rfl, _⟩ := h
    rfl
  obtain ⟨wv, v1, d1, n, m, L, rfl, hw, h1, z1, R⟩ := h
  refine ⟨_, (pss_cons (ps_expr (pe_call (ok_sure_box T) (hr.mono (by decide)) rfl (mg_sure_box T) (fn_sure_box T).kp (b_sure_box T) .nil passN (pa_cons (pv 0) (pa_cons (pv 1) pa_nil)))) pss_never), ?_⟩
  refine ⟨_, rfl, _, rfl, wv, v1, d1, n, m, L, rfl, hw, h1, z1, fun c H1 s1 => ?_, R.1⟩
  exact (R.2 c).elim
def sp_meet : Sp := fun vs H Q E => ∃ wv v1 v2 d1 d2 n m L, vs = [wv, v1, v2] ∧ Wd H wv n m L ∧ Dn H d1 v1 ∧ Dn H d2 v2 ∧ slim d1 ∧ slim d2 ∧ Refuse [(isBox n m L d1, c_NoBox), (isBox n m L d2, c_NoBox)] H E
theorem ok_meet (T : Tx K mg) : FnX P w K mg base 6 d_meet p_meet sp_meet := by
  refine FunD.ok (fn_meet T) s_meet (fun vs H Q E h => ?_) (fun cdv A outer s H vs Q E hr h => ?_)
  · obtain ⟨wv, v1, v2, d1, d2, n, m, L, rfl, _⟩ := h
    rfl
  obtain ⟨wv, v1, v2, d1, d2, n, m, L, rfl, hw, h1, h2, z1, z2, R⟩ := h
  refine ⟨_, (pss_cons (ps_expr (pe_call (ok_sure_box T) (hr.mono (by decide)) rfl (mg_sure_box T) (fn_sure_box T).kp (b_sure_box T) .nil passN (pa_cons (pv 0) (pa_cons (pv 1) pa_nil)))) (pss_cons (ps_expr (pe_call (ok_sure_box T) (hr.mono (by decide)) rfl (mg_sure_box T) (fn_sure_box T).kp (b_sure_box T) .nil passN (pa_cons (pv 0) (pa_cons (pv 2) pa_nil)))) pss_never)), ?_⟩
  refine ⟨_, rfl, _, rfl, wv, v1, d1, n, m, L, rfl, hw, h1, z1, fun c H1 s1 => ?_, R.1⟩
  replace R := Refuse.mono s1 (R.2 c)
  replace hw := hw.mono s1
  replace h1 := Dn.mono s1 _ _ h1
  replace h2 := Dn.mono s1 _ _ h2
  clear c s1
  refine ⟨_, rfl, _, rfl, wv, v2, d2, n, m, L, rfl, hw, h2, z2, fun c H1 s1 => ?_, R.1⟩
  exact (R.2 c).elim
def sp_parts : Sp := fun vs H Q E => ∃ wv v1 d1 n m L, vs = [wv, v1] ∧ Wd H wv n m L ∧ Dn H d1 v1 ∧ slim d1 ∧ Refuse [(isBox n m L d1, c_NoBox)] H E
theorem ok_parts (T : Tx K mg) : FnX P w K mg base 6 d_parts p_parts sp_parts := by
  refine FunD.ok (fn_parts T) s_parts (fun vs H Q E h => ?_) (fun cdv A outer s H vs Q E hr h => ?_)
  · obtain ⟨wv, v1, d1, n, m, L, rfl, _⟩ := h
    rfl
  obtain ⟨wv, v1, d1, n, m, L, rfl, hw, h1, z1, R⟩ := h
  refine ⟨_, (pss_cons (ps_expr (pe_call (ok_sure_box T) (hr.mono (by decide)) rfl (mg_sure_box T) (fn_sure_box T).kp (b_sure_box T) .nil passN (pa_cons (pv 0) (pa_cons (pv 1) pa_nil)))) pss_never), ?_⟩
  refine ⟨_, rfl, _, rfl, wv, v1, d1, n, m, L, rfl, hw, h1, z1, fun c H1 s1 => ?_, R.1⟩
  exact (R.2 c).elim
def sp_onward : Sp := fun vs H Q E => ∃ wv v1 d1 n m L, vs = [wv, v1] ∧ Wd H wv n m L ∧ Dn H d1 v1 ∧ slim d1 ∧ Refuse [(isBox n m L d1, c_NoBox)] H E
theorem ok_onward (T : Tx K mg) : FnX P w K mg base 6 d_onward p_onward sp_onward := by
  refine FunD.ok (fn_onward T) s_onward (fun vs H Q E h => ?_) (fun cdv A outer s H vs Q E hr h => ?_)
  · obtain ⟨wv, v1, d1, n, m, L, rfl, _⟩ := h
    rfl
  obtain ⟨wv, v1, d1, n, m, L, rfl, hw, h1, z1, R⟩ := h
  refine ⟨_, (pss_cons (ps_expr (pe_call (ok_sure_box T) (hr.mono (by decide)) rfl (mg_sure_box T) (fn_sure_box T).kp (b_sure_box T) .nil passN (pa_cons (pv 0) (pa_cons (pv 1) pa_nil)))) pss_never), ?_⟩
  refine ⟨_, rfl, _, rfl, wv, v1, d1, n, m, L, rfl, hw, h1, z1, fun c H1 s1 => ?_, R.1⟩
  exact (R.2 c).elim
def sp_back : Sp := fun vs H Q E => ∃ wv v1 d1 n m L, vs = [wv, v1] ∧ Wd H wv n m L ∧ Dn H d1 v1 ∧ slim d1 ∧ Refuse [(isBox n m L d1, c_NoBox)] H E
theorem ok_back (T : Tx K mg) : FnX P w K mg base 6 d_back p_back sp_back := by
  refine FunD.ok (fn_back T) s_back (fun vs H Q E h => ?_) (fun cdv A outer s H vs Q E hr h => ?_)
  · obtain ⟨wv, v1, d1, n, m, L, rfl, _⟩ := h
    rfl
  obtain ⟨wv, v1, d1, n, m, L, rfl, hw, h1, z1, R⟩ := h
  refine ⟨_, (pss_cons (ps_expr (pe_call (ok_sure_box T) (hr.mono (by decide)) rfl (mg_sure_box T) (fn_sure_box T).kp (b_sure_box T) .nil passN (pa_cons (pv 0) (pa_cons (pv 1) pa_nil)))) pss_never), ?_⟩
  refine ⟨_, rfl, _, rfl, wv, v1, d1, n, m, L, rfl, hw, h1, z1, fun c H1 s1 => ?_, R.1⟩
  exact (R.2 c).elim
def sp_back_by : Sp := fun vs H Q E => ∃ wv v1 v2 d1 d2 n m L, vs = [wv, v1, v2] ∧ Wd H wv n m L ∧ Dn H d1 v1 ∧ Dn H d2 v2 ∧ slim d1 ∧ Refuse [(isBox n m L d1, c_NoBox), (isWhole 0 60 d2, c_NoCount)] H E
theorem ok_back_by (T : Tx K mg) : FnX P w K mg base 6 d_back_by p_back_by sp_back_by := by
  refine FunD.ok (fn_back_by T) s_back_by (fun vs H Q E h => ?_) (fun cdv A outer s H vs Q E hr h => ?_)
  · obtain ⟨wv, v1, v2, d1, d2, n, m, L, rfl, _⟩ := h
    rfl
  obtain ⟨wv, v1, v2, d1, d2, n, m, L, rfl, hw, h1, h2, z1, R⟩ := h
  refine ⟨_, (pss_cons (ps_expr (pe_call (ok_sure_box T) (hr.mono (by decide)) rfl (mg_sure_box T) (fn_sure_box T).kp (b_sure_box T) .nil passN (pa_cons (pv 0) (pa_cons (pv 1) pa_nil)))) (pss_cons (ps_expr (pe_call (ok_sure_count T) (hr.mono (by decide)) rfl (mg_sure_count T) (fn_sure_count T).kp (b_sure_count T) .nil passN (pa_cons (pv 2) (pa_cons (pe_gint (mi_MOST_BACK T)) pa_nil)))) pss_never)), ?_⟩
  refine ⟨_, rfl, _, rfl, wv, v1, d1, n, m, L, rfl, hw, h1, z1, fun c H1 s1 => ?_, R.1⟩
  replace R := Refuse.mono s1 (R.2 c)
  replace hw := hw.mono s1
  replace h1 := Dn.mono s1 _ _ h1
  replace h2 := Dn.mono s1 _ _ h2
  clear c s1
  refine ⟨_, rfl, v2, d2, _, rfl, h2, fun c H1 s1 => ?_, R.1⟩
  exact (R.2 c).elim
def sp_pick : Sp := fun vs H Q E => ∃ v0 v1 d0, vs = [v0, v1] ∧ Dn H d0 v0 ∧ Refuse [(isRule d0, c_NoRule)] H E
theorem ok_pick (T : Tx K mg) : FnX P w K mg base 6 d_pick p_pick sp_pick := by
  refine FunD.ok (fn_pick T) s_pick (fun vs H Q E h => ?_) (fun cdv A outer s H vs Q E hr h => ?_)
  · obtain ⟨v0, v1, d0, rfl, _⟩ := h
    rfl
  obtain ⟨v0, v1, d0, rfl, h0, R⟩ := h
  refine ⟨_, (pss_cons (ps_expr (pe_call (ok_sure_rule T) (hr.mono (by decide)) rfl (mg_sure_rule T) (fn_sure_rule T).kp (b_sure_rule T) .nil passN (pa_cons (pv 0) pa_nil))) pss_never), ?_⟩
  refine ⟨_, rfl, v0, d0, rfl, h0, fun c H1 s1 => ?_, R.1⟩
  exact (R.2 c).elim
def sp_ranked : Sp := fun vs H Q E => ∃ v0 v1 d0 d1, vs = [v0, v1] ∧ Dn H d0 v0 ∧ Dn H d1 v1 ∧ Refuse [(isRule d0, c_NoRule), (isWhole 1 6 d1, c_NoLife)] H E
theorem ok_ranked (T : Tx K mg) : FnX P w K mg base 6 d_ranked p_ranked sp_ranked := by
  refine FunD.ok (fn_ranked T) s_ranked (fun vs H Q E h => ?_) (fun cdv A outer s H vs Q E hr h => ?_)
  · obtain ⟨v0, v1, d0, d1, rfl, _⟩ := h
    rfl
  obtain ⟨v0, v1, d0, d1, rfl, h0, h1, R⟩ := h
  refine ⟨_, (pss_cons (ps_expr (pe_call (ok_sure_rule T) (hr.mono (by decide)) rfl (mg_sure_rule T) (fn_sure_rule T).kp (b_sure_rule T) .nil passN (pa_cons (pv 0) pa_nil))) (pss_cons (ps_expr (pe_call (ok_sure_life T) (hr.mono (by decide)) rfl (mg_sure_life T) (fn_sure_life T).kp (b_sure_life T) .nil passN (pa_cons (pv 1) pa_nil))) pss_never)), ?_⟩
  refine ⟨_, rfl, v0, d0, rfl, h0, fun c H1 s1 => ?_, R.1⟩
  replace R := Refuse.mono s1 (R.2 c)
  replace h0 := Dn.mono s1 _ _ h0
  replace h1 := Dn.mono s1 _ _ h1
  clear c s1
  refine ⟨_, rfl, v1, d1, rfl, h1, fun c H1 s1 => ?_, R.1⟩
  exact (R.2 c).elim
def sp_alike : Sp := fun vs H Q E => ∃ v0 v1 v2 d0 d1 d2, vs = [v0, v1, v2] ∧ Dn H d0 v0 ∧ Dn H d1 v1 ∧ Dn H d2 v2 ∧ Refuse [(isRule d0, c_NoRule), (isRule d1, c_NoRule), (isWhole 1 6 d2, c_NoLife)] H E
theorem ok_alike (T : Tx K mg) : FnX P w K mg base 6 d_alike p_alike sp_alike := by
  refine FunD.ok (fn_alike T) s_alike (fun vs H Q E h => ?_) (fun cdv A outer s H vs Q E hr h => ?_)
  · obtain ⟨v0, v1, v2, d0, d1, d2, rfl, _⟩ := h
    rfl
  obtain ⟨v0, v1, v2, d0, d1, d2, rfl, h0, h1, h2, R⟩ := h
  refine ⟨_, (pss_cons (ps_expr (pe_call (ok_sure_rule T) (hr.mono (by decide)) rfl (mg_sure_rule T) (fn_sure_rule T).kp (b_sure_rule T) .nil passN (pa_cons (pv 0) pa_nil))) (pss_cons (ps_expr (pe_call (ok_sure_rule T) (hr.mono (by decide)) rfl (mg_sure_rule T) (fn_sure_rule T).kp (b_sure_rule T) .nil passN (pa_cons (pv 1) pa_nil))) (pss_cons (ps_expr (pe_call (ok_sure_life T) (hr.mono (by decide)) rfl (mg_sure_life T) (fn_sure_life T).kp (b_sure_life T) .nil passN (pa_cons (pv 2) pa_nil))) pss_never))), ?_⟩
  refine ⟨_, rfl, v0, d0, rfl, h0, fun c H1 s1 => ?_, R.1⟩
  replace R := Refuse.mono s1 (R.2 c)
  replace h0 := Dn.mono s1 _ _ h0
  replace h1 := Dn.mono s1 _ _ h1
  replace h2 := Dn.mono s1 _ _ h2
  clear c s1
  refine ⟨_, rfl, v1, d1, rfl, h1, fun c H1 s1 => ?_, R.1⟩
  replace R := Refuse.mono s1 (R.2 c)
  replace h0 := Dn.mono s1 _ _ h0
  replace h1 := Dn.mono s1 _ _ h1
  replace h2 := Dn.mono s1 _ _ h2
  clear c s1
  refine ⟨_, rfl, v2, d2, rfl, h2, fun c H1 s1 => ?_, R.1⟩
  exact (R.2 c).elim
def sp_alone : Sp := fun vs H Q E => ∃ v0 v1 v2 d0 d1 d2, vs = [v0, v1, v2] ∧ Dn H d0 v0 ∧ Dn H d1 v1 ∧ Dn H d2 v2 ∧ Refuse [(isRule d0, c_NoRule), (isRule d1, c_NoRule), (isWhole 1 6 d2, c_NoLife)] H E
theorem ok_alone (T : Tx K mg) : FnX P w K mg base 6 d_alone p_alone sp_alone := by
  refine FunD.ok (fn_alone T) s_alone (fun vs H Q E h => ?_) (fun cdv A outer s H vs Q E hr h => ?_)
  · obtain ⟨v0, v1, v2, d0, d1, d2, rfl, _⟩ := h
    rfl
  obtain ⟨v0, v1, v2, d0, d1, d2, rfl, h0, h1, h2, R⟩ := h
  refine ⟨_, (pss_cons (ps_expr (pe_call (ok_sure_rule T) (hr.mono (by decide)) rfl (mg_sure_rule T) (fn_sure_rule T).kp (b_sure_rule T) .nil passN (pa_cons (pv 0) pa_nil))) (pss_cons (ps_expr (pe_call (ok_sure_rule T) (hr.mono (by decide)) rfl (mg_sure_rule T) (fn_sure_rule T).kp (b_sure_rule T) .nil passN (pa_cons (pv 1) pa_nil))) (pss_cons (ps_expr (pe_call (ok_sure_life T) (hr.mono (by decide)) rfl (mg_sure_life T) (fn_sure_life T).kp (b_sure_life T) .nil passN (pa_cons (pv 2) pa_nil))) pss_never))), ?_⟩
  refine ⟨_, rfl, v0, d0, rfl, h0, fun c H1 s1 => ?_, R.1⟩
  replace R := Refuse.mono s1 (R.2 c)
  replace h0 := Dn.mono s1 _ _ h0
  replace h1 := Dn.mono s1 _ _ h1
  replace h2 := Dn.mono s1 _ _ h2
  clear c s1
  refine ⟨_, rfl, v1, d1, rfl, h1, fun c H1 s1 => ?_, R.1⟩
  replace R := Refuse.mono s1 (R.2 c)
  replace h0 := Dn.mono s1 _ _ h0
  replace h1 := Dn.mono s1 _ _ h1
  replace h2 := Dn.mono s1 _ _ h2
  clear c s1
  refine ⟨_, rfl, v2, d2, rfl, h2, fun c H1 s1 => ?_, R.1⟩
  exact (R.2 c).elim
end
end Pw
set_option Elab.async false
set_option linter.all false
set_option maxRecDepth 100000
set_option maxHeartbeats 400000
/-! The doors that look in their own way. -/
namespace Pw
open PySem PySem.Spec PyProof.Rows L2
section
variable {P : Program} {w : World} {K : PySem.W.Frag} {mg : Str → Option Value} {base : Heap}
def sp_parted : Sp := fun vs H Q E => ∃ w1 v1 w2 v2 d1 d2 n m L n2 L2, vs = [w1, v1, w2, v2] ∧ Wd H w1 n m L ∧ Wd H w2 n2 m L2 ∧ Dn H d1 v1 ∧ Dn H d2 v2 ∧ Refuse [(isStand n m L d1, c_NoStand), (isStand n2 m L2 d2, c_NoStand)] H E
theorem ok_parted (T : Tx K mg) : FnX P w K mg base 6 d_parted p_parted sp_parted := by
  refine FunD.ok (fn_parted T) s_parted (fun vs H Q E h => ?_) (fun cdv A outer s H vs Q E hr h => ?_)
  · obtain ⟨w1, v1, w2, v2, d1, d2, n, m, L, n2, L2, rfl, _⟩ := h
    rfl
  obtain ⟨w1, v1, w2, v2, d1, d2, n, m, L, n2, L2, rfl, hw, hw2, h1, h2, R⟩ := h
  refine ⟨_, (pss_cons (ps_if (pt_cmpR op_ne (pe_meth0 (pv 0) (cls_World T) (met_walkers T) (ok_World_walkers T) (hr.mono (by decide)) (b_World_walkers T) .nil pass0) (pe_meth0 (pv 2) (cls_World T) (met_walkers T) (ok_World_walkers T) (hr.mono (by decide)) (b_World_walkers T) .nil pass0) (nomark _)) (pss_one ps_never) pss_nil) (pss_cons (ps_expr (pe_call (ok_sure_stand T) (hr.mono (by decide)) rfl (mg_sure_stand T) (fn_sure_stand T).kp (b_sure_stand T) .nil passN (pa_cons (pv 0) (pa_cons (pv 1) pa_nil)))) (pss_cons (ps_expr (pe_call (ok_sure_stand T) (hr.mono (by decide)) rfl (mg_sure_stand T) (fn_sure_stand T).kp (b_sure_stand T) .nil passN (pa_cons (pv 2) (pa_cons (pv 3) pa_nil)))) pss_never))), ?_⟩
  refine rd_walkers rfl hw (rd_walkers rfl hw2 ⟨rfl, _, rfl, ?_⟩)
  refine ite2 (fun h => ?_) (fun h => ?_)
  · simp at h
  refine ⟨_, rfl, _, rfl, w1, v1, d1, n, m, L, rfl, hw, h1, fun c H1 s1 => ?_, R.1⟩
  replace R := Refuse.mono s1 (R.2 c)
  refine ⟨_, rfl, _, rfl, w2, v2, d2, n2, m, L2, rfl, hw2.mono s1, Dn.mono s1 _ _ h2, fun c H1 s1 => ?_, R.1⟩
  exact (R.2 c).elim
/-- what is not reached -/
theorem pe_never {X : Cx} {e : Expr} : PE X e (fun _ _ _ => False) := ⟨fun _ _ _ _ _ _ h => h.elim⟩
theorem boot_sum1 : bootBuiltins "sum" = some (.builtin "sum") := by decide +kernel
theorem ok_many_back (T : Tx K mg) : FnX P w K mg base 7 d_many_back p_many_back sp_back_by := by
  refine FunD.ok (fn_many_back T) s_many_back (fun vs H Q E h => ?_) (fun cdv A outer s H vs Q E hr h => ?_)
  · obtain ⟨wv, v1, v2, d1, d2, n, m, L, rfl, _⟩ := h
    rfl
  refine ⟨_, (pss_one (ps_ret (pe_callB (cr_sum rfl) rfl (mf_sum T) boot_sum1 (pa_cons (pe_lc (own := [("one", 3)]) (g := gName 3) rfl s_many_back.nd (pi_list (pe_call (ok_back_by T) (hr.mono (by decide)) rfl (mg_back_by T) (fn_back_by T).kp (b_back_by T) .nil passN (pa_cons (pv 0) (pa_cons (pv 1) (pa_cons (pv 2) pa_nil))))) (blkOk_by (own := [("one", 3)]) (N := n_many_back) (sc := defScope d_many_back.st) (by decide +kernel)) (fun _ _ _ _ _ => (pg_name (i := 3) s_many_back.nd rfl (.inl rfl))) (fun _ _ _ _ _ => pts_nil) (fun _ _ _ _ _ => pe_never)) pa_nil)))), ?_⟩
  obtain ⟨wv, v1, v2, d1, d2, n, m, L, rfl, hw, h1, h2, z1, R⟩ := h
  exact ⟨_, rfl, _, rfl, _, rfl, wv, v1, v2, d1, d2, n, m, L, rfl, hw, h1, h2, z1, R⟩
def sp_trails : Sp := fun vs H Q E => ∃ t l m dw dl, vs = [t, l, m] ∧ Dn H dw t ∧ waysOk dw = true ∧ Dn H dl l ∧ isWhole 1 6 dl = false ∧ RaisesW "life" H E
theorem ok_trails (T : Tx K mg) : FnX P w K mg base 6 d_trails p_trails sp_trails := by
  refine FunD.ok (fn_trails T) s_trails (fun vs H Q E h => ?_) (fun cdv A outer s H vs Q E hr h => ?_)
  · obtain ⟨t, l, m, dw, dl, rfl, _⟩ := h
    rfl
  obtain ⟨t, l, m, dw, dl, rfl, hd, hw, hl, hb, hE⟩ := h
  refine ⟨_, (pss_cons (ps_expr (pe_call (ok_sure_marks T) (hr.mono (by decide)) rfl (mg_sure_marks T) (fn_sure_marks T).kp (b_sure_marks T) .nil passN (pa_cons (pv 0) (pa_cons (pv 1) (pa_cons (pv 2) pa_nil))))) pss_never), ?_⟩
  exact ⟨_, rfl, _, rfl, _, rfl, t, l, m, dw, dl, rfl, hd, hw, hl, hb, hE⟩
theorem ok_many_trails (T : Tx K mg) : FnX P w K mg base 6 d_many_trails p_many_trails sp_trails := by
  refine FunD.ok (fn_many_trails T) s_many_trails (fun vs H Q E h => ?_) (fun cdv A outer s H vs Q E hr h => ?_)
  · obtain ⟨t, l, m, dw, dl, rfl, _⟩ := h
    rfl
  obtain ⟨t, l, m, dw, dl, rfl, hd, hw, hl, hb, hE⟩ := h
  refine ⟨_, (pss_cons (ps_expr (pe_call (ok_sure_marks T) (hr.mono (by decide)) rfl (mg_sure_marks T) (fn_sure_marks T).kp (b_sure_marks T) .nil passN (pa_cons (pv 0) (pa_cons (pv 1) (pa_cons (pv 2) pa_nil))))) pss_never), ?_⟩
  exact ⟨_, rfl, _, rfl, _, rfl, t, l, m, dw, dl, rfl, hd, hw, hl, hb, hE⟩
end
end Pw
set_option Elab.async false
set_option linter.all false
set_option maxRecDepth 100000
set_option maxHeartbeats 400000
/-! The law's digits. -/
namespace Pw
open PySem PySem.Spec PyProof.Rows L2
/-- the list that the digits are drawn from -/
def StOk (H : Hp) (st : Addr) : Prop := (∃ n, H st = some (.lst [.int n])) ∨ ∃ a b c, H st = some (.lst [.int a, .int b, .int c])
/-- all but the state stands -/
def SameS (st : Addr) (H H' : Hp) : Prop := ∀ b o, b ≠ st → H b = some o → H' b = some o
theorem SameS.refl (st : Addr) (H : Hp) : SameS st H H := fun _ _ _ e => e
theorem SameS.trans {st : Addr} {H H1 H2 : Hp} (a : SameS st H H1) (b : SameS st H1 H2) : SameS st H H2 := fun c o n e => b c o n (a c o n e)
theorem SameS.of {st : Addr} {H H' : Hp} (s : Same H H') : SameS st H H' := fun b o _ e => s b o e
theorem SameS.set {st : Addr} {H : Hp} {u : HO} : SameS st H (upd H st u) := fun b o n e => by
  rw [upd_ne n]
  exact e
theorem SameS.new {st p : Addr} {H : Hp} {u : HO} (n : H p = none) : SameS st H (upd H p u) := .of (same_upd n)
theorem seqI {t u : TS} {D : Ends} {σ : L2.St} {H : Hp} (R : L2.St → Hp → Prop) (h1 : ∀ N : L2.St → Hp → Prop, (∀ σ H, R σ H → N σ H) → t { D with nx := N } σ H) (h2 : ∀ σ H, R σ H → u D σ H) : tSeq t u D σ H := h1 (u D) h2
theorem at01 (x y : Int) (b : Bool) : atI [V.int x, V.int y] (if b = true then 1 else 0) = some (.int (if b = true then y else x)) := by cases b <;> rfl
theorem slot_ne {σ : L2.St} {i j : Nat} {v : Option V} {z : Option (Option V)} (h : i ≠ j) (e : σ[j]? = z) : (σ.set i v)[j]? = z := by
  rw [List.getElem?_set_ne h]
  exact e
theorem slot_at {σ : L2.St} {i n : Nat} {v : Option V} (h : σ.length = n) (hi : i < n) : (σ.set i v)[i]? = some v := List.getElem?_set_self (by omega)
section
variable {P : Program} {w : World} {K : PySem.W.Frag} {mg : Str → Option Value} {base : Heap}
def sp_digit : Sp := fun vs H Q _ => ∃ st b, vs = [.ref st, .int b] ∧ 0 < b ∧ b < 1000 ∧ StOk H st ∧ ∀ H' r, SameS st H H' → StOk H' st → 0 ≤ r → r < b → Q (.int r) H'
theorem ok_law_digit (T : Tx K mg) : Fn0 P w K mg base 1 d_law_digit p_law_digit sp_digit := by
  refine FunD.ok (fn_law_digit T) s_law_digit (fun vs H Q E h => ?_) (fun cdv A outer s H vs Q E hr h => ?_)
  · obtain ⟨st, b, rfl, _⟩ := h
    rfl
  obtain ⟨st, b, rfl, hb, hb2, hst, hQ⟩ := h
  refine ⟨_, (pss_cons (ps_if (pt_cmpR op_eq (pe_callB call_len rfl (mf_len T) boot_len1 (pa_cons (pv 0) pa_nil)) pe_int (nomark _)) (pss_cons (ps_set (i := 2) s_law_digit.nd rfl (.inl rfl) (pe_ix ix_list (pv 0) pe_int (fun _ _ => rfl))) (pss_cons (ps_asg (pe_ix ix_list (pe_lst (pa_cons pe_int (pa_cons (pv 2) pa_nil))) (pe_callTy call_int1 rfl (mf_int T) boot_int1 (pa_cons (pe_cmpR op_ge (pv 2) (pe_op op_pow pe_int pe_int) (nomark _)) pa_nil)) (fun _ _ => rfl)) (pg_sub (pv 0) pe_int set_list)) (pss_one (ps_expr (pe_bm PySem.F.plainAttrs_list PySem.F.slot_list_extend PySem.F.type_list_extend mt_extend (pv 0) (pa_cons (pe_lst (pa_cons (pe_op op_mod (pe_callTy call_int1 rfl (mf_int T) boot_int1 (pa_cons (pv 2) pa_nil)) pe_int) (pa_cons pe_int pa_nil))) pa_nil)))))) pss_nil) (pss_cons (ps_if (pt_cmpR op_gt (pe_ix ix_list (pv 0) pe_int (fun _ _ => rfl)) pe_int (nomark _)) (pss_cons (ps_set (i := 3) s_law_digit.nd rfl (.inl rfl) (pe_op op_mod (pe_callTy call_int1 rfl (mf_int T) boot_int1 (pa_cons (pe_ix ix_list (pv 0) pe_int (fun _ _ => rfl)) pa_nil)) (pv 1))) (pss_cons (ps_asg (pe_op op_fdiv (pe_ix ix_list (pv 0) pe_int (fun _ _ => rfl)) (pv 1)) (pg_sub (pv 0) pe_int set_list)) (pss_one (ps_ret (pv 3))))) pss_nil) (pss_cons (ps_asg (pe_op op_add (pe_ix ix_list (pv 0) pe_int (fun _ _ => rfl)) pe_int) (pg_sub (pv 0) pe_int set_list)) (pss_cons (ps_set (i := 4) s_law_digit.nd rfl (.inl rfl) (pe_op op_mod (pe_callTy call_int1 rfl (mf_int T) boot_int1 (pa_cons (pe_op op_mul (pe_op op_add (pe_op op_add (pe_ix ix_list (pv 0) pe_int (fun _ _ => rfl)) (pe_op op_mul pe_int (pe_ix ix_list (pv 0) pe_int (fun _ _ => rfl)))) pe_int) pe_int) pa_nil)) pe_int)) (pss_cons (ps_set (i := 4) s_law_digit.nd rfl (.inl rfl) (pe_op op_mod (pe_callTy call_int1 rfl (mf_int T) boot_int1 (pa_cons (pe_op op_mul (pv 4) (pe_op op_add (pe_op op_fdiv (pv 4) pe_int) pe_int)) pa_nil)) pe_int)) (pss_one (ps_ret (pe_op op_mod (pe_callTy call_int1 rfl (mf_int T) boot_int1 (pa_cons (pe_op op_mod (pe_callTy call_int1 rfl (mf_int T) boot_int1 (pa_cons (pe_op op_mul (pv 4) (pe_op op_add (pe_op op_fdiv (pv 4) pe_int) pe_int)) pa_nil)) pe_int) pa_nil)) (pv 1))))))))), ?_⟩
  have hsz : sizeLine = 16777216 := sizeLine_eq
  refine seqI (fun σ H1 => σ[0]? = some (some (.ref st)) ∧ σ[1]? = some (some (.int b)) ∧ σ.length = 5 ∧ SameS st H H1 ∧ ∃ x y z, H1 st = some (.lst [.int x, .int y, .int z])) (fun N hN => ?_) (fun σ H1 R => ?_)
  · rcases hst with ⟨n, hn⟩ | ⟨x, y, z, hn⟩
    · refine ⟨_, rfl, _, 1, rfl, .inl ⟨_, SqL.of hn, rfl⟩, rfl, _, rfl, ?_⟩
      refine ite2 (fun _ => ?_) (fun h => (h (by simp)).elim)
      refine sqN ⟨.ref st, rfl, st, _, 0, _, rfl, rfl, SqL.of hn, rfl, ?_⟩
      refine sqA ⟨.int n, rfl, by show 2 ≤ sizeLine; omega, fun p np => ?_⟩
      refine ⟨.int n, rfl, 10, 18, rfl, rfl, ⟨by decide, by decide, by decide⟩, n, _, rfl, rfl, .inr ⟨_, rfl, ?_⟩⟩
      refine ⟨p, _, _, _, rfl, rfl, SqL.of upd_same, at01 0 n _, .ref st, rfl, st, _, 0, 0, rfl, rfl, upd2 hn np, rfl, ?_⟩
      refine ⟨.ref st, rfl, .inl ⟨rfl, _, SqL.of upd_same⟩, .int n, rfl, .inl ⟨n, rfl, n, 2147483647, rfl, rfl, (show (0 : Int) < 2147483647 by decide), by show 2 ≤ sizeLine; omega, fun p2 np2 => ?_⟩⟩
      refine ⟨st, p2, _, _, rfl, rfl, upd2 upd_same np2, upd_same, by show 1 + 2 ≤ sizeLine; omega, hN _ _ ⟨rfl, rfl, rfl, ?_, _, _, _, upd_same⟩⟩
      exact ((SameS.new np).trans SameS.set).trans ((SameS.new np2).trans SameS.set)
    · refine ⟨_, rfl, _, 3, rfl, .inl ⟨_, SqL.of hn, rfl⟩, rfl, _, rfl, ?_⟩
      refine ite2 (fun h => ?_) (fun _ => hN _ _ ⟨rfl, rfl, rfl, .refl _ _, x, y, z, hn⟩)
      simp at h
  · obtain ⟨h0, h1, hlen, sS, x, y, z, hs⟩ := R
    refine ⟨_, h0, st, _, 0, _, rfl, rfl, SqL.of hs, rfl, x, 0, rfl, rfl, _, rfl, ?_⟩
    refine ite2 (fun _ => ?_) (fun _ => ?_)
    · refine sqN ⟨_, h0, st, _, 0, _, rfl, rfl, SqL.of hs, rfl, .inl ⟨x, rfl, .int b, h1, x, b, rfl, rfl, hb, ?_⟩⟩
      refine sqA ⟨_, slot_ne (by decide) h0, st, _, 0, _, rfl, rfl, SqL.of hs, rfl, .int b, slot_ne (by decide) h1, x, b, rfl, rfl, ⟨hb, by omega⟩, .ref st, slot_ne (by decide) h0, st, _, 0, 0, rfl, rfl, hs, rfl, ?_⟩
      exact ⟨_, slot_at hlen (by decide), hQ _ _ (sS.trans SameS.set) (.inr ⟨_, _, _, upd_same⟩) (Int.emod_nonneg _ (by omega)) (Int.emod_lt_of_pos _ hb)⟩
    · refine nxI ?_
      dsimp only
      refine sqA ⟨_, h0, st, _, 2, _, rfl, rfl, SqL.of hs, rfl, z, 1, rfl, rfl, .ref st, h0, st, _, 2, 2, rfl, rfl, hs, rfl, ?_⟩
      refine sqN ⟨_, h0, st, _, 1, _, rfl, rfl, SqL.of upd_same, rfl, _, h0, st, _, 2, _, rfl, rfl, SqL.of upd_same, rfl, ?_⟩
      refine ⟨7919, z + 1, rfl, rfl, .inl ⟨by decide, by decide⟩, y, _, rfl, rfl, _, 1, rfl, rfl, _, 48271, rfl, rfl, .inr ⟨by decide, by decide⟩, .inl ⟨_, rfl, _, 2147483647, rfl, rfl, (show (0 : Int) < 2147483647 by decide), ?_⟩⟩
      have b1 : 0 ≤ ((y + 7919 * (z + 1) + 1) * 48271 % 2147483647) ∧ ((y + 7919 * (z + 1) + 1) * 48271 % 2147483647) < 2147483647 := by
        exact ⟨Int.emod_nonneg _ (by decide), Int.emod_lt_of_pos _ (by decide)⟩
      show tSeq _ _ _ (σ.set 4 (some (V.int ((y + 7919 * (z + 1) + 1) * 48271 % 2147483647)))) _
      generalize ((y + 7919 * (z + 1) + 1) * 48271 % 2147483647) = N1 at b1 ⊢
      have c1 : CMul N1 (N1 / 1009 + 69621) := .inl ⟨by omega, by omega⟩
      refine sqN ⟨_, slot_at hlen (by decide), _, slot_at hlen (by decide), N1, 1009, rfl, rfl, ⟨by decide, by decide⟩, _, 69621, rfl, rfl, N1, _, rfl, rfl, c1, .inl ⟨_, rfl, _, 2147483647, rfl, rfl, (show (0 : Int) < 2147483647 by decide), ?_⟩⟩
      have b2 : 0 ≤ N1 * (N1 / 1009 + 69621) % 2147483647 ∧ N1 * (N1 / 1009 + 69621) % 2147483647 < 2147483647 := by
        exact ⟨Int.emod_nonneg _ (by decide), Int.emod_lt_of_pos _ (by decide)⟩
      show tRet _ _ ((σ.set 4 (some (V.int N1))).set 4 (some (V.int (N1 * (N1 / 1009 + 69621) % 2147483647)))) _
      generalize N1 * (N1 / 1009 + 69621) % 2147483647 = N2 at b2 ⊢
      have c2 : CMul N2 (N2 / 2003 + 40692) := .inl ⟨by omega, by omega⟩
      have l2 : (σ.set 4 (some (V.int N1))).length = 5 := by rw [List.length_set]; exact hlen
      refine ⟨_, slot_at l2 (by decide), _, slot_at l2 (by decide), N2, 2003, rfl, rfl, ⟨by decide, by decide⟩, _, 40692, rfl, rfl, N2, _, rfl, rfl, c2, .inl ⟨_, rfl, _, 2147483399, rfl, rfl, (show (0 : Int) < 2147483399 by decide), .inl ⟨_, rfl, ?_⟩⟩⟩
      exact ⟨_, slot_ne (by decide) (slot_ne (by decide) h1), _, b, rfl, rfl, hb, hQ _ _ (sS.trans SameS.set) (.inr ⟨_, _, _, upd_same⟩) (Int.emod_nonneg _ (by omega)) (Int.emod_lt_of_pos _ hb)⟩
/-- a digit drawn -/
theorem rd_dig {σ : L2.St} {i : Nat} {te : TE} {H : Hp} {st : Addr} {b : Int} {E : XK} {Q : VK} (h0 : σ[i]? = some (some (.ref st))) (hte : ∀ Q' : VK, Q' (.int b) H → te σ H Q') (hb : 0 < b) (hb2 : b < 1000) (hst : StOk H st) (q : ∀ H' r, SameS st H H' → StOk H' st → 0 ≤ r → r < b → Q (.int r) H') :
    tCall sp_digit [] E (tCons (tVar i) (tCons te tNil)) σ H Q := ⟨_, h0, hte _ ⟨st, b, rfl, hb, hb2, hst, q⟩⟩
theorem atI_all {xs : List V} {j : Int} (h0 : 0 ≤ j) (h1 : j < xs.length) : ∃ v, atI xs j = some v ∧ v ∈ xs := by
  have hn : j.toNat < xs.length := by omega
  refine ⟨xs[j.toNat], ?_, List.getElem_mem hn⟩
  unfold atI ixN
  rw [if_pos h0, if_pos h1]
  exact List.getElem?_eq_getElem hn
end
end Pw
set_option Elab.async false
set_option linter.all false
set_option maxRecDepth 100000
set_option maxHeartbeats 400000
/-! Lists of lambdas that grow, and are asked. -/
namespace Pw
open PySem PySem.Spec PyProof.Rows L2 LamX
/-- the tables of the defs that make lambdas -/
def Tall : List (Addr × Str) := [(1043, "_law_stand_doors.<locals>.<lambda>"), (1050, "_law_box_doors.<locals>.<lambda>"), (1057, "_law_rule_doors.<locals>.<lambda>"), (1064, "_law_count_doors.<locals>.<lambda>"), (1071, "_law_life_doors.<locals>.<lambda>"), (1078, "_law_other_doors.<locals>.<lambda>")]
/-- all but the list at p and the tables stays -/
def KeepP (p : Addr) (H H' : Hp) : Prop := ∀ b o, b ≠ p → (∀ ps, o ≠ .tbl ps) → H b = some o → H' b = some o
theorem extN_same {H H' : Hp} (s : Same H H') : ExtN H H' := fun b o e _ => s b o e
theorem KeepP.of {p : Addr} {H H' : Hp} (e : ExtN H H') : KeepP p H H' := fun b o _ n h => e b o h n
theorem KeepP.trans {p : Addr} {H H1 H2 : Hp} (a : KeepP p H H1) (b : KeepP p H1 H2) : KeepP p H H2 := fun c o n t e => b c o n t (a c o n t e)
theorem KeepP.upd {p : Addr} {H : Hp} {u : HO} : KeepP p H (upd H p u) := fun b o n _ e => by
  rw [upd_ne n]
  exact e
/-- no object but a table stood at p -/
def NoN (H0 : Hp) (p : Addr) : Prop := ∀ o, H0 p = some o → ∃ ps, o = .tbl ps
theorem noN_of {H0 H1 : Hp} {p : Addr} (e : ExtN H0 H1) (n : H1 p = none) : NoN H0 p := fun o h => by
  cases o with
  | tbl ps => exact ⟨ps, rfl⟩
  | _ =>
    have z := e p _ h (fun ps z => by cases z)
    rw [n] at z
    cases z
theorem NoN.ne {H0 : Hp} {p b : Addr} {o : HO} (n : NoN H0 p) (h : H0 b = some o) (t : ∀ ps, o ≠ .tbl ps) : b ≠ p := fun z => by
  rw [z] at h
  obtain ⟨ps, e⟩ := n o h
  exact t ps e
theorem KeepP.ext {p : Addr} {H0 H H' : Hp} (n : NoN H0 p) (e : ExtN H0 H) (k : KeepP p H H') : ExtN H0 H' := fun b o h t => k b o (n.ne h t) t (e b o h t)
theorem LamAt.keep {X : Cx} {t : XK → TE} {k : Nat} {H H' : Hp} {p f : Addr} {xs : List V} (L : LamAt X t k H f) (hp : H p = some (.lst xs)) (e : KeepP p H H') : LamAt X t k H' f := by
  obtain ⟨params, body, scope, pm, c', ctv, h1, h2, r⟩ := L
  refine ⟨params, body, scope, pm, c', ctv, e _ _ (fun z => ?_) (fun ps z => by cases z) h1, e _ _ (fun z => ?_) (fun ps => codeO_ne ps) h2, r⟩
  · rw [z, hp] at h1
    cases h1
  · rw [z, hp] at h2
    cases h2
/-- what a lambda must say -/
def GoodT (S : L2.St → Prop) (W : XK) (H0 : Hp) (t : XK → TE) : Prop := ∀ σ' H3, S σ' → ExtN H0 H3 → t (fun cls d H'' => Same H3 H'' ∧ W cls d H'') σ' H3 (fun _ _ => False)
structure AskInv (X : Cx) (p : Addr) (S : L2.St → Prop) (W : XK) (H0 H : Hp) (fs : List Addr) (n : Nat) : Prop where
  len : fs.length = n
  tabs : Tabs Tall H
  ext : ExtN H0 H
  new : NoN H0 p
  lst : H p = some (.lst (fs.map V.ref))
  all : ∀ f ∈ fs, ∃ t, LamAt X t 20 H f ∧ GoodT S W H0 t
theorem AskInv.keep {X : Cx} {p q : Addr} {S : L2.St → Prop} {W : XK} {H0 H H' : Hp} {fs : List Addr} {xs : List V} {n : Nat} (I : AskInv X p S W H0 H fs n) (hq : H q = some (.lst xs)) (hne : p ≠ q) (hq0 : NoN H0 q) (T : Tabs Tall H') (k : KeepP q H H') : AskInv X p S W H0 H' fs n :=
  ⟨I.len, T, k.ext hq0 I.ext, I.new, k _ _ hne (fun ps z => by cases z) I.lst, fun f hf => by
    obtain ⟨t, L, g⟩ := I.all f hf
    exact ⟨t, L.keep hq k, g⟩⟩
theorem AskInv.ext1 {X : Cx} {p : Addr} {S : L2.St → Prop} {W : XK} {H0 H H' : Hp} {fs : List Addr} {n : Nat} (I : AskInv X p S W H0 H fs n) (T : Tabs Tall H') (e : ExtN H H') : AskInv X p S W H0 H' fs n :=
  ⟨I.len, T, I.ext.trans e, I.new, e _ _ I.lst (fun ps z => by cases z), fun f hf => by
    obtain ⟨t, L, g⟩ := I.all f hf
    exact ⟨t, L.ext e, g⟩⟩
section
variable {X : Cx} {K : PySem.W.Frag} {S : L2.St → Prop} {W : XK} {H0 H : Hp} {σ : L2.St} {D : Ends} {u : TS} {i : Nat} {t : XK → TE}
theorem rd_first (hT : Tabs Tall H) (he : ExtN H0 H) (good : GoodT S W H0 t) (hk : ∀ p fs H', NoN H p → KeepP p H H' → AskInv X p S W H0 H' fs 1 → u D (σ.set i (some (.ref p))) H') :
    tSeq (tAsg (tLst (tCons (tLam0 X Tall t 20) tNil)) (gName i)) u D σ H := by
  refine sqN ⟨hT, fun f H1 e1 T1 n1 L1 => ⟨by show 1 ≤ sizeLine; rw [sizeLine_eq]; decide, fun p np => ?_⟩⟩
  have k1 : ∀ b o, H1 b = some o → upd H1 p (.lst [V.ref f]) b = some o := fun b o e => upd2 e np
  refine hk p [f] _ (noN_of e1 np) (.of (e1.trans (.of k1))) ⟨rfl, T1.ext k1, he.trans (e1.trans (.of k1)), noN_of (he.trans e1) np, upd_same, fun g hg => ?_⟩
  rw [List.mem_singleton.mp hg]
  exact ⟨t, L1.ext (.of k1), good⟩
theorem rd_append {p : Addr} {fs : List Addr} {n : Nat} (I : AskInv X p S W H0 H fs n) (hσ : σ[i]? = some (some (.ref p))) (hl : n < 100) (good : GoodT S W H0 t) (hk : ∀ fs' H', KeepP p H H' → AskInv X p S W H0 H' fs' (n + 1) → u D σ H') :
    tSeq (tDrop (tBM K "list" rAppend (tVar i) (tCons (tLam0 X Tall t 20) tNil))) u D σ H := by
  refine ⟨.ref p, hσ, .inl ⟨rfl, _, SqL.of I.lst⟩, I.tabs, fun f H1 e1 T1 n1 L1 => ?_⟩
  have hp : H1 p = some (.lst (fs.map V.ref)) := e1 _ _ I.lst (fun ps z => by cases z)
  refine ⟨p, _, .ref f, rfl, rfl, hp, ?_, ?_⟩
  · rw [List.length_map, I.len]
    have : sizeLine = 16777216 := sizeLine_eq
    omega
  · have kp : KeepP p H1 (upd H1 p (.lst (fs.map V.ref ++ [V.ref f]))) := KeepP.upd
    have T2 : Tabs Tall (upd H1 p (.lst (fs.map V.ref ++ [V.ref f]))) := fun q hq => by
      obtain ⟨ps, a1, a2, a3⟩ := T1 q hq
      refine ⟨ps, ?_, a2, fun pos cv hc => ?_⟩
      · rw [upd_ne fun z => by rw [z, hp] at a1; cases a1]
        exact a1
      · obtain ⟨c, e2, e3⟩ := a3 pos cv hc
        refine ⟨c, e2, ?_⟩
        rw [upd_ne fun z => by rw [z, hp] at e3; cases e3]
        exact e3
    refine hk (fs ++ [f]) _ ((KeepP.of e1).trans kp) ⟨by rw [List.length_append, I.len]; rfl, T2, kp.ext I.new (I.ext.trans e1), I.new, by rw [upd_same, List.map_append]; rfl, fun g hg => ?_⟩
    rcases List.mem_append.mp hg with m | m
    · obtain ⟨t', L, g'⟩ := I.all g m
      exact ⟨t', (L.ext e1).keep hp kp, g'⟩
    · rw [List.mem_singleton.mp m]
      exact ⟨t, L1.keep hp kp, good⟩
theorem rd_asked {p : Addr} {fs : List Addr} {x : Str} {E : XK} {Q : VK} {n : Nat} (I : AskInv X p S (TW x) H0 H fs n) (hσ : σ[i]? = some (some (.ref p))) (hS : S σ) (hl : n < 100) (h1 : SeqAt.shaped (.list (List.replicate n (.str x))) = true)
    (h2 : PyData.eqv (.list (List.replicate n (.str x))) (.list (List.replicate n (.str x))) = true) (hQ : ∀ H', Same H H' → Q (.bl true) H') : tAsked X (sp_all X.prog X.w X.K X.mg X.base) E (tCons (tVar i) (tCons (tC (.str x)) tNil)) σ H Q := by
  have hn := I.len
  subst hn
  refine ⟨.ref p, hσ, fun H2 Q2 s2 ask q => ?_, hQ⟩
  refine ⟨p, fs, x, rfl, s2 _ _ I.lst, by omega, h1, h2, fun f hf => ?_, q⟩
  obtain ⟨t, L, g⟩ := I.all f hf
  exact ask t 20 (TW x) f L (tw_grows x) fun H3 s3 => g σ H3 hS (I.ext.trans (extN_same s3))
end
end Pw
set_option Elab.async false
set_option linter.all false
set_option maxRecDepth 100000
set_option maxHeartbeats 4000000
/-! tuple * int where the int is at least 1. -/
namespace Pw
open PySem PySem.Spec PyProof.Rows L2 LamX
theorem tup_once (l : Addr) (items : Array Value) (n : Nat) (dd : Option Addr) (sl : Array (Option Value)) (u : Tok) :
    Meets (Builtin.«tuple.__mul__» ⟨[.ref l, .int 1 u], []⟩) (fun _ R s => s.heap.get? l = some { cls := .type "tuple", dict := dd, data := .seq items n, slots := sl } ∧ R (.ok (.ret (Value.ref l))) s) :=
  .of_wp fun prog w A R s h => by
    obtain ⟨hp, g, d, tk, os⟩ := s
    obtain ⟨hl, h⟩ := h
    have f1 := AutoSeq1.idx_int
    wp_walk using wpAny_loadPart' hl
    exact ⟨_, rfl, h⟩
def rRepA (K : PySem.W.Frag) : R2 := fun x y H Q => ∃ l k xs, x = .ref l ∧ y = .int k ∧ SqT K H l xs ∧ xs ≠ [] ∧ 1 ≤ k ∧ k ≤ 1000 ∧ xs.length ≤ 1000 ∧ (k = 1 → Q (.ref l) H) ∧ (2 ≤ k → ∀ p, H p = none → Q (.ref p) (upd H p (.tup (List.replicate k.toNat xs).flatten)))
theorem op_repA {X : Cx} {K : PySem.W.Frag} (hK : X.K = K := by rfl) : OpR X (binaryOp .Mult) (rRepA K) := by
  subst hK
  intro pins s σ H x y v u Q I rx ry h
  obtain ⟨l, k, xs, ex, ey, hT, hne, h1, h2, hz, q1, q2⟩ := h
  by_cases hk : k = 1
  · subst hk ex ey
    cases rx
    obtain ⟨t, rfl⟩ := ry
    obtain ⟨its, r, ⟨⟨cls, dd, data, sl⟩, ho, hc, n, hd⟩, hs⟩ := I.tuple hT
    simp only at hc hd
    subst hc hd
    refine wpAny_binaryOp_repeat_ref (T := "tuple") (U := "int") (by decide) ⟨_, ho, rfl⟩ (fun s' => typeIs_int s' 1 t) noFill_tuple_mul F.fills_int_mul F.slot_int_rmul repeat_tuple F.slot_int_index.lookup
      (call_meets F.slot_int_rmul (typeIs_int s 1 t) F.entry_int_rmul (F.args_int_rmul_2 _ _) (int_rmul_tuple 1 t l its.toArray n dd sl) ⟨ho, rfl, ⟨_, ho, rfl⟩, call_meets F.slot_tuple_mul ⟨_, ho, rfl⟩ F.entry_tuple_mul (F.args_tuple_mul_2 _ _) (tup_once l its.toArray n dd sl t) ⟨ho, ?_⟩⟩)
    exact ⟨.ref l, H, I, rfl, q1 rfl⟩
  · exact op_repT pins s σ H x y v u Q I rx ry ⟨l, k, xs, ex, ey, hT, hne, by omega, h2, hz, q2 (by omega)⟩
theorem op_neDK {X : Cx} {K : PySem.W.Frag} (hu : X.A.units + 64 < cLine) (hK : X.K = K := by rfl) : OpR X (compareOp .NotEq) (rNeD K) := by
  subst hK
  exact op_neD hu
theorem un_of {k : Nat} {A : Around} (r : Room k A) : A.units + 64 < cLine := by
  have z := r.un
  omega
/-- a def whose code is known -/
theorem ok_code {P : Program} {w : World} {K : PySem.W.Frag} {mg : Str → Option Value} {base : Heap} {x qual : Str} {params : Arguments} {body : List Stmt} {scope : Scope} {dvs : List V} {kws : List (Str × V)} {f c : Addr} {fd : FuncData} {CX : CXT} {N ps : List Str} {k : Nat} {sp : Sp} (F : FunD K x qual params body scope dvs kws f fd) (C : CodeOf K f c) (S : FnScope N ps scope) (len : ∀ vs H Q E, sp vs H Q E → vs.length = ps.length)
    (hbody : ∀ (A : Around) (outer : List Env) (s : Shared) (H : Hp) (vs : List V) (Q : VK) (E : XK), Room k (A.deeper (envOfC qual scope s.heap.objs.size f (.ref c))) → sp vs H Q E → ∃ t, PSs (cxOf CX P w K mg base N qual scope f (.ref c) A outer s H E) body t ∧ t { nx := fun _ H' => Q .non H', rt := Q } (L2.start N vs) H) : FnOk P w K mg base CX (k + 1) f fd ps sp := by
  obtain ⟨oc, od, dV, kV, doc, pm, an, cdv, ct, osl, rfl, lk, hcd, _, _⟩ := F.ex
  obtain rfl : cdv = .ref c := C _ _ _ _ lk
  exact fn_of lk hcd S len fun A outer s H vs Q E hr hsp => hbody A outer s H vs Q E hr hsp
/-! ### facts that stay as tables grow -/
mutual
theorem Dn.ext {H H' : Hp} (s : ExtN H H') : ∀ (d : D) (v : V), Dn H d v → Dn H' d v
  | .non, _, h => by unfold Dn at h ⊢; exact h
  | .bl _, _, h => by unfold Dn at h ⊢; exact h
  | .int _, _, h => by unfold Dn at h ⊢; exact h
  | .str _, _, h => by unfold Dn at h ⊢; exact h
  | .tup l, _, h => by
    unfold Dn at h ⊢
    obtain ⟨p, xs, e, hp, ha⟩ := h
    exact ⟨p, xs, e, s _ _ hp (fun ps z => by cases z), DnA.ext s l xs ha⟩
  | .lst l, _, h => by
    unfold Dn at h ⊢
    obtain ⟨p, xs, e, hp, ha⟩ := h
    exact ⟨p, xs, e, s _ _ hp (fun ps z => by cases z), DnA.ext s l xs ha⟩
theorem DnA.ext {H H' : Hp} (s : ExtN H H') : ∀ (l : List D) (xs : List V), DnA H l xs → DnA H' l xs
  | [], _, h => by unfold DnA at h ⊢; exact h
  | d :: l, _, h => by
    unfold DnA at h ⊢
    obtain ⟨v, vs, e, h1, h2⟩ := h
    exact ⟨v, vs, e, Dn.ext s d v h1, DnA.ext s l vs h2⟩
end
theorem Wd.ext {H H' : Hp} {v : V} {n m : Nat} {L : Int} (h : Wd H v n m L) (s : ExtN H H') : Wd H' v n m L := by
  obtain ⟨p, dx, f, r, fs, rs, e, h1, h2, h3, h4, h5, h6⟩ := h
  exact ⟨p, dx, f, r, fs, rs, e, s _ _ h1 (fun ps z => by cases z), s _ _ h2 (fun ps z => by cases z), h3, s _ _ h4 (fun ps z => by cases z), h5, h6⟩
/-! ### who refuses -/
theorem tw_at {x : Str} {C : Addr} {H : Hp} (i : Nat) (h1 : exCls[i]? = some C) (h2 : wordsL[i]? = some x) : TW x (.ref C) none H := .inr ⟨rfl, i, C, h1, h2, rfl⟩
abbrev EW (x : Str) (H3 : Hp) : XK := fun cls d H'' => Same H3 H'' ∧ TW x cls d H''
theorem ref_one {x : Str} {b : Bool} {C : Addr} {r : List (Bool × Addr)} {H3 H : Hp} (i : Nat) (hb : b = false) (h1 : exCls[i]? = some C) (h2 : wordsL[i]? = some x) (s : Same H3 H) : Refuse ((b, C) :: r) H (EW x H3) :=
  ⟨fun _ H' s' => ⟨s.trans s', tw_at i h1 h2⟩, fun h => by rw [hb] at h; cases h⟩
theorem ref_skip {b : Bool} {C : Addr} {r : List (Bool × Addr)} {H : Hp} {E : XK} (hb : b = true) (R : Refuse r H E) : Refuse ((b, C) :: r) H E := ⟨fun h => (by rw [hb] at h; cases h), fun _ => R⟩
theorem raisesW_of {x : Str} {H3 H : Hp} (s : Same H3 H) : RaisesW x H (EW x H3) := fun H' dd s' e => ⟨s.trans s', .inl ⟨rfl, dd, rfl, e⟩⟩
/-! ### where the lambdas' names lie -/
theorem tm_law_stand_doors : ((1043 : Addr), (d_law_stand_doors.qual ++ ".<locals>.") ++ "<lambda>") ∈ Tall := by decide +kernel
theorem tu_law_stand_doors : ∀ p ∈ Tall, p.1 = 1043 → p.2 = (d_law_stand_doors.qual ++ ".<locals>.") ++ "<lambda>" := by decide +kernel
theorem tm_law_box_doors : ((1050 : Addr), (d_law_box_doors.qual ++ ".<locals>.") ++ "<lambda>") ∈ Tall := by decide +kernel
theorem tu_law_box_doors : ∀ p ∈ Tall, p.1 = 1050 → p.2 = (d_law_box_doors.qual ++ ".<locals>.") ++ "<lambda>" := by decide +kernel
theorem tm_law_rule_doors : ((1057 : Addr), (d_law_rule_doors.qual ++ ".<locals>.") ++ "<lambda>") ∈ Tall := by decide +kernel
theorem tu_law_rule_doors : ∀ p ∈ Tall, p.1 = 1057 → p.2 = (d_law_rule_doors.qual ++ ".<locals>.") ++ "<lambda>" := by decide +kernel
theorem tm_law_count_doors : ((1064 : Addr), (d_law_count_doors.qual ++ ".<locals>.") ++ "<lambda>") ∈ Tall := by decide +kernel
theorem tu_law_count_doors : ∀ p ∈ Tall, p.1 = 1064 → p.2 = (d_law_count_doors.qual ++ ".<locals>.") ++ "<lambda>" := by decide +kernel
theorem tm_law_life_doors : ((1071 : Addr), (d_law_life_doors.qual ++ ".<locals>.") ++ "<lambda>") ∈ Tall := by decide +kernel
theorem tu_law_life_doors : ∀ p ∈ Tall, p.1 = 1071 → p.2 = (d_law_life_doors.qual ++ ".<locals>.") ++ "<lambda>" := by decide +kernel
theorem tm_law_other_doors : ((1078 : Addr), (d_law_other_doors.qual ++ ".<locals>.") ++ "<lambda>") ∈ Tall := by decide +kernel
theorem tu_law_other_doors : ∀ p ∈ Tall, p.1 = 1078 → p.2 = (d_law_other_doors.qual ++ ".<locals>.") ++ "<lambda>" := by decide +kernel
theorem cod_law_stand_doors {K : PySem.W.Frag} {mg : Str → Option Value} (T : Tx K mg) : CodeOf K d_law_stand_doors.at_ 1047 := T.cod (a_law_stand_doors, 1047) (List.mem_of_getElem? (i := 0) rfl)
theorem cod_law_box_doors {K : PySem.W.Frag} {mg : Str → Option Value} (T : Tx K mg) : CodeOf K d_law_box_doors.at_ 1054 := T.cod (a_law_box_doors, 1054) (List.mem_of_getElem? (i := 1) rfl)
theorem cod_law_rule_doors {K : PySem.W.Frag} {mg : Str → Option Value} (T : Tx K mg) : CodeOf K d_law_rule_doors.at_ 1061 := T.cod (a_law_rule_doors, 1061) (List.mem_of_getElem? (i := 2) rfl)
theorem cod_law_count_doors {K : PySem.W.Frag} {mg : Str → Option Value} (T : Tx K mg) : CodeOf K d_law_count_doors.at_ 1068 := T.cod (a_law_count_doors, 1068) (List.mem_of_getElem? (i := 3) rfl)
theorem cod_law_life_doors {K : PySem.W.Frag} {mg : Str → Option Value} (T : Tx K mg) : CodeOf K d_law_life_doors.at_ 1075 := T.cod (a_law_life_doors, 1075) (List.mem_of_getElem? (i := 4) rfl)
theorem cod_law_other_doors {K : PySem.W.Frag} {mg : Str → Option Value} (T : Tx K mg) : CodeOf K d_law_other_doors.at_ 1080 := T.cod (a_law_other_doors, 1080) (List.mem_of_getElem? (i := 5) rfl)
theorem shp_stand : SeqAt.shaped (.list (List.replicate 19 (.str "stand"))) = true := by decide +kernel
theorem eqv_stand : PyData.eqv (.list (List.replicate 19 (.str "stand"))) (.list (List.replicate 19 (.str "stand"))) = true := by decide +kernel
theorem shp_box : SeqAt.shaped (.list (List.replicate 9 (.str "box"))) = true := by decide +kernel
theorem eqv_box : PyData.eqv (.list (List.replicate 9 (.str "box"))) (.list (List.replicate 9 (.str "box"))) = true := by decide +kernel
theorem shp_rule : SeqAt.shaped (.list (List.replicate 6 (.str "rule"))) = true := by decide +kernel
theorem eqv_rule : PyData.eqv (.list (List.replicate 6 (.str "rule"))) (.list (List.replicate 6 (.str "rule"))) = true := by decide +kernel
theorem shp_rules : SeqAt.shaped (.list (List.replicate 2 (.str "rules"))) = true := by decide +kernel
theorem eqv_rules : PyData.eqv (.list (List.replicate 2 (.str "rules"))) (.list (List.replicate 2 (.str "rules"))) = true := by decide +kernel
theorem shp_count : SeqAt.shaped (.list (List.replicate 7 (.str "count"))) = true := by decide +kernel
theorem eqv_count : PyData.eqv (.list (List.replicate 7 (.str "count"))) (.list (List.replicate 7 (.str "count"))) = true := by decide +kernel
theorem shp_life : SeqAt.shaped (.list (List.replicate 3 (.str "life"))) = true := by decide +kernel
theorem eqv_life : PyData.eqv (.list (List.replicate 3 (.str "life"))) (.list (List.replicate 3 (.str "life"))) = true := by decide +kernel
theorem shp_walker : SeqAt.shaped (.list (List.replicate 4 (.str "walker"))) = true := by decide +kernel
theorem eqv_walker : PyData.eqv (.list (List.replicate 4 (.str "walker"))) (.list (List.replicate 4 (.str "walker"))) = true := by decide +kernel
theorem shp_room : SeqAt.shaped (.list (List.replicate 2 (.str "room"))) = true := by decide +kernel
theorem eqv_room : PyData.eqv (.list (List.replicate 2 (.str "room"))) (.list (List.replicate 2 (.str "room"))) = true := by decide +kernel
theorem shp_wish : SeqAt.shaped (.list (List.replicate 4 (.str "wish"))) = true := by decide +kernel
theorem eqv_wish : PyData.eqv (.list (List.replicate 4 (.str "wish"))) (.list (List.replicate 4 (.str "wish"))) = true := by decide +kernel
end Pw
set_option Elab.async false
set_option linter.all false
set_option maxRecDepth 100000
set_option maxHeartbeats 10000000
/-! The defs that ask the doors. -/
namespace Pw
open PySem PySem.Spec PyProof.Rows L2 LamX
theorem len_0 : ([] : List V).length ≤ sizeLine := Nat.zero_le _
theorem len_1 {a : V} : [a].length ≤ sizeLine := by show 1 ≤ sizeLine; rw [sizeLine_eq]; decide
theorem len_2 {a b : V} : [a, b].length ≤ sizeLine := by show 2 ≤ sizeLine; rw [sizeLine_eq]; decide
section
variable {P : Program} {w : World} {K : PySem.W.Frag} {mg : Str → Option Value} {base : Heap}
theorem dna_reps {H : Hp} : ∀ n, DnA H (List.replicate n .non) (List.replicate n V.non)
  | 0 => dna_nil
  | n + 1 => dna_cons dn_non (dna_reps n)
/-- (None,) * n -/
theorem rd_nones {σ : L2.St} {i : Nat} {H : Hp} {Q : VK} {v : V} {n m : Nat} {L : Int} {E : XK} (hs : σ[i]? = some (some v)) (hw : Wd H v n m L) (h1 : 1 ≤ m) (q : ∀ p H', Same H H' → H' p = some (.tup (List.replicate m .non)) → Q (.ref p) H') :
    tOp (rRepA K) (tTup (tCons (tC .non) tNil)) (tMeth c_World "walkers" sp_walkers [] E (tVar i) tNil) σ H Q := by
  refine ⟨len_1, fun p np => ?_⟩
  have hw2 := hw.mono (same_upd (u := .tup [V.non]) np)
  refine rd_walkers hs hw2 ⟨p, (m : Nat), [V.non], rfl, rfl, SqT.of upd_same, by simp, by omega, ?_, by decide, fun e => q p _ (same_upd np) ?_, fun e p2 np2 => q p2 _ ((same_upd np).trans (same_upd np2)) ?_⟩
  · obtain ⟨_, _, _, _, _, _, _, _, _, _, _, _, _, z⟩ := hw
    omega
  · have : m = 1 := by omega
    subst this
    exact upd_same
  · rw [upd_same, Int.toNat_natCast]
    have e : ∀ k, (List.replicate k [V.non]).flatten = List.replicate k V.non := fun k => by
      induction k with
      | zero => rfl
      | succ k ih => rw [List.replicate_succ, List.flatten_cons, ih]; rfl
    rw [e]
def sp_stand_doors : Sp := fun vz H Q _ => ∃ wv vo vs vb d1 d2 d3 n m L, vz = [wv, vo, vs, vb] ∧ Tabs Tall H ∧ Wd H wv n m L ∧ 1 ≤ m ∧ Dn H d1 vo ∧ Dn H d2 vs ∧ Dn H d3 vb ∧ slim d3 ∧ isStand n m L d1 = false ∧ isStand n m L d2 = true ∧ isBox n m L d3 = true ∧ ∀ H', ExtN H H' → Tabs Tall H' → Q (.bl true) H'
theorem ok_law_stand_doors (T : Tx K mg) (TB : TabB base mg 1047 1043) : Fn0 P w K mg base 24 d_law_stand_doors p_law_stand_doors sp_stand_doors := by
  refine ok_code (fn_law_stand_doors T) (cod_law_stand_doors T) s_law_stand_doors (fun vz H Q E h => ?_) (fun A outer s H vz Q E hr h => ?_)
  · obtain ⟨wv, vo, vs, vb, d1, d2, d3, n, m, L, rfl, _⟩ := h
    rfl
  obtain ⟨wv, vo, vs, vb, d1, d2, d3, n, m, L, rfl, hT, hw, hm, ho, hs, hb, zb, c1, c2, c3, hQ⟩ := h
  refine ⟨_, (pss_cons (ps_set (i := 4) s_law_stand_doors.nd rfl (.inr rfl) (pe_op op_repA (pe_tup (pa_cons pe_non pa_nil)) (pe_meth0 (pv 0) (cls_World T) (met_walkers T) (ok_World_walkers T) (hr.mono (by decide)) (b_World_walkers T) .nil pass0))) (pss_cons (ps_set (i := 5) s_law_stand_doors.nd rfl (.inl rfl) (pe_lst (pa_cons (pe_lam (T := Tall) (k := 20) TB rfl tm_law_stand_doors tu_law_stand_doors (lamS_by (sc := defScope d_law_stand_doors.st) (by decide +kernel)) rfl (fun _ _ _ _ _ => rfl) (fun A outer s H E f c' hr => (pe_call (ok_picks T) (hr.mono (by decide)) rfl (mg_picks T) (fn_picks T).kp (b_picks T) .nil passL (pa_cons (pv 0) (pa_cons (pv 1) pa_nil))))) pa_nil))) (pss_cons (ps_expr (pe_bm PySem.F.plainAttrs_list PySem.F.slot_list_append PySem.F.type_list_append mt_append (pv 5) (pa_cons (pe_lam (T := Tall) (k := 20) TB rfl tm_law_stand_doors tu_law_stand_doors (lamS_by (sc := defScope d_law_stand_doors.st) (by decide +kernel)) rfl (fun _ _ _ _ _ => rfl) (fun A outer s H E f c' hr => (pe_call (ok_beat T) (hr.mono (by decide)) rfl (mg_beat T) (fn_beat T).kp (b_beat T) .nil passL (pa_cons (pv 0) (pa_cons (pv 1) pa_nil))))) pa_nil))) (pss_cons (ps_expr (pe_bm PySem.F.plainAttrs_list PySem.F.slot_list_append PySem.F.type_list_append mt_append (pv 5) (pa_cons (pe_lam (T := Tall) (k := 20) TB rfl tm_law_stand_doors tu_law_stand_doors (lamS_by (sc := defScope d_law_stand_doors.st) (by decide +kernel)) rfl (fun _ _ _ _ _ => rfl) (fun A outer s H E f c' hr => (pe_call (ok_run T) (hr.mono (by decide)) rfl (mg_run T) (fn_run T).kp (b_run T) .nil passL (pa_cons (pv 0) (pa_cons (pv 1) (pa_cons pe_int pa_nil)))))) pa_nil))) (pss_cons (ps_expr (pe_bm PySem.F.plainAttrs_list PySem.F.slot_list_append PySem.F.type_list_append mt_append (pv 5) (pa_cons (pe_lam (T := Tall) (k := 20) TB rfl tm_law_stand_doors tu_law_stand_doors (lamS_by (sc := defScope d_law_stand_doors.st) (by decide +kernel)) rfl (fun _ _ _ _ _ => rfl) (fun A outer s H E f c' hr => (pe_call (ok_round_of T) (hr.mono (by decide)) rfl (mg_round_of T) (fn_round_of T).kp (b_round_of T) .nil passL (pa_cons (pv 0) (pa_cons (pv 1) pa_nil))))) pa_nil))) (pss_cons (ps_expr (pe_bm PySem.F.plainAttrs_list PySem.F.slot_list_append PySem.F.type_list_append mt_append (pv 5) (pa_cons (pe_lam (T := Tall) (k := 20) TB rfl tm_law_stand_doors tu_law_stand_doors (lamS_by (sc := defScope d_law_stand_doors.st) (by decide +kernel)) rfl (fun _ _ _ _ _ => rfl) (fun A outer s H E f c' hr => (pe_call (ok_at T) (hr.mono (by decide)) rfl (mg_at T) (fn_at T).kp (b_at T) .nil passL (pa_cons (pv 0) (pa_cons (pv 1) (pa_cons pe_int pa_nil)))))) pa_nil))) (pss_cons (ps_expr (pe_bm PySem.F.plainAttrs_list PySem.F.slot_list_append PySem.F.type_list_append mt_append (pv 5) (pa_cons (pe_lam (T := Tall) (k := 20) TB rfl tm_law_stand_doors tu_law_stand_doors (lamS_by (sc := defScope d_law_stand_doors.st) (by decide +kernel)) rfl (fun _ _ _ _ _ => rfl) (fun A outer s H E f c' hr => (pe_call (ok_visits T) (hr.mono (by decide)) rfl (mg_visits T) (fn_visits T).kp (b_visits T) .nil passL (pa_cons (pv 0) (pa_cons (pv 1) (pa_cons pe_int (pa_cons pe_int pa_nil))))))) pa_nil))) (pss_cons (ps_expr (pe_bm PySem.F.plainAttrs_list PySem.F.slot_list_append PySem.F.type_list_append mt_append (pv 5) (pa_cons (pe_lam (T := Tall) (k := 20) TB rfl tm_law_stand_doors tu_law_stand_doors (lamS_by (sc := defScope d_law_stand_doors.st) (by decide +kernel)) rfl (fun _ _ _ _ _ => rfl) (fun A outer s H E f c' hr => (pe_call (ok_gone T) (hr.mono (by decide)) rfl (mg_gone T) (fn_gone T).kp (b_gone T) .nil passL (pa_cons (pv 0) (pa_cons (pv 1) (pa_cons pe_int (pa_cons pe_int pa_nil))))))) pa_nil))) (pss_cons (ps_expr (pe_bm PySem.F.plainAttrs_list PySem.F.slot_list_append PySem.F.type_list_append mt_append (pv 5) (pa_cons (pe_lam (T := Tall) (k := 20) TB rfl tm_law_stand_doors tu_law_stand_doors (lamS_by (sc := defScope d_law_stand_doors.st) (by decide +kernel)) rfl (fun _ _ _ _ _ => rfl) (fun A outer s H E f c' hr => (pe_call (ok_first_when T) (hr.mono (by decide)) rfl (mg_first_when T) (fn_first_when T).kp (b_first_when T) .nil passL (pa_cons (pv 0) (pa_cons (pv 1) (pa_cons (pv 4) pa_nil)))))) pa_nil))) (pss_cons (ps_expr (pe_bm PySem.F.plainAttrs_list PySem.F.slot_list_append PySem.F.type_list_append mt_append (pv 5) (pa_cons (pe_lam (T := Tall) (k := 20) TB rfl tm_law_stand_doors tu_law_stand_doors (lamS_by (sc := defScope d_law_stand_doors.st) (by decide +kernel)) rfl (fun _ _ _ _ _ => rfl) (fun A outer s H E f c' hr => (pe_call (ok_times T) (hr.mono (by decide)) rfl (mg_times T) (fn_times T).kp (b_times T) .nil passL (pa_cons (pv 0) (pa_cons (pv 1) (pa_cons (pv 4) (pa_cons pe_int pa_nil))))))) pa_nil))) (pss_cons (ps_expr (pe_bm PySem.F.plainAttrs_list PySem.F.slot_list_append PySem.F.type_list_append mt_append (pv 5) (pa_cons (pe_lam (T := Tall) (k := 20) TB rfl tm_law_stand_doors tu_law_stand_doors (lamS_by (sc := defScope d_law_stand_doors.st) (by decide +kernel)) rfl (fun _ _ _ _ _ => rfl) (fun A outer s H E f c' hr => (pe_call (ok_holds T) (hr.mono (by decide)) rfl (mg_holds T) (fn_holds T).kp (b_holds T) .nil passL (pa_cons (pv 0) (pa_cons (pv 3) (pa_cons (pv 1) pa_nil)))))) pa_nil))) (pss_cons (ps_expr (pe_bm PySem.F.plainAttrs_list PySem.F.slot_list_append PySem.F.type_list_append mt_append (pv 5) (pa_cons (pe_lam (T := Tall) (k := 20) TB rfl tm_law_stand_doors tu_law_stand_doors (lamS_by (sc := defScope d_law_stand_doors.st) (by decide +kernel)) rfl (fun _ _ _ _ _ => rfl) (fun A outer s H E f c' hr => (pe_call (ok_keeps T) (hr.mono (by decide)) rfl (mg_keeps T) (fn_keeps T).kp (b_keeps T) .nil passL (pa_cons (pv 0) (pa_cons (pv 1) (pa_cons (pe_lst pa_nil) pa_nil)))))) pa_nil))) (pss_cons (ps_expr (pe_bm PySem.F.plainAttrs_list PySem.F.slot_list_append PySem.F.type_list_append mt_append (pv 5) (pa_cons (pe_lam (T := Tall) (k := 20) TB rfl tm_law_stand_doors tu_law_stand_doors (lamS_by (sc := defScope d_law_stand_doors.st) (by decide +kernel)) rfl (fun _ _ _ _ _ => rfl) (fun A outer s H E f c' hr => (pe_call (ok_put T) (hr.mono (by decide)) rfl (mg_put T) (fn_put T).kp (b_put T) .nil passL (pa_cons (pv 0) (pa_cons (pv 1) (pa_cons pe_int pa_nil)))))) pa_nil))) (pss_cons (ps_expr (pe_bm PySem.F.plainAttrs_list PySem.F.slot_list_append PySem.F.type_list_append mt_append (pv 5) (pa_cons (pe_lam (T := Tall) (k := 20) TB rfl tm_law_stand_doors tu_law_stand_doors (lamS_by (sc := defScope d_law_stand_doors.st) (by decide +kernel)) rfl (fun _ _ _ _ _ => rfl) (fun A outer s H E f c' hr => (pe_call (ok_looked T) (hr.mono (by decide)) rfl (mg_looked T) (fn_looked T).kp (b_looked T) .nil passL (pa_cons (pv 0) (pa_cons (pv 1) (pa_cons pe_int pa_nil)))))) pa_nil))) (pss_cons (ps_expr (pe_bm PySem.F.plainAttrs_list PySem.F.slot_list_append PySem.F.type_list_append mt_append (pv 5) (pa_cons (pe_lam (T := Tall) (k := 20) TB rfl tm_law_stand_doors tu_law_stand_doors (lamS_by (sc := defScope d_law_stand_doors.st) (by decide +kernel)) rfl (fun _ _ _ _ _ => rfl) (fun A outer s H E f c' hr => (pe_call (ok_led T) (hr.mono (by decide)) rfl (mg_led T) (fn_led T).kp (b_led T) .nil passL (pa_cons (pv 0) (pa_cons (pv 1) (pa_cons (pe_lst pa_nil) pa_nil)))))) pa_nil))) (pss_cons (ps_expr (pe_bm PySem.F.plainAttrs_list PySem.F.slot_list_append PySem.F.type_list_append mt_append (pv 5) (pa_cons (pe_lam (T := Tall) (k := 20) TB rfl tm_law_stand_doors tu_law_stand_doors (lamS_by (sc := defScope d_law_stand_doors.st) (by decide +kernel)) rfl (fun _ _ _ _ _ => rfl) (fun A outer s H E f c' hr => (pe_call (ok_fewest T) (hr.mono (by decide)) rfl (mg_fewest T) (fn_fewest T).kp (b_fewest T) .nil passL (pa_cons (pv 0) (pa_cons (pv 1) (pa_cons (pv 4) pa_nil)))))) pa_nil))) (pss_cons (ps_expr (pe_bm PySem.F.plainAttrs_list PySem.F.slot_list_append PySem.F.type_list_append mt_append (pv 5) (pa_cons (pe_lam (T := Tall) (k := 20) TB rfl tm_law_stand_doors tu_law_stand_doors (lamS_by (sc := defScope d_law_stand_doors.st) (by decide +kernel)) rfl (fun _ _ _ _ _ => rfl) (fun A outer s H E f c' hr => (pe_call (ok_check_fewest T) (hr.mono (by decide)) rfl (mg_check_fewest T) (fn_check_fewest T).kp (b_check_fewest T) .nil passL (pa_cons (pv 0) (pa_cons (pv 1) (pa_cons (pv 4) (pa_cons pe_non pa_nil))))))) pa_nil))) (pss_cons (ps_expr (pe_bm PySem.F.plainAttrs_list PySem.F.slot_list_append PySem.F.type_list_append mt_append (pv 5) (pa_cons (pe_lam (T := Tall) (k := 20) TB rfl tm_law_stand_doors tu_law_stand_doors (lamS_by (sc := defScope d_law_stand_doors.st) (by decide +kernel)) rfl (fun _ _ _ _ _ => rfl) (fun A outer s H E f c' hr => (pe_call (ok_parted T) (hr.mono (by decide)) rfl (mg_parted T) (fn_parted T).kp (b_parted T) .nil passL (pa_cons (pv 0) (pa_cons (pv 1) (pa_cons (pv 0) (pa_cons (pv 2) pa_nil))))))) pa_nil))) (pss_cons (ps_expr (pe_bm PySem.F.plainAttrs_list PySem.F.slot_list_append PySem.F.type_list_append mt_append (pv 5) (pa_cons (pe_lam (T := Tall) (k := 20) TB rfl tm_law_stand_doors tu_law_stand_doors (lamS_by (sc := defScope d_law_stand_doors.st) (by decide +kernel)) rfl (fun _ _ _ _ _ => rfl) (fun A outer s H E f c' hr => (pe_call (ok_parted T) (hr.mono (by decide)) rfl (mg_parted T) (fn_parted T).kp (b_parted T) .nil passL (pa_cons (pv 0) (pa_cons (pv 2) (pa_cons (pv 0) (pa_cons (pv 1) pa_nil))))))) pa_nil))) (pss_cons (ps_expr (pe_bm PySem.F.plainAttrs_list PySem.F.slot_list_append PySem.F.type_list_append mt_append (pv 5) (pa_cons (pe_lam (T := Tall) (k := 20) TB rfl tm_law_stand_doors tu_law_stand_doors (lamS_by (sc := defScope d_law_stand_doors.st) (by decide +kernel)) rfl (fun _ _ _ _ _ => rfl) (fun A outer s H E f c' hr => (pe_call (ok_together T) (hr.mono (by decide)) rfl (mg_together T) (fn_together T).kp (b_together T) .nil passL (pa_cons (pv 0) (pa_cons (pv 1) (pa_cons pe_int (pa_cons pe_int pa_nil))))))) pa_nil))) (pss_one (ps_ret (pe_asked (E := E0) (ok_law_all T) (hr.mono (by decide)) (fun _ => rfl) rfl (mg_law_all T) (fn_law_all T).kp (b_law_all T) (fun _ _ _ _ _ _ h => h) (pa_cons (pv 5) (pa_cons pe_str pa_nil))))))))))))))))))))))))), ?_⟩
  refine sqN (rd_nones rfl hw hm fun pw H1 s1 e1 => ?_)
  have hwi : Dn H1 (.tup (List.replicate m .non)) (.ref pw) := dn_tup e1 (dna_reps m)
  replace hT := hT.ext s1
  replace hw := hw.mono s1
  replace ho := Dn.mono s1 _ _ ho
  replace hs := Dn.mono s1 _ _ hs
  replace hb := Dn.mono s1 _ _ hb
  refine rd_first (S := fun σ => σ[0]? = some (some wv) ∧ σ[1]? = some (some vo) ∧ σ[2]? = some (some vs) ∧ σ[3]? = some (some vb) ∧ σ[4]? = some (some (.ref pw))) (W := TW "stand") (H0 := H1) hT (ExtN.refl _) (fun σ' H3 S e => ⟨_, S.1, _, S.2.1, wv, vo, d1, n, m, L, rfl, (hw.ext e), (Dn.ext e _ _ ho), ref_one 0 c1 rfl rfl (Same.refl _)⟩) fun p fs H2 np k2 I => ?_
  clear k2
  refine rd_append I rfl (by decide) (fun σ' H3 S e => ⟨_, S.1, _, S.2.1, wv, vo, d1, n, m, L, rfl, (hw.ext e), (Dn.ext e _ _ ho), ref_one 0 c1 rfl rfl (Same.refl _)⟩) fun fs H2 k2 I => ?_
  clear k2
  refine rd_append I rfl (by decide) (fun σ' H3 S e => ⟨_, S.1, _, S.2.1, wv, vo, .int 2, d1, (.int 2), n, m, L, rfl, (hw.ext e), (Dn.ext e _ _ ho), (dn_int 2), ref_one 0 c1 rfl rfl (Same.refl _)⟩) fun fs H2 k2 I => ?_
  clear k2
  refine rd_append I rfl (by decide) (fun σ' H3 S e => ⟨_, S.1, _, S.2.1, wv, vo, d1, n, m, L, rfl, (hw.ext e), (Dn.ext e _ _ ho), ref_one 0 c1 rfl rfl (Same.refl _)⟩) fun fs H2 k2 I => ?_
  clear k2
  refine rd_append I rfl (by decide) (fun σ' H3 S e => ⟨_, S.1, _, S.2.1, wv, vo, .int 3, d1, (.int 3), n, m, L, rfl, (hw.ext e), (Dn.ext e _ _ ho), (dn_int 3), ref_one 0 c1 rfl rfl (Same.refl _)⟩) fun fs H2 k2 I => ?_
  clear k2
  refine rd_append I rfl (by decide) (fun σ' H3 S e => ⟨_, S.1, _, S.2.1, wv, vo, .int 0, .int 3, d1, (.int 0), (.int 3), n, m, L, rfl, (hw.ext e), (Dn.ext e _ _ ho), (dn_int 0), (dn_int 3), ref_one 0 c1 rfl rfl (Same.refl _)⟩) fun fs H2 k2 I => ?_
  clear k2
  refine rd_append I rfl (by decide) (fun σ' H3 S e => ⟨_, S.1, _, S.2.1, wv, vo, .int 0, .int 3, d1, (.int 0), (.int 3), n, m, L, rfl, (hw.ext e), (Dn.ext e _ _ ho), (dn_int 0), (dn_int 3), ref_one 0 c1 rfl rfl (Same.refl _)⟩) fun fs H2 k2 I => ?_
  clear k2
  refine rd_append I rfl (by decide) (fun σ' H3 S e => ⟨_, S.1, _, S.2.1, _, S.2.2.2.2, wv, vo, (.ref pw), d1, (.tup (List.replicate m .non)), n, m, L, rfl, (hw.ext e), (Dn.ext e _ _ ho), (Dn.ext e _ _ hwi), ref_one 0 c1 rfl rfl (Same.refl _)⟩) fun fs H2 k2 I => ?_
  clear k2
  refine rd_append I rfl (by decide) (fun σ' H3 S e => ⟨_, S.1, _, S.2.1, _, S.2.2.2.2, wv, vo, (.ref pw), .int 3, d1, (.tup (List.replicate m .non)), (.int 3), n, m, L, rfl, (hw.ext e), (Dn.ext e _ _ ho), (Dn.ext e _ _ hwi), (dn_int 3), ref_one 0 c1 rfl rfl (Same.refl _)⟩) fun fs H2 k2 I => ?_
  clear k2
  refine rd_append I rfl (by decide) (fun σ' H3 S e => ⟨_, S.1, _, S.2.2.2.1, _, S.2.1, wv, vb, vo, d3, d1, n, m, L, rfl, (hw.ext e), (Dn.ext e _ _ hb), (Dn.ext e _ _ ho), zb, ref_skip c3 (ref_one 0 c1 rfl rfl (Same.refl _))⟩) fun fs H2 k2 I => ?_
  clear k2
  refine rd_append I rfl (by decide) (fun σ' H3 S e => ⟨_, S.1, _, S.2.1, len_0, fun q0 nq0 => ⟨wv, vo, .ref q0, d1, n, m, L, rfl, ((hw.ext e).mono (same_upd nq0)), (Dn.mono (same_upd nq0) _ _ (Dn.ext e _ _ ho)), ref_one 0 c1 rfl rfl (same_upd nq0)⟩⟩) fun fs H2 k2 I => ?_
  clear k2
  refine rd_append I rfl (by decide) (fun σ' H3 S e => ⟨_, S.1, _, S.2.1, wv, vo, .int 0, d1, (.int 0), n, m, L, rfl, (hw.ext e), (Dn.ext e _ _ ho), (dn_int 0), ref_one 0 c1 rfl rfl (Same.refl _)⟩) fun fs H2 k2 I => ?_
  clear k2
  refine rd_append I rfl (by decide) (fun σ' H3 S e => ⟨_, S.1, _, S.2.1, wv, vo, .int 0, d1, (.int 0), n, m, L, rfl, (hw.ext e), (Dn.ext e _ _ ho), (dn_int 0), ref_one 0 c1 rfl rfl (Same.refl _)⟩) fun fs H2 k2 I => ?_
  clear k2
  refine rd_append I rfl (by decide) (fun σ' H3 S e => ⟨_, S.1, _, S.2.1, len_0, fun q0 nq0 => ⟨wv, vo, .ref q0, d1, n, m, L, rfl, ((hw.ext e).mono (same_upd nq0)), (Dn.mono (same_upd nq0) _ _ (Dn.ext e _ _ ho)), ref_one 0 c1 rfl rfl (same_upd nq0)⟩⟩) fun fs H2 k2 I => ?_
  clear k2
  refine rd_append I rfl (by decide) (fun σ' H3 S e => ⟨_, S.1, _, S.2.1, _, S.2.2.2.2, wv, vo, (.ref pw), d1, (.tup (List.replicate m .non)), n, m, L, rfl, (hw.ext e), (Dn.ext e _ _ ho), (Dn.ext e _ _ hwi), ref_one 0 c1 rfl rfl (Same.refl _)⟩) fun fs H2 k2 I => ?_
  clear k2
  refine rd_append I rfl (by decide) (fun σ' H3 S e => ⟨_, S.1, _, S.2.1, _, S.2.2.2.2, wv, vo, (.ref pw), .non, d1, (.tup (List.replicate m .non)), n, m, L, rfl, (hw.ext e), (Dn.ext e _ _ ho), (Dn.ext e _ _ hwi), ref_one 0 c1 rfl rfl (Same.refl _)⟩) fun fs H2 k2 I => ?_
  clear k2
  refine rd_append I rfl (by decide) (fun σ' H3 S e => ⟨_, S.1, _, S.2.1, _, S.1, _, S.2.2.1, wv, vo, wv, vs, d1, d2, n, m, L, n, L, rfl, (hw.ext e), (hw.ext e), (Dn.ext e _ _ ho), (Dn.ext e _ _ hs), ref_one 0 c1 rfl rfl (Same.refl _)⟩) fun fs H2 k2 I => ?_
  clear k2
  refine rd_append I rfl (by decide) (fun σ' H3 S e => ⟨_, S.1, _, S.2.2.1, _, S.1, _, S.2.1, wv, vs, wv, vo, d2, d1, n, m, L, n, L, rfl, (hw.ext e), (hw.ext e), (Dn.ext e _ _ hs), (Dn.ext e _ _ ho), ref_skip c2 (ref_one 0 c1 rfl rfl (Same.refl _))⟩) fun fs H2 k2 I => ?_
  clear k2
  refine rd_append I rfl (by decide) (fun σ' H3 S e => ⟨_, S.1, _, S.2.1, wv, vo, .int 0, .int 0, d1, (.int 0), (.int 0), n, m, L, rfl, (hw.ext e), (Dn.ext e _ _ ho), (dn_int 0), (dn_int 0), ref_one 0 c1 rfl rfl (Same.refl _)⟩) fun fs H2 k2 I => ?_
  exact rd_asked I rfl ⟨rfl, rfl, rfl, rfl, rfl⟩ (by decide) shp_stand eqv_stand fun H' s' => hQ H' ((extN_same s1).trans (I.ext.trans (extN_same s'))) (I.tabs.ext s')
end
end Pw
set_option Elab.async false
set_option linter.all false
set_option maxRecDepth 100000
set_option maxHeartbeats 10000000
/-! The box doors, the rule doors. -/
namespace Pw
open PySem PySem.Spec PyProof.Rows L2 LamX
section
variable {P : Program} {w : World} {K : PySem.W.Frag} {mg : Str → Option Value} {base : Heap}
theorem rulesOk2 (a b : D) : rulesOk (.lst [a, b]) = (isRule a && isRule b) := by
  show (true && true && (isRule a && (isRule b && true))) = _
  simp only [Bool.and_true, Bool.true_and]
theorem same_mk {H : Hp} {x dx : Addr} {u v : HO} (nx : H x = none) (ndx : H dx = none) (ne : dx ≠ x) : Same H (upd (upd H dx u) x v) := fun b o e => by
  rw [upd_ne (ne_of_none e nx), upd_ne (ne_of_none e ndx)]
  exact e
theorem ifNot {te : TE} {t v u : TS} {D : Ends} {σ : L2.St} {H : Hp} (h : te σ H fun x H' => ∃ k, x = .bl k ∧ (if (!k) = true then t { D with nx := u D } σ H' else v { D with nx := u D } σ H')) : tSeq (tIfS (tNot (tB te)) t v) u D σ H := h
def sp_box_doors : Sp := fun vz H Q _ => ∃ wv vo vs vb d1 d2 d3 n m L, vz = [wv, vo, vs, vb] ∧ Tabs Tall H ∧ Wd H wv n m L ∧ Dn H d1 vo ∧ Dn H d2 vs ∧ Dn H d3 vb ∧ slim d1 ∧ slim d3 ∧ isBox n m L d1 = false ∧ isStand n m L d2 = true ∧ isBox n m L d3 = true ∧ ∀ H', ExtN H H' → Tabs Tall H' → Q (.bl true) H'
theorem ok_law_box_doors (T : Tx K mg) (TB : TabB base mg 1054 1050) : Fn0 P w K mg base 24 d_law_box_doors p_law_box_doors sp_box_doors := by
  refine ok_code (fn_law_box_doors T) (cod_law_box_doors T) s_law_box_doors (fun vz H Q E h => ?_) (fun A outer s H vz Q E hr h => ?_)
  · obtain ⟨wv, vo, vs, vb, d1, d2, d3, n, m, L, rfl, _⟩ := h
    rfl
  obtain ⟨wv, vo, vs, vb, d1, d2, d3, n, m, L, rfl, hT, hw, ho, hs, hb, zo, zb, c1, c2, c3, hQ⟩ := h
  refine ⟨_, (pss_cons (ps_set (i := 4) s_law_box_doors.nd rfl (.inl rfl) (pe_lst (pa_cons (pe_lam (T := Tall) (k := 20) TB rfl tm_law_box_doors tu_law_box_doors (lamS_by (sc := defScope d_law_box_doors.st) (by decide +kernel)) rfl (fun _ _ _ _ _ => rfl) (fun A outer s H E f c' hr => (pe_call (ok_many_in T) (hr.mono (by decide)) rfl (mg_many_in T) (fn_many_in T).kp (b_many_in T) .nil passL (pa_cons (pv 0) (pa_cons (pv 1) pa_nil))))) pa_nil))) (pss_cons (ps_expr (pe_bm PySem.F.plainAttrs_list PySem.F.slot_list_append PySem.F.type_list_append mt_append (pv 4) (pa_cons (pe_lam (T := Tall) (k := 20) TB rfl tm_law_box_doors tu_law_box_doors (lamS_by (sc := defScope d_law_box_doors.st) (by decide +kernel)) rfl (fun _ _ _ _ _ => rfl) (fun A outer s H E f c' hr => (pe_call (ok_holds T) (hr.mono (by decide)) rfl (mg_holds T) (fn_holds T).kp (b_holds T) .nil passL (pa_cons (pv 0) (pa_cons (pv 1) (pa_cons (pv 2) pa_nil)))))) pa_nil))) (pss_cons (ps_expr (pe_bm PySem.F.plainAttrs_list PySem.F.slot_list_append PySem.F.type_list_append mt_append (pv 4) (pa_cons (pe_lam (T := Tall) (k := 20) TB rfl tm_law_box_doors tu_law_box_doors (lamS_by (sc := defScope d_law_box_doors.st) (by decide +kernel)) rfl (fun _ _ _ _ _ => rfl) (fun A outer s H E f c' hr => (pe_call (ok_meet T) (hr.mono (by decide)) rfl (mg_meet T) (fn_meet T).kp (b_meet T) .nil passL (pa_cons (pv 0) (pa_cons (pv 1) (pa_cons (pv 3) pa_nil)))))) pa_nil))) (pss_cons (ps_expr (pe_bm PySem.F.plainAttrs_list PySem.F.slot_list_append PySem.F.type_list_append mt_append (pv 4) (pa_cons (pe_lam (T := Tall) (k := 20) TB rfl tm_law_box_doors tu_law_box_doors (lamS_by (sc := defScope d_law_box_doors.st) (by decide +kernel)) rfl (fun _ _ _ _ _ => rfl) (fun A outer s H E f c' hr => (pe_call (ok_meet T) (hr.mono (by decide)) rfl (mg_meet T) (fn_meet T).kp (b_meet T) .nil passL (pa_cons (pv 0) (pa_cons (pv 3) (pa_cons (pv 1) pa_nil)))))) pa_nil))) (pss_cons (ps_expr (pe_bm PySem.F.plainAttrs_list PySem.F.slot_list_append PySem.F.type_list_append mt_append (pv 4) (pa_cons (pe_lam (T := Tall) (k := 20) TB rfl tm_law_box_doors tu_law_box_doors (lamS_by (sc := defScope d_law_box_doors.st) (by decide +kernel)) rfl (fun _ _ _ _ _ => rfl) (fun A outer s H E f c' hr => (pe_call (ok_parts T) (hr.mono (by decide)) rfl (mg_parts T) (fn_parts T).kp (b_parts T) .nil passL (pa_cons (pv 0) (pa_cons (pv 1) pa_nil))))) pa_nil))) (pss_cons (ps_expr (pe_bm PySem.F.plainAttrs_list PySem.F.slot_list_append PySem.F.type_list_append mt_append (pv 4) (pa_cons (pe_lam (T := Tall) (k := 20) TB rfl tm_law_box_doors tu_law_box_doors (lamS_by (sc := defScope d_law_box_doors.st) (by decide +kernel)) rfl (fun _ _ _ _ _ => rfl) (fun A outer s H E f c' hr => (pe_call (ok_onward T) (hr.mono (by decide)) rfl (mg_onward T) (fn_onward T).kp (b_onward T) .nil passL (pa_cons (pv 0) (pa_cons (pv 1) pa_nil))))) pa_nil))) (pss_cons (ps_expr (pe_bm PySem.F.plainAttrs_list PySem.F.slot_list_append PySem.F.type_list_append mt_append (pv 4) (pa_cons (pe_lam (T := Tall) (k := 20) TB rfl tm_law_box_doors tu_law_box_doors (lamS_by (sc := defScope d_law_box_doors.st) (by decide +kernel)) rfl (fun _ _ _ _ _ => rfl) (fun A outer s H E f c' hr => (pe_call (ok_back T) (hr.mono (by decide)) rfl (mg_back T) (fn_back T).kp (b_back T) .nil passL (pa_cons (pv 0) (pa_cons (pv 1) pa_nil))))) pa_nil))) (pss_cons (ps_expr (pe_bm PySem.F.plainAttrs_list PySem.F.slot_list_append PySem.F.type_list_append mt_append (pv 4) (pa_cons (pe_lam (T := Tall) (k := 20) TB rfl tm_law_box_doors tu_law_box_doors (lamS_by (sc := defScope d_law_box_doors.st) (by decide +kernel)) rfl (fun _ _ _ _ _ => rfl) (fun A outer s H E f c' hr => (pe_call (ok_back_by T) (hr.mono (by decide)) rfl (mg_back_by T) (fn_back_by T).kp (b_back_by T) .nil passL (pa_cons (pv 0) (pa_cons (pv 1) (pa_cons pe_int pa_nil)))))) pa_nil))) (pss_cons (ps_expr (pe_bm PySem.F.plainAttrs_list PySem.F.slot_list_append PySem.F.type_list_append mt_append (pv 4) (pa_cons (pe_lam (T := Tall) (k := 20) TB rfl tm_law_box_doors tu_law_box_doors (lamS_by (sc := defScope d_law_box_doors.st) (by decide +kernel)) rfl (fun _ _ _ _ _ => rfl) (fun A outer s H E f c' hr => (pe_call (ok_many_back T) (hr.mono (by decide)) rfl (mg_many_back T) (fn_many_back T).kp (b_many_back T) .nil passL (pa_cons (pv 0) (pa_cons (pv 1) (pa_cons pe_int pa_nil)))))) pa_nil))) (pss_one (ps_ret (pe_asked (E := E0) (ok_law_all T) (hr.mono (by decide)) (fun _ => rfl) rfl (mg_law_all T) (fn_law_all T).kp (b_law_all T) (fun _ _ _ _ _ _ h => h) (pa_cons (pv 4) (pa_cons pe_str pa_nil)))))))))))))), ?_⟩
  refine rd_first (S := fun σ => σ[0]? = some (some wv) ∧ σ[1]? = some (some vo) ∧ σ[2]? = some (some vs) ∧ σ[3]? = some (some vb)) (W := TW "box") (H0 := H) hT (ExtN.refl _) (fun σ' H3 S e => ⟨_, S.1, _, S.2.1, wv, vo, d1, n, m, L, rfl, (hw.ext e), (Dn.ext e _ _ ho), zo, ref_one 1 c1 rfl rfl (Same.refl _)⟩) fun p fs H2 np k2 I => ?_
  clear k2
  refine rd_append I rfl (by decide) (fun σ' H3 S e => ⟨_, S.1, _, S.2.1, _, S.2.2.1, wv, vo, vs, d1, d2, n, m, L, rfl, (hw.ext e), (Dn.ext e _ _ ho), (Dn.ext e _ _ hs), zo, ref_one 1 c1 rfl rfl (Same.refl _)⟩) fun fs H2 k2 I => ?_
  clear k2
  refine rd_append I rfl (by decide) (fun σ' H3 S e => ⟨_, S.1, _, S.2.1, _, S.2.2.2, wv, vo, vb, d1, d3, n, m, L, rfl, (hw.ext e), (Dn.ext e _ _ ho), (Dn.ext e _ _ hb), zo, zb, ref_one 1 c1 rfl rfl (Same.refl _)⟩) fun fs H2 k2 I => ?_
  clear k2
  refine rd_append I rfl (by decide) (fun σ' H3 S e => ⟨_, S.1, _, S.2.2.2, _, S.2.1, wv, vb, vo, d3, d1, n, m, L, rfl, (hw.ext e), (Dn.ext e _ _ hb), (Dn.ext e _ _ ho), zb, zo, ref_skip c3 (ref_one 1 c1 rfl rfl (Same.refl _))⟩) fun fs H2 k2 I => ?_
  clear k2
  refine rd_append I rfl (by decide) (fun σ' H3 S e => ⟨_, S.1, _, S.2.1, wv, vo, d1, n, m, L, rfl, (hw.ext e), (Dn.ext e _ _ ho), zo, ref_one 1 c1 rfl rfl (Same.refl _)⟩) fun fs H2 k2 I => ?_
  clear k2
  refine rd_append I rfl (by decide) (fun σ' H3 S e => ⟨_, S.1, _, S.2.1, wv, vo, d1, n, m, L, rfl, (hw.ext e), (Dn.ext e _ _ ho), zo, ref_one 1 c1 rfl rfl (Same.refl _)⟩) fun fs H2 k2 I => ?_
  clear k2
  refine rd_append I rfl (by decide) (fun σ' H3 S e => ⟨_, S.1, _, S.2.1, wv, vo, d1, n, m, L, rfl, (hw.ext e), (Dn.ext e _ _ ho), zo, ref_one 1 c1 rfl rfl (Same.refl _)⟩) fun fs H2 k2 I => ?_
  clear k2
  refine rd_append I rfl (by decide) (fun σ' H3 S e => ⟨_, S.1, _, S.2.1, wv, vo, .int 1, d1, (.int 1), n, m, L, rfl, (hw.ext e), (Dn.ext e _ _ ho), (dn_int 1), zo, ref_one 1 c1 rfl rfl (Same.refl _)⟩) fun fs H2 k2 I => ?_
  clear k2
  refine rd_append I rfl (by decide) (fun σ' H3 S e => ⟨_, S.1, _, S.2.1, wv, vo, .int 1, d1, (.int 1), n, m, L, rfl, (hw.ext e), (Dn.ext e _ _ ho), (dn_int 1), zo, ref_one 1 c1 rfl rfl (Same.refl _)⟩) fun fs H2 k2 I => ?_
  exact rd_asked I rfl ⟨rfl, rfl, rfl, rfl⟩ (by decide) shp_box eqv_box fun H' s' => hQ H' (I.ext.trans (extN_same s')) (I.tabs.ext s')
def sp_rule_doors : Sp := fun vz H Q _ => ∃ vo vr vl d1 d2 d3, vz = [vo, vr, vl] ∧ Tabs Tall H ∧ Dn H d1 vo ∧ Dn H d2 vr ∧ Dn H d3 vl ∧ isRule d1 = false ∧ isRule d2 = true ∧ isWhole 1 6 d3 = true ∧ ∀ H', ExtN H H' → Tabs Tall H' → Q (.bl true) H'
theorem ok_law_rule_doors (T : Tx K mg) (TB : TabB base mg 1061 1057) : Fn0 P w K mg base 24 d_law_rule_doors p_law_rule_doors sp_rule_doors := by
  refine ok_code (fn_law_rule_doors T) (cod_law_rule_doors T) s_law_rule_doors (fun vz H Q E h => ?_) (fun A outer s H vz Q E hr h => ?_)
  · obtain ⟨vo, vr, vl, d1, d2, d3, rfl, _⟩ := h
    rfl
  obtain ⟨vo, vr, vl, d1, d2, d3, rfl, hT, ho, hs, hl, c1, c2, c3, hQ⟩ := h
  refine ⟨_, (pss_cons (ps_set (i := 3) s_law_rule_doors.nd rfl (.inl rfl) (pe_lst (pa_cons (pe_lam (T := Tall) (k := 20) TB rfl tm_law_rule_doors tu_law_rule_doors (lamS_by (sc := defScope d_law_rule_doors.st) (by decide +kernel)) rfl (fun _ _ _ _ _ => rfl) (fun A outer s H E f c' hr => (pe_call (ok_pick T) (hr.mono (by decide)) rfl (mg_pick T) (fn_pick T).kp (b_pick T) .nil passL (pa_cons (pv 0) (pa_cons (pe_tup (pa_cons pe_int (pa_cons pe_int pa_nil))) pa_nil))))) pa_nil))) (pss_cons (ps_expr (pe_bm PySem.F.plainAttrs_list PySem.F.slot_list_append PySem.F.type_list_append mt_append (pv 3) (pa_cons (pe_lam (T := Tall) (k := 20) TB rfl tm_law_rule_doors tu_law_rule_doors (lamS_by (sc := defScope d_law_rule_doors.st) (by decide +kernel)) rfl (fun _ _ _ _ _ => rfl) (fun A outer s H E f c' hr => (pe_call (ok_ranked T) (hr.mono (by decide)) rfl (mg_ranked T) (fn_ranked T).kp (b_ranked T) .nil passL (pa_cons (pv 0) (pa_cons (pv 2) pa_nil))))) pa_nil))) (pss_cons (ps_expr (pe_bm PySem.F.plainAttrs_list PySem.F.slot_list_append PySem.F.type_list_append mt_append (pv 3) (pa_cons (pe_lam (T := Tall) (k := 20) TB rfl tm_law_rule_doors tu_law_rule_doors (lamS_by (sc := defScope d_law_rule_doors.st) (by decide +kernel)) rfl (fun _ _ _ _ _ => rfl) (fun A outer s H E f c' hr => (pe_call (ok_alike T) (hr.mono (by decide)) rfl (mg_alike T) (fn_alike T).kp (b_alike T) .nil passL (pa_cons (pv 0) (pa_cons (pv 1) (pa_cons (pv 2) pa_nil)))))) pa_nil))) (pss_cons (ps_expr (pe_bm PySem.F.plainAttrs_list PySem.F.slot_list_append PySem.F.type_list_append mt_append (pv 3) (pa_cons (pe_lam (T := Tall) (k := 20) TB rfl tm_law_rule_doors tu_law_rule_doors (lamS_by (sc := defScope d_law_rule_doors.st) (by decide +kernel)) rfl (fun _ _ _ _ _ => rfl) (fun A outer s H E f c' hr => (pe_call (ok_alike T) (hr.mono (by decide)) rfl (mg_alike T) (fn_alike T).kp (b_alike T) .nil passL (pa_cons (pv 1) (pa_cons (pv 0) (pa_cons (pv 2) pa_nil)))))) pa_nil))) (pss_cons (ps_expr (pe_bm PySem.F.plainAttrs_list PySem.F.slot_list_append PySem.F.type_list_append mt_append (pv 3) (pa_cons (pe_lam (T := Tall) (k := 20) TB rfl tm_law_rule_doors tu_law_rule_doors (lamS_by (sc := defScope d_law_rule_doors.st) (by decide +kernel)) rfl (fun _ _ _ _ _ => rfl) (fun A outer s H E f c' hr => (pe_call (ok_alone T) (hr.mono (by decide)) rfl (mg_alone T) (fn_alone T).kp (b_alone T) .nil passL (pa_cons (pv 0) (pa_cons (pv 1) (pa_cons (pv 2) pa_nil)))))) pa_nil))) (pss_cons (ps_expr (pe_bm PySem.F.plainAttrs_list PySem.F.slot_list_append PySem.F.type_list_append mt_append (pv 3) (pa_cons (pe_lam (T := Tall) (k := 20) TB rfl tm_law_rule_doors tu_law_rule_doors (lamS_by (sc := defScope d_law_rule_doors.st) (by decide +kernel)) rfl (fun _ _ _ _ _ => rfl) (fun A outer s H E f c' hr => (pe_call (ok_alone T) (hr.mono (by decide)) rfl (mg_alone T) (fn_alone T).kp (b_alone T) .nil passL (pa_cons (pv 1) (pa_cons (pv 0) (pa_cons (pv 2) pa_nil)))))) pa_nil))) (pss_cons (ps_if (pt_not (pt_val (pe_asked (E := E0) (ok_law_all T) (hr.mono (by decide)) (fun _ => rfl) rfl (mg_law_all T) (fn_law_all T).kp (b_law_all T) (fun _ _ _ _ _ _ h => h) (pa_cons (pv 3) (pa_cons pe_str pa_nil))))) (pss_one (ps_ret pe_bl)) pss_nil) (pss_cons (ps_set (i := 3) s_law_rule_doors.nd rfl (.inl rfl) (pe_lst (pa_cons (pe_lam (T := Tall) (k := 20) TB rfl tm_law_rule_doors tu_law_rule_doors (lamS_by (sc := defScope d_law_rule_doors.st) (by decide +kernel)) rfl (fun _ _ _ _ _ => rfl) (fun A outer s H E f c' hr => (pe_make (mk_World T) (ok_World_init T) (hr.mono (by decide)) rfl (mg_World T) (b_World_init T) .nil passL (pa_cons (pe_lst (pa_cons (pe_tup (pa_cons pe_int pa_nil)) pa_nil)) (pa_cons (pv 2) (pa_cons (pe_lst (pa_cons (pv 1) (pa_cons (pv 0) pa_nil))) pa_nil)))))) pa_nil))) (pss_cons (ps_expr (pe_bm PySem.F.plainAttrs_list PySem.F.slot_list_append PySem.F.type_list_append mt_append (pv 3) (pa_cons (pe_lam (T := Tall) (k := 20) TB rfl tm_law_rule_doors tu_law_rule_doors (lamS_by (sc := defScope d_law_rule_doors.st) (by decide +kernel)) rfl (fun _ _ _ _ _ => rfl) (fun A outer s H E f c' hr => (pe_make (mk_World T) (ok_World_init T) (hr.mono (by decide)) rfl (mg_World T) (b_World_init T) .nil passL (pa_cons (pe_lst (pa_cons (pe_tup (pa_cons pe_int pa_nil)) pa_nil)) (pa_cons (pv 2) (pa_cons (pe_lst (pa_cons (pv 0) (pa_cons (pv 1) pa_nil))) pa_nil)))))) pa_nil))) (pss_one (ps_ret (pe_asked (E := E0) (ok_law_all T) (hr.mono (by decide)) (fun _ => rfl) rfl (mg_law_all T) (fn_law_all T).kp (b_law_all T) (fun _ _ _ _ _ _ h => h) (pa_cons (pv 3) (pa_cons pe_str pa_nil)))))))))))))), ?_⟩
  refine rd_first (S := fun σ => σ[0]? = some (some vo) ∧ σ[1]? = some (some vr) ∧ σ[2]? = some (some vl)) (W := TW "rule") (H0 := H) hT (ExtN.refl _) (fun σ' H3 S e => ⟨_, S.1, len_2, fun q0 nq0 => ⟨vo, .ref q0, d1, rfl, (Dn.mono (same_upd nq0) _ _ (Dn.ext e _ _ ho)), ref_one 2 c1 rfl rfl (same_upd nq0)⟩⟩) fun p fs H2 np k2 I => ?_
  clear k2
  refine rd_append I rfl (by decide) (fun σ' H3 S e => ⟨_, S.1, _, S.2.2, vo, vl, d1, d3, rfl, (Dn.ext e _ _ ho), (Dn.ext e _ _ hl), ref_one 2 c1 rfl rfl (Same.refl _)⟩) fun fs H2 k2 I => ?_
  clear k2
  refine rd_append I rfl (by decide) (fun σ' H3 S e => ⟨_, S.1, _, S.2.1, _, S.2.2, vo, vr, vl, d1, d2, d3, rfl, (Dn.ext e _ _ ho), (Dn.ext e _ _ hs), (Dn.ext e _ _ hl), ref_one 2 c1 rfl rfl (Same.refl _)⟩) fun fs H2 k2 I => ?_
  clear k2
  refine rd_append I rfl (by decide) (fun σ' H3 S e => ⟨_, S.2.1, _, S.1, _, S.2.2, vr, vo, vl, d2, d1, d3, rfl, (Dn.ext e _ _ hs), (Dn.ext e _ _ ho), (Dn.ext e _ _ hl), ref_skip c2 (ref_one 2 c1 rfl rfl (Same.refl _))⟩) fun fs H2 k2 I => ?_
  clear k2
  refine rd_append I rfl (by decide) (fun σ' H3 S e => ⟨_, S.1, _, S.2.1, _, S.2.2, vo, vr, vl, d1, d2, d3, rfl, (Dn.ext e _ _ ho), (Dn.ext e _ _ hs), (Dn.ext e _ _ hl), ref_one 2 c1 rfl rfl (Same.refl _)⟩) fun fs H2 k2 I => ?_
  clear k2
  refine rd_append I rfl (by decide) (fun σ' H3 S e => ⟨_, S.2.1, _, S.1, _, S.2.2, vr, vo, vl, d2, d1, d3, rfl, (Dn.ext e _ _ hs), (Dn.ext e _ _ ho), (Dn.ext e _ _ hl), ref_skip c2 (ref_one 2 c1 rfl rfl (Same.refl _))⟩) fun fs H2 k2 I => ?_
  refine ifNot (rd_asked I rfl ⟨rfl, rfl, rfl⟩ (by decide) shp_rule eqv_rule fun H3 s3 => ⟨_, rfl, iteF ?_⟩)
  have e3 : ExtN H H3 := I.ext.trans (extN_same s3)
  have T3 := I.tabs.ext s3
  replace ho := Dn.ext e3 _ _ ho
  replace hs := Dn.ext e3 _ _ hs
  replace hl := Dn.ext e3 _ _ hl
  clear k2 np I s3
  have r1 : rulesOk (.lst [d2, d1]) = false := by rw [rulesOk2, c1, c2]; rfl
  have r2 : rulesOk (.lst [d1, d2]) = false := by rw [rulesOk2, c1, c2]; rfl
  refine nxI ?_
  dsimp only
  refine rd_first (S := fun σ => σ[0]? = some (some vo) ∧ σ[1]? = some (some vr) ∧ σ[2]? = some (some vl)) (W := TW "rules") (H0 := H3) T3 (ExtN.refl _) (fun σ' H4 S e => ⟨len_1, fun q0 n0 => ⟨len_1, fun q1 n1 => ⟨_, S.2.2, _, S.2.1, _, S.1, len_2, fun q2 n2 => fun x dx nx ndx ne => ⟨x, dx, .ref q1, vl, .ref q2, [.tup [.int 0]], d3, [d2, d1], rfl, upd_same, Dn.mono (same_mk nx ndx ne) _ _ (dn_lst (upd2 upd_same n2) (dna_cons (dn_tup (upd2 (upd2 upd_same n1) n2) (dna_cons (dn_int 0) dna_nil)) dna_nil)), rfl, Dn.mono (((same_upd n0).trans ((same_upd n1).trans (same_upd n2))).trans (same_mk nx ndx ne)) _ _ (Dn.ext e _ _ hl), Dn.mono (same_mk nx ndx ne) _ _ (dn_lst upd_same (dna_cons (Dn.mono ((same_upd n0).trans ((same_upd n1).trans (same_upd n2))) _ _ (Dn.ext e _ _ hs)) (dna_cons (Dn.mono ((same_upd n0).trans ((same_upd n1).trans (same_upd n2))) _ _ (Dn.ext e _ _ ho)) dna_nil))), (fun h => by rw [c3] at h; cases h), (fun _ _ => raisesW_of (((same_upd n0).trans ((same_upd n1).trans (same_upd n2))).trans (same_mk nx ndx ne))), fun _ h => by rw [r1] at h; cases h⟩⟩⟩⟩) fun p fs H2 np k2 I => ?_
  clear k2
  refine rd_append I rfl (by decide) (fun σ' H4 S e => ⟨len_1, fun q0 n0 => ⟨len_1, fun q1 n1 => ⟨_, S.2.2, _, S.1, _, S.2.1, len_2, fun q2 n2 => fun x dx nx ndx ne => ⟨x, dx, .ref q1, vl, .ref q2, [.tup [.int 0]], d3, [d1, d2], rfl, upd_same, Dn.mono (same_mk nx ndx ne) _ _ (dn_lst (upd2 upd_same n2) (dna_cons (dn_tup (upd2 (upd2 upd_same n1) n2) (dna_cons (dn_int 0) dna_nil)) dna_nil)), rfl, Dn.mono (((same_upd n0).trans ((same_upd n1).trans (same_upd n2))).trans (same_mk nx ndx ne)) _ _ (Dn.ext e _ _ hl), Dn.mono (same_mk nx ndx ne) _ _ (dn_lst upd_same (dna_cons (Dn.mono ((same_upd n0).trans ((same_upd n1).trans (same_upd n2))) _ _ (Dn.ext e _ _ ho)) (dna_cons (Dn.mono ((same_upd n0).trans ((same_upd n1).trans (same_upd n2))) _ _ (Dn.ext e _ _ hs)) dna_nil))), (fun h => by rw [c3] at h; cases h), (fun _ _ => raisesW_of (((same_upd n0).trans ((same_upd n1).trans (same_upd n2))).trans (same_mk nx ndx ne))), fun _ h => by rw [r2] at h; cases h⟩⟩⟩⟩) fun fs H2 k2 I => ?_
  exact rd_asked I rfl ⟨rfl, rfl, rfl⟩ (by decide) shp_rules eqv_rules fun H' s' => hQ H' (e3.trans (I.ext.trans (extN_same s'))) (I.tabs.ext s')
end
end Pw
set_option Elab.async false
set_option linter.all false
set_option maxRecDepth 100000
set_option maxHeartbeats 1000000
/-! The law's clauses and rules. -/
namespace Pw
open PySem PySem.Spec PyProof.Rows L2
theorem StOk.same {H H' : Hp} {st : Addr} (h : StOk H st) (s : Same H H') : StOk H' st := by
  rcases h with ⟨n, e⟩ | ⟨a, b, c, e⟩
  · exact .inl ⟨n, s _ _ e⟩
  · exact .inr ⟨a, b, c, s _ _ e⟩
theorem StOk.new {H : Hp} {st p : Addr} {u : HO} (h : StOk H st) (n : H p = none) : StOk (upd H p u) st := h.same (same_upd n)
theorem StOk.lst {H : Hp} {st : Addr} (h : StOk H st) : ∃ xs, H st = some (.lst xs) := by
  rcases h with ⟨n, e⟩ | ⟨a, b, c, e⟩
  · exact ⟨_, e⟩
  · exact ⟨_, e⟩
theorem StOk.ne {H : Hp} {st p : Addr} (h : StOk H st) (n : H p = none) : p ≠ st := fun z => by
  obtain ⟨xs, e⟩ := h.lst
  rw [z, e] at n
  cases n
section
variable {P : Program} {w : World} {K : PySem.W.Frag} {mg : Str → Option Value} {base : Heap}
theorem len_3 {a b c : V} : [a, b, c].length ≤ sizeLine := by show 3 ≤ sizeLine; rw [sizeLine_eq]; decide
theorem len_4 {a b c d : V} : [a, b, c, d].length ≤ sizeLine := by show 4 ≤ sizeLine; rw [sizeLine_eq]; decide
/-- [..][digit] -/
theorem rd_pick {σ : L2.St} {i : Nat} {ta : TA} {te : TE} {H : Hp} {st : Addr} {b : Int} {E : XK} {Q : VK} {xs : List V} (h0 : σ[i]? = some (some (.ref st))) (hta : ∀ Q' : List V → Hp → Prop, Q' xs H → ta σ H Q') (hlen : xs.length ≤ sizeLine) (hte : ∀ H' (Q' : VK), Q' (.int b) H' → te σ H' Q') (hb : b = xs.length) (h1 : 0 < xs.length) (h2 : xs.length < 1000) (hst : StOk H st)
    (q : ∀ H' v, SameS st H H' → StOk H' st → v ∈ xs → Q v H') : tOp (rIxL K) (tLst ta) (tCall sp_digit [] E (tCons (tVar i) (tCons te tNil))) σ H Q := by
  refine hta _ ⟨hlen, fun p np => ?_⟩
  refine rd_dig h0 (hte _) (by omega) (by omega) (hst.new np) fun H' r s' st' r0 r1 => ?_
  obtain ⟨v, e, m⟩ := atI_all (xs := xs) r0 (by omega)
  exact ⟨p, xs, r, v, rfl, rfl, SqL.of (s' _ _ (hst.ne np) upd_same), e, q H' v ((SameS.new np).trans s') st' m⟩
theorem tupI {ta : TA} {σ : L2.St} {H : Hp} {Q : VK} (h : ta σ H fun xs H1 => xs.length ≤ sizeLine ∧ ∀ p, H1 p = none → Q (.ref p) (upd H1 p (.tup xs))) : tTup ta σ H Q := h
theorem consI {te : TE} {ta : TA} {σ : L2.St} {H : Hp} {Q : List V → Hp → Prop} (h : te σ H fun x H1 => ta σ H1 fun xs H2 => Q (x :: xs) H2) : tCons te ta σ H Q := h
/-- a clause's value, as it stands -/
def ClAt (H : Hp) (v : V) (d : D) : Prop := ∃ p wd lo hi sd, v = .ref p ∧ H p = some (.tup [.str wd, .int lo, .int hi, .str sd]) ∧ d = .tup [.str wd, .int lo, .int hi, .str sd] ∧ isClause d = true
theorem isClause_ok {wd sd : Str} {lo hi : Int} (h1 : wd = "fresh" ∨ wd = "stale") (h2 : sd = "first" ∨ sd = "last") (h3 : 0 ≤ lo) (h4 : lo ≤ hi) (h5 : hi ≤ 9) : isClause (.tup [.str wd, .int lo, .int hi, .str sd]) = true := by
  show (isWord wWords (.str wd) && isWord wSides (.str sd) && isWhole 0 9 (.int lo) && hiOk (.int lo) (.int hi)) = true
  have e1 : isWord wWords (.str wd) = true := by
    rcases h1 with rfl | rfl <;> decide +kernel
  have e2 : isWord wSides (.str sd) = true := by
    rcases h2 with rfl | rfl <;> decide +kernel
  have e3 : isWhole 0 9 (.int lo) = true := by
    show (decide (0 ≤ lo) && decide (lo ≤ 9)) = true
    rw [decide_eq_true h3, decide_eq_true (by omega)]
    rfl
  have e4 : hiOk (.int lo) (.int hi) = true := by
    show (decide (lo ≤ hi) && decide (hi ≤ 9)) = true
    rw [decide_eq_true h4, decide_eq_true h5]
    rfl
  rw [e1, e2, e3, e4]
  rfl
def sp_clause : Sp := fun vs H Q _ => ∃ st, vs = [.ref st, .int 6] ∧ StOk H st ∧ ∀ H' v d, SameS st H H' → StOk H' st → ClAt H' v d → Q v H'
theorem ok_law_clause (T : Tx K mg) : Fn0 P w K mg base 2 d_law_clause p_law_clause sp_clause := by
  refine FunD.ok (fn_law_clause T) s_law_clause (fun vs H Q E h => ?_) (fun cdv A outer s H vs Q E hr h => ?_)
  · obtain ⟨st, rfl, _⟩ := h
    rfl
  obtain ⟨st, rfl, hst, hQ⟩ := h
  refine ⟨_, (pss_cons (ps_set (i := 2) s_law_clause.nd rfl (.inl rfl) (pe_call (ok_law_digit T) (hr.mono (by decide)) rfl (mg_law_digit T) (fn_law_digit T).kp (b_law_digit T) .nil pass0 (pa_cons (pv 0) (pa_cons (pe_op op_add (pv 1) pe_int) pa_nil)))) (pss_cons (ps_set (i := 3) s_law_clause.nd rfl (.inl rfl) (pe_ix ix_list (pe_lst (pa_cons (pv 2) (pa_cons (pv 1) (pa_cons (pe_op op_add (pv 2) (pe_call (ok_law_digit T) (hr.mono (by decide)) rfl (mg_law_digit T) (fn_law_digit T).kp (b_law_digit T) .nil pass0 (pa_cons (pv 0) (pa_cons (pe_op op_sub (pe_op op_add (pv 1) pe_int) (pv 2)) pa_nil)))) pa_nil)))) (pe_call (ok_law_digit T) (hr.mono (by decide)) rfl (mg_law_digit T) (fn_law_digit T).kp (b_law_digit T) .nil pass0 (pa_cons (pv 0) (pa_cons pe_int pa_nil))) (fun _ _ => rfl))) (pss_one (ps_ret (pe_tup (pa_cons (pe_ix ix_list (pe_lst (pa_cons pe_str (pa_cons pe_str pa_nil))) (pe_call (ok_law_digit T) (hr.mono (by decide)) rfl (mg_law_digit T) (fn_law_digit T).kp (b_law_digit T) .nil pass0 (pa_cons (pv 0) (pa_cons pe_int pa_nil))) (fun _ _ => rfl)) (pa_cons (pv 2) (pa_cons (pv 3) (pa_cons (pe_ix ix_list (pe_lst (pa_cons pe_str (pa_cons pe_str pa_nil))) (pe_call (ok_law_digit T) (hr.mono (by decide)) rfl (mg_law_digit T) (fn_law_digit T).kp (b_law_digit T) .nil pass0 (pa_cons (pv 0) (pa_cons pe_int pa_nil))) (fun _ _ => rfl)) pa_nil))))))))), ?_⟩
  refine sqN (rd_dig (b := 7) rfl (fun Q' q => ⟨_, rfl, 6, 1, rfl, rfl, q⟩) (by decide) (by decide) hst fun H1 lo s1 st1 l0 l1 => ?_)
  refine sqN ⟨_, rfl, _, rfl, _, rfl, ?_⟩
  refine rd_dig (b := 7 - lo) rfl (fun Q' q => ⟨_, rfl, 6, 1, rfl, rfl, _, rfl, 7, lo, rfl, rfl, q⟩) (by omega) (by omega) st1 fun H2 r s2 st2 r0 r1 => ?_
  refine ⟨lo, r, rfl, rfl, len_3, fun p np => ?_⟩
  refine rd_dig (b := 3) rfl (fun Q' q => q) (by decide) (by decide) (st2.new np) fun H3 j s3 st3 j0 j1 => ?_
  obtain ⟨v, e, m⟩ := atI_all (xs := [.int lo, .int 6, .int (lo + r)]) j0 j1
  obtain ⟨hi, rfl, h4, h5⟩ : ∃ hi, v = .int hi ∧ lo ≤ hi ∧ hi ≤ 6 := by
    simp only [List.mem_cons, List.not_mem_nil, or_false] at m
    rcases m with rfl | rfl | rfl
    · exact ⟨_, rfl, by omega, by omega⟩
    · exact ⟨_, rfl, by omega, by omega⟩
    · exact ⟨_, rfl, by omega, by omega⟩
  refine ⟨p, _, j, _, rfl, rfl, SqL.of (s3 _ _ (st2.ne np) upd_same), e, ?_⟩
  refine retI (tupI (consI ?_))
  refine rd_pick (b := 2) (xs := [.str "fresh", .str "stale"]) rfl (fun Q' q => q) len_2 (fun H' Q' q => q) rfl (by decide) (by decide) st3 fun H4 w1 s4 st4 m4 => ?_
  refine consI ⟨_, rfl, consI ⟨_, rfl, consI ?_⟩⟩
  refine rd_pick (b := 2) (xs := [.str "first", .str "last"]) rfl (fun Q' q => q) len_2 (fun H' Q' q => q) rfl (by decide) (by decide) st4 fun H5 w2 s5 st5 m5 => ?_
  obtain ⟨wd, rfl, hw⟩ : ∃ wd : Str, w1 = .str wd ∧ (wd = "fresh" ∨ wd = "stale") := by
    simp only [List.mem_cons, List.not_mem_nil, or_false] at m4
    rcases m4 with rfl | rfl
    · exact ⟨_, rfl, .inl rfl⟩
    · exact ⟨_, rfl, .inr rfl⟩
  obtain ⟨sd, rfl, hsd⟩ : ∃ sd : Str, w2 = .str sd ∧ (sd = "first" ∨ sd = "last") := by
    simp only [List.mem_cons, List.not_mem_nil, or_false] at m5
    rcases m5 with rfl | rfl
    · exact ⟨_, rfl, .inl rfl⟩
    · exact ⟨_, rfl, .inr rfl⟩
  refine ⟨len_4, fun q nq => hQ _ _ _ ?_ (st5.new nq) ⟨q, wd, lo, hi, sd, rfl, upd_same, rfl, isClause_ok hw hsd l0 h4 (by omega)⟩⟩
  exact ((((s1.trans s2).trans (SameS.new np)).trans s3).trans (s4.trans s5)).trans (SameS.new nq)
end
end Pw
set_option Elab.async false
set_option linter.all false
set_option maxRecDepth 100000
set_option maxHeartbeats 1000000
/-! Lists and tuples drawn from the state; the law's rules. -/
namespace Pw
open PySem PySem.Spec PyProof.Rows L2
theorem cbI {r : List V → Hp → VK → Prop} {ta : TA} {σ : L2.St} {H : Hp} {Q : VK} (h : ta σ H fun xs H1 => r xs H1 Q) : tCB r ta σ H Q := h
/-- the tuples stand -/
def SameT (H H' : Hp) : Prop := ∀ b xs, H b = some (.tup xs) → H' b = some (.tup xs)
theorem SameT.of {H H' : Hp} (s : Same H H') : SameT H H' := fun b xs e => s b _ e
theorem SameT.trans {H H1 H2 : Hp} (a : SameT H H1) (b : SameT H1 H2) : SameT H H2 := fun c xs e => b c xs (a c xs e)
theorem SameS.tup {H H' : Hp} {st : Addr} (s : SameS st H H') (h : StOk H st) : SameT H H' := fun b xs e => s b _ (fun z => by
  obtain ⟨ys, e2⟩ := h.lst
  rw [z, e2] at e
  cases e) e
theorem SameT.lst {H : Hp} {p : Addr} {xs : List V} {u : HO} (h : H p = some (.lst xs)) : SameT H (upd H p u) := fun b ys e => by
  rw [upd_ne fun z => by rw [z, h] at e; cases e]
  exact e
section
variable {P : Program} {w : World} {K : PySem.W.Frag} {mg : Str → Option Value} {base : Heap}
theorem rd_rangeS {ta : TA} {te : TE} {σ : L2.St} {j : Nat} {st : Addr} {H : Hp} {G : Hp → V → Prop} {N : Nat → Prop} {Q : VK} (hG : ∀ H H' v, SameT H H' → G H v → G H' v) (hs : ∀ R : List V → Hp → Prop, (∀ H1 (n : Nat), SameS st H H1 → StOk H1 st → n < 100 → N n → R [.int (n : Int)] H1) → ta σ H R)
    (he : ∀ H1 (i : Nat) (Q' : VK), SameS st H H1 → StOk H1 st → (∀ H2 v, SameS st H1 H2 → StOk H2 st → G H2 v → Q' v H2) → te (σ.set j (some (.int (0 + (i : Int))))) H1 Q')
    (hQ : ∀ p H' vs, SameS st H H' → StOk H' st → H' p = some (.lst vs) → p ≠ st → (∀ v ∈ vs, G H' v) → N vs.length → Q (.ref p) H') : tLc (iRng1 ta) (gName j) tYes te [j] σ H Q := by
  refine hs _ fun H1 n s1 st1 n1 hN => ⟨_, rfl, by omega, by omega, fun Dd hD => ?_⟩
  have dn := st1.ne hD
  rw [Int.toNat_natCast]
  refine lc_range (fun i H2 => ∃ vs, SameS st H H2 ∧ StOk H2 st ∧ H2 Dd = some (.lst vs) ∧ vs.length = i ∧ ∀ v ∈ vs, G H2 v) ⟨[], s1.trans (SameS.new hD), st1.new hD, upd_same, rfl, fun v hv => absurd hv (by simp)⟩ (fun i H2 hi h => ?_) (fun H2 h => ?_)
  · obtain ⟨vs, s2, st2, e2, l2, g2⟩ := h
    show _ ∧ _
    refine ⟨?_, ?_⟩
    · show wipe ((wipe σ [j]).set j (some _)) [j] = wipe σ [j]
      rw [set_wipe1, wipe_set1]
    · show if true = true then te ((wipe σ [j]).set j (some (.int (0 + (i : Int))))) H2 _ else (∃ vs, SameS st H H2 ∧ StOk H2 st ∧ H2 Dd = some (.lst vs) ∧ vs.length = i + 1 ∧ ∀ v ∈ vs, G H2 v)
      refine iteT ?_
      rw [set_wipe1]
      refine he H2 i _ s2 st2 fun H3 v s3 st3 g3 => ?_
      have e3 := s3 _ _ dn e2
      have k3 : SameT H3 (upd H3 Dd (.lst (vs ++ [v]))) := SameT.lst e3
      refine ⟨vs, e3, ?_, vs ++ [v], (fun b o n e => ?_), ?_, upd_same, by rw [List.length_append, l2]; rfl, fun y hy => ?_⟩
      · have : sizeLine = 16777216 := sizeLine_eq
        omega
      · have bd : b ≠ Dd := fun z => by
          have q := s1 b o n e
          rw [z, hD] at q
          cases q
        rw [upd_ne bd]
        exact s3 _ _ n (s2 _ _ n e)
      · rcases st3 with ⟨n, e⟩ | ⟨a, b, c, e⟩
        · exact .inl ⟨n, by rw [upd_ne (Ne.symm dn)]; exact e⟩
        · exact .inr ⟨a, b, c, by rw [upd_ne (Ne.symm dn)]; exact e⟩
      · rcases List.mem_append.mp hy with m | m
        · exact hG _ _ _ k3 (hG _ _ _ (s3.tup st2) (g2 y m))
        · rw [List.mem_singleton.mp m]
          exact hG _ _ _ k3 g3
  · obtain ⟨vs, s2, st2, e2, l2, g2⟩ := h
    exact hQ Dd H2 vs s2 st2 e2 dn g2 (l2 ▸ hN)
/-! ### rules -/
theorem ClAt.keep {H H' : Hp} {v : V} {d : D} (s : SameT H H') (h : ClAt H v d) : ClAt H' v d := by
  obtain ⟨p, wd, lo, hi, sd, e1, e2, e3⟩ := h
  exact ⟨p, wd, lo, hi, sd, e1, s _ _ e2, e3⟩
theorem del_tup {H : Hp} {st : Addr} (h : StOk H st) {p : Addr} {xs : List V} (e : H p = some (.tup xs)) : del H st p = some (.tup xs) := by
  rw [del_ne fun z => ?_]
  · exact e
  · obtain ⟨ys, e2⟩ := h.lst
    rw [z, e2] at e
    cases e
theorem ClAt.dn {H : Hp} {st : Addr} {v : V} {d : D} (h : StOk H st) (c : ClAt H v d) : Dn (del H st) d v := by
  obtain ⟨p, wd, lo, hi, sd, rfl, e2, rfl, _⟩ := c
  exact dn_tup (del_tup h e2) (dna_cons (dn_str _) (dna_cons (dn_int _) (dna_cons (dn_int _) (dna_cons (dn_str _) dna_nil))))
theorem cls_data {H : Hp} {st : Addr} (h : StOk H st) : ∀ {vs : List V}, (∀ v ∈ vs, ∃ d, ClAt H v d) → ∃ ds : List D, DnA (del H st) ds vs ∧ ds.length = vs.length ∧ ds.all isClause = true
  | [], _ => ⟨[], dna_nil, rfl, rfl⟩
  | v :: r, g => by
    obtain ⟨d, c⟩ := g v List.mem_cons_self
    obtain ⟨ds, h1, h2, h3⟩ := cls_data h fun y hy => g y (List.mem_cons_of_mem _ hy)
    have ic : isClause d = true := by
      obtain ⟨_, _, _, _, _, _, _, _, z⟩ := id c
      exact z
    exact ⟨d :: ds, dna_cons (c.dn h) h1, by rw [List.length_cons, List.length_cons, h2], by rw [List.all_cons, ic, h3]; rfl⟩
/-- a rule's value, as it stands -/
def RlAt (H : Hp) (v : V) : Prop := ∃ p vs, v = .ref p ∧ H p = some (.tup vs) ∧ vs.length ≤ 4 ∧ ∀ y ∈ vs, ∃ d, ClAt H y d
theorem RlAt.keep {H H' : Hp} {v : V} (s : SameT H H') (h : RlAt H v) : RlAt H' v := by
  obtain ⟨p, vs, e1, e2, e3, e4⟩ := h
  exact ⟨p, vs, e1, s _ _ e2, e3, fun y hy => by
    obtain ⟨d, c⟩ := e4 y hy
    exact ⟨d, c.keep s⟩⟩
theorem RlAt.dn {H : Hp} {st : Addr} {v : V} (h : StOk H st) (r : RlAt H v) : ∃ d, Dn (del H st) d v ∧ isRule d = true := by
  obtain ⟨p, vs, rfl, e2, e3, e4⟩ := r
  obtain ⟨ds, h1, h2, h3⟩ := cls_data h e4
  refine ⟨.tup ds, dn_tup (del_tup h e2) h1, ?_⟩
  show (decide (ds.length ≤ 4) && ds.all isClause) = true
  rw [h3, decide_eq_true (by omega)]
  rfl
def sp_rule : Sp := fun vs H Q _ => ∃ st, vs = [.ref st, .int 6] ∧ StOk H st ∧ ∀ H' v, SameS st H H' → StOk H' st → RlAt H' v → Q v H'
theorem ok_law_rule (T : Tx K mg) : Fn0 P w K mg base 3 d_law_rule p_law_rule sp_rule := by
  refine FunD.ok (fn_law_rule T) s_law_rule (fun vs H Q E h => ?_) (fun cdv A outer s H vs Q E hr h => ?_)
  · obtain ⟨st, rfl, _⟩ := h
    rfl
  obtain ⟨st, rfl, hst, hQ⟩ := h
  refine ⟨_, (pss_one (ps_ret (pe_callTy call_tuple_of rfl (mf_tuple T) boot_tuple1 (pa_cons (pe_lc (own := [("_law_k", 2)]) (g := gName 2) rfl s_law_rule.nd (pi_range1 rfl (mf_range T) (pa_cons (pe_call (ok_law_digit T) (hr.mono (by decide)) rfl (mg_law_digit T) (fn_law_digit T).kp (b_law_digit T) .nil pass0 (pa_cons (pv 0) (pa_cons pe_int pa_nil))) pa_nil)) (blkOk_by (own := [("_law_k", 2)]) (N := n_law_rule) (sc := defScope d_law_rule.st) (by decide +kernel)) (fun _ _ _ _ _ => (pg_name (i := 2) s_law_rule.nd rfl (.inl rfl))) (fun _ _ _ _ _ => pts_nil) (fun _ _ _ _ _ => (pe_call (ok_law_clause T) (hr.mono (by decide)) rfl (mg_law_clause T) (fn_law_clause T).kp (b_law_clause T) .nil pass0 (pa_cons (pv 0) (pa_cons (pv 1) pa_nil))))) pa_nil)))), ?_⟩
  refine retI (cbI (consI ?_))
  refine rd_rangeS (st := st) (G := fun H v => ∃ d, ClAt H v d) (N := fun n => n ≤ 4) (fun H H' v s ⟨d, c⟩ => ⟨d, c.keep s⟩) (fun R q => rd_dig (b := 5) rfl (fun Q' q => q) (by decide) (by decide) hst fun H1 r s1 st1 r0 r1 => ?_) (fun H1 i Q' s1 st1 q => ⟨_, rfl, _, rfl, st, rfl, st1, fun H2 v d s2 st2 c => q H2 v s2 st2 ⟨d, c⟩⟩) (fun p H' vs s1 st1 e1 ne g hn => ?_)
  · have z := q H1 r.toNat s1 st1 (by omega) (by omega)
    rw [Int.toNat_of_nonneg r0] at z
    exact z
  · refine ⟨p, vs, rfl, .inl ⟨SqL.of e1, fun l nl => ?_⟩⟩
    exact hQ _ _ (s1.trans (SameS.new nl)) (st1.new nl) ⟨l, vs, rfl, upd_same, hn, fun y hy => by
      obtain ⟨d, c⟩ := g y hy
      exact ⟨d, c.keep (.of (same_upd nl))⟩⟩
end
end Pw
set_option Elab.async false
set_option linter.all false
set_option maxRecDepth 100000
set_option maxHeartbeats 1000000
/-! The law's stands. -/
namespace Pw
open PySem PySem.Spec PyProof.Rows L2
/-- an int from 0 to below n -/
def IntB (n : Int) (v : V) : Prop := ∃ i, v = .int i ∧ 0 ≤ i ∧ i < n
theorem ints_of {n : Int} : ∀ {vs : List V}, (∀ v ∈ vs, IntB n v) → ∃ is : List Int, vs = is.map V.int ∧ ∀ i ∈ is, 0 ≤ i ∧ i < n
  | [], _ => ⟨[], rfl, fun _ h => absurd h (by simp)⟩
  | v :: r, g => by
    obtain ⟨i, rfl, h0, h1⟩ := g v List.mem_cons_self
    obtain ⟨is, rfl, h⟩ := ints_of fun y hy => g y (List.mem_cons_of_mem _ hy)
    exact ⟨i :: is, rfl, fun j hj => by
      rcases List.mem_cons.mp hj with rfl | m
      · exact ⟨h0, h1⟩
      · exact h j m⟩
/-- a stand's value, as it stands: n rooms, m walkers, the life L -/
def StAt (H : Hp) (v : V) (n m : Nat) (L : Int) : Prop := ∃ (p r k : Addr) (is js : List Int), v = .ref p ∧ H p = some (.tup [.ref r, .ref k]) ∧ H r = some (.tup (is.map V.int)) ∧ H k = some (.tup (js.map V.int)) ∧ is.length = m ∧ js.length = n ∧ (∀ i ∈ is, 0 ≤ i ∧ i < (n : Int)) ∧ ∀ j ∈ js, 0 ≤ j ∧ j < L + 1
theorem StAt.keep {H H' : Hp} {v : V} {n m : Nat} {L : Int} (s : SameT H H') (h : StAt H v n m L) : StAt H' v n m L := by
  obtain ⟨p, r, k, is, js, e, h1, h2, h3, h4⟩ := h
  exact ⟨p, r, k, is, js, e, s _ _ h1, s _ _ h2, s _ _ h3, h4⟩
section
variable {P : Program} {w : World} {K : PySem.W.Frag} {mg : Str → Option Value} {base : Heap}
def sp_stand : Sp := fun vs H Q _ => ∃ (st : Addr) (n m : Nat) (L : Int), vs = [.ref st, .int (n : Nat), .int L, .int (m : Nat)] ∧ 1 ≤ n ∧ n < 90 ∧ m < 90 ∧ 0 ≤ L ∧ L < 90 ∧ StOk H st ∧ ∀ H' v, SameS st H H' → StOk H' st → StAt H' v n m L → Q v H'
theorem ok_law_stand (T : Tx K mg) : Fn0 P w K mg base 3 d_law_stand p_law_stand sp_stand := by
  refine FunD.ok (fn_law_stand T) s_law_stand (fun vs H Q E h => ?_) (fun cdv A outer s H vs Q E hr h => ?_)
  · obtain ⟨st, n, m, L, rfl, _⟩ := h
    rfl
  obtain ⟨st, n, m, L, rfl, hn, hn2, hm, hL0, hL, hst, hQ⟩ := h
  refine ⟨_, (pss_cons (ps_set (i := 4) s_law_stand.nd rfl (.inl rfl) (pe_callTy call_tuple_of rfl (mf_tuple T) boot_tuple1 (pa_cons (pe_lc (own := [("_law_k", 5)]) (g := gName 5) rfl s_law_stand.nd (pi_range1 rfl (mf_range T) (pa_cons (pv 3) pa_nil)) (blkOk_by (own := [("_law_k", 5)]) (N := n_law_stand) (sc := defScope d_law_stand.st) (by decide +kernel)) (fun _ _ _ _ _ => (pg_name (i := 5) s_law_stand.nd rfl (.inl rfl))) (fun _ _ _ _ _ => pts_nil) (fun _ _ _ _ _ => (pe_call (ok_law_digit T) (hr.mono (by decide)) rfl (mg_law_digit T) (fn_law_digit T).kp (b_law_digit T) .nil pass0 (pa_cons (pv 0) (pa_cons (pv 1) pa_nil))))) pa_nil))) (pss_cons (ps_set (i := 6) s_law_stand.nd rfl (.inr rfl) (pe_call (ok_law_digit T) (hr.mono (by decide)) rfl (mg_law_digit T) (fn_law_digit T).kp (b_law_digit T) .nil pass0 (pa_cons (pv 0) (pa_cons pe_int pa_nil)))) (pss_one (ps_ret (pe_tup (pa_cons (pv 4) (pa_cons (pe_callTy call_tuple_of rfl (mf_tuple T) boot_tuple1 (pa_cons (pe_lc (own := [("_law_room", 7)]) (g := gName 7) rfl s_law_stand.nd (pi_range1 rfl (mf_range T) (pa_cons (pv 1) pa_nil)) (blkOk_by (own := [("_law_room", 7)]) (N := n_law_stand) (sc := defScope d_law_stand.st) (by decide +kernel)) (fun _ _ _ _ _ => (pg_name (i := 7) s_law_stand.nd rfl (.inl rfl))) (fun _ _ _ _ _ => pts_nil) (fun _ _ _ _ _ => (pe_op op_mul (pe_call (ok_law_digit T) (hr.mono (by decide)) rfl (mg_law_digit T) (fn_law_digit T).kp (b_law_digit T) .nil pass0 (pa_cons (pv 0) (pa_cons (pe_op op_add (pv 2) pe_int) pa_nil))) (pe_callTy call_int1 rfl (mf_int T) boot_int1 (pa_cons (pe_cmpR op_gt (pv 6) pe_int (nomark _)) pa_nil))))) pa_nil)) pa_nil))))))), ?_⟩
  refine sqN (cbI (consI ?_))
  refine rd_rangeS (st := st) (G := fun _ v => IntB (n : Int) v) (N := fun k => k = m) (fun _ _ _ _ h => h) (fun R q => ⟨_, rfl, q H m (.refl _ _) hst (by omega) rfl⟩) (fun H1 i Q' s1 st1 q => rd_dig (b := (n : Int)) rfl (fun Q' q => ⟨_, rfl, q⟩) (by omega) (by omega) st1 fun H2 r s2 st2 r0 r1 => q H2 _ s2 st2 ⟨r, rfl, r0, r1⟩) (fun p H1 vs s1 st1 e1 ne g hl => ?_)
  obtain ⟨is, rfl, his⟩ := ints_of g
  rw [List.length_map] at hl
  refine ⟨p, _, rfl, .inl ⟨SqL.of e1, fun a na => ?_⟩⟩
  have s2 := s1.trans (SameS.new (u := .tup (is.map V.int)) na)
  have st2 := st1.new (u := .tup (is.map V.int)) na
  have ea : upd H1 a (.tup (is.map V.int)) a = some (.tup (is.map V.int)) := upd_same
  generalize hH2 : upd H1 a (.tup (is.map V.int)) = H2 at s2 st2 ea
  clear hH2 s1 st1 e1 na g ne
  refine sqN (rd_dig (b := 3) rfl (fun Q' q => q) (by decide) (by decide) st2 fun H3 r s3 st3 r0 r1 => ?_)
  have ea3 := s3.tup st2 _ _ ea
  refine retI (tupI (consI ⟨_, rfl, consI (cbI (consI ?_))⟩))
  refine rd_rangeS (st := st) (G := fun _ v => IntB (L + 1) v) (N := fun k => k = n) (fun _ _ _ _ h => h) (fun R q => ⟨_, rfl, q H3 n (.refl _ _) st3 (by omega) rfl⟩) (fun H4 i Q' s4 st4 q => ?_) (fun p2 H4 vs2 s4 st4 e4 ne2 g2 hl2 => ?_)
  · refine opI (rd_dig (b := L + 1) rfl (fun Q' q => ⟨_, rfl, L, 1, rfl, rfl, q⟩) (by omega) (by omega) st4 fun H5 x s5 st5 x0 x1 => ?_)
    refine ⟨_, rfl, r, 0, rfl, rfl, .inr ⟨_, rfl, x, _, rfl, rfl, .inl ⟨by omega, by omega⟩, q H5 _ s5 st5 ⟨_, rfl, ?_⟩⟩⟩
    split
    · rw [Int.mul_one]
      exact ⟨x0, x1⟩
    · rw [Int.mul_zero]
      omega
  · obtain ⟨js, rfl, hjs⟩ := ints_of g2
    rw [List.length_map] at hl2
    refine ⟨p2, _, rfl, .inl ⟨SqL.of e4, fun b nb => ⟨len_2, fun q nq => ?_⟩⟩⟩
    have ea4 := s4.tup st3 _ _ ea3
    refine hQ _ _ ((((s2.trans s3).trans s4).trans (SameS.new nb)).trans (SameS.new nq)) ((st4.new nb).new nq) ⟨q, a, b, is, js, rfl, upd_same, upd2 (upd2 ea4 nb) nq, upd2 upd_same nq, hl, hl2, his, hjs⟩
end
end Pw
set_option Elab.async false
set_option linter.all false
set_option maxRecDepth 100000
set_option maxHeartbeats 1000000
/-! The law's floors. -/
namespace Pw
open PySem PySem.Spec PyProof.Rows L2
/-- a row of a floor of n rooms -/
def RowAt (n : Nat) (H : Hp) (v : V) : Prop := ∃ (p : Addr) (vs : List V), v = .ref p ∧ H p = some (.tup vs) ∧ 1 ≤ vs.length ∧ vs.length ≤ 4 ∧ ∀ y ∈ vs, IntB (n : Int) y
theorem RowAt.keep {n : Nat} {H H' : Hp} {v : V} (s : SameT H H') (h : RowAt n H v) : RowAt n H' v := by
  obtain ⟨p, vs, e1, e2, e3⟩ := h
  exact ⟨p, vs, e1, s _ _ e2, e3⟩
theorem cut_to {xs : List V} (k : Nat) : cutV xs none (some (k : Int)) = xs.take (min k xs.length) := by
  unfold cutV
  rw [HT.sIx_none, HT.sIx_nat, List.drop_zero, Nat.sub_zero]
/-- what stands within the loop of _law_floor -/
structure FlS (st F : Addr) (n : Nat) (way : Int) (H : Hp) (σ : L2.St) (H1 : Hp) (vs : List V) : Prop where
  len : σ.length = 8
  s0 : σ[0]? = some (some (.ref st))
  s2 : σ[2]? = some (some (.int (n : Nat)))
  s3 : σ[3]? = some (some (.int way))
  s4 : σ[4]? = some (some (.ref F))
  same : SameS st H H1
  ok : StOk H1 st
  lst : H1 F = some (.lst vs)
  rows : ∀ v ∈ vs, RowAt n H1 v
theorem FlS.step {st F : Addr} {n : Nat} {way : Int} {H : Hp} {σ σ' : L2.St} {H1 H2 : Hp} {vs : List V} (I : FlS st F n way H σ H1 vs) (hl : σ'.length = 8) (he : ∀ i, i ≤ 4 → σ'[i]? = σ[i]?) (s : SameS st H1 H2) (ok : StOk H2 st) (ne : F ≠ st) : FlS st F n way H σ' H2 vs :=
  ⟨hl, (he 0 (by decide)).trans I.s0, (he 2 (by decide)).trans I.s2, (he 3 (by decide)).trans I.s3, (he 4 (by decide)).trans I.s4, I.same.trans s, ok, s _ _ ne I.lst, fun v hv => (I.rows v hv).keep (s.tup I.ok)⟩
theorem set_le {σ : L2.St} {k : Nat} {v : Option V} (h : 4 < k) : ∀ i, i ≤ 4 → (σ.set k v)[i]? = σ[i]? := fun i hi => List.getElem?_set_ne (by omega)
theorem asgN {te : TE} {i : Nat} {D : Ends} {σ : L2.St} {H : Hp} (h : te σ H fun x H1 => D.nx (σ.set i (some x)) H1) : tAsg te (gName i) D σ H := h
/-- .. and the row in the making -/
structure FlG (st F : Addr) (n : Nat) (way : Int) (H : Hp) (i : Int) (vs : List V) (σ : L2.St) (H1 : Hp) : Prop where
  fl : FlS st F n way H σ H1 vs
  s5 : σ[5]? = some (some (.int i))
  row : ∃ (p : Addr) (ys : List V), σ[6]? = some (some (.ref p)) ∧ H1 p = some (.lst ys) ∧ 1 ≤ ys.length ∧ ys.length ≤ 4 ∧ ∀ y ∈ ys, IntB (n : Int) y
theorem FlG.set {st F : Addr} {n : Nat} {way i : Int} {H : Hp} {vs : List V} {σ : L2.St} {H1 H2 : Hp} {p : Addr} {ys : List V} (I : FlS st F n way H σ H1 vs) (e5 : σ[5]? = some (some (.int i))) (s : SameS st H1 H2) (ok : StOk H2 st) (ne : F ≠ st) (e : H2 p = some (.lst ys)) (h1 : 1 ≤ ys.length) (h2 : ys.length ≤ 4) (h3 : ∀ y ∈ ys, IntB (n : Int) y) : FlG st F n way H i vs (σ.set 6 (some (.ref p))) H2 :=
  ⟨I.step (by rw [List.length_set]; exact I.len) (set_le (by decide)) s ok ne, (List.getElem?_set_ne (by decide)).trans e5, p, ys, slot_at I.len (by decide), e, h1, h2, h3⟩
theorem cut_int {n : Int} {ys : List V} (k : Nat) (h : ∀ y ∈ ys, IntB n y) : ∀ y ∈ cutV ys none (some (k : Int)), IntB n y := fun y hy => by
  rw [cut_to] at hy
  exact h y (List.mem_of_mem_take hy)
theorem cut_len {ys : List V} (k : Nat) : (cutV ys none (some (k : Int))).length = min k ys.length := by
  rw [cut_to, List.length_take]
  omega
theorem intB_mod {n : Nat} (h : 0 < (n : Int)) (x : Int) : IntB (n : Int) (.int (x % (n : Int))) := ⟨_, rfl, Int.emod_nonneg _ (by omega), Int.emod_lt_of_pos _ h⟩
section
variable {P : Program} {w : World} {K : PySem.W.Frag} {mg : Str → Option Value} {base : Heap}
def sp_floor : Sp := fun vs H Q _ => ∃ (st : Addr), vs = [.ref st, .int 4] ∧ StOk H st ∧ ∀ H' p vs (n : Nat), SameS st H H' → StOk H' st → H' p = some (.lst vs) → p ≠ st → vs.length = n → 1 ≤ n → n ≤ 4 → (∀ v ∈ vs, RowAt n H' v) → Q (.ref p) H'
theorem ok_law_floor (T : Tx K mg) : Fn0 P w K mg base 3 d_law_floor p_law_floor sp_floor := by
  refine FunD.ok (fn_law_floor T) s_law_floor (fun vs H Q E h => ?_) (fun cdv A outer s H vs Q E hr h => ?_)
  · obtain ⟨st, rfl, _⟩ := h
    rfl
  obtain ⟨st, rfl, hst, hQ⟩ := h
  refine ⟨_, PSs.nox (pss_cons (ps_set (i := 2) s_law_floor.nd rfl (.inr rfl) (pe_op op_add pe_int (pe_call (ok_law_digit T) (hr.mono (by decide)) rfl (mg_law_digit T) (fn_law_digit T).kp (b_law_digit T) .nil pass0 (pa_cons (pv 0) (pa_cons (pv 1) pa_nil))))) (pss_cons (ps_set (i := 3) s_law_floor.nd rfl (.inl rfl) (pe_call (ok_law_digit T) (hr.mono (by decide)) rfl (mg_law_digit T) (fn_law_digit T).kp (b_law_digit T) .nil pass0 (pa_cons (pv 0) (pa_cons pe_int pa_nil)))) (pss_cons (ps_set (i := 4) s_law_floor.nd rfl (.inl rfl) (pe_lst pa_nil)) (pss_cons (ps_for PassesOwn.never rfl (pi_range1 rfl (mf_range T) (pa_cons (pv 2) pa_nil)) (pg_name (i := 5) s_law_floor.nd rfl (.inl rfl)) (pss_cons (ps_setLc (i := 6) (own := [("_law_k", 7)]) (g := gName 7) rfl s_law_floor.nd rfl rfl (sw_true rfl rfl rfl (by decide +kernel)) (pi_range1 rfl (mf_range T) (pa_cons (pe_op op_add pe_int (pe_call (ok_law_digit T) (hr.mono (by decide)) rfl (mg_law_digit T) (fn_law_digit T).kp (b_law_digit T) .nil pass0 (pa_cons (pv 0) (pa_cons pe_int pa_nil)))) pa_nil)) (blkOk_by (own := [("_law_k", 7)]) (N := n_law_floor) (sc := defScope d_law_floor.st) (by decide +kernel)) (fun _ _ _ _ _ => (pg_name (i := 7) s_law_floor.nd rfl (.inl rfl))) (fun _ _ _ _ _ => pts_nil) (fun _ _ _ _ _ => (pe_call (ok_law_digit T) (hr.mono (by decide)) rfl (mg_law_digit T) (fn_law_digit T).kp (b_law_digit T) .nil pass0 (pa_cons (pv 0) (pa_cons (pv 2) pa_nil))))) (pss_cons (ps_if (pt_cmpR op_eq (pv 3) pe_int (nomark _)) (pss_one (ps_set (i := 6) s_law_floor.nd rfl (.inl rfl) (pe_op op_cat (pe_lst (pa_cons (pe_op op_mod (pe_callTy call_int1 rfl (mf_int T) boot_int1 (pa_cons (pe_op op_add (pv 5) pe_int) pa_nil)) (pv 2)) pa_nil)) (pe_slice sl_list (pv 6) po_none (po_some pe_int))))) pss_nil) (pss_cons (ps_if (pt_cmpR op_eq (pv 3) pe_int (nomark _)) (pss_one (ps_set (i := 6) s_law_floor.nd rfl (.inl rfl) (pe_op op_cat (pe_lst (pa_cons (pe_op op_mod (pe_callTy call_int1 rfl (mf_int T) boot_int1 (pa_cons (pe_op op_add (pv 5) pe_int) pa_nil)) (pv 2)) (pa_cons (pe_op op_mod (pe_callTy call_int1 rfl (mf_int T) boot_int1 (pa_cons (pe_op op_sub (pe_op op_add (pv 5) (pv 2)) pe_int) pa_nil)) (pv 2)) pa_nil))) (pe_slice sl_list (pv 6) po_none (po_some pe_int))))) pss_nil) (pss_one (ps_expr (pe_bm PySem.F.plainAttrs_list PySem.F.slot_list_append PySem.F.type_list_append mt_append (pv 4) (pa_cons (pe_callTy call_tuple_of rfl (mf_tuple T) boot_tuple1 (pa_cons (pe_slice sl_list (pv 6) po_none (po_some pe_int)) pa_nil)) pa_nil)))))))) (pss_one (ps_ret (pv 4))))))), ?_⟩
  have hsz : sizeLine = 16777216 := sizeLine_eq
  refine sqN (opI ?_)
  refine rd_dig (b := 4) rfl (fun Q' q => ⟨_, rfl, q⟩) (by decide) (by decide) hst fun H1 r s1 st1 r0 r1 => ⟨1, r, rfl, rfl, ?_⟩
  obtain ⟨n, hn⟩ : ∃ n : Nat, 1 + r = (n : Int) := ⟨(1 + r).toNat, by omega⟩
  dsimp only
  rw [hn]
  refine sqN (rd_dig (b := 4) rfl (fun Q' q => q) (by decide) (by decide) st1 fun H2 way s2 st2 w0 w1 => ?_)
  refine sqN ⟨Nat.zero_le _, fun F nF => ?_⟩
  have Fst := st2.ne nF
  show tSeq (tFor _ (gName 5) _) _ _ _ _
  refine ⟨_, rfl, (n : Int), rfl, by omega, by omega, ?_⟩
  rw [Int.toNat_natCast]
  refine for_range (fun i σ H3 => ∃ vs, vs.length = i ∧ FlS st F n way H σ H3 vs) ⟨[], rfl, rfl, rfl, rfl, rfl, rfl, (s1.trans s2).trans (SameS.new nF), st2.new nF, upd_same, fun v hv => absurd hv (by simp)⟩ (fun i σ H3 hi h => ?_) (fun σ H3 h => ?_)
  · obtain ⟨vs, hl, I⟩ := h
    have I5 : FlS st F n way H (σ.set 5 (some (.int (0 + (i : Int))))) H3 vs := I.step (by rw [List.length_set]; exact I.len) (set_le (by decide)) (.refl _ _) I.ok Fst
    have e5 : (σ.set 5 (some (V.int (0 + (i : Int)))))[5]? = some (some (.int (0 + (i : Int)))) := slot_at I.len (by decide)
    show tSeq _ _ _ (σ.set 5 (some (V.int (0 + (i : Int))))) H3
    generalize σ.set 5 (some (V.int (0 + (i : Int)))) = σ5 at I5 e5
    clear I
    refine sqN ?_
    refine rd_rangeS (st := st) (G := fun _ v => IntB (n : Int) v) (N := fun k => 1 ≤ k ∧ k ≤ 4) (fun _ _ _ _ h => h) (fun R q => opI (rd_dig (b := 4) I5.s0 (fun Q' q => q) (by decide) (by decide) I5.ok fun H4 x s4 st4 x0 x1 => ?_)) (fun H4 k Q' s4 st4 q => rd_dig (b := (n : Int)) ((List.getElem?_set_ne (by decide)).trans I5.s0) (fun Q' q => ⟨_, (List.getElem?_set_ne (by decide)).trans I5.s2, q⟩) (by omega) (by omega) st4 fun H5 x s5 st5 x0 x1 => q H5 _ s5 st5 ⟨x, rfl, x0, x1⟩) (fun p H4 ys s4 st4 e4 ne4 g4 hn4 => ?_)
    · have z := q H4 (1 + x.toNat) s4 st4 (by omega) ⟨by omega, by omega⟩
      rw [show ((1 + x.toNat : Nat) : Int) = 1 + x by omega] at z
      exact ⟨1, x, rfl, rfl, z⟩
    · have np : (0 : Int) < n := by omega
      have G0 : FlG st F n way H (0 + (i : Int)) vs (σ5.set 6 (some (.ref p))) H4 := FlG.set I5 e5 s4 st4 Fst e4 hn4.1 hn4.2 g4
      show tSeq _ _ _ (σ5.set 6 (some (V.ref p))) H4
      generalize σ5.set 6 (some (V.ref p)) = σ6 at G0
      clear e4 ne4 g4 hn4 s4 I5 e5 st4
      refine seqI (FlG st F n way H (0 + (i : Int)) vs) (fun N hN => ?_) (fun σ7 H7 G7 => ?_)
      · obtain ⟨I, e5, q0, ys, e6, ey, l1, l2, ib⟩ := G0
        refine ⟨_, I.s3, rfl, _, rfl, ?_⟩
        refine ite2 (fun _ => ?_) (fun _ => hN _ _ ⟨I, e5, q0, ys, e6, ey, l1, l2, ib⟩)
        refine asgN (opI ⟨_, e5, _, 1, rfl, rfl, .inl ⟨_, rfl, _, I.s2, _, (n : Int), rfl, rfl, np, len_1, fun q nq => ?_⟩⟩)
        refine ⟨_, e6, 2, rfl, q0, ys, rfl, SqL.of (upd2 ey nq), fun q2 nq2 => ?_⟩
        refine ⟨q, q2, _, _, rfl, rfl, upd2 upd_same nq2, upd_same, ?_, fun q3 nq3 => hN _ _ (FlG.set I e5 (((SameS.new nq).trans (SameS.new nq2)).trans (SameS.new nq3)) (((I.ok.new nq).new nq2).new nq3) Fst upd_same ?_ ?_ ?_)⟩
        · have z := cut_len (ys := ys) 2
          have z2 : [V.int ((0 + (i : Int) + 1) % (n : Int))].length = 1 := rfl
          show 1 + (cutV ys none (some ((2 : Nat) : Int))).length ≤ sizeLine
          omega
        · rw [List.length_append]
          exact Nat.le_add_right 1 _
        · rw [List.length_append]
          have z := cut_len (ys := ys) 2
          show 1 + (cutV ys none (some ((2 : Nat) : Int))).length ≤ 4
          omega
        · intro y hy
          rcases List.mem_append.mp hy with m | m
          · rw [List.mem_singleton.mp m]
            exact intB_mod np _
          · exact cut_int 2 ib y m
      · clear G0
        refine seqI (FlG st F n way H (0 + (i : Int)) vs) (fun N hN => ?_) (fun σ8 H8 G8 => ?_)
        · obtain ⟨I, e5, q0, ys, e6, ey, l1, l2, ib⟩ := G7
          refine ⟨_, I.s3, rfl, _, rfl, ?_⟩
          refine ite2 (fun _ => ?_) (fun _ => hN _ _ ⟨I, e5, q0, ys, e6, ey, l1, l2, ib⟩)
          refine asgN (opI ⟨_, e5, _, 1, rfl, rfl, .inl ⟨_, rfl, _, I.s2, _, (n : Int), rfl, rfl, np, _, e5, _, I.s2, _, _, rfl, rfl, _, 1, rfl, rfl, .inl ⟨_, rfl, _, I.s2, _, (n : Int), rfl, rfl, np, len_2, fun q nq => ?_⟩⟩⟩)
          refine ⟨_, e6, 1, rfl, q0, ys, rfl, SqL.of (upd2 ey nq), fun q2 nq2 => ?_⟩
          refine ⟨q, q2, _, _, rfl, rfl, upd2 upd_same nq2, upd_same, ?_, fun q3 nq3 => hN _ _ (FlG.set I e5 (((SameS.new nq).trans (SameS.new nq2)).trans (SameS.new nq3)) (((I.ok.new nq).new nq2).new nq3) Fst upd_same ?_ ?_ ?_)⟩
          · have z := cut_len (ys := ys) 1
            show 2 + (cutV ys none (some ((1 : Nat) : Int))).length ≤ sizeLine
            omega
          · rw [List.length_append]
            show 1 ≤ 2 + _
            omega
          · rw [List.length_append]
            have z := cut_len (ys := ys) 1
            show 2 + (cutV ys none (some ((1 : Nat) : Int))).length ≤ 4
            omega
          · intro y hy
            rcases List.mem_append.mp hy with m | m
            · rcases List.mem_cons.mp m with rfl | m2
              · exact intB_mod np _
              · rw [List.mem_singleton.mp m2]
                exact intB_mod np _
            · exact cut_int 1 ib y m
        · obtain ⟨I, e5, q0, ys, e6, ey, l1, l2, ib⟩ := G8
          refine ⟨_, I.s4, .inl ⟨rfl, _, SqL.of I.lst⟩, _, e6, 4, rfl, q0, ys, rfl, SqL.of ey, fun q nq => ?_⟩
          refine ⟨q, _, rfl, .inl ⟨SqL.of upd_same, fun q2 nq2 => ?_⟩⟩
          have eF := upd2 (u := .tup (cutV ys none (some 4))) (upd2 (u := .lst (cutV ys none (some 4))) I.lst nq) nq2
          have st9 := (I.ok.new (u := .lst (cutV ys none (some 4))) nq).new (u := .tup (cutV ys none (some 4))) nq2
          have kT : SameT H8 (upd (upd H8 q (.lst (cutV ys none (some 4)))) q2 (.tup (cutV ys none (some 4)))) := (SameT.of (same_upd nq)).trans (SameT.of (same_upd nq2))
          refine ⟨F, vs, _, rfl, rfl, eF, by omega, vs ++ [.ref q2], by rw [List.length_append, hl]; rfl, ⟨I.len, I.s0, I.s2, I.s3, I.s4, fun b o nb e => ?_, ?_, upd_same, fun v hv => ?_⟩⟩
          · have bF : b ≠ F := fun z => by
              have q := (s1.trans s2) b o nb e
              rw [z, nF] at q
              cases q
            rw [upd_ne bF]
            exact upd2 (upd2 (I.same b o nb e) nq) nq2
          · rcases st9 with ⟨n, e⟩ | ⟨a, b, c, e⟩
            · exact .inl ⟨n, by rw [upd_ne (Ne.symm Fst)]; exact e⟩
            · exact .inr ⟨a, b, c, by rw [upd_ne (Ne.symm Fst)]; exact e⟩
          · rcases List.mem_append.mp hv with m | m
            · exact (((I.rows v m).keep kT)).keep (SameT.lst eF)
            · rw [List.mem_singleton.mp m]
              refine RowAt.keep (SameT.lst eF) ⟨q2, _, rfl, upd_same, ?_, ?_, cut_int 4 ib⟩
              · have z := cut_len (ys := ys) 4
                show 1 ≤ (cutV ys none (some ((4 : Nat) : Int))).length
                omega
              · have z := cut_len (ys := ys) 4
                show (cutV ys none (some ((4 : Nat) : Int))).length ≤ 4
                omega
  · obtain ⟨vs, hl, I⟩ := h
    exact ⟨_, I.s4, hQ H3 F vs n I.same I.ok I.lst Fst hl (by omega) (by omega) I.rows⟩
end
end Pw
set_option Elab.async false
set_option linter.all false
set_option maxRecDepth 100000
set_option maxHeartbeats 1000000
/-! The law's parts; its odd numbers. -/
namespace Pw
open PySem PySem.Spec PyProof.Rows L2
section
variable {P : Program} {w : World} {K : PySem.W.Frag} {mg : Str → Option Value} {base : Heap}
def sp_lparts : Sp := fun vs H Q _ => ∃ st, vs = [.ref st, .int 4, .int 3, .int 2] ∧ StOk H st ∧ ∀ H' (t f r : Addr) (xs rs : List V) (n m : Nat) (L : Int), SameS st H H' → StOk H' st → H' t = some (.tup [.ref f, .int L, .ref r]) → H' f = some (.lst xs) → f ≠ st → xs.length = n → 1 ≤ n → n ≤ 4 → (∀ v ∈ xs, RowAt n H' v) →
  H' r = some (.lst rs) → r ≠ st → rs.length = m → 1 ≤ m → m ≤ 2 → (∀ v ∈ rs, RlAt H' v) → 1 ≤ L → L ≤ 3 → Q (.ref t) H'
theorem ok_law_parts (T : Tx K mg) : Fn0 P w K mg base 4 d_law_parts p_law_parts sp_lparts := by
  refine FunD.ok (fn_law_parts T) s_law_parts (fun vs H Q E h => ?_) (fun cdv A outer s H vs Q E hr h => ?_)
  · obtain ⟨st, rfl, _⟩ := h
    rfl
  obtain ⟨st, rfl, hst, hQ⟩ := h
  refine ⟨_, (pss_cons (ps_set (i := 4) s_law_parts.nd rfl (.inl rfl) (pe_call (ok_law_floor T) (hr.mono (by decide)) rfl (mg_law_floor T) (fn_law_floor T).kp (b_law_floor T) .nil pass0 (pa_cons (pv 0) (pa_cons (pv 1) pa_nil)))) (pss_cons (ps_set (i := 5) s_law_parts.nd rfl (.inl rfl) (pe_op op_add pe_int (pe_call (ok_law_digit T) (hr.mono (by decide)) rfl (mg_law_digit T) (fn_law_digit T).kp (b_law_digit T) .nil pass0 (pa_cons (pv 0) (pa_cons (pv 2) pa_nil))))) (pss_one (ps_ret (pe_tup (pa_cons (pv 4) (pa_cons (pv 5) (pa_cons (pe_lc (own := [("_law_k", 6)]) (g := gName 6) rfl s_law_parts.nd (pi_range1 rfl (mf_range T) (pa_cons (pe_op op_add pe_int (pe_call (ok_law_digit T) (hr.mono (by decide)) rfl (mg_law_digit T) (fn_law_digit T).kp (b_law_digit T) .nil pass0 (pa_cons (pv 0) (pa_cons (pv 3) pa_nil)))) pa_nil)) (blkOk_by (own := [("_law_k", 6)]) (N := n_law_parts) (sc := defScope d_law_parts.st) (by decide +kernel)) (fun _ _ _ _ _ => (pg_name (i := 6) s_law_parts.nd rfl (.inl rfl))) (fun _ _ _ _ _ => pts_nil) (fun _ _ _ _ _ => (pe_call (ok_law_rule T) (hr.mono (by decide)) rfl (mg_law_rule T) (fn_law_rule T).kp (b_law_rule T) .nil pass0 (pa_cons (pv 0) (pa_cons pe_int pa_nil))))) pa_nil)))))))), ?_⟩
  refine sqN ⟨_, rfl, _, rfl, st, rfl, hst, fun H1 f xs n s1 st1 ef fst ln n1 n4 rows => ?_⟩
  refine sqN (opI (rd_dig (b := 3) rfl (fun Q' q => ⟨_, rfl, q⟩) (by decide) (by decide) st1 fun H2 x s2 st2 x0 x1 => ⟨1, x, rfl, rfl, ?_⟩))
  refine retI (tupI (consI ⟨_, rfl, consI ⟨_, rfl, consI ?_⟩⟩))
  refine rd_rangeS (st := st) (G := RlAt) (N := fun k => 1 ≤ k ∧ k ≤ 2) (fun H H' v s h => h.keep s) (fun R q => opI (rd_dig (b := 2) rfl (fun Q' q => ⟨_, rfl, q⟩) (by decide) (by decide) st2 fun H3 y s3 st3 y0 y1 => ?_)) (fun H3 k Q' s3 st3 q => ⟨_, rfl, st, rfl, st3, fun H4 v s4 st4 c => q H4 v s4 st4 c⟩) (fun p H3 ys s3 st3 e3 ne3 g3 hn3 => ?_)
  · have z := q H3 (1 + y.toNat) s3 st3 (by omega) ⟨by omega, by omega⟩
    rw [show ((1 + y.toNat : Nat) : Int) = 1 + y by omega] at z
    exact ⟨1, y, rfl, rfl, z⟩
  · refine ⟨len_3, fun t nt => ?_⟩
    have kT : SameT H1 H3 := (s2.tup st1).trans (s3.tup st2)
    exact hQ _ t f p xs ys n ys.length (1 + x) (((s1.trans s2).trans s3).trans (SameS.new nt)) (st3.new nt) upd_same (upd2 (s3 _ _ fst (s2 _ _ fst ef)) nt) fst ln n1 n4 (fun v hv => (rows v hv).keep (kT.trans (.of (same_upd nt)))) (upd2 e3 nt) ne3 rfl hn3.1 hn3.2 (fun v hv => (g3 v hv).keep (.of (same_upd nt))) (by omega) (by omega)
theorem same_dels {st : Addr} {H H' : Hp} (s : SameS st H H') : Same (del H st) (del H' st) := fun b o e => by
  by_cases h : b = st
  · rw [h, del_same] at e
    cases e
  · rw [del_ne h] at e ⊢
    exact s b o h e
theorem del_at {st p : Addr} {H : Hp} {o : HO} (h : p ≠ st) (e : H p = some o) : del H st p = some o := by
  rw [del_ne h]
  exact e
theorem pickD {st : Addr} {H H' : Hp} {ds : List D} {vs : List V} {j : Int} (h : DnA (del H st) ds vs) (s : SameS st H H') (j0 : 0 ≤ j) (j1 : j < vs.length) : ∃ v d, atI vs j = some v ∧ d ∈ ds ∧ Dn (del H' st) d v := by
  have hn : j.toNat < vs.length := by omega
  obtain ⟨d, e1, e2⟩ := h.get (List.getElem?_eq_getElem hn)
  refine ⟨vs[j.toNat], d, ?_, List.mem_of_getElem? e1, Dn.mono (same_dels s) _ _ e2⟩
  unfold atI ixN
  rw [if_pos j0, if_pos j1]
  exact List.getElem?_eq_getElem hn
/-! ### odd numbers -/
/-- the data that _law_odd_number chooses from -/
def oddsL (most : Int) : List D := [.int (most + 1), .int (-1), .bl true, .bl false, .non, .str "0", .tup [.int 0], .lst [.int 0], .int (10 ^ 41)]
def sp_odd_number : Sp := fun vs H Q _ => ∃ st most, vs = [.ref st, .int most] ∧ StOk H st ∧ ∀ H' v d, SameS st H H' → StOk H' st → d ∈ oddsL most → Dn (del H' st) d v → Q v H'
theorem ok_law_odd_number (T : Tx K mg) : Fn0 P w K mg base 2 d_law_odd_number p_law_odd_number sp_odd_number := by
  refine FunD.ok (fn_law_odd_number T) s_law_odd_number (fun vs H Q E h => ?_) (fun cdv A outer s H vs Q E hr h => ?_)
  · obtain ⟨st, most, rfl, _⟩ := h
    rfl
  obtain ⟨st, most, rfl, hst, hQ⟩ := h
  refine ⟨_, (pss_one (ps_ret (pe_ix ix_list (pe_lst (pa_cons (pe_op op_add (pv 1) pe_int) (pa_cons (pe_un un_neg pe_int) (pa_cons pe_bl (pa_cons pe_bl (pa_cons pe_non (pa_cons pe_str (pa_cons (pe_tup (pa_cons pe_int pa_nil)) (pa_cons (pe_lst (pa_cons pe_int pa_nil)) (pa_cons (pe_op op_pow pe_int pe_int) pa_nil)))))))))) (pe_call (ok_law_digit T) (hr.mono (by decide)) rfl (mg_law_digit T) (fn_law_digit T).kp (b_law_digit T) .nil pass0 (pa_cons (pv 0) (pa_cons pe_int pa_nil))) (fun _ _ => rfl)))), ?_⟩
  refine retI (opI ?_)
  refine ⟨_, rfl, most, 1, rfl, rfl, 1, rfl, len_1, fun t nt => ⟨len_1, fun l nl => ⟨10, 41, rfl, rfl, ⟨by decide, by decide, by decide⟩, ?_, fun p np => ?_⟩⟩⟩
  · show 9 ≤ sizeLine
    rw [sizeLine_eq]
    decide
  · have st3 := ((hst.new (u := .tup [V.int 0]) nt).new (u := .lst [V.int 0]) nl).ne np
    refine rd_dig (b := 9) rfl (fun Q' q => q) (by decide) (by decide) (((hst.new nt).new nl).new np) fun H1 j s1 st1 j0 j1 => ?_
    obtain ⟨v, d, e, m, hd⟩ := pickD (ds := oddsL most) (vs := [.int (most + 1), .int (-1), .bl true, .bl false, .non, .str "0", .ref t, .ref l, .int (10 ^ 41)])
      (dna_cons (dn_int _) (dna_cons (dn_int _) (dna_cons (dn_bl _) (dna_cons (dn_bl _) (dna_cons dn_non (dna_cons (dn_str _) (dna_cons (dn_tup (del_at (hst.ne nt) (upd2 (upd2 upd_same nl) np)) (dna_cons (dn_int 0) dna_nil)) (dna_cons (dn_lst (del_at ((hst.new nt).ne nl) (upd2 upd_same np)) (dna_cons (dn_int 0) dna_nil)) (dna_cons (dn_int _) dna_nil))))))))) s1 j0 j1
    exact ⟨p, _, j, v, rfl, rfl, SqL.of (s1 _ _ st3 upd_same), e, hQ H1 v d ((((SameS.new nt).trans (SameS.new nl)).trans (SameS.new np)).trans s1) st1 m hd⟩
end
end Pw
set_option Elab.async false
set_option linter.all false
set_option maxRecDepth 100000
set_option maxHeartbeats 1000000
/-! Tuples joined and cut, by their data. -/
namespace Pw
open PySem PySem.Spec PyProof.Rows L2
section
variable {K : PySem.W.Frag} {H : Hp} {st : Addr} {x y : V} {ds es : List D} {Q : VK}
theorem dn_tupAt (h : Dn (del H st) (.tup ds) x) : ∃ a xs, x = .ref a ∧ a ≠ st ∧ H a = some (.tup xs) ∧ DnA (del H st) ds xs := by
  obtain ⟨a, xs, rfl, ha, hx⟩ := h.tup
  have n : a ≠ st := fun z => by
    rw [z, del_same] at ha
    cases ha
  rw [del_ne n] at ha
  exact ⟨a, xs, rfl, n, ha, hx⟩
theorem del_mono {H' : Hp} (s : Same H H') : Same (del H st) (del H' st) := same_dels (.of s)
theorem rd_catD (hst : StOk H st) (hx : Dn (del H st) (.tup ds) x) (hy : Dn (del H st) (.tup es) y) (hl : ds.length + es.length ≤ 1000) (q : ∀ v H', Same H H' → Dn (del H' st) (.tup (ds ++ es)) v → Q v H') : rCatA K x y H Q := by
  obtain ⟨a, xs, rfl, na, ha, hxs⟩ := dn_tupAt hx
  obtain ⟨b, ys, rfl, nb, hb, hys⟩ := dn_tupAt hy
  have l1 := hxs.length
  have l2 := hys.length
  refine ⟨a, b, xs, ys, rfl, rfl, SqT.of ha, SqT.of hb, by rw [sizeLine_eq]; omega, fun e => ?_, fun _ e => ?_, fun _ _ p np => ?_⟩
  · have e2 : ds = [] := List.eq_nil_of_length_eq_zero (by rw [← l1, e]; rfl)
    exact q _ H (Same.refl _) (by rw [e2]; exact hy)
  · have e2 : es = [] := List.eq_nil_of_length_eq_zero (by rw [← l2, e]; rfl)
    exact q _ H (Same.refl _) (by rw [e2, List.append_nil]; exact hx)
  · have s := del_mono (st := st) (same_upd (u := .tup (xs ++ ys)) np)
    exact q _ _ (same_upd np) (dn_tup (del_at (hst.ne np) upd_same) ((DnA.mono s _ _ hxs).append (DnA.mono s _ _ hys)))
theorem rd_takeD (k : Nat) (hst : StOk H st) (hx : Dn (del H st) (.tup ds) x) (q : ∀ v H', Same H H' → Dn (del H' st) (.tup (ds.take k)) v → Q v H') : rSlA K x none (some (k : Int)) H Q := by
  obtain ⟨a, xs, rfl, na, ha, hxs⟩ := dn_tupAt hx
  have l1 := hxs.length
  have e1 : HT.sIx xs.length xs.length (some (k : Int)) = min k xs.length := HT.sIx_nat _ _ _
  refine ⟨a, xs, rfl, SqT.of ha, fun h => ?_, fun _ p np => ?_⟩
  · rw [e1] at h
    have e2 : ds.take k = ds := List.take_of_length_le (by omega)
    exact q _ H (Same.refl _) (by rw [e2]; exact hx)
  · have ec : cutV xs none (some (k : Int)) = xs.take k := by
      rw [cut_to]
      by_cases h : k ≤ xs.length
      · rw [Nat.min_eq_left h]
      · rw [Nat.min_eq_right (by omega), List.take_of_length_le (Nat.le_refl _), List.take_of_length_le (by omega)]
    rw [ec]
    exact q _ _ (same_upd np) (dn_tup (del_at (hst.ne np) upd_same) ((DnA.mono (del_mono (same_upd np)) _ _ hxs).take k))
theorem rd_dropD (k : Nat) (hst : StOk H st) (hx : Dn (del H st) (.tup ds) x) (q : ∀ v H', Same H H' → Dn (del H' st) (.tup (ds.drop k)) v → Q v H') : rSlA K x (some (k : Int)) none H Q := by
  obtain ⟨a, xs, rfl, na, ha, hxs⟩ := dn_tupAt hx
  have l1 := hxs.length
  have e1 : HT.sIx xs.length 0 (some (k : Int)) = min k xs.length := HT.sIx_nat _ _ _
  refine ⟨a, xs, rfl, SqT.of ha, fun h => ?_, fun _ p np => ?_⟩
  · rw [e1] at h
    have e2 : ds.drop k = ds := by
      rcases Nat.eq_zero_or_pos k with z | z
      · rw [z]
        rfl
      · have : ds = [] := List.eq_nil_of_length_eq_zero (by omega)
        rw [this]
        simp
    exact q _ H (Same.refl _) (by rw [e2]; exact hx)
  · have ec : cutV xs (some (k : Int)) none = xs.drop k := by
      unfold cutV
      rw [e1, HT.sIx_none]
      by_cases h : k ≤ xs.length
      · rw [Nat.min_eq_left h, List.take_of_length_le (by rw [List.length_drop]; omega)]
      · rw [Nat.min_eq_right (by omega), List.drop_of_length_le (Nat.le_refl _), List.drop_of_length_le (by omega), List.take_nil]
    rw [ec]
    exact q _ _ (same_upd np) (dn_tup (del_at (hst.ne np) upd_same) ((DnA.mono (del_mono (same_upd np)) _ _ hxs).drop k))
end
end Pw
set_option Elab.async false
set_option linter.all false
set_option maxRecDepth 100000
set_option maxHeartbeats 1000000
/-! The odd stands. -/
namespace Pw
open PySem PySem.Spec PyProof.Rows L2
section
variable {P : Program} {w : World} {K : PySem.W.Frag} {mg : Str → Option Value} {base : Heap}
theorem dn_ints {H : Hp} {p : Addr} {is : List Int} (e : H p = some (.tup (is.map V.int))) : Dn H (.tup (is.map D.int)) (.ref p) := dn_tup e DnA.ints
theorem len_of {H : Hp} {st : Addr} {v : V} {ds : List D} {n : Nat} (h : Dn (del H st) (.tup ds) v) (hl : ds.length = n) : LenV K v H n := by
  obtain ⟨a, xs, rfl, _, ha, hx⟩ := dn_tupAt h
  exact .inr ⟨xs, SqT.of ha, by rw [hx.length, hl]⟩
theorem dn_tupN {H : Hp} {st p : Addr} {ds : List D} {vs : List V} (hst : StOk H st) (np : H p = none) (h : DnA (del H st) ds vs) : Dn (del (upd H p (.tup vs)) st) (.tup ds) (.ref p) := dn_tup (del_at (hst.ne np) upd_same) (DnA.mono (del_mono (same_upd np)) _ _ h)
theorem dn_lstN {H : Hp} {st p : Addr} {ds : List D} {vs : List V} (hst : StOk H st) (np : H p = none) (h : DnA (del H st) ds vs) : Dn (del (upd H p (.lst vs)) st) (.lst ds) (.ref p) := dn_lst (del_at (hst.ne np) upd_same) (DnA.mono (del_mono (same_upd np)) _ _ h)
theorem rd_dropI {σ : L2.St} {H : Hp} {st : Addr} {x : V} {ds : List D} {Q : VK} {i : Int} (k : Nat) (hk : i = (k : Int)) (hst : StOk H st) (hx : Dn (del H st) (.tup ds) x) (q : ∀ v H', Same H H' → Dn (del H' st) (.tup (ds.drop k)) v → Q v H') : tNoPart σ H fun u H3 => rSlA K x (some i) u H3 Q := by
  rw [hk]
  exact rd_dropD k hst hx q
theorem dn_lstAt {H : Hp} {st : Addr} {x : V} {ds : List D} (h : Dn (del H st) (.lst ds) x) : ∃ a xs, x = .ref a ∧ a ≠ st ∧ H a = some (.lst xs) ∧ DnA (del H st) ds xs := by
  obtain ⟨a, xs, rfl, ha, hx⟩ := h.lst
  have n : a ≠ st := fun z => by
    rw [z, del_same] at ha
    cases ha
  rw [del_ne n] at ha
  exact ⟨a, xs, rfl, n, ha, hx⟩
theorem rd_catL {H : Hp} {st : Addr} {x y : V} {ds es : List D} {Q : VK} (hst : StOk H st) (hx : Dn (del H st) (.lst ds) x) (hy : Dn (del H st) (.lst es) y) (hl : ds.length + es.length ≤ 1000) (q : ∀ v H', Same H H' → Dn (del H' st) (.lst (ds ++ es)) v → Q v H') : rCat x y H Q := by
  obtain ⟨a, xs, rfl, na, ha, hxs⟩ := dn_lstAt hx
  obtain ⟨b, ys, rfl, nb, hb, hys⟩ := dn_lstAt hy
  have l1 := hxs.length
  have l2 := hys.length
  refine ⟨a, b, xs, ys, rfl, rfl, ha, hb, by rw [sizeLine_eq]; omega, fun p np => ?_⟩
  exact q _ _ (same_upd np) (dn_lstN hst np (hxs.append hys))
/-- a list's item by a digit -/
theorem rd_pickL {H : Hp} {st : Addr} {σ : L2.St} {i : Nat} {te : TE} {E : XK} {x : V} {ds : List D} {Q : VK} {b : Int} (h0 : σ[i]? = some (some (.ref st))) (hst : StOk H st) (hx : Dn (del H st) (.lst ds) x) (hb : b = ds.length) (b0 : 0 < ds.length) (b1 : ds.length < 1000) (hte : ∀ Q' : VK, Q' (.int b) H → te σ H Q')
    (q : ∀ H' v d, SameS st H H' → StOk H' st → d ∈ ds → Dn (del H' st) d v → Q v H') : tCall sp_digit [] E (tCons (tVar i) (tCons te tNil)) σ H fun y H2 => rIxL K x y H2 Q := by
  obtain ⟨a, xs, rfl, na, ha, hxs⟩ := dn_lstAt hx
  have l1 := hxs.length
  refine rd_dig h0 hte (by omega) (by omega) hst fun H1 j s1 st1 j0 j1 => ?_
  obtain ⟨v, d, e, m, hd⟩ := pickD hxs s1 j0 (by omega)
  exact ⟨a, xs, j, v, rfl, rfl, SqL.of (s1 _ _ na ha), e, q H1 v d s1 st1 m hd⟩
theorem rd_newT {H : Hp} {st : Addr} {ds : List D} {vs : List V} {Q : VK} (hst : StOk H st) (h : DnA (del H st) ds vs) (hl : ds.length ≤ 1000) (q : ∀ v H', Same H H' → Dn (del H' st) (.tup ds) v → Q v H') : vs.length ≤ sizeLine ∧ ∀ p, H p = none → Q (.ref p) (upd H p (.tup vs)) :=
  ⟨by rw [h.length, sizeLine_eq]; omega, fun p np => q _ _ (same_upd np) (dn_tupN hst np h)⟩
theorem rd_newL {H : Hp} {st : Addr} {ds : List D} {vs : List V} {Q : VK} (hst : StOk H st) (h : DnA (del H st) ds vs) (hl : ds.length ≤ 1000) (q : ∀ v H', Same H H' → Dn (del H' st) (.lst ds) v → Q v H') : vs.length ≤ sizeLine ∧ ∀ p, H p = none → Q (.ref p) (upd H p (.lst vs)) :=
  ⟨by rw [h.length, sizeLine_eq]; omega, fun p np => q _ _ (same_upd np) (dn_lstN hst np h)⟩
theorem rd_one {σ : L2.St} {H : Hp} {st : Addr} {d : D} {c : V} {Q : VK} (hst : StOk H st) (h : Dn (del H st) d c) (q : ∀ v H', Same H H' → Dn (del H' st) (.tup [d]) v → Q v H') : tTup (tCons (tC c) tNil) σ H Q := rd_newT hst (dna_cons h dna_nil) (by simp) q
theorem len_5 {a b c d e : V} : [a, b, c, d, e].length ≤ sizeLine := by show 5 ≤ sizeLine; rw [sizeLine_eq]; decide
def oddStands (R M : List D) (d1 d2 : D) (i j : Nat) : List D := [.tup [.tup R, .tup (M.take i ++ [d1] ++ M.drop (i + 1))], .tup [.tup (R.take j ++ [d2] ++ R.drop (j + 1)), .tup M], .tup [.tup R, .tup (M ++ [.int 0])], .tup [.tup (R ++ [.int 0]), .tup M], .tup [.tup (R.drop 1), .tup M], .tup [.lst R, .tup M],
  .tup [.tup R, .lst M], .lst [.tup R, .tup M], .tup [.tup R, .tup M, .int 0], .non, .tup R]
def sp_odd_stand : Sp := fun vs H Q _ => ∃ st v n m L, vs = [.ref st, v, .int L] ∧ StOk H st ∧ StAt H v n m L ∧ 1 ≤ n ∧ n ≤ 4 ∧ 1 ≤ m ∧ m ≤ 2 ∧ 0 ≤ L ∧ L ≤ 6 ∧
  ∀ H' v d (is js : List Int) d1 d2 i j, SameS st H H' → StOk H' st → Dn (del H' st) d v → d1 ∈ oddsL L → d2 ∈ oddsL 7 → i < n → j < m → is.length = m → js.length = n → d ∈ oddStands (is.map D.int) (js.map D.int) d1 d2 i j → Q v H'
theorem ok_law_odd_stand (T : Tx K mg) : Fn0 P w K mg base 3 d_law_odd_stand p_law_odd_stand sp_odd_stand := by
  refine FunD.ok (fn_law_odd_stand T) s_law_odd_stand (fun vs H Q E h => ?_) (fun cdv A outer s H vs Q E hr h => ?_)
  · obtain ⟨st, v, n, m, L, rfl, _⟩ := h
    rfl
  obtain ⟨st, v, n, m, L, rfl, hst, hv, n1, n4, m1, m2, L0, L6, hQ⟩ := h
  refine ⟨_, (pss_cons (ps_asg (pv 1) (pg_tup rfl (pgs_cons (pg_name (i := 3) s_law_odd_stand.nd rfl (.inl rfl)) (pgs_cons (pg_name (i := 4) s_law_odd_stand.nd rfl (.inl rfl)) pgs_nil)))) (pss_cons (ps_set (i := 5) s_law_odd_stand.nd rfl (.inl rfl) (pe_call (ok_law_digit T) (hr.mono (by decide)) rfl (mg_law_digit T) (fn_law_digit T).kp (b_law_digit T) .nil pass0 (pa_cons (pv 0) (pa_cons (pe_callB call_len rfl (mf_len T) boot_len1 (pa_cons (pv 4) pa_nil)) pa_nil)))) (pss_cons (ps_set (i := 6) s_law_odd_stand.nd rfl (.inl rfl) (pe_call (ok_law_odd_number T) (hr.mono (by decide)) rfl (mg_law_odd_number T) (fn_law_odd_number T).kp (b_law_odd_number T) .nil pass0 (pa_cons (pv 0) (pa_cons (pv 2) pa_nil)))) (pss_cons (ps_set (i := 7) s_law_odd_stand.nd rfl (.inl rfl) (pe_call (ok_law_digit T) (hr.mono (by decide)) rfl (mg_law_digit T) (fn_law_digit T).kp (b_law_digit T) .nil pass0 (pa_cons (pv 0) (pa_cons (pe_callB call_len rfl (mf_len T) boot_len1 (pa_cons (pv 3) pa_nil)) pa_nil)))) (pss_cons (ps_set (i := 8) s_law_odd_stand.nd rfl (.inl rfl) (pe_op op_catA (pe_op op_catA (pe_slice sl_tupA (pv 3) po_none (po_some (pv 7))) (pe_tup (pa_cons (pe_call (ok_law_odd_number T) (hr.mono (by decide)) rfl (mg_law_odd_number T) (fn_law_odd_number T).kp (b_law_odd_number T) .nil pass0 (pa_cons (pv 0) (pa_cons pe_int pa_nil))) pa_nil))) (pe_slice sl_tupA (pv 3) (po_some (pe_op op_add (pv 7) pe_int)) po_none))) (pss_cons (ps_set (i := 9) s_law_odd_stand.nd rfl (.inl rfl) (pe_lst (pa_cons (pe_tup (pa_cons (pv 3) (pa_cons (pe_op op_catA (pe_op op_catA (pe_slice sl_tupA (pv 4) po_none (po_some (pv 5))) (pe_tup (pa_cons (pv 6) pa_nil))) (pe_slice sl_tupA (pv 4) (po_some (pe_op op_add (pv 5) pe_int)) po_none)) pa_nil))) (pa_cons (pe_tup (pa_cons (pv 8) (pa_cons (pv 4) pa_nil))) pa_nil)))) (pss_cons (ps_set (i := 9) s_law_odd_stand.nd rfl (.inl rfl) (pe_op op_cat (pv 9) (pe_lst (pa_cons (pe_tup (pa_cons (pv 3) (pa_cons (pe_op op_catA (pv 4) (pe_tup (pa_cons pe_int pa_nil))) pa_nil))) (pa_cons (pe_tup (pa_cons (pe_op op_catA (pv 3) (pe_tup (pa_cons pe_int pa_nil))) (pa_cons (pv 4) pa_nil))) (pa_cons (pe_tup (pa_cons (pe_slice sl_tupA (pv 3) (po_some pe_int) po_none) (pa_cons (pv 4) pa_nil))) (pa_cons (pe_tup (pa_cons (pe_callTy call_list_of rfl (mf_list T) boot_list1 (pa_cons (pv 3) pa_nil)) (pa_cons (pv 4) pa_nil))) pa_nil))))))) (pss_one (ps_ret (pe_ix ix_list (pe_op op_cat (pv 9) (pe_lst (pa_cons (pe_tup (pa_cons (pv 3) (pa_cons (pe_callTy call_list_of rfl (mf_list T) boot_list1 (pa_cons (pv 4) pa_nil)) pa_nil))) (pa_cons (pe_lst (pa_cons (pv 3) (pa_cons (pv 4) pa_nil))) (pa_cons (pe_tup (pa_cons (pv 3) (pa_cons (pv 4) (pa_cons pe_int pa_nil)))) (pa_cons pe_non (pa_cons (pv 3) pa_nil))))))) (pe_call (ok_law_digit T) (hr.mono (by decide)) rfl (mg_law_digit T) (fn_law_digit T).kp (b_law_digit T) .nil pass0 (pa_cons (pv 0) (pa_cons pe_int pa_nil))) (fun _ _ => rfl))))))))))), ?_⟩
  have hsz : sizeLine = 16777216 := sizeLine_eq
  obtain ⟨pv, pr, pk, is, js, rfl, ev, er, ek, lr, lk, hi, hj⟩ := hv
  refine sqA ⟨_, rfl, pv, _, rfl, SqT.of ev, rfl, _, _, rfl, _, _, rfl, rfl, ?_⟩
  have dR : Dn (del H st) (.tup (is.map D.int)) (.ref pr) := dn_ints (del_tup hst er)
  have dM : Dn (del H st) (.tup (js.map D.int)) (.ref pk) := dn_ints (del_tup hst ek)
  have lR : (is.map D.int).length = m := by rw [List.length_map, lr]
  have lM : (js.map D.int).length = n := by rw [List.length_map, lk]
  clear ev er ek
  refine sqN (rd_dig (b := (n : Int)) rfl (fun Q' q => ⟨_, rfl, _, n, rfl, len_of dM lM, q⟩) (by omega) (by omega) hst fun H1 i s1 st1 i0 i1 => ?_)
  obtain ⟨i, rfl⟩ : ∃ k : Nat, i = (k : Int) := ⟨i.toNat, by omega⟩
  replace dR := Dn.mono (same_dels s1) _ _ dR
  replace dM := Dn.mono (same_dels s1) _ _ dM
  refine sqN ⟨_, rfl, _, rfl, st, L, rfl, st1, fun H2 v1 d1 s2 st2 m1' h1 => ?_⟩
  replace dR := Dn.mono (same_dels s2) _ _ dR
  replace dM := Dn.mono (same_dels s2) _ _ dM
  refine sqN (rd_dig (b := (m : Int)) rfl (fun Q' q => ⟨_, rfl, _, m, rfl, len_of dR lR, q⟩) (by omega) (by omega) st2 fun H3 j s3 st3 j0 j1 => ?_)
  obtain ⟨j, rfl⟩ : ∃ k : Nat, j = (k : Int) := ⟨j.toNat, by omega⟩
  replace dR := Dn.mono (same_dels s3) _ _ dR
  replace dM := Dn.mono (same_dels s3) _ _ dM
  replace h1 := Dn.mono (same_dels s3) _ _ h1
  refine sqN (opI (opI ⟨_, rfl, _, rfl, _, rfl, rd_takeD j st3 dR fun a1 H4 s4 e1 => ?_⟩))
  have st4 := st3.same s4
  replace dR := Dn.mono (same_dels (.of s4)) _ _ dR
  replace dM := Dn.mono (same_dels (.of s4)) _ _ dM
  replace h1 := Dn.mono (same_dels (.of s4)) _ _ h1
  refine tupI (consI ⟨_, rfl, st, 7, rfl, st4, fun H5 v2 d2 s5 st5 m2' h2 => ⟨len_1, fun q5 n5 => ?_⟩⟩)
  replace dR := Dn.mono (same_dels s5) _ _ dR
  replace dM := Dn.mono (same_dels s5) _ _ dM
  replace h1 := Dn.mono (same_dels s5) _ _ h1
  replace e1 := Dn.mono (same_dels s5) _ _ e1
  have e2 := dn_tupN st5 n5 (dna_cons h2 dna_nil)
  have st6 := st5.new (u := .tup [v2]) n5
  have s6 : SameS st H5 (upd H5 q5 (.tup [v2])) := SameS.new n5
  replace dR := Dn.mono (same_dels s6) _ _ dR
  replace dM := Dn.mono (same_dels s6) _ _ dM
  replace h1 := Dn.mono (same_dels s6) _ _ h1
  replace e1 := Dn.mono (same_dels s6) _ _ e1
  replace h2 := Dn.mono (same_dels s6) _ _ h2
  refine rd_catD st6 e1 e2 (by simp; omega) fun a2 H7 s7 e3 => ?_
  have st7 := st6.same s7
  replace dR := Dn.mono (same_dels (.of s7)) _ _ dR
  replace dM := Dn.mono (same_dels (.of s7)) _ _ dM
  replace h1 := Dn.mono (same_dels (.of s7)) _ _ h1
  replace e1 := Dn.mono (same_dels (.of s7)) _ _ e1
  replace h2 := Dn.mono (same_dels (.of s7)) _ _ h2
  replace e2 := Dn.mono (same_dels (.of s7)) _ _ e2
  refine ⟨_, rfl, _, rfl, (j : Int), 1, rfl, rfl, _, rfl, rd_dropI (j + 1) (by omega) st7 dR fun a3 H8 s8 e4 => ?_⟩
  have st8 := st7.same s8
  replace dR := Dn.mono (same_dels (.of s8)) _ _ dR
  replace dM := Dn.mono (same_dels (.of s8)) _ _ dM
  replace h1 := Dn.mono (same_dels (.of s8)) _ _ h1
  replace h2 := Dn.mono (same_dels (.of s8)) _ _ h2
  replace e3 := Dn.mono (same_dels (.of s8)) _ _ e3
  refine rd_catD st8 e3 e4 (by simp; omega) fun a4 H9 s9 e5 => ?_
  have st9 := st8.same s9
  replace dR := Dn.mono (same_dels (.of s9)) _ _ dR
  replace dM := Dn.mono (same_dels (.of s9)) _ _ dM
  replace h1 := Dn.mono (same_dels (.of s9)) _ _ h1
  replace h2 := Dn.mono (same_dels (.of s9)) _ _ h2
  replace e3 := Dn.mono (same_dels (.of s9)) _ _ e3
  replace e4 := Dn.mono (same_dels (.of s9)) _ _ e4
  have sA : SameS st H H9 := ((((((((s1.trans s2).trans s3).trans (.of s4)).trans s5).trans s6).trans (.of s7)).trans (.of s8)).trans (.of s9))
  clear s1 s2 s3 s4 s5 s6 s7 s8 s9 st1 st2 st3 st4 st5 st6 st7 st8 n5 e1 e2 e3 e4 h2
  show tSeq _ _ _ _ _
  refine sqN (consI (tupI (consI ⟨_, rfl, consI (opI (opI ⟨_, rfl, _, rfl, _, rfl, rd_takeD i st9 dM fun b1 H1 s1 f1 => ?_⟩))⟩)))
  have st1 := st9.same s1
  replace dR := Dn.mono (same_dels (.of s1)) _ _ dR
  replace dM := Dn.mono (same_dels (.of s1)) _ _ dM
  replace h1 := Dn.mono (same_dels (.of s1)) _ _ h1
  replace e5 := Dn.mono (same_dels (.of s1)) _ _ e5
  refine tupI (consI ⟨_, rfl, len_1, fun q1 n1' => ?_⟩)
  have f2 := dn_tupN st1 n1' (dna_cons h1 dna_nil)
  have sB : SameS st H1 (upd H1 q1 (.tup [v1])) := SameS.new n1'
  have st2 := st1.new (u := .tup [v1]) n1'
  replace dR := Dn.mono (same_dels sB) _ _ dR
  replace dM := Dn.mono (same_dels sB) _ _ dM
  replace h1 := Dn.mono (same_dels sB) _ _ h1
  replace e5 := Dn.mono (same_dels sB) _ _ e5
  replace f1 := Dn.mono (same_dels sB) _ _ f1
  refine rd_catD st2 f1 f2 (by simp; omega) fun b2 H2 s2 f3 => ?_
  have st3 := st2.same s2
  replace dR := Dn.mono (same_dels (.of s2)) _ _ dR
  replace dM := Dn.mono (same_dels (.of s2)) _ _ dM
  replace h1 := Dn.mono (same_dels (.of s2)) _ _ h1
  replace e5 := Dn.mono (same_dels (.of s2)) _ _ e5
  replace f1 := Dn.mono (same_dels (.of s2)) _ _ f1
  replace f2 := Dn.mono (same_dels (.of s2)) _ _ f2
  refine ⟨_, rfl, _, rfl, (i : Int), 1, rfl, rfl, _, rfl, rd_dropI (i + 1) (by omega) st3 dM fun b3 H3 s3 f4 => ?_⟩
  have st4 := st3.same s3
  replace dR := Dn.mono (same_dels (.of s3)) _ _ dR
  replace dM := Dn.mono (same_dels (.of s3)) _ _ dM
  replace h1 := Dn.mono (same_dels (.of s3)) _ _ h1
  replace e5 := Dn.mono (same_dels (.of s3)) _ _ e5
  replace f3 := Dn.mono (same_dels (.of s3)) _ _ f3
  refine rd_catD st4 f3 f4 (by simp; omega) fun b4 H4 s4 f5 => ?_
  have st5 := st4.same s4
  replace dR := Dn.mono (same_dels (.of s4)) _ _ dR
  replace dM := Dn.mono (same_dels (.of s4)) _ _ dM
  replace h1 := Dn.mono (same_dels (.of s4)) _ _ h1
  replace e5 := Dn.mono (same_dels (.of s4)) _ _ e5
  replace f3 := Dn.mono (same_dels (.of s4)) _ _ f3
  replace f4 := Dn.mono (same_dels (.of s4)) _ _ f4
  refine ⟨len_2, fun q6 n6 => ?_⟩
  have g1 := dn_tupN st5 n6 (dna_cons dR (dna_cons f5 dna_nil))
  have sC : SameS st H4 (upd H4 q6 (.tup [.ref pr, b4])) := SameS.new n6
  have st6 := st5.new (u := .tup [.ref pr, b4]) n6
  replace dR := Dn.mono (same_dels sC) _ _ dR
  replace dM := Dn.mono (same_dels sC) _ _ dM
  replace h1 := Dn.mono (same_dels sC) _ _ h1
  replace e5 := Dn.mono (same_dels sC) _ _ e5
  replace f5 := Dn.mono (same_dels sC) _ _ f5
  refine consI (tupI (consI ⟨_, rfl, consI ⟨_, rfl, len_2, fun q7 n7 => ?_⟩⟩))
  have g2 := dn_tupN st6 n7 (dna_cons e5 (dna_cons dM dna_nil))
  have sD : SameS st (upd H4 q6 (.tup [.ref pr, b4])) (upd (upd H4 q6 (.tup [.ref pr, b4])) q7 (.tup [a4, .ref pk])) := SameS.new n7
  have st7 := st6.new (u := .tup [a4, .ref pk]) n7
  replace dR := Dn.mono (same_dels sD) _ _ dR
  replace dM := Dn.mono (same_dels sD) _ _ dM
  replace h1 := Dn.mono (same_dels sD) _ _ h1
  replace e5 := Dn.mono (same_dels sD) _ _ e5
  replace g1 := Dn.mono (same_dels sD) _ _ g1
  refine ⟨len_2, fun q8 n8 => ?_⟩
  have gL := dn_lstN st7 n8 (dna_cons g1 (dna_cons g2 dna_nil))
  have sE : SameS st (upd (upd H4 q6 (.tup [.ref pr, b4])) q7 (.tup [a4, .ref pk])) (upd (upd (upd H4 q6 (.tup [.ref pr, b4])) q7 (.tup [a4, .ref pk])) q8 (.lst [.ref q6, .ref q7])) := SameS.new n8
  have st8 := st7.new (u := .lst [.ref q6, .ref q7]) n8
  replace dR := Dn.mono (same_dels sE) _ _ dR
  replace dM := Dn.mono (same_dels sE) _ _ dM
  replace h1 := Dn.mono (same_dels sE) _ _ h1
  replace g1 := Dn.mono (same_dels sE) _ _ g1
  replace g2 := Dn.mono (same_dels sE) _ _ g2
  have sF := ((((((sA.trans (.of s1)).trans sB).trans (.of s2)).trans (.of s3)).trans (.of s4)).trans sC).trans (sD.trans sE)
  generalize upd (upd (upd H4 q6 (.tup [.ref pr, b4])) q7 (.tup [a4, .ref pk])) q8 (.lst [.ref q6, .ref q7]) = HA at *
  clear n8 n7 n6 n1' s1 s2 s3 s4 sB sC sD sE sA st1 st2 st3 st4 st5 st6 st7 f1 f2 f3 f4 f5 e5
  refine sqN (opI ⟨_, rfl, consI (tupI (consI ⟨_, rfl, consI (opI ⟨_, rfl, ?_⟩)⟩))⟩)
  refine rd_one st8 (dn_int 0) fun c1 H1 s1 z1 => ?_
  have t1 := st8.same s1
  replace dR := Dn.mono (same_dels (.of s1)) _ _ dR
  replace dM := Dn.mono (same_dels (.of s1)) _ _ dM
  replace h1 := Dn.mono (same_dels (.of s1)) _ _ h1
  replace gL := Dn.mono (same_dels (.of s1)) _ _ gL
  refine rd_catD t1 dM z1 (by simp; omega) fun c2 H2 s2 z2 => ?_
  have t2 := t1.same s2
  replace dR := Dn.mono (same_dels (.of s2)) _ _ dR
  replace dM := Dn.mono (same_dels (.of s2)) _ _ dM
  replace h1 := Dn.mono (same_dels (.of s2)) _ _ h1
  replace gL := Dn.mono (same_dels (.of s2)) _ _ gL
  refine ⟨len_2, fun p3 np3 => ?_⟩
  have g3 := dn_tupN t2 np3 (dna_cons dR (dna_cons z2 dna_nil))
  have s3 : Same H2 (upd H2 p3 (.tup [.ref pr, c2])) := same_upd np3
  generalize upd H2 p3 (.tup [.ref pr, c2]) = H3 at g3 s3 ⊢
  have t3 := t2.same s3
  replace dR := Dn.mono (same_dels (.of s3)) _ _ dR
  replace dM := Dn.mono (same_dels (.of s3)) _ _ dM
  replace h1 := Dn.mono (same_dels (.of s3)) _ _ h1
  replace gL := Dn.mono (same_dels (.of s3)) _ _ gL
  replace z2 := Dn.mono (same_dels (.of s3)) _ _ z2
  refine consI (tupI (consI (opI ⟨_, rfl, ?_⟩)))
  refine rd_one t3 (dn_int 0) fun c4 H4 s4 z4 => ?_
  have t4 := t3.same s4
  replace dR := Dn.mono (same_dels (.of s4)) _ _ dR
  replace dM := Dn.mono (same_dels (.of s4)) _ _ dM
  replace h1 := Dn.mono (same_dels (.of s4)) _ _ h1
  replace gL := Dn.mono (same_dels (.of s4)) _ _ gL
  replace g3 := Dn.mono (same_dels (.of s4)) _ _ g3
  refine rd_catD t4 dR z4 (by simp; omega) fun c5 H5 s5 z5 => ?_
  have t5 := t4.same s5
  replace dR := Dn.mono (same_dels (.of s5)) _ _ dR
  replace dM := Dn.mono (same_dels (.of s5)) _ _ dM
  replace h1 := Dn.mono (same_dels (.of s5)) _ _ h1
  replace gL := Dn.mono (same_dels (.of s5)) _ _ gL
  replace g3 := Dn.mono (same_dels (.of s5)) _ _ g3
  refine consI ⟨_, rfl, ?_⟩
  refine ⟨len_2, fun p6 np6 => ?_⟩
  have g4 := dn_tupN t5 np6 (dna_cons z5 (dna_cons dM dna_nil))
  have s6 : Same H5 (upd H5 p6 (.tup [c5, .ref pk])) := same_upd np6
  generalize upd H5 p6 (.tup [c5, .ref pk]) = H6 at g4 s6 ⊢
  have t6 := t5.same s6
  replace dR := Dn.mono (same_dels (.of s6)) _ _ dR
  replace dM := Dn.mono (same_dels (.of s6)) _ _ dM
  replace h1 := Dn.mono (same_dels (.of s6)) _ _ h1
  replace gL := Dn.mono (same_dels (.of s6)) _ _ gL
  replace g3 := Dn.mono (same_dels (.of s6)) _ _ g3
  replace z5 := Dn.mono (same_dels (.of s6)) _ _ z5
  refine consI (tupI (consI ⟨_, rfl, 1, rfl, rd_dropI 1 rfl t6 dR fun c7 H7 s7 z7 => ?_⟩))
  have t7 := t6.same s7
  replace dR := Dn.mono (same_dels (.of s7)) _ _ dR
  replace dM := Dn.mono (same_dels (.of s7)) _ _ dM
  replace h1 := Dn.mono (same_dels (.of s7)) _ _ h1
  replace gL := Dn.mono (same_dels (.of s7)) _ _ gL
  replace g3 := Dn.mono (same_dels (.of s7)) _ _ g3
  replace g4 := Dn.mono (same_dels (.of s7)) _ _ g4
  refine consI ⟨_, rfl, ?_⟩
  refine ⟨len_2, fun p8 np8 => ?_⟩
  have g5 := dn_tupN t7 np8 (dna_cons z7 (dna_cons dM dna_nil))
  have s8 : Same H7 (upd H7 p8 (.tup [c7, .ref pk])) := same_upd np8
  generalize upd H7 p8 (.tup [c7, .ref pk]) = H8 at g5 s8 ⊢
  have t8 := t7.same s8
  replace dR := Dn.mono (same_dels (.of s8)) _ _ dR
  replace dM := Dn.mono (same_dels (.of s8)) _ _ dM
  replace h1 := Dn.mono (same_dels (.of s8)) _ _ h1
  replace gL := Dn.mono (same_dels (.of s8)) _ _ gL
  replace g3 := Dn.mono (same_dels (.of s8)) _ _ g3
  replace g4 := Dn.mono (same_dels (.of s8)) _ _ g4
  replace z7 := Dn.mono (same_dels (.of s8)) _ _ z7
  refine consI (tupI (consI (cbI (consI ⟨_, rfl, ?_⟩))))
  obtain ⟨pr', xs, epr, npr, hpr, hxs⟩ := dn_tupAt dR
  refine ⟨pr', xs, by rw [epr], .inr (SqT.of hpr), fun l nl => ?_⟩
  have z9 := dn_lstN t8 nl hxs
  have s9 : Same H8 (upd H8 l (.lst xs)) := same_upd nl
  generalize upd H8 l (.lst xs) = H9 at z9 s9 ⊢
  have t9 := t8.same s9
  replace dR := Dn.mono (same_dels (.of s9)) _ _ dR
  replace dM := Dn.mono (same_dels (.of s9)) _ _ dM
  replace h1 := Dn.mono (same_dels (.of s9)) _ _ h1
  replace gL := Dn.mono (same_dels (.of s9)) _ _ gL
  replace g3 := Dn.mono (same_dels (.of s9)) _ _ g3
  replace g4 := Dn.mono (same_dels (.of s9)) _ _ g4
  replace g5 := Dn.mono (same_dels (.of s9)) _ _ g5
  refine consI ⟨_, rfl, ?_⟩
  refine ⟨len_2, fun p10 np10 => ?_⟩
  have g6 := dn_tupN t9 np10 (dna_cons z9 (dna_cons dM dna_nil))
  have s10 : Same H9 (upd H9 p10 (.tup [.ref l, .ref pk])) := same_upd np10
  generalize upd H9 p10 (.tup [.ref l, .ref pk]) = H10 at g6 s10 ⊢
  have t10 := t9.same s10
  replace dR := Dn.mono (same_dels (.of s10)) _ _ dR
  replace dM := Dn.mono (same_dels (.of s10)) _ _ dM
  replace h1 := Dn.mono (same_dels (.of s10)) _ _ h1
  replace gL := Dn.mono (same_dels (.of s10)) _ _ gL
  replace g3 := Dn.mono (same_dels (.of s10)) _ _ g3
  replace g4 := Dn.mono (same_dels (.of s10)) _ _ g4
  replace g5 := Dn.mono (same_dels (.of s10)) _ _ g5
  replace z9 := Dn.mono (same_dels (.of s10)) _ _ z9
  refine ⟨len_4, fun p11 np11 => ?_⟩
  have gM := dn_lstN t10 np11 (dna_cons g3 (dna_cons g4 (dna_cons g5 (dna_cons g6 dna_nil))))
  have s11 : Same H10 (upd H10 p11 (.lst [.ref p3, .ref p6, .ref p8, .ref p10])) := same_upd np11
  generalize upd H10 p11 (.lst [.ref p3, .ref p6, .ref p8, .ref p10]) = H11 at gM s11 ⊢
  have t11 := t10.same s11
  replace dR := Dn.mono (same_dels (.of s11)) _ _ dR
  replace dM := Dn.mono (same_dels (.of s11)) _ _ dM
  replace h1 := Dn.mono (same_dels (.of s11)) _ _ h1
  replace gL := Dn.mono (same_dels (.of s11)) _ _ gL
  replace g3 := Dn.mono (same_dels (.of s11)) _ _ g3
  replace g4 := Dn.mono (same_dels (.of s11)) _ _ g4
  replace g5 := Dn.mono (same_dels (.of s11)) _ _ g5
  replace g6 := Dn.mono (same_dels (.of s11)) _ _ g6
  refine rd_catL t11 gL gM (by simp) fun c12 H12 s12 gN => ?_
  have t12 := t11.same s12
  replace dR := Dn.mono (same_dels (.of s12)) _ _ dR
  replace dM := Dn.mono (same_dels (.of s12)) _ _ dM
  replace h1 := Dn.mono (same_dels (.of s12)) _ _ h1
  replace gL := Dn.mono (same_dels (.of s12)) _ _ gL
  have sG := ((((((((((((s1.trans s2).trans s3).trans s4).trans s5).trans s6).trans s7).trans s8).trans s9).trans s10).trans s11).trans s12))
  refine retI (opI (opI ⟨_, rfl, consI (tupI (consI ⟨_, rfl, consI (cbI (consI ⟨_, rfl, ?_⟩))⟩))⟩))
  obtain ⟨pk', ys, epk, npk, hpk, hys⟩ := dn_tupAt dM
  refine ⟨pk', ys, by rw [epk], .inr (SqT.of hpk), fun l2 nl2 => ?_⟩
  have w1 := dn_lstN t12 nl2 hys
  have u1 : Same H12 (upd H12 l2 (.lst ys)) := same_upd nl2
  generalize upd H12 l2 (.lst ys) = HB1 at w1 u1 ⊢
  have x1 := t12.same u1
  replace dR := Dn.mono (same_dels (.of u1)) _ _ dR
  replace dM := Dn.mono (same_dels (.of u1)) _ _ dM
  replace h1 := Dn.mono (same_dels (.of u1)) _ _ h1
  replace gN := Dn.mono (same_dels (.of u1)) _ _ gN
  refine ⟨len_2, fun r1 nr1 => ?_⟩
  have k1 := dn_tupN x1 nr1 (dna_cons dR (dna_cons w1 dna_nil))
  have u2 : Same HB1 (upd HB1 r1 (.tup [.ref pr, .ref l2])) := same_upd nr1
  generalize upd HB1 r1 (.tup [.ref pr, .ref l2]) = HB2 at k1 u2 ⊢
  have x2 := x1.same u2
  replace dR := Dn.mono (same_dels (.of u2)) _ _ dR
  replace dM := Dn.mono (same_dels (.of u2)) _ _ dM
  replace h1 := Dn.mono (same_dels (.of u2)) _ _ h1
  replace gN := Dn.mono (same_dels (.of u2)) _ _ gN
  replace w1 := Dn.mono (same_dels (.of u2)) _ _ w1
  refine consI ⟨_, rfl, _, rfl, len_2, fun r2 nr2 => ?_⟩
  have k2 := dn_lstN x2 nr2 (dna_cons dR (dna_cons dM dna_nil))
  have u3 : Same HB2 (upd HB2 r2 (.lst [.ref pr, .ref pk])) := same_upd nr2
  generalize upd HB2 r2 (.lst [.ref pr, .ref pk]) = HB3 at k2 u3 ⊢
  have x3 := x2.same u3
  replace dR := Dn.mono (same_dels (.of u3)) _ _ dR
  replace dM := Dn.mono (same_dels (.of u3)) _ _ dM
  replace h1 := Dn.mono (same_dels (.of u3)) _ _ h1
  replace gN := Dn.mono (same_dels (.of u3)) _ _ gN
  replace k1 := Dn.mono (same_dels (.of u3)) _ _ k1
  refine consI (tupI ⟨_, rfl, _, rfl, len_3, fun r3 nr3 => ?_⟩)
  have k3 := dn_tupN x3 nr3 (dna_cons dR (dna_cons dM (dna_cons (dn_int 0) dna_nil)))
  have u4 : Same HB3 (upd HB3 r3 (.tup [.ref pr, .ref pk, .int 0])) := same_upd nr3
  generalize upd HB3 r3 (.tup [.ref pr, .ref pk, .int 0]) = HB4 at k3 u4 ⊢
  have x4 := x3.same u4
  replace dR := Dn.mono (same_dels (.of u4)) _ _ dR
  replace dM := Dn.mono (same_dels (.of u4)) _ _ dM
  replace h1 := Dn.mono (same_dels (.of u4)) _ _ h1
  replace gN := Dn.mono (same_dels (.of u4)) _ _ gN
  replace k1 := Dn.mono (same_dels (.of u4)) _ _ k1
  replace k2 := Dn.mono (same_dels (.of u4)) _ _ k2
  refine consI ⟨_, rfl, len_5, fun r4 nr4 => ?_⟩
  have gP := dn_lstN x4 nr4 (dna_cons k1 (dna_cons k2 (dna_cons k3 (dna_cons dn_non (dna_cons dR dna_nil)))))
  have u5 : Same HB4 (upd HB4 r4 (.lst [.ref r1, .ref r2, .ref r3, .non, .ref pr])) := same_upd nr4
  generalize upd HB4 r4 (.lst [.ref r1, .ref r2, .ref r3, .non, .ref pr]) = HB5 at gP u5 ⊢
  have x5 := x4.same u5
  replace dR := Dn.mono (same_dels (.of u5)) _ _ dR
  replace dM := Dn.mono (same_dels (.of u5)) _ _ dM
  replace h1 := Dn.mono (same_dels (.of u5)) _ _ h1
  replace gN := Dn.mono (same_dels (.of u5)) _ _ gN
  replace k1 := Dn.mono (same_dels (.of u5)) _ _ k1
  replace k2 := Dn.mono (same_dels (.of u5)) _ _ k2
  replace k3 := Dn.mono (same_dels (.of u5)) _ _ k3
  refine rd_catL x5 gN gP (by simp) fun c13 H13 s13 gQ => ?_
  have t13 := x5.same s13
  refine rd_pickL (b := 11) rfl t13 gQ rfl (by simp) (by simp) (fun Q' q => q) fun H14 v d s14 t14 hmem hd => ?_
  have sH := (((((u1.trans u2).trans u3).trans u4).trans u5).trans s13)
  exact hQ H14 v d is js d1 d2 i j ((sF.trans (.of (sG.trans sH))).trans s14) t14 hd m1' m2' (by omega) (by omega) lr lk hmem
end
end Pw
set_option Elab.async false
set_option linter.all false
set_option maxRecDepth 100000
set_option maxHeartbeats 1000000
/-! The odd stands are refused: plain. -/
namespace Pw
open PySem PySem.Spec PyProof.Rows L2
theorem odd_whole {most hi : Int} {d : D} (h : d ∈ oddsL most) (h1 : hi ≤ most) (h2 : hi < 10 ^ 41) : isWhole 0 hi d = false := by
  unfold oddsL at h
  simp only [List.mem_cons, List.not_mem_nil, or_false] at h
  rcases h with rfl | rfl | rfl | rfl | rfl | rfl | rfl | rfl | rfl
  · show (decide (0 ≤ most + 1) && decide (most + 1 ≤ hi)) = false
    rw [decide_eq_false (show ¬ most + 1 ≤ hi by omega), Bool.and_false]
  · show (decide ((0 : Int) ≤ -1) && decide (-1 ≤ hi)) = false
    rw [decide_eq_false (by decide), Bool.false_and]
  · rfl
  · rfl
  · rfl
  · rfl
  · rfl
  · rfl
  · show (decide ((0 : Int) ≤ 10 ^ 41) && decide (10 ^ 41 ≤ hi)) = false
    rw [decide_eq_false (show ¬ (10 ^ 41 : Int) ≤ hi by omega), Bool.and_false]
theorem all_no {p : D → Bool} {l : List D} {d : D} (h : d ∈ l) (e : p d = false) : l.all p = false := by
  rw [List.all_eq_false]
  exact ⟨d, h, by rw [e]; decide⟩
theorem odd_stand {n m : Nat} {L : Int} {is js : List Int} {d1 d2 d : D} {i j : Nat} (h : d ∈ oddStands (is.map D.int) (js.map D.int) d1 d2 i j) (h1 : d1 ∈ oddsL L) (h2 : d2 ∈ oddsL 7) (hi : i < n) (hj : j < m) (lr : is.length = m) (lk : js.length = n) (n4 : n ≤ 4) (L6 : L ≤ 6) : isStand n m L d = false := by
  have noM : ∀ {a b : D}, areMarks n L b = false → isStand n m L (.tup [a, b]) = false := fun {a b} h => by
    show (areRooms n m a && areMarks n L b) = false
    rw [h, Bool.and_false]
  have noR : ∀ {a b : D}, areRooms n m a = false → isStand n m L (.tup [a, b]) = false := fun {a b} h => by
    show (areRooms n m a && areMarks n L b) = false
    rw [h, Bool.false_and]
  have mk : ∀ {l : List D}, (l.length = n → l.all (isWhole 0 L) = false) → areMarks n L (.tup l) = false := fun {l} h => by
    show (decide (l.length = n) && l.all (isWhole 0 L)) = false
    by_cases c : l.length = n
    · rw [h c, Bool.and_false]
    · rw [decide_eq_false c, Bool.false_and]
  have rk : ∀ {l : List D}, (l.length = m → l.all (isRoom n) = false) → areRooms n m (.tup l) = false := fun {l} h => by
    show (decide (l.length = m) && l.all (isRoom n)) = false
    by_cases c : l.length = m
    · rw [h c, Bool.and_false]
    · rw [decide_eq_false c, Bool.false_and]
  unfold oddStands at h
  simp only [List.mem_cons, List.not_mem_nil, or_false] at h
  rcases h with rfl | rfl | rfl | rfl | rfl | rfl | rfl | rfl | rfl | rfl | rfl
  · exact noM (mk fun _ => all_no (d := d1) (by simp) (odd_whole h1 (by omega) (by omega)))
  · exact noR (rk fun _ => all_no (d := d2) (by simp) (odd_whole h2 (by omega) (by omega)))
  · exact noM (mk fun c => by simp at c; omega)
  · exact noR (rk fun c => by simp at c; omega)
  · exact noR (rk fun c => by simp at c; omega)
  · exact noR rfl
  · exact noM rfl
  · rfl
  · rfl
  · rfl
  · cases is with
    | nil => rfl
    | cons a r => cases r with
      | nil => rfl
      | cons b r => cases r with
        | nil => rfl
        | cons c r => rfl
end Pw
set_option Elab.async false
set_option linter.all false
set_option maxRecDepth 100000
set_option maxHeartbeats 1000000
/-! The odd rules. -/
namespace Pw
open PySem PySem.Spec PyProof.Rows L2
section
variable {P : Program} {w : World} {K : PySem.W.Frag} {mg : Str → Option Value} {base : Heap}
theorem cI {v : V} {σ : L2.St} {H : Hp} {Q : VK} (h : Q v H) : tC v σ H Q := h
def oddCls : List D := [.tup [.str "fresh", .int 0, .int 10, .str "first"],
  .tup [.str "fresh", .int 2, .int 1, .str "last"],
  .tup [.str "stale", .int (-1), .int 3, .str "first"],
  .tup [.str "stale", .bl true, .int 3, .str "last"],
  .tup [.str "fresh", .int 0, .bl true, .str "first"],
  .tup [.str "Fresh", .int 0, .int 1, .str "first"],
  .tup [.str "stale", .int 0, .int 1, .str "amid"],
  .tup [.str "stale", .int 0, .int 1],
  .lst [.str "fresh", .int 0, .int 1, .str "first"],
  .non,
  .tup [.str "fresh", .int 0, .int 1, .str "first", .int 0],
  .tup [.str "first", .int 0, .int 1, .str "fresh"]]
theorem odd_clause {d : D} (h : d ∈ oddCls) : isClause d = false := by
  unfold oddCls at h
  simp only [List.mem_cons, List.not_mem_nil, or_false] at h
  rcases h with rfl | rfl | rfl | rfl | rfl | rfl | rfl | rfl | rfl | rfl | rfl | rfl <;> decide +kernel
def sp_odd_rule : Sp := fun vs H Q _ => ∃ st v, vs = [.ref st, v] ∧ StOk H st ∧ RlAt H v ∧ ∀ H' v' d, SameS st H H' → StOk H' st → Dn (del H' st) d v' → isRule d = false → Q v' H'
theorem ok_law_odd_rule (T : Tx K mg) : Fn0 P w K mg base 2 d_law_odd_rule p_law_odd_rule sp_odd_rule := by
  refine FunD.ok (fn_law_odd_rule T) s_law_odd_rule (fun vs H Q E h => ?_) (fun cdv A outer s H vs Q E hr h => ?_)
  · obtain ⟨st, v, rfl, _⟩ := h
    rfl
  obtain ⟨st, v, rfl, t0, hv, hQ⟩ := h
  refine ⟨_, (pss_cons (ps_set (i := 2) s_law_odd_rule.nd rfl (.inl rfl) (pe_lst (pa_cons (pe_tup (pa_cons pe_str (pa_cons pe_int (pa_cons pe_int (pa_cons pe_str pa_nil))))) (pa_cons (pe_tup (pa_cons pe_str (pa_cons pe_int (pa_cons pe_int (pa_cons pe_str pa_nil))))) (pa_cons (pe_tup (pa_cons pe_str (pa_cons (pe_un un_neg pe_int) (pa_cons pe_int (pa_cons pe_str pa_nil))))) (pa_cons (pe_tup (pa_cons pe_str (pa_cons pe_bl (pa_cons pe_int (pa_cons pe_str pa_nil))))) pa_nil)))))) (pss_cons (ps_set (i := 2) s_law_odd_rule.nd rfl (.inl rfl) (pe_op op_cat (pv 2) (pe_lst (pa_cons (pe_tup (pa_cons pe_str (pa_cons pe_int (pa_cons pe_bl (pa_cons pe_str pa_nil))))) (pa_cons (pe_tup (pa_cons pe_str (pa_cons pe_int (pa_cons pe_int (pa_cons pe_str pa_nil))))) (pa_cons (pe_tup (pa_cons pe_str (pa_cons pe_int (pa_cons pe_int (pa_cons pe_str pa_nil))))) (pa_cons (pe_tup (pa_cons pe_str (pa_cons pe_int (pa_cons pe_int pa_nil)))) pa_nil))))))) (pss_cons (ps_set (i := 2) s_law_odd_rule.nd rfl (.inl rfl) (pe_op op_cat (pv 2) (pe_lst (pa_cons (pe_lst (pa_cons pe_str (pa_cons pe_int (pa_cons pe_int (pa_cons pe_str pa_nil))))) (pa_cons pe_non (pa_cons (pe_tup (pa_cons pe_str (pa_cons pe_int (pa_cons pe_int (pa_cons pe_str (pa_cons pe_int pa_nil)))))) (pa_cons (pe_tup (pa_cons pe_str (pa_cons pe_int (pa_cons pe_int (pa_cons pe_str pa_nil))))) pa_nil))))))) (pss_cons (ps_set (i := 3) s_law_odd_rule.nd rfl (.inl rfl) (pe_lst (pa_cons (pe_op op_catA (pe_slice sl_tupA (pv 1) po_none (po_some pe_int)) (pe_tup (pa_cons (pe_ix ix_list (pv 2) (pe_call (ok_law_digit T) (hr.mono (by decide)) rfl (mg_law_digit T) (fn_law_digit T).kp (b_law_digit T) .nil pass0 (pa_cons (pv 0) (pa_cons pe_int pa_nil))) (fun _ _ => rfl)) pa_nil))) (pa_cons (pe_op op_repA (pe_tup (pa_cons (pe_tup (pa_cons pe_str (pa_cons pe_int (pa_cons pe_int (pa_cons pe_str pa_nil))))) pa_nil)) pe_int) (pa_cons (pe_callTy call_list_of rfl (mf_list T) boot_list1 (pa_cons (pv 1) pa_nil)) (pa_cons pe_non pa_nil)))))) (pss_one (ps_ret (pe_ix ix_list (pv 3) (pe_op op_mul (pe_call (ok_law_digit T) (hr.mono (by decide)) rfl (mg_law_digit T) (fn_law_digit T).kp (b_law_digit T) .nil pass0 (pa_cons (pv 0) (pa_cons pe_int pa_nil))) (pe_call (ok_law_digit T) (hr.mono (by decide)) rfl (mg_law_digit T) (fn_law_digit T).kp (b_law_digit T) .nil pass0 (pa_cons (pv 0) (pa_cons pe_int pa_nil)))) (fun _ _ => rfl)))))))), ?_⟩
  obtain ⟨d0, dR, ir⟩ := hv.dn t0
  obtain ⟨ds, rfl, l4⟩ : ∃ ds, d0 = .tup ds ∧ ds.length ≤ 4 := by
    cases d0 with
    | tup l => exact ⟨l, rfl, of_decide_eq_true (He.ba (show (decide (l.length ≤ 4) && l.all isClause) = true from ir)).1⟩
    | _ => cases ir
  clear ir hv
  refine sqN (consI (tupI ⟨len_4, fun p1 np1 => ?_⟩))
  have g0 := dn_tupN t0 np1 (dna_cons (dn_str "fresh") (dna_cons (dn_int 0) (dna_cons (dn_int 10) (dna_cons (dn_str "first") dna_nil))))
  have s1 : Same H (upd H p1 (.tup [.str "fresh", .int 0, .int 10, .str "first"])) := same_upd np1
  generalize upd H p1 (.tup [.str "fresh", .int 0, .int 10, .str "first"]) = H1 at g0 s1 ⊢
  have t1 := t0.same s1
  replace dR := Dn.mono (same_dels (.of s1)) _ _ dR
  refine consI (tupI ⟨len_4, fun p2 np2 => ?_⟩)
  have g1 := dn_tupN t1 np2 (dna_cons (dn_str "fresh") (dna_cons (dn_int 2) (dna_cons (dn_int 1) (dna_cons (dn_str "last") dna_nil))))
  have s2 : Same H1 (upd H1 p2 (.tup [.str "fresh", .int 2, .int 1, .str "last"])) := same_upd np2
  generalize upd H1 p2 (.tup [.str "fresh", .int 2, .int 1, .str "last"]) = H2 at g1 s2 ⊢
  have t2 := t1.same s2
  replace dR := Dn.mono (same_dels (.of s2)) _ _ dR
  replace g0 := Dn.mono (same_dels (.of s2)) _ _ g0
  refine consI (tupI ⟨1, rfl, len_4, fun p3 np3 => ?_⟩)
  have g2 := dn_tupN t2 np3 (dna_cons (dn_str "stale") (dna_cons (dn_int (-1)) (dna_cons (dn_int 3) (dna_cons (dn_str "first") dna_nil))))
  have s3 : Same H2 (upd H2 p3 (.tup [.str "stale", .int (-1), .int 3, .str "first"])) := same_upd np3
  generalize upd H2 p3 (.tup [.str "stale", .int (-1), .int 3, .str "first"]) = H3 at g2 s3 ⊢
  have t3 := t2.same s3
  replace dR := Dn.mono (same_dels (.of s3)) _ _ dR
  replace g0 := Dn.mono (same_dels (.of s3)) _ _ g0
  replace g1 := Dn.mono (same_dels (.of s3)) _ _ g1
  refine consI (tupI ⟨len_4, fun p4 np4 => ?_⟩)
  have g3 := dn_tupN t3 np4 (dna_cons (dn_str "stale") (dna_cons (dn_bl true) (dna_cons (dn_int 3) (dna_cons (dn_str "last") dna_nil))))
  have s4 : Same H3 (upd H3 p4 (.tup [.str "stale", .bl true, .int 3, .str "last"])) := same_upd np4
  generalize upd H3 p4 (.tup [.str "stale", .bl true, .int 3, .str "last"]) = H4 at g3 s4 ⊢
  have t4 := t3.same s4
  replace dR := Dn.mono (same_dels (.of s4)) _ _ dR
  replace g0 := Dn.mono (same_dels (.of s4)) _ _ g0
  replace g1 := Dn.mono (same_dels (.of s4)) _ _ g1
  replace g2 := Dn.mono (same_dels (.of s4)) _ _ g2
  refine ⟨len_4, fun p5 np5 => ?_⟩
  have L1 := dn_lstN t4 np5 (dna_cons g0 (dna_cons g1 (dna_cons g2 (dna_cons g3 dna_nil))))
  have s5 : Same H4 (upd H4 p5 (.lst [.ref p1, .ref p2, .ref p3, .ref p4])) := same_upd np5
  generalize upd H4 p5 (.lst [.ref p1, .ref p2, .ref p3, .ref p4]) = H5 at L1 s5 ⊢
  have t5 := t4.same s5
  replace dR := Dn.mono (same_dels (.of s5)) _ _ dR
  replace g0 := Dn.mono (same_dels (.of s5)) _ _ g0
  replace g1 := Dn.mono (same_dels (.of s5)) _ _ g1
  replace g2 := Dn.mono (same_dels (.of s5)) _ _ g2
  replace g3 := Dn.mono (same_dels (.of s5)) _ _ g3
  refine sqN (opI ⟨_, rfl, ?_⟩)
  refine consI (tupI ⟨len_4, fun p6 np6 => ?_⟩)
  have g4 := dn_tupN t5 np6 (dna_cons (dn_str "fresh") (dna_cons (dn_int 0) (dna_cons (dn_bl true) (dna_cons (dn_str "first") dna_nil))))
  have s6 : Same H5 (upd H5 p6 (.tup [.str "fresh", .int 0, .bl true, .str "first"])) := same_upd np6
  generalize upd H5 p6 (.tup [.str "fresh", .int 0, .bl true, .str "first"]) = H6 at g4 s6 ⊢
  have t6 := t5.same s6
  replace dR := Dn.mono (same_dels (.of s6)) _ _ dR
  replace L1 := Dn.mono (same_dels (.of s6)) _ _ L1
  refine consI (tupI ⟨len_4, fun p7 np7 => ?_⟩)
  have g5 := dn_tupN t6 np7 (dna_cons (dn_str "Fresh") (dna_cons (dn_int 0) (dna_cons (dn_int 1) (dna_cons (dn_str "first") dna_nil))))
  have s7 : Same H6 (upd H6 p7 (.tup [.str "Fresh", .int 0, .int 1, .str "first"])) := same_upd np7
  generalize upd H6 p7 (.tup [.str "Fresh", .int 0, .int 1, .str "first"]) = H7 at g5 s7 ⊢
  have t7 := t6.same s7
  replace dR := Dn.mono (same_dels (.of s7)) _ _ dR
  replace L1 := Dn.mono (same_dels (.of s7)) _ _ L1
  replace g4 := Dn.mono (same_dels (.of s7)) _ _ g4
  refine consI (tupI ⟨len_4, fun p8 np8 => ?_⟩)
  have g6 := dn_tupN t7 np8 (dna_cons (dn_str "stale") (dna_cons (dn_int 0) (dna_cons (dn_int 1) (dna_cons (dn_str "amid") dna_nil))))
  have s8 : Same H7 (upd H7 p8 (.tup [.str "stale", .int 0, .int 1, .str "amid"])) := same_upd np8
  generalize upd H7 p8 (.tup [.str "stale", .int 0, .int 1, .str "amid"]) = H8 at g6 s8 ⊢
  have t8 := t7.same s8
  replace dR := Dn.mono (same_dels (.of s8)) _ _ dR
  replace L1 := Dn.mono (same_dels (.of s8)) _ _ L1
  replace g4 := Dn.mono (same_dels (.of s8)) _ _ g4
  replace g5 := Dn.mono (same_dels (.of s8)) _ _ g5
  refine consI (tupI ⟨len_3, fun p9 np9 => ?_⟩)
  have g7 := dn_tupN t8 np9 (dna_cons (dn_str "stale") (dna_cons (dn_int 0) (dna_cons (dn_int 1) dna_nil)))
  have s9 : Same H8 (upd H8 p9 (.tup [.str "stale", .int 0, .int 1])) := same_upd np9
  generalize upd H8 p9 (.tup [.str "stale", .int 0, .int 1]) = H9 at g7 s9 ⊢
  have t9 := t8.same s9
  replace dR := Dn.mono (same_dels (.of s9)) _ _ dR
  replace L1 := Dn.mono (same_dels (.of s9)) _ _ L1
  replace g4 := Dn.mono (same_dels (.of s9)) _ _ g4
  replace g5 := Dn.mono (same_dels (.of s9)) _ _ g5
  replace g6 := Dn.mono (same_dels (.of s9)) _ _ g6
  refine ⟨len_4, fun p10 np10 => ?_⟩
  have L2 := dn_lstN t9 np10 (dna_cons g4 (dna_cons g5 (dna_cons g6 (dna_cons g7 dna_nil))))
  have s10 : Same H9 (upd H9 p10 (.lst [.ref p6, .ref p7, .ref p8, .ref p9])) := same_upd np10
  generalize upd H9 p10 (.lst [.ref p6, .ref p7, .ref p8, .ref p9]) = H10 at L2 s10 ⊢
  have t10 := t9.same s10
  replace dR := Dn.mono (same_dels (.of s10)) _ _ dR
  replace L1 := Dn.mono (same_dels (.of s10)) _ _ L1
  replace g4 := Dn.mono (same_dels (.of s10)) _ _ g4
  replace g5 := Dn.mono (same_dels (.of s10)) _ _ g5
  replace g6 := Dn.mono (same_dels (.of s10)) _ _ g6
  replace g7 := Dn.mono (same_dels (.of s10)) _ _ g7
  refine rd_catL t10 L1 L2 (by simp) fun c11 H11 s11 L3 => ?_
  have t11 := t10.same s11
  replace dR := Dn.mono (same_dels (.of s11)) _ _ dR
  refine sqN (opI ⟨_, rfl, ?_⟩)
  refine consI ⟨len_4, fun p12 np12 => ?_⟩
  have g8 := dn_lstN t11 np12 (dna_cons (dn_str "fresh") (dna_cons (dn_int 0) (dna_cons (dn_int 1) (dna_cons (dn_str "first") dna_nil))))
  have s12 : Same H11 (upd H11 p12 (.lst [.str "fresh", .int 0, .int 1, .str "first"])) := same_upd np12
  generalize upd H11 p12 (.lst [.str "fresh", .int 0, .int 1, .str "first"]) = H12 at g8 s12 ⊢
  have t12 := t11.same s12
  replace dR := Dn.mono (same_dels (.of s12)) _ _ dR
  replace L3 := Dn.mono (same_dels (.of s12)) _ _ L3
  refine consI (cI (consI (tupI ⟨len_5, fun p13 np13 => ?_⟩)))
  have g10 := dn_tupN t12 np13 (dna_cons (dn_str "fresh") (dna_cons (dn_int 0) (dna_cons (dn_int 1) (dna_cons (dn_str "first") (dna_cons (dn_int 0) dna_nil)))))
  have s13 : Same H12 (upd H12 p13 (.tup [.str "fresh", .int 0, .int 1, .str "first", .int 0])) := same_upd np13
  generalize upd H12 p13 (.tup [.str "fresh", .int 0, .int 1, .str "first", .int 0]) = H13 at g10 s13 ⊢
  have t13 := t12.same s13
  replace dR := Dn.mono (same_dels (.of s13)) _ _ dR
  replace L3 := Dn.mono (same_dels (.of s13)) _ _ L3
  replace g8 := Dn.mono (same_dels (.of s13)) _ _ g8
  refine consI (tupI ⟨len_4, fun p14 np14 => ?_⟩)
  have g11 := dn_tupN t13 np14 (dna_cons (dn_str "first") (dna_cons (dn_int 0) (dna_cons (dn_int 1) (dna_cons (dn_str "fresh") dna_nil))))
  have s14 : Same H13 (upd H13 p14 (.tup [.str "first", .int 0, .int 1, .str "fresh"])) := same_upd np14
  generalize upd H13 p14 (.tup [.str "first", .int 0, .int 1, .str "fresh"]) = H14 at g11 s14 ⊢
  have t14 := t13.same s14
  replace dR := Dn.mono (same_dels (.of s14)) _ _ dR
  replace L3 := Dn.mono (same_dels (.of s14)) _ _ L3
  replace g8 := Dn.mono (same_dels (.of s14)) _ _ g8
  replace g10 := Dn.mono (same_dels (.of s14)) _ _ g10
  refine ⟨len_4, fun p15 np15 => ?_⟩
  have L4 := dn_lstN t14 np15 (dna_cons g8 (dna_cons dn_non (dna_cons g10 (dna_cons g11 dna_nil))))
  have s15 : Same H14 (upd H14 p15 (.lst [.ref p12, .non, .ref p13, .ref p14])) := same_upd np15
  generalize upd H14 p15 (.lst [.ref p12, .non, .ref p13, .ref p14]) = H15 at L4 s15 ⊢
  have t15 := t14.same s15
  replace dR := Dn.mono (same_dels (.of s15)) _ _ dR
  replace L3 := Dn.mono (same_dels (.of s15)) _ _ L3
  replace g8 := Dn.mono (same_dels (.of s15)) _ _ g8
  replace g10 := Dn.mono (same_dels (.of s15)) _ _ g10
  replace g11 := Dn.mono (same_dels (.of s15)) _ _ g11
  refine rd_catL t15 L3 L4 (by simp) fun c16 H16 s16 L5 => ?_
  have t16 := t15.same s16
  replace dR := Dn.mono (same_dels (.of s16)) _ _ dR
  have sA : Same H H16 := (((((((((((((((s1.trans s2).trans s3).trans s4).trans s5).trans s6).trans s7).trans s8).trans s9).trans s10).trans s11).trans s12).trans s13).trans s14).trans s15).trans s16)
  refine sqN (consI (opI ⟨_, rfl, 3, rfl, rd_takeD 3 t16 dR fun a1 G1 x1 e1 => ?_⟩))
  have y1 := t16.same x1
  replace dR := Dn.mono (same_dels (.of x1)) _ _ dR
  replace L5 := Dn.mono (same_dels (.of x1)) _ _ L5
  refine tupI (consI (opI ⟨_, rfl, ?_⟩))
  refine rd_pickL (b := 12) rfl y1 L5 rfl (by simp) (by simp) (fun Q' q => q) fun G2 vo do2 x2 y2 mo ho => ?_
  replace dR := Dn.mono (same_dels x2) _ _ dR
  replace L5 := Dn.mono (same_dels x2) _ _ L5
  replace e1 := Dn.mono (same_dels x2) _ _ e1
  refine ⟨len_1, fun q1 m1 => ?_⟩
  have z1 := dn_tupN y2 m1 (dna_cons ho dna_nil)
  have x3 : Same G2 (upd G2 q1 (.tup [vo])) := same_upd m1
  generalize upd G2 q1 (.tup [vo]) = G3 at z1 x3 ⊢
  have y3 := y2.same x3
  replace dR := Dn.mono (same_dels (.of x3)) _ _ dR
  replace e1 := Dn.mono (same_dels (.of x3)) _ _ e1
  refine rd_catD y3 e1 z1 (by simp; omega) fun a2 G4 x4 r1 => ?_
  have y4 := y3.same x4
  replace dR := Dn.mono (same_dels (.of x4)) _ _ dR
  refine consI (opI (tupI (consI (tupI ⟨len_4, fun q2 m2 => ?_⟩))))
  have z2 := dn_tupN y4 m2 (dna_cons (dn_str "fresh") (dna_cons (dn_int 0) (dna_cons (dn_int 9) (dna_cons (dn_str "first") dna_nil))))
  have x5 : Same G4 (upd G4 q2 (.tup [.str "fresh", .int 0, .int 9, .str "first"])) := same_upd m2
  generalize upd G4 q2 (.tup [.str "fresh", .int 0, .int 9, .str "first"]) = G5 at z2 x5 ⊢
  have y5 := y4.same x5
  replace dR := Dn.mono (same_dels (.of x5)) _ _ dR
  replace r1 := Dn.mono (same_dels (.of x5)) _ _ r1
  refine ⟨len_1, fun q3 m3 => ?_⟩
  have x6 : Same G5 (upd G5 q3 (.tup [.ref q2])) := same_upd m3
  have u6 : upd G5 q3 (.tup [.ref q2]) q3 = some (.tup [.ref q2]) := upd_same
  generalize upd G5 q3 (.tup [.ref q2]) = G6 at u6 x6 ⊢
  have y6 := y5.same x6
  replace dR := Dn.mono (same_dels (.of x6)) _ _ dR
  replace r1 := Dn.mono (same_dels (.of x6)) _ _ r1
  replace z2 := Dn.mono (same_dels (.of x6)) _ _ z2
  refine ⟨q3, 5, _, rfl, rfl, SqT.of u6, by simp, by decide, by decide, (show 1 ≤ 1000 by decide), (fun h => absurd h (by decide)), fun _ q4 m4 => ?_⟩
  have r2 := dn_tupN y6 m4 (dna_cons z2 (dna_cons z2 (dna_cons z2 (dna_cons z2 (dna_cons z2 dna_nil)))))
  have x7 : Same G6 (upd G6 q4 (.tup [.ref q2, .ref q2, .ref q2, .ref q2, .ref q2])) := same_upd m4
  rw [show (List.replicate (5 : Int).toNat [V.ref q2]).flatten = [.ref q2, .ref q2, .ref q2, .ref q2, .ref q2] from rfl]
  generalize upd G6 q4 (.tup [.ref q2, .ref q2, .ref q2, .ref q2, .ref q2]) = G7 at r2 x7 ⊢
  have y7 := y6.same x7
  replace dR := Dn.mono (same_dels (.of x7)) _ _ dR
  replace r1 := Dn.mono (same_dels (.of x7)) _ _ r1
  refine consI (cbI (consI ⟨_, rfl, ?_⟩))
  obtain ⟨pr', xs, rfl, npr, hpr, hxs⟩ := dn_tupAt dR
  refine ⟨pr', xs, rfl, .inr (SqT.of hpr), fun l nl => ?_⟩
  have r3 := dn_lstN y7 nl hxs
  have x8 : Same G7 (upd G7 l (.lst xs)) := same_upd nl
  generalize upd G7 l (.lst xs) = G8 at r3 x8 ⊢
  have y8 := y7.same x8
  replace dR := Dn.mono (same_dels (.of x8)) _ _ dR
  replace r1 := Dn.mono (same_dels (.of x8)) _ _ r1
  replace r2 := Dn.mono (same_dels (.of x8)) _ _ r2
  refine consI ⟨len_4, fun q5 m5 => ?_⟩
  have gF := dn_lstN y8 m5 (dna_cons r1 (dna_cons r2 (dna_cons r3 (dna_cons dn_non dna_nil))))
  have x9 : Same G8 (upd G8 q5 (.lst [a2, .ref q4, .ref l, .non])) := same_upd m5
  generalize upd G8 q5 (.lst [a2, .ref q4, .ref l, .non]) = G9 at gF x9 ⊢
  have y9 := y8.same x9
  refine retI (opI ⟨_, rfl, opI ?_⟩)
  refine rd_dig (b := 4) rfl (fun Q' q => q) (by decide) (by decide) y9 fun G10 i x10 y10 i0 i1 => ?_
  refine rd_dig (b := 2) rfl (fun Q' q => q) (by decide) (by decide) y10 fun G11 j x11 y11 j0 j1 => ?_
  refine ⟨i, j, rfl, rfl, .inl ⟨by omega, by omega⟩, ?_⟩
  obtain ⟨af, ys, eaf, naf, haf, hys⟩ := dn_lstAt gF
  have hb : 0 ≤ i * j ∧ i * j < 4 := by
    rcases (by omega : j = 0 ∨ j = 1) with rfl | rfl
    · rw [Int.mul_zero]
      omega
    · rw [Int.mul_one]
      omega
  obtain ⟨vv, dd, e, m, hd⟩ := pickD hys (x10.trans x11) hb.1 (by rw [hys.length]; exact hb.2)
  refine ⟨af, ys, _, vv, eaf, rfl, SqL.of (x11 _ _ naf (x10 _ _ naf haf)), e, hQ G11 vv dd ?_ y11 hd ?_⟩
  · exact ((((SameS.of sA).trans (.of x1)).trans x2).trans (.of (((((((x3.trans x4).trans x5).trans x6).trans x7).trans x8).trans x9)))).trans (x10.trans x11)
  · simp only [List.mem_cons, List.not_mem_nil, or_false] at m
    rcases m with rfl | rfl | rfl | rfl
    · show (decide _ && _) = false
      rw [all_no (d := do2) (by simp) (odd_clause mo), Bool.and_false]
    · rfl
    · rfl
    · rfl
end
end Pw
set_option Elab.async false
set_option linter.all false
set_option maxRecDepth 100000
set_option maxHeartbeats 1000000
/-! A cell of the script. -/
namespace Pw
open PySem PySem.Spec PyProof.Rows L2
section
variable {P : Program} {w : World} {K : PySem.W.Frag} {mg : Str → Option Value} {base : Heap}
def sp_cell (K : PySem.W.Frag) : Sp := fun vs H Q _ => ∃ (a : Addr) (k : Nat) (ns : List Int), vs = [.ref a, .int (k : Nat)] ∧ SqL K H a (ns.map V.int) ∧ ∀ z, Q (.int z) H
theorem ok_law_cell_at (T : Tx K mg) : Fn0 P w K mg base 1 d_law_cell_at p_law_cell_at (sp_cell K) := by
  refine FunD.ok (fn_law_cell_at T) s_law_cell_at (fun vs H Q E h => ?_) (fun cdv A outer s H vs Q E hr h => ?_)
  · obtain ⟨a, k, ns, rfl, _⟩ := h
    rfl
  obtain ⟨a, k, ns, rfl, ha, hQ⟩ := h
  refine ⟨_, (pss_cons (ps_if (pt_cmpR op_lt (pv 1) (pe_callB call_len rfl (mf_len T) boot_len1 (pa_cons (pv 0) pa_nil)) (nomark _)) (pss_one (ps_ret (pe_ix ix_list (pv 0) (pv 1) (fun _ _ => rfl)))) pss_nil) (pss_one (ps_ret pe_int))), ?_⟩
  refine ⟨_, rfl, _, rfl, _, (ns.map V.int).length, rfl, .inl ⟨_, ha, rfl⟩, _, _, rfl, rfl, _, rfl, ?_⟩
  refine ite2 (fun h => ?_) (fun h => ?_)
  · have hk : k < ns.length := by
      rw [List.length_map] at h
      have z := of_decide_eq_true h
      omega
    refine ⟨_, rfl, _, rfl, a, _, (k : Int), .int ns[k], rfl, rfl, ha, ?_, hQ _⟩
    unfold atI ixN
    rw [if_pos (by omega), if_pos (by rw [List.length_map]; omega)]
    show (ns.map V.int)[((k : Nat) : Int).toNat]? = _
    rw [Int.toNat_natCast, List.getElem?_map, List.getElem?_eq_getElem hk]
    rfl
  · exact hQ 0
end
end Pw
set_option Elab.async false
set_option linter.all false
set_option maxRecDepth 100000
set_option maxHeartbeats 1000000
/-! The odd boxes. -/
namespace Pw
open PySem PySem.Spec PyProof.Rows L2
section
variable {P : Program} {w : World} {K : PySem.W.Frag} {mg : Str → Option Value} {base : Heap}
def oddFew (L : Int) : List D := [.tup [], .tup [.int L, .int L], .tup [.int 1, .int 0], .tup [.int (L + 1)], .tup [.int (-1)], .lst [.int 0], .non, .int 0, .tup [.bl true], .tup [.int 0, .non]]
def fewD (js : List Int) : List D := js.map fun j => .tup [.int j]
theorem few_keep {H H' : Hp} {st : Addr} (hs : SameT (del H st) (del H' st)) : ∀ {js : List Int} {vs : List V}, DnA (del H st) (fewD js) vs → DnA (del H' st) (fewD js) vs
  | [], _, h => by
    rw [h.nil]
    exact dna_nil
  | j :: r, _, h => by
    obtain ⟨v, vs, rfl, h1, h2⟩ := DnA.cons (show DnA (del H st) (.tup [.int j] :: fewD r) _ from h)
    obtain ⟨p, xs, rfl, e, hx⟩ := h1.tup
    have hx2 := DnA.of_ints (is := [j]) hx
    subst hx2
    exact dna_cons (dn_tup (hs _ _ e) (dna_cons (dn_int j) dna_nil)) (few_keep hs h2)
/-- [(x,) for x in a tuple of ints] -/
theorem rd_few {tl : TE} {σ : L2.St} {j : Nat} {H : Hp} {st a : Addr} {js : List Int} {Q : VK} (hj : j < σ.length) (hs : ∀ Q' : VK, Q' (.ref a) H → tl σ H Q') (ha : H a = some (.tup (js.map V.int))) (hl : js.length < 1000) (hst : StOk H st) (hQ : ∀ p H', Same H H' → Dn (del H' st) (.lst (fewD js)) (.ref p) → Q (.ref p) H') :
    tLc (iTup K tl) (gName j) tYes (tTup (tCons (tVar j) tNil)) [j] σ H Q := by
  refine hs _ ⟨a, rfl, ⟨_, SqT.of ha⟩, fun Dd hD => ?_⟩
  have dn := hst.ne hD
  generalize hte : (tTup (tCons (tVar j) tNil) : TE) = te
  refine lc_tup (xs := js.map V.int) (fun i H1 => Same H H1 ∧ ∃ vs, H1 Dd = some (.lst vs) ∧ DnA (del H1 st) (fewD (js.take i)) vs) ⟨same_upd hD, [], upd_same, dna_nil⟩ (fun k H1 _ S => SqT.of (S.1 _ _ ha)) (fun k x H1 hx S => ?_) (fun H1 S => ?_)
  · obtain ⟨s1, vs, e1, h1⟩ := S
    have hk : k < js.length := by
      rcases Nat.lt_or_ge k js.length with h | h
      · exact h
      · rw [List.getElem?_eq_none (by rw [List.length_map]; exact h)] at hx
        cases hx
    obtain rfl : x = .int js[k] := by
      rw [List.getElem?_map, List.getElem?_eq_getElem hk] at hx
      exact (Option.some.inj hx).symm
    show _ ∧ _
    refine ⟨?_, ?_⟩
    · show wipe ((wipe σ [j]).set j (some _)) [j] = wipe σ [j]
      rw [set_wipe1, wipe_set1]
    · show if true = true then te ((wipe σ [j]).set j (some (.int js[k]))) H1 _ else (Same H H1 ∧ ∃ vs, H1 Dd = some (.lst vs) ∧ DnA (del H1 st) (fewD (js.take (k + 1))) vs)
      refine iteT ?_
      rw [set_wipe1]
      subst hte
      refine ⟨_, List.getElem?_set_self hj, len_1, fun q nq => ?_⟩
      have e2 := upd2 (u := .tup [V.int js[k]]) e1 nq
      have st1 : StOk H1 st := hst.same s1
      have qn := st1.ne nq
      have qD : q ≠ Dd := fun z => by
        rw [z, e1] at nq
        cases nq
      have l1 := h1.length
      have lf : (fewD (js.take k)).length = min k js.length := by
        unfold fewD
        rw [List.length_map, List.length_take]
      refine ⟨vs, e2, ?_, fun b o e => ?_, vs ++ [.ref q], upd_same, ?_⟩
      · have : sizeLine = 16777216 := sizeLine_eq
        omega
      · rw [upd_ne (ne_of_none e hD)]
        exact upd2 (s1 _ _ e) nq
      · have ef : fewD (js.take (k + 1)) = fewD (js.take k) ++ [.tup [.int js[k]]] := by
          unfold fewD
          rw [List.take_add_one, List.getElem?_eq_getElem hk, List.map_append]
          rfl
        rw [ef]
        refine DnA.append (few_keep (fun b xs e => ?_) h1) (dna_cons (dn_tup (del_at qn (by rw [upd_ne qD, upd_same])) (dna_cons (dn_int _) dna_nil)) dna_nil)
        by_cases hb : b = st
        · rw [hb, del_same] at e
          cases e
        · rw [del_ne hb] at e ⊢
          rw [upd_ne fun z => by rw [z, e1] at e; cases e]
          exact upd2 e nq
  · obtain ⟨s1, vs, e1, h1⟩ := S
    rw [List.length_map, List.take_length] at h1
    exact hQ Dd H1 s1 (dn_lst (del_at dn e1) h1)
theorem len_ofL {H : Hp} {st : Addr} {v : V} {ds : List D} {n : Nat} (h : Dn (del H st) (.lst ds) v) (hl : ds.length = n) : LenV K v H n := by
  obtain ⟨a, xs, rfl, _, ha, hx⟩ := dn_lstAt h
  exact .inl ⟨xs, SqL.of ha, by rw [hx.length, hl]⟩
theorem len_10 {a b c d e f g h i j : V} : [a, b, c, d, e, f, g, h, i, j].length ≤ sizeLine := by show 10 ≤ sizeLine; rw [sizeLine_eq]; decide
theorem rd_takeL {H : Hp} {st : Addr} {x : V} {ds : List D} {Q : VK} (k : Nat) (hst : StOk H st) (hx : Dn (del H st) (.lst ds) x) (q : ∀ v H', Same H H' → Dn (del H' st) (.lst (ds.take k)) v → Q v H') : rSlL K x none (some (k : Int)) H Q := by
  obtain ⟨a, xs, rfl, na, ha, hxs⟩ := dn_lstAt hx
  refine ⟨a, xs, rfl, SqL.of ha, fun p np => ?_⟩
  have ec : cutV xs none (some (k : Int)) = xs.take k := by
    rw [cut_to]
    by_cases h : k ≤ xs.length
    · rw [Nat.min_eq_left h]
    · rw [Nat.min_eq_right (by omega), List.take_of_length_le (Nat.le_refl _), List.take_of_length_le (by omega)]
  rw [ec]
  exact q _ _ (same_upd np) (dn_lstN hst np (hxs.take k))
theorem rd_dropL {σ : L2.St} {H : Hp} {st : Addr} {x : V} {ds : List D} {Q : VK} {i : Int} (k : Nat) (hk : i = (k : Int)) (hst : StOk H st) (hx : Dn (del H st) (.lst ds) x) (q : ∀ v H', Same H H' → Dn (del H' st) (.lst (ds.drop k)) v → Q v H') : tNoPart σ H fun u H3 => rSlL K x (some i) u H3 Q := by
  rw [hk]
  obtain ⟨a, xs, rfl, na, ha, hxs⟩ := dn_lstAt hx
  refine ⟨a, xs, rfl, SqL.of ha, fun p np => ?_⟩
  have ec : cutV xs (some (k : Int)) none = xs.drop k := by
    unfold cutV
    rw [HT.sIx_nat, HT.sIx_none]
    by_cases h : k ≤ xs.length
    · rw [Nat.min_eq_left h, List.take_of_length_le (by rw [List.length_drop]; omega)]
    · rw [Nat.min_eq_right (by omega), List.drop_of_length_le (Nat.le_refl _), List.drop_of_length_le (by omega), List.take_nil]
  rw [ec]
  exact q _ _ (same_upd np) (dn_lstN hst np (hxs.drop k))
/-- tuple(a list) -/
def rTupOf (K : PySem.W.Frag) : List V → Hp → VK → Prop := fun xs H Q => ∃ p ys, xs = [V.ref p] ∧ ((SqL K H p ys ∧ ∀ l, H l = none → Q (.ref l) (upd H l (.tup ys))) ∨ (SqT K H p ys ∧ Q (.ref p) H))
theorem rd_tupOf {σ : L2.St} {H : Hp} {st : Addr} {x : V} {ds : List D} {Q : VK} (hst : StOk H st) (hx : Dn (del H st) (.lst ds) x) (q : ∀ v H', Same H H' → Dn (del H' st) (.tup ds) v → Q v H') : tNil σ H fun xs H2 => ∃ p ys, x :: xs = [V.ref p] ∧ ((SqL K H2 p ys ∧ ∀ l, H2 l = none → Q (.ref l) (upd H2 l (.tup ys))) ∨ (SqT K H2 p ys ∧ Q (.ref p) H2)) := by
  obtain ⟨a, xs, rfl, na, ha, hxs⟩ := dn_lstAt hx
  exact ⟨a, xs, rfl, .inl ⟨SqL.of ha, fun l nl => q _ _ (same_upd nl) (dn_tupN hst nl hxs)⟩⟩
def oddBoxes (R M F : List D) (d1 : D) (i : Nat) : List D := [.tup [.tup R, .tup (F.take i ++ [d1] ++ F.drop (i + 1))], .tup [.tup R, .tup (F.drop 1)], .tup [.tup R, .tup F, .int 0], .tup [.tup R, .lst F], .tup [.tup R, .tup M], .tup [.lst R, .tup F], .tup [.tup (R ++ [.int 0]), .tup F], .non]
def sp_odd_box : Sp := fun vs H Q _ => ∃ st v n m L, vs = [.ref st, v, .int L] ∧ StOk H st ∧ StAt H v n m L ∧ 1 ≤ n ∧ n ≤ 4 ∧ 1 ≤ m ∧ m ≤ 2 ∧ 0 ≤ L ∧ L ≤ 6 ∧
  ∀ H' v d (is js : List Int) d1 i, SameS st H H' → StOk H' st → Dn (del H' st) d v → d1 ∈ oddFew L → i < n → is.length = m → js.length = n → d ∈ oddBoxes (is.map D.int) (js.map D.int) (fewD js) d1 i → Q v H'
theorem ok_law_odd_box (T : Tx K mg) : Fn0 P w K mg base 3 d_law_odd_box p_law_odd_box sp_odd_box := by
  refine FunD.ok (fn_law_odd_box T) s_law_odd_box (fun vs H Q E h => ?_) (fun cdv A outer s H vs Q E hr h => ?_)
  · obtain ⟨st, v, n, m, L, rfl, _⟩ := h
    rfl
  obtain ⟨st, v, n, m, L, rfl, hst, hv, n1, n4, m1, m2, L0, L6, hQ⟩ := h
  refine ⟨_, (pss_cons (ps_asg (pv 1) (pg_tup rfl (pgs_cons (pg_name (i := 3) s_law_odd_box.nd rfl (.inl rfl)) (pgs_cons (pg_name (i := 4) s_law_odd_box.nd rfl (.inl rfl)) pgs_nil)))) (pss_cons (ps_setLc (i := 5) (own := [("_law_mark", 6)]) (g := gName 6) rfl s_law_odd_box.nd rfl rfl (sw_true rfl rfl rfl (by decide +kernel)) (pi_tup (pv 4)) (blkOk_by (own := [("_law_mark", 6)]) (N := n_law_odd_box) (sc := defScope d_law_odd_box.st) (by decide +kernel)) (fun _ _ _ _ _ => (pg_name (i := 6) s_law_odd_box.nd rfl (.inl rfl))) (fun _ _ _ _ _ => pts_nil) (fun _ _ _ _ _ => (pe_tup (pa_cons (pv 6) pa_nil)))) (pss_cons (ps_set (i := 7) s_law_odd_box.nd rfl (.inl rfl) (pe_call (ok_law_digit T) (hr.mono (by decide)) rfl (mg_law_digit T) (fn_law_digit T).kp (b_law_digit T) .nil pass0 (pa_cons (pv 0) (pa_cons (pe_callB call_len rfl (mf_len T) boot_len1 (pa_cons (pv 5) pa_nil)) pa_nil)))) (pss_cons (ps_set (i := 8) s_law_odd_box.nd rfl (.inl rfl) (pe_ix ix_list (pe_lst (pa_cons (pe_tup pa_nil) (pa_cons (pe_tup (pa_cons (pv 2) (pa_cons (pv 2) pa_nil))) (pa_cons (pe_tup (pa_cons pe_int (pa_cons pe_int pa_nil))) (pa_cons (pe_tup (pa_cons (pe_op op_add (pv 2) pe_int) pa_nil)) (pa_cons (pe_tup (pa_cons (pe_un un_neg pe_int) pa_nil)) (pa_cons (pe_lst (pa_cons pe_int pa_nil)) (pa_cons pe_non (pa_cons pe_int (pa_cons (pe_tup (pa_cons pe_bl pa_nil)) (pa_cons (pe_tup (pa_cons pe_int (pa_cons pe_non pa_nil))) pa_nil))))))))))) (pe_call (ok_law_digit T) (hr.mono (by decide)) rfl (mg_law_digit T) (fn_law_digit T).kp (b_law_digit T) .nil pass0 (pa_cons (pv 0) (pa_cons pe_int pa_nil))) (fun _ _ => rfl))) (pss_cons (ps_set (i := 9) s_law_odd_box.nd rfl (.inl rfl) (pe_lst (pa_cons (pe_tup (pa_cons (pv 3) (pa_cons (pe_callTy call_tuple_of rfl (mf_tuple T) boot_tuple1 (pa_cons (pe_op op_cat (pe_op op_cat (pe_slice sl_list (pv 5) po_none (po_some (pv 7))) (pe_lst (pa_cons (pv 8) pa_nil))) (pe_slice sl_list (pv 5) (po_some (pe_op op_add (pv 7) pe_int)) po_none)) pa_nil)) pa_nil))) (pa_cons (pe_tup (pa_cons (pv 3) (pa_cons (pe_callTy call_tuple_of rfl (mf_tuple T) boot_tuple1 (pa_cons (pe_slice sl_list (pv 5) (po_some pe_int) po_none) pa_nil)) pa_nil))) (pa_cons (pe_tup (pa_cons (pv 3) (pa_cons (pe_callTy call_tuple_of rfl (mf_tuple T) boot_tuple1 (pa_cons (pv 5) pa_nil)) (pa_cons pe_int pa_nil)))) pa_nil))))) (pss_cons (ps_set (i := 9) s_law_odd_box.nd rfl (.inl rfl) (pe_op op_cat (pv 9) (pe_lst (pa_cons (pe_tup (pa_cons (pv 3) (pa_cons (pv 5) pa_nil))) (pa_cons (pv 1) (pa_cons (pe_tup (pa_cons (pe_callTy call_list_of rfl (mf_list T) boot_list1 (pa_cons (pv 3) pa_nil)) (pa_cons (pe_callTy call_tuple_of rfl (mf_tuple T) boot_tuple1 (pa_cons (pv 5) pa_nil)) pa_nil))) (pa_cons (pe_tup (pa_cons (pe_op op_catA (pv 3) (pe_tup (pa_cons pe_int pa_nil))) (pa_cons (pe_callTy call_tuple_of rfl (mf_tuple T) boot_tuple1 (pa_cons (pv 5) pa_nil)) pa_nil))) (pa_cons pe_non pa_nil)))))))) (pss_one (ps_ret (pe_ix ix_list (pv 9) (pe_op op_mul (pe_call (ok_law_digit T) (hr.mono (by decide)) rfl (mg_law_digit T) (fn_law_digit T).kp (b_law_digit T) .nil pass0 (pa_cons (pv 0) (pa_cons pe_int pa_nil))) (pe_call (ok_law_digit T) (hr.mono (by decide)) rfl (mg_law_digit T) (fn_law_digit T).kp (b_law_digit T) .nil pass0 (pa_cons (pv 0) (pa_cons pe_int pa_nil)))) (fun _ _ => rfl)))))))))), ?_⟩
  have hsz : sizeLine = 16777216 := sizeLine_eq
  obtain ⟨pv, pr, pk, is, js, rfl, ev, er, ek, lr, lk, hi, hj⟩ := hv
  refine sqA ⟨_, rfl, pv, _, rfl, SqT.of ev, rfl, _, _, rfl, _, _, rfl, rfl, ?_⟩
  have dR : Dn (del H st) (.tup (is.map D.int)) (.ref pr) := dn_ints (del_tup hst er)
  have dM : Dn (del H st) (.tup (js.map D.int)) (.ref pk) := dn_ints (del_tup hst ek)
  have dV : Dn (del H st) (.tup [.tup (is.map D.int), .tup (js.map D.int)]) (.ref pv) := dn_tup (del_tup hst ev) (dna_cons dR (dna_cons dM dna_nil))
  have lF : (fewD js).length = n := by
    unfold fewD
    rw [List.length_map, lk]
  refine sqN (rd_few (j := 6) (show 6 < 10 by decide) (fun Q' q => ⟨_, rfl, q⟩) ek (by omega) hst fun pf G1 x1 dF => ?_)
  have y1 := hst.same x1
  replace dR := Dn.mono (same_dels (.of x1)) _ _ dR
  replace dM := Dn.mono (same_dels (.of x1)) _ _ dM
  replace dV := Dn.mono (same_dels (.of x1)) _ _ dV
  refine sqN (rd_dig (b := (n : Int)) rfl (fun Q' q => ⟨_, rfl, _, n, rfl, len_ofL dF lF, q⟩) (by omega) (by omega) y1 fun G2 i x2 y2 i0 i1 => ?_)
  obtain ⟨i, rfl⟩ : ∃ k : Nat, i = (k : Int) := ⟨i.toNat, by omega⟩
  replace dR := Dn.mono (same_dels x2) _ _ dR
  replace dM := Dn.mono (same_dels x2) _ _ dM
  replace dV := Dn.mono (same_dels x2) _ _ dV
  replace dF := Dn.mono (same_dels x2) _ _ dF
  have sA : SameS st H G2 := (SameS.of x1).trans x2
  clear ev er ek x1 x2 y1
  have t0 := y2
  refine sqN (opI (consI (tupI ⟨len_0, fun p1 np1 => ?_⟩)))
  have g0 := dn_tupN t0 np1 dna_nil
  have s1 : Same G2 (upd G2 p1 (.tup [])) := same_upd np1
  generalize upd G2 p1 (.tup []) = J1 at g0 s1 ⊢
  have t1 := t0.same s1
  replace dR := Dn.mono (same_dels (.of s1)) _ _ dR
  replace dM := Dn.mono (same_dels (.of s1)) _ _ dM
  replace dV := Dn.mono (same_dels (.of s1)) _ _ dV
  replace dF := Dn.mono (same_dels (.of s1)) _ _ dF
  refine consI (tupI ⟨_, rfl, _, rfl, len_2, fun p2 np2 => ?_⟩)
  have g1 := dn_tupN t1 np2 (dna_cons (dn_int L) (dna_cons (dn_int L) dna_nil))
  have s2 : Same J1 (upd J1 p2 (.tup [.int L, .int L])) := same_upd np2
  generalize upd J1 p2 (.tup [.int L, .int L]) = J2 at g1 s2 ⊢
  have t2 := t1.same s2
  replace dR := Dn.mono (same_dels (.of s2)) _ _ dR
  replace dM := Dn.mono (same_dels (.of s2)) _ _ dM
  replace dV := Dn.mono (same_dels (.of s2)) _ _ dV
  replace dF := Dn.mono (same_dels (.of s2)) _ _ dF
  replace g0 := Dn.mono (same_dels (.of s2)) _ _ g0
  refine consI (tupI ⟨len_2, fun p3 np3 => ?_⟩)
  have g2 := dn_tupN t2 np3 (dna_cons (dn_int 1) (dna_cons (dn_int 0) dna_nil))
  have s3 : Same J2 (upd J2 p3 (.tup [.int 1, .int 0])) := same_upd np3
  generalize upd J2 p3 (.tup [.int 1, .int 0]) = J3 at g2 s3 ⊢
  have t3 := t2.same s3
  replace dR := Dn.mono (same_dels (.of s3)) _ _ dR
  replace dM := Dn.mono (same_dels (.of s3)) _ _ dM
  replace dV := Dn.mono (same_dels (.of s3)) _ _ dV
  replace dF := Dn.mono (same_dels (.of s3)) _ _ dF
  replace g0 := Dn.mono (same_dels (.of s3)) _ _ g0
  replace g1 := Dn.mono (same_dels (.of s3)) _ _ g1
  refine consI (tupI ⟨_, rfl, L, 1, rfl, rfl, len_1, fun p4 np4 => ?_⟩)
  have g3 := dn_tupN t3 np4 (dna_cons (dn_int (L + 1)) dna_nil)
  have s4 : Same J3 (upd J3 p4 (.tup [.int (L + 1)])) := same_upd np4
  generalize upd J3 p4 (.tup [.int (L + 1)]) = J4 at g3 s4 ⊢
  have t4 := t3.same s4
  replace dR := Dn.mono (same_dels (.of s4)) _ _ dR
  replace dM := Dn.mono (same_dels (.of s4)) _ _ dM
  replace dV := Dn.mono (same_dels (.of s4)) _ _ dV
  replace dF := Dn.mono (same_dels (.of s4)) _ _ dF
  replace g0 := Dn.mono (same_dels (.of s4)) _ _ g0
  replace g1 := Dn.mono (same_dels (.of s4)) _ _ g1
  replace g2 := Dn.mono (same_dels (.of s4)) _ _ g2
  refine consI (tupI ⟨1, rfl, len_1, fun p5 np5 => ?_⟩)
  have g4 := dn_tupN t4 np5 (dna_cons (dn_int (-1)) dna_nil)
  have s5 : Same J4 (upd J4 p5 (.tup [.int (-1)])) := same_upd np5
  generalize upd J4 p5 (.tup [.int (-1)]) = J5 at g4 s5 ⊢
  have t5 := t4.same s5
  replace dR := Dn.mono (same_dels (.of s5)) _ _ dR
  replace dM := Dn.mono (same_dels (.of s5)) _ _ dM
  replace dV := Dn.mono (same_dels (.of s5)) _ _ dV
  replace dF := Dn.mono (same_dels (.of s5)) _ _ dF
  replace g0 := Dn.mono (same_dels (.of s5)) _ _ g0
  replace g1 := Dn.mono (same_dels (.of s5)) _ _ g1
  replace g2 := Dn.mono (same_dels (.of s5)) _ _ g2
  replace g3 := Dn.mono (same_dels (.of s5)) _ _ g3
  refine consI ⟨len_1, fun p6 np6 => ?_⟩
  have g5 := dn_lstN t5 np6 (dna_cons (dn_int 0) dna_nil)
  have s6 : Same J5 (upd J5 p6 (.lst [.int 0])) := same_upd np6
  generalize upd J5 p6 (.lst [.int 0]) = J6 at g5 s6 ⊢
  have t6 := t5.same s6
  replace dR := Dn.mono (same_dels (.of s6)) _ _ dR
  replace dM := Dn.mono (same_dels (.of s6)) _ _ dM
  replace dV := Dn.mono (same_dels (.of s6)) _ _ dV
  replace dF := Dn.mono (same_dels (.of s6)) _ _ dF
  replace g0 := Dn.mono (same_dels (.of s6)) _ _ g0
  replace g1 := Dn.mono (same_dels (.of s6)) _ _ g1
  replace g2 := Dn.mono (same_dels (.of s6)) _ _ g2
  replace g3 := Dn.mono (same_dels (.of s6)) _ _ g3
  replace g4 := Dn.mono (same_dels (.of s6)) _ _ g4
  refine consI (cI (consI (cI (consI (tupI ⟨len_1, fun p7 np7 => ?_⟩)))))
  have g8 := dn_tupN t6 np7 (dna_cons (dn_bl true) dna_nil)
  have s7 : Same J6 (upd J6 p7 (.tup [.bl true])) := same_upd np7
  generalize upd J6 p7 (.tup [.bl true]) = J7 at g8 s7 ⊢
  have t7 := t6.same s7
  replace dR := Dn.mono (same_dels (.of s7)) _ _ dR
  replace dM := Dn.mono (same_dels (.of s7)) _ _ dM
  replace dV := Dn.mono (same_dels (.of s7)) _ _ dV
  replace dF := Dn.mono (same_dels (.of s7)) _ _ dF
  replace g0 := Dn.mono (same_dels (.of s7)) _ _ g0
  replace g1 := Dn.mono (same_dels (.of s7)) _ _ g1
  replace g2 := Dn.mono (same_dels (.of s7)) _ _ g2
  replace g3 := Dn.mono (same_dels (.of s7)) _ _ g3
  replace g4 := Dn.mono (same_dels (.of s7)) _ _ g4
  replace g5 := Dn.mono (same_dels (.of s7)) _ _ g5
  refine consI (tupI ⟨len_2, fun p8 np8 => ?_⟩)
  have g9 := dn_tupN t7 np8 (dna_cons (dn_int 0) (dna_cons dn_non dna_nil))
  have s8 : Same J7 (upd J7 p8 (.tup [.int 0, .non])) := same_upd np8
  generalize upd J7 p8 (.tup [.int 0, .non]) = J8 at g9 s8 ⊢
  have t8 := t7.same s8
  replace dR := Dn.mono (same_dels (.of s8)) _ _ dR
  replace dM := Dn.mono (same_dels (.of s8)) _ _ dM
  replace dV := Dn.mono (same_dels (.of s8)) _ _ dV
  replace dF := Dn.mono (same_dels (.of s8)) _ _ dF
  replace g0 := Dn.mono (same_dels (.of s8)) _ _ g0
  replace g1 := Dn.mono (same_dels (.of s8)) _ _ g1
  replace g2 := Dn.mono (same_dels (.of s8)) _ _ g2
  replace g3 := Dn.mono (same_dels (.of s8)) _ _ g3
  replace g4 := Dn.mono (same_dels (.of s8)) _ _ g4
  replace g5 := Dn.mono (same_dels (.of s8)) _ _ g5
  replace g8 := Dn.mono (same_dels (.of s8)) _ _ g8
  refine ⟨len_10, fun p9 np9 => ?_⟩
  have gO := dn_lstN t8 np9 (dna_cons g0 (dna_cons g1 (dna_cons g2 (dna_cons g3 (dna_cons g4 (dna_cons g5 (dna_cons dn_non (dna_cons (dn_int 0) (dna_cons g8 (dna_cons g9 dna_nil))))))))))
  have s9 : Same J8 (upd J8 p9 (.lst [.ref p1, .ref p2, .ref p3, .ref p4, .ref p5, .ref p6, .non, .int 0, .ref p7, .ref p8])) := same_upd np9
  generalize upd J8 p9 (.lst [.ref p1, .ref p2, .ref p3, .ref p4, .ref p5, .ref p6, .non, .int 0, .ref p7, .ref p8]) = J9 at gO s9 ⊢
  have t9 := t8.same s9
  replace dR := Dn.mono (same_dels (.of s9)) _ _ dR
  replace dM := Dn.mono (same_dels (.of s9)) _ _ dM
  replace dV := Dn.mono (same_dels (.of s9)) _ _ dV
  replace dF := Dn.mono (same_dels (.of s9)) _ _ dF
  replace g0 := Dn.mono (same_dels (.of s9)) _ _ g0
  replace g1 := Dn.mono (same_dels (.of s9)) _ _ g1
  replace g2 := Dn.mono (same_dels (.of s9)) _ _ g2
  replace g3 := Dn.mono (same_dels (.of s9)) _ _ g3
  replace g4 := Dn.mono (same_dels (.of s9)) _ _ g4
  replace g5 := Dn.mono (same_dels (.of s9)) _ _ g5
  replace g8 := Dn.mono (same_dels (.of s9)) _ _ g8
  replace g9 := Dn.mono (same_dels (.of s9)) _ _ g9
  refine rd_pickL (b := 10) rfl t9 gO rfl (by simp) (by simp) (fun Q' q => q) fun G3 v1 d1 x3 y3 m1' h1 => ?_
  replace dR := Dn.mono (same_dels x3) _ _ dR
  replace dM := Dn.mono (same_dels x3) _ _ dM
  replace dV := Dn.mono (same_dels x3) _ _ dV
  replace dF := Dn.mono (same_dels x3) _ _ dF
  refine sqN (consI (tupI (consI ⟨_, rfl, consI (cbI (consI (opI (opI ⟨_, rfl, _, rfl, _, rfl, rd_takeL i y3 dF fun a1 E1 u1 e1 => ?_⟩))))⟩)))
  have w1 := y3.same u1
  replace dR := Dn.mono (same_dels (.of u1)) _ _ dR
  replace dM := Dn.mono (same_dels (.of u1)) _ _ dM
  replace dV := Dn.mono (same_dels (.of u1)) _ _ dV
  replace dF := Dn.mono (same_dels (.of u1)) _ _ dF
  replace h1 := Dn.mono (same_dels (.of u1)) _ _ h1
  refine ⟨_, rfl, len_1, fun q1 m1 => ?_⟩
  have e2 := dn_lstN w1 m1 (dna_cons h1 dna_nil)
  have u2 : Same E1 (upd E1 q1 (.lst [v1])) := same_upd m1
  generalize upd E1 q1 (.lst [v1]) = E2 at e2 u2 ⊢
  have w2 := w1.same u2
  replace dR := Dn.mono (same_dels (.of u2)) _ _ dR
  replace dM := Dn.mono (same_dels (.of u2)) _ _ dM
  replace dV := Dn.mono (same_dels (.of u2)) _ _ dV
  replace dF := Dn.mono (same_dels (.of u2)) _ _ dF
  replace h1 := Dn.mono (same_dels (.of u2)) _ _ h1
  replace e1 := Dn.mono (same_dels (.of u2)) _ _ e1
  refine rd_catL w2 e1 e2 (by simp; omega) fun a2 E3 u3 e3 => ?_
  have w3 := w2.same u3
  replace dR := Dn.mono (same_dels (.of u3)) _ _ dR
  replace dM := Dn.mono (same_dels (.of u3)) _ _ dM
  replace dV := Dn.mono (same_dels (.of u3)) _ _ dV
  replace dF := Dn.mono (same_dels (.of u3)) _ _ dF
  replace h1 := Dn.mono (same_dels (.of u3)) _ _ h1
  refine ⟨_, rfl, _, rfl, (i : Int), 1, rfl, rfl, _, rfl, rd_dropL (i + 1) (by omega) w3 dF fun a3 E4 u4 e4 => ?_⟩
  have w4 := w3.same u4
  replace dR := Dn.mono (same_dels (.of u4)) _ _ dR
  replace dM := Dn.mono (same_dels (.of u4)) _ _ dM
  replace dV := Dn.mono (same_dels (.of u4)) _ _ dV
  replace dF := Dn.mono (same_dels (.of u4)) _ _ dF
  replace h1 := Dn.mono (same_dels (.of u4)) _ _ h1
  replace e3 := Dn.mono (same_dels (.of u4)) _ _ e3
  refine rd_catL w4 e3 e4 (by simp; omega) fun a4 E5 u5 e5 => ?_
  have w5 := w4.same u5
  replace dR := Dn.mono (same_dels (.of u5)) _ _ dR
  replace dM := Dn.mono (same_dels (.of u5)) _ _ dM
  replace dV := Dn.mono (same_dels (.of u5)) _ _ dV
  replace dF := Dn.mono (same_dels (.of u5)) _ _ dF
  replace h1 := Dn.mono (same_dels (.of u5)) _ _ h1
  obtain ⟨a4', ys5, rfl, na5, ha5, hys5⟩ := dn_lstAt e5
  refine ⟨a4', ys5, rfl, .inl ⟨SqL.of ha5, fun l5 nl5 => ?_⟩⟩
  have f1 := dn_tupN w5 nl5 hys5
  have u6 : Same E5 (upd E5 l5 (.tup ys5)) := same_upd nl5
  generalize upd E5 l5 (.tup ys5) = E6 at f1 u6 ⊢
  have w6 := w5.same u6
  replace dR := Dn.mono (same_dels (.of u6)) _ _ dR
  replace dM := Dn.mono (same_dels (.of u6)) _ _ dM
  replace dV := Dn.mono (same_dels (.of u6)) _ _ dV
  replace dF := Dn.mono (same_dels (.of u6)) _ _ dF
  refine ⟨len_2, fun z7 nz7 => ?_⟩
  have k1 := dn_tupN w6 nz7 (dna_cons dR (dna_cons f1 dna_nil))
  have u7 : Same E6 (upd E6 z7 (.tup [.ref pr, .ref l5])) := same_upd nz7
  generalize upd E6 z7 (.tup [.ref pr, .ref l5]) = E7 at k1 u7 ⊢
  have w7 := w6.same u7
  replace dR := Dn.mono (same_dels (.of u7)) _ _ dR
  replace dM := Dn.mono (same_dels (.of u7)) _ _ dM
  replace dV := Dn.mono (same_dels (.of u7)) _ _ dV
  replace dF := Dn.mono (same_dels (.of u7)) _ _ dF
  replace f1 := Dn.mono (same_dels (.of u7)) _ _ f1
  refine consI (tupI (consI ⟨_, rfl, consI (cbI (consI ⟨_, rfl, 1, rfl, rd_dropL 1 rfl w7 dF fun a8 E8 u8 e8 => ?_⟩))⟩))
  have w8 := w7.same u8
  replace dR := Dn.mono (same_dels (.of u8)) _ _ dR
  replace dM := Dn.mono (same_dels (.of u8)) _ _ dM
  replace dV := Dn.mono (same_dels (.of u8)) _ _ dV
  replace dF := Dn.mono (same_dels (.of u8)) _ _ dF
  replace k1 := Dn.mono (same_dels (.of u8)) _ _ k1
  obtain ⟨b9, yb9, rfl, nb9, hb9, hyb9⟩ := dn_lstAt e8
  refine ⟨b9, yb9, rfl, .inl ⟨SqL.of hb9, fun lb9 nlb9 => ?_⟩⟩
  have f2 := dn_tupN w8 nlb9 hyb9
  have u9 : Same E8 (upd E8 lb9 (.tup yb9)) := same_upd nlb9
  generalize upd E8 lb9 (.tup yb9) = E9 at f2 u9 ⊢
  have w9 := w8.same u9
  replace dR := Dn.mono (same_dels (.of u9)) _ _ dR
  replace dM := Dn.mono (same_dels (.of u9)) _ _ dM
  replace dV := Dn.mono (same_dels (.of u9)) _ _ dV
  replace dF := Dn.mono (same_dels (.of u9)) _ _ dF
  replace k1 := Dn.mono (same_dels (.of u9)) _ _ k1
  refine ⟨len_2, fun z10 nz10 => ?_⟩
  have k2 := dn_tupN w9 nz10 (dna_cons dR (dna_cons f2 dna_nil))
  have u10 : Same E9 (upd E9 z10 (.tup [.ref pr, .ref lb9])) := same_upd nz10
  generalize upd E9 z10 (.tup [.ref pr, .ref lb9]) = E10 at k2 u10 ⊢
  have w10 := w9.same u10
  replace dR := Dn.mono (same_dels (.of u10)) _ _ dR
  replace dM := Dn.mono (same_dels (.of u10)) _ _ dM
  replace dV := Dn.mono (same_dels (.of u10)) _ _ dV
  replace dF := Dn.mono (same_dels (.of u10)) _ _ dF
  replace k1 := Dn.mono (same_dels (.of u10)) _ _ k1
  replace f2 := Dn.mono (same_dels (.of u10)) _ _ f2
  refine consI (tupI (consI ⟨_, rfl, consI (cbI (consI ⟨_, rfl, ?_⟩))⟩))
  obtain ⟨b11, yb11, eb11, nb11, hb11, hyb11⟩ := dn_lstAt dF
  refine ⟨b11, yb11, by rw [eb11], .inl ⟨SqL.of hb11, fun lb11 nlb11 => ?_⟩⟩
  have f3 := dn_tupN w10 nlb11 hyb11
  have u11 : Same E10 (upd E10 lb11 (.tup yb11)) := same_upd nlb11
  generalize upd E10 lb11 (.tup yb11) = E11 at f3 u11 ⊢
  have w11 := w10.same u11
  replace dR := Dn.mono (same_dels (.of u11)) _ _ dR
  replace dM := Dn.mono (same_dels (.of u11)) _ _ dM
  replace dV := Dn.mono (same_dels (.of u11)) _ _ dV
  replace dF := Dn.mono (same_dels (.of u11)) _ _ dF
  replace k1 := Dn.mono (same_dels (.of u11)) _ _ k1
  replace k2 := Dn.mono (same_dels (.of u11)) _ _ k2
  refine ⟨len_3, fun z12 nz12 => ?_⟩
  have k3 := dn_tupN w11 nz12 (dna_cons dR (dna_cons f3 (dna_cons (dn_int 0) dna_nil)))
  have u12 : Same E11 (upd E11 z12 (.tup [.ref pr, .ref lb11, .int 0])) := same_upd nz12
  generalize upd E11 z12 (.tup [.ref pr, .ref lb11, .int 0]) = E12 at k3 u12 ⊢
  have w12 := w11.same u12
  replace dR := Dn.mono (same_dels (.of u12)) _ _ dR
  replace dM := Dn.mono (same_dels (.of u12)) _ _ dM
  replace dV := Dn.mono (same_dels (.of u12)) _ _ dV
  replace dF := Dn.mono (same_dels (.of u12)) _ _ dF
  replace k1 := Dn.mono (same_dels (.of u12)) _ _ k1
  replace k2 := Dn.mono (same_dels (.of u12)) _ _ k2
  replace f3 := Dn.mono (same_dels (.of u12)) _ _ f3
  refine ⟨len_3, fun z13 nz13 => ?_⟩
  have gS := dn_lstN w12 nz13 (dna_cons k1 (dna_cons k2 (dna_cons k3 dna_nil)))
  have u13 : Same E12 (upd E12 z13 (.lst [.ref z7, .ref z10, .ref z12])) := same_upd nz13
  generalize upd E12 z13 (.lst [.ref z7, .ref z10, .ref z12]) = E13 at gS u13 ⊢
  have w13 := w12.same u13
  replace dR := Dn.mono (same_dels (.of u13)) _ _ dR
  replace dM := Dn.mono (same_dels (.of u13)) _ _ dM
  replace dV := Dn.mono (same_dels (.of u13)) _ _ dV
  replace dF := Dn.mono (same_dels (.of u13)) _ _ dF
  replace k1 := Dn.mono (same_dels (.of u13)) _ _ k1
  replace k2 := Dn.mono (same_dels (.of u13)) _ _ k2
  replace k3 := Dn.mono (same_dels (.of u13)) _ _ k3
  refine sqN (opI ⟨_, rfl, consI (tupI ⟨_, rfl, _, rfl, len_2, fun z14 nz14 => ?_⟩)⟩)
  have k4 := dn_tupN w13 nz14 (dna_cons dR (dna_cons dF dna_nil))
  have u14 : Same E13 (upd E13 z14 (.tup [.ref pr, .ref pf])) := same_upd nz14
  generalize upd E13 z14 (.tup [.ref pr, .ref pf]) = E14 at k4 u14 ⊢
  have w14 := w13.same u14
  replace dR := Dn.mono (same_dels (.of u14)) _ _ dR
  replace dM := Dn.mono (same_dels (.of u14)) _ _ dM
  replace dV := Dn.mono (same_dels (.of u14)) _ _ dV
  replace dF := Dn.mono (same_dels (.of u14)) _ _ dF
  replace gS := Dn.mono (same_dels (.of u14)) _ _ gS
  refine consI ⟨_, rfl, consI (tupI (consI (cbI (consI ⟨_, rfl, ?_⟩))))⟩
  obtain ⟨pr', xr, epr, npr, hpr, hxr⟩ := dn_tupAt dR
  refine ⟨pr', xr, by rw [epr], .inr (SqT.of hpr), fun l15 nl15 => ?_⟩
  have f4 := dn_lstN w14 nl15 hxr
  have u15 : Same E14 (upd E14 l15 (.lst xr)) := same_upd nl15
  generalize upd E14 l15 (.lst xr) = E15 at f4 u15 ⊢
  have w15 := w14.same u15
  replace dR := Dn.mono (same_dels (.of u15)) _ _ dR
  replace dM := Dn.mono (same_dels (.of u15)) _ _ dM
  replace dV := Dn.mono (same_dels (.of u15)) _ _ dV
  replace dF := Dn.mono (same_dels (.of u15)) _ _ dF
  replace gS := Dn.mono (same_dels (.of u15)) _ _ gS
  replace k4 := Dn.mono (same_dels (.of u15)) _ _ k4
  refine consI (cbI (consI ⟨_, rfl, ?_⟩))
  obtain ⟨b16, yb16, eb16, nb16, hb16, hyb16⟩ := dn_lstAt dF
  refine ⟨b16, yb16, by rw [eb16], .inl ⟨SqL.of hb16, fun lb16 nlb16 => ?_⟩⟩
  have f5 := dn_tupN w15 nlb16 hyb16
  have u16 : Same E15 (upd E15 lb16 (.tup yb16)) := same_upd nlb16
  generalize upd E15 lb16 (.tup yb16) = E16 at f5 u16 ⊢
  have w16 := w15.same u16
  replace dR := Dn.mono (same_dels (.of u16)) _ _ dR
  replace dM := Dn.mono (same_dels (.of u16)) _ _ dM
  replace dV := Dn.mono (same_dels (.of u16)) _ _ dV
  replace dF := Dn.mono (same_dels (.of u16)) _ _ dF
  replace gS := Dn.mono (same_dels (.of u16)) _ _ gS
  replace k4 := Dn.mono (same_dels (.of u16)) _ _ k4
  replace f4 := Dn.mono (same_dels (.of u16)) _ _ f4
  refine ⟨len_2, fun z17 nz17 => ?_⟩
  have k5 := dn_tupN w16 nz17 (dna_cons f4 (dna_cons f5 dna_nil))
  have u17 : Same E16 (upd E16 z17 (.tup [.ref l15, .ref lb16])) := same_upd nz17
  generalize upd E16 z17 (.tup [.ref l15, .ref lb16]) = E17 at k5 u17 ⊢
  have w17 := w16.same u17
  replace dR := Dn.mono (same_dels (.of u17)) _ _ dR
  replace dM := Dn.mono (same_dels (.of u17)) _ _ dM
  replace dV := Dn.mono (same_dels (.of u17)) _ _ dV
  replace dF := Dn.mono (same_dels (.of u17)) _ _ dF
  replace gS := Dn.mono (same_dels (.of u17)) _ _ gS
  replace k4 := Dn.mono (same_dels (.of u17)) _ _ k4
  replace f4 := Dn.mono (same_dels (.of u17)) _ _ f4
  replace f5 := Dn.mono (same_dels (.of u17)) _ _ f5
  refine consI (tupI (consI (opI ⟨_, rfl, ?_⟩)))
  refine rd_one w17 (dn_int 0) fun c18 E18 u18 z18 => ?_
  have w18 := w17.same u18
  replace dR := Dn.mono (same_dels (.of u18)) _ _ dR
  replace dM := Dn.mono (same_dels (.of u18)) _ _ dM
  replace dV := Dn.mono (same_dels (.of u18)) _ _ dV
  replace dF := Dn.mono (same_dels (.of u18)) _ _ dF
  replace gS := Dn.mono (same_dels (.of u18)) _ _ gS
  replace k4 := Dn.mono (same_dels (.of u18)) _ _ k4
  replace k5 := Dn.mono (same_dels (.of u18)) _ _ k5
  refine rd_catD w18 dR z18 (by simp; omega) fun c19 E19 u19 e19 => ?_
  have w19 := w18.same u19
  replace dR := Dn.mono (same_dels (.of u19)) _ _ dR
  replace dM := Dn.mono (same_dels (.of u19)) _ _ dM
  replace dV := Dn.mono (same_dels (.of u19)) _ _ dV
  replace dF := Dn.mono (same_dels (.of u19)) _ _ dF
  replace gS := Dn.mono (same_dels (.of u19)) _ _ gS
  replace k4 := Dn.mono (same_dels (.of u19)) _ _ k4
  replace k5 := Dn.mono (same_dels (.of u19)) _ _ k5
  refine consI (cbI (consI ⟨_, rfl, ?_⟩))
  obtain ⟨b20, yb20, eb20, nb20, hb20, hyb20⟩ := dn_lstAt dF
  refine ⟨b20, yb20, by rw [eb20], .inl ⟨SqL.of hb20, fun lb20 nlb20 => ?_⟩⟩
  have f6 := dn_tupN w19 nlb20 hyb20
  have u20 : Same E19 (upd E19 lb20 (.tup yb20)) := same_upd nlb20
  generalize upd E19 lb20 (.tup yb20) = E20 at f6 u20 ⊢
  have w20 := w19.same u20
  replace dR := Dn.mono (same_dels (.of u20)) _ _ dR
  replace dM := Dn.mono (same_dels (.of u20)) _ _ dM
  replace dV := Dn.mono (same_dels (.of u20)) _ _ dV
  replace dF := Dn.mono (same_dels (.of u20)) _ _ dF
  replace gS := Dn.mono (same_dels (.of u20)) _ _ gS
  replace k4 := Dn.mono (same_dels (.of u20)) _ _ k4
  replace k5 := Dn.mono (same_dels (.of u20)) _ _ k5
  replace e19 := Dn.mono (same_dels (.of u20)) _ _ e19
  refine ⟨len_2, fun z21 nz21 => ?_⟩
  have k6 := dn_tupN w20 nz21 (dna_cons e19 (dna_cons f6 dna_nil))
  have u21 : Same E20 (upd E20 z21 (.tup [c19, .ref lb20])) := same_upd nz21
  generalize upd E20 z21 (.tup [c19, .ref lb20]) = E21 at k6 u21 ⊢
  have w21 := w20.same u21
  replace dR := Dn.mono (same_dels (.of u21)) _ _ dR
  replace dM := Dn.mono (same_dels (.of u21)) _ _ dM
  replace dV := Dn.mono (same_dels (.of u21)) _ _ dV
  replace dF := Dn.mono (same_dels (.of u21)) _ _ dF
  replace gS := Dn.mono (same_dels (.of u21)) _ _ gS
  replace k4 := Dn.mono (same_dels (.of u21)) _ _ k4
  replace k5 := Dn.mono (same_dels (.of u21)) _ _ k5
  replace e19 := Dn.mono (same_dels (.of u21)) _ _ e19
  replace f6 := Dn.mono (same_dels (.of u21)) _ _ f6
  refine consI ⟨len_5, fun z22 nz22 => ?_⟩
  have gT := dn_lstN w21 nz22 (dna_cons k4 (dna_cons dV (dna_cons k5 (dna_cons k6 (dna_cons dn_non dna_nil)))))
  have u22 : Same E21 (upd E21 z22 (.lst [.ref z14, .ref pv, .ref z17, .ref z21, .non])) := same_upd nz22
  generalize upd E21 z22 (.lst [.ref z14, .ref pv, .ref z17, .ref z21, .non]) = E22 at gT u22 ⊢
  have w22 := w21.same u22
  replace dR := Dn.mono (same_dels (.of u22)) _ _ dR
  replace dM := Dn.mono (same_dels (.of u22)) _ _ dM
  replace dV := Dn.mono (same_dels (.of u22)) _ _ dV
  replace dF := Dn.mono (same_dels (.of u22)) _ _ dF
  replace gS := Dn.mono (same_dels (.of u22)) _ _ gS
  replace k4 := Dn.mono (same_dels (.of u22)) _ _ k4
  replace k5 := Dn.mono (same_dels (.of u22)) _ _ k5
  replace k6 := Dn.mono (same_dels (.of u22)) _ _ k6
  refine rd_catL w22 gS gT (by simp) fun c23 E23 u23 gU => ?_
  have w23 := w22.same u23
  refine retI (opI ⟨_, rfl, opI ?_⟩)
  refine rd_dig (b := 8) rfl (fun Q' q => q) (by decide) (by decide) w23 fun F1 a xa ya a0 a1' => ?_
  refine rd_dig (b := 2) rfl (fun Q' q => q) (by decide) (by decide) ya fun F2 b xb yb b0 b1' => ?_
  refine ⟨a, b, rfl, rfl, .inl ⟨by omega, by omega⟩, ?_⟩
  obtain ⟨af, ys, eaf, naf, haf, hys⟩ := dn_lstAt gU
  have hb : 0 ≤ a * b ∧ a * b < 8 := by
    rcases (by omega : b = 0 ∨ b = 1) with rfl | rfl
    · rw [Int.mul_zero]
      omega
    · rw [Int.mul_one]
      omega
  obtain ⟨vv, dd, e, m', hd⟩ := pickD hys (xa.trans xb) hb.1 (by rw [hys.length]; exact hb.2)
  have sU := ((((((((((((((((((((((u1.trans u2).trans u3).trans u4).trans u5).trans u6).trans u7).trans u8).trans u9).trans u10).trans u11).trans u12).trans u13).trans u14).trans u15).trans u16).trans u17).trans u18).trans u19).trans u20).trans u21).trans u22).trans u23)
  have sJ := ((((((((s1.trans s2).trans s3).trans s4).trans s5).trans s6).trans s7).trans s8).trans s9)
  exact ⟨af, ys, _, vv, eaf, rfl, SqL.of (xb _ _ naf (xa _ _ naf haf)), e, hQ F2 vv dd is js d1 i ((((sA.trans (.of sJ)).trans x3).trans (.of sU)).trans (xa.trans xb)) yb hd m1' (by omega) lr lk m'⟩

end
end Pw
set_option Elab.async false
set_option linter.all false
set_option maxRecDepth 100000
set_option maxHeartbeats 1000000
/-! The odd boxes are refused, the good stand and the good box are not: plain. -/
namespace Pw
open PySem PySem.Spec PyProof.Rows L2
theorem odd_few {L : Int} {d : D} (h : d ∈ oddFew L) : isFew L d = false := by
  unfold oddFew at h
  simp only [List.mem_cons, List.not_mem_nil, or_false] at h
  rcases h with rfl | rfl | rfl | rfl | rfl | rfl | rfl | rfl | rfl | rfl
  · rfl
  · show (true && (isWhole 0 L (.int L) && (isWhole 0 L (.int L) && true)) && (decide (L < L) && true)) = false
    rw [decide_eq_false (show ¬ L < L by omega), Bool.false_and, Bool.and_false]
  · show (true && (isWhole 0 L (.int 1) && (isWhole 0 L (.int 0) && true)) && (decide ((1 : Int) < 0) && true)) = false
    rw [decide_eq_false (show ¬ (1 : Int) < 0 by decide), Bool.false_and, Bool.and_false]
  · show (true && ((decide (0 ≤ L + 1) && decide (L + 1 ≤ L)) && true) && true) = false
    rw [decide_eq_false (show ¬ L + 1 ≤ L by omega), Bool.and_false, Bool.false_and, Bool.and_false, Bool.false_and]
  · show (true && ((decide ((0 : Int) ≤ -1) && decide (-1 ≤ L)) && true) && true) = false
    rw [decide_eq_false (show ¬ (0 : Int) ≤ -1 by decide), Bool.false_and, Bool.false_and, Bool.and_false, Bool.false_and]
  · rfl
  · rfl
  · rfl
  · rfl
  · show (true && (isWhole 0 L (.int 0) && (false && true)) && true) = false
    rw [Bool.false_and, Bool.and_false, Bool.and_false, Bool.false_and]
theorem few_good {L j : Int} (h0 : 0 ≤ j) (h1 : j ≤ L) : isFew L (.tup [.int j]) = true := by
  show (true && ((decide (0 ≤ j) && decide (j ≤ L)) && true) && true) = true
  rw [decide_eq_true h0, decide_eq_true h1]
  rfl
theorem rooms_good {n m : Nat} {is : List Int} (lr : is.length = m) (h : ∀ i ∈ is, 0 ≤ i ∧ i < (n : Int)) : areRooms n m (.tup (is.map D.int)) = true := by
  show (decide ((is.map D.int).length = m) && (is.map D.int).all (isRoom n)) = true
  rw [decide_eq_true (by rw [List.length_map, lr]), Bool.true_and, List.all_eq_true]
  intro d hd
  obtain ⟨i, hi, rfl⟩ := List.mem_map.mp hd
  obtain ⟨a, b⟩ := h i hi
  show (decide (0 ≤ i) && decide (i ≤ (n : Int) - 1)) = true
  rw [decide_eq_true a, decide_eq_true (by omega)]
  rfl
theorem stand_good {n m : Nat} {L : Int} {is js : List Int} (lr : is.length = m) (lk : js.length = n) (hi : ∀ i ∈ is, 0 ≤ i ∧ i < (n : Int)) (hj : ∀ j ∈ js, 0 ≤ j ∧ j < L + 1) : isStand n m L (.tup [.tup (is.map D.int), .tup (js.map D.int)]) = true := by
  show (areRooms n m _ && (decide ((js.map D.int).length = n) && (js.map D.int).all (isWhole 0 L))) = true
  rw [rooms_good lr hi, decide_eq_true (by rw [List.length_map, lk]), Bool.true_and, Bool.true_and, List.all_eq_true]
  intro d hd
  obtain ⟨j, hj', rfl⟩ := List.mem_map.mp hd
  obtain ⟨a, b⟩ := hj j hj'
  show (decide (0 ≤ j) && decide (j ≤ L)) = true
  rw [decide_eq_true a, decide_eq_true (by omega)]
  rfl
theorem box_good {n m : Nat} {L : Int} {is js : List Int} (lr : is.length = m) (lk : js.length = n) (hi : ∀ i ∈ is, 0 ≤ i ∧ i < (n : Int)) (hj : ∀ j ∈ js, 0 ≤ j ∧ j < L + 1) : isBox n m L (.tup [.tup (is.map D.int), .tup (fewD js)]) = true := by
  show (areRooms n m _ && (decide ((fewD js).length = n) && (fewD js).all (isFew L))) = true
  rw [rooms_good lr hi, decide_eq_true (by unfold fewD; rw [List.length_map, lk]), Bool.true_and, Bool.true_and, List.all_eq_true]
  intro d hd
  obtain ⟨j, hj', rfl⟩ := List.mem_map.mp hd
  obtain ⟨a, b⟩ := hj j hj'
  exact few_good a (by omega)
theorem odd_box {n m : Nat} {L : Int} {is js : List Int} {d1 d : D} {i : Nat} (h : d ∈ oddBoxes (is.map D.int) (js.map D.int) (fewD js) d1 i) (h1 : d1 ∈ oddFew L) (lr : is.length = m) (lk : js.length = n) (n1 : 1 ≤ n) : isBox n m L d = false := by
  have noM : ∀ {a b : D}, boxMarks n L b = false → isBox n m L (.tup [a, b]) = false := fun {a b} h => by
    show (areRooms n m a && boxMarks n L b) = false
    rw [h, Bool.and_false]
  have noR : ∀ {a b : D}, areRooms n m a = false → isBox n m L (.tup [a, b]) = false := fun {a b} h => by
    show (areRooms n m a && boxMarks n L b) = false
    rw [h, Bool.false_and]
  have bk : ∀ {l : List D}, (l.length = n → l.all (isFew L) = false) → boxMarks n L (.tup l) = false := fun {l} h => by
    show (decide (l.length = n) && l.all (isFew L)) = false
    by_cases c : l.length = n
    · rw [h c, Bool.and_false]
    · rw [decide_eq_false c, Bool.false_and]
  have rk : ∀ {l : List D}, (l.length = m → l.all (isRoom n) = false) → areRooms n m (.tup l) = false := fun {l} h => by
    show (decide (l.length = m) && l.all (isRoom n)) = false
    by_cases c : l.length = m
    · rw [h c, Bool.and_false]
    · rw [decide_eq_false c, Bool.false_and]
  have lf : (fewD js).length = n := by
    unfold fewD
    rw [List.length_map, lk]
  unfold oddBoxes at h
  simp only [List.mem_cons, List.not_mem_nil, or_false] at h
  rcases h with rfl | rfl | rfl | rfl | rfl | rfl | rfl | rfl
  · exact noM (bk fun _ => all_no (d := d1) (by simp) (odd_few h1))
  · exact noM (bk fun c => by rw [List.length_drop] at c; omega)
  · rfl
  · exact noM rfl
  · refine noM (bk fun c => ?_)
    cases js with
    | nil => simp at lk; omega
    | cons j r => rfl
  · exact noR rfl
  · exact noR (rk fun c => by rw [List.length_append, List.length_map, lr] at c; simp at c)
  · rfl
theorem few_slim {js : List Int} {l : List D} (h : D.tup l ∈ fewD js) : l.length < 1000 := by
  obtain ⟨j, _, e⟩ := List.mem_map.mp h
  cases e
  show 1 < 1000
  decide
theorem oddFew_slim {L : Int} {l : List D} (h : D.tup l ∈ oddFew L) : l.length < 1000 := by
  unfold oddFew at h
  simp only [List.mem_cons, List.not_mem_nil, or_false, reduceCtorEq, false_or, D.tup.injEq] at h
  rcases h with rfl | rfl | rfl | rfl | rfl | rfl | rfl <;> simp
theorem good_slim {R : List D} {js : List Int} : slim (.tup [.tup R, .tup (fewD js)]) := fun a b e l hl => by
  cases e
  exact few_slim hl
theorem box_slim {L : Int} {R : List D} {js : List Int} {d1 d : D} {i : Nat} (h : d ∈ oddBoxes R (js.map D.int) (fewD js) d1 i) (h1 : d1 ∈ oddFew L) : slim d := by
  intro a b e l hl
  subst e
  unfold oddBoxes at h
  simp only [List.mem_cons, List.not_mem_nil, or_false, reduceCtorEq, false_or, D.tup.injEq, List.cons.injEq, and_true, and_false] at h
  rcases h with ⟨_, rfl⟩ | ⟨_, rfl⟩ | ⟨_, rfl⟩ | ⟨_, rfl⟩ | ⟨_, rfl⟩
  · rcases List.mem_append.mp hl with m | m
    · rcases List.mem_append.mp m with m | m
      · exact few_slim (List.mem_of_mem_take m)
      · rw [← List.mem_singleton.mp m] at h1
        exact oddFew_slim h1
    · exact few_slim (List.mem_of_mem_drop m)
  · exact few_slim (List.mem_of_mem_drop hl)
  · obtain ⟨j, _, e⟩ := List.mem_map.mp hl
    cases e
  · exact few_slim hl
  · exact few_slim hl
/-- a stand by its data -/
theorem StAt.dn {H : Hp} {st : Addr} {v : V} {n m : Nat} {L : Int} (hst : StOk H st) (h : StAt H v n m L) : ∃ d, Dn (del H st) d v ∧ isStand n m L d = true := by
  obtain ⟨p, r, k, is, js, rfl, e1, e2, e3, lr, lk, hi, hj⟩ := h
  exact ⟨_, dn_tup (del_tup hst e1) (dna_cons (dn_ints (del_tup hst e2)) (dna_cons (dn_ints (del_tup hst e3)) dna_nil)), stand_good lr lk hi hj⟩
end Pw
set_option Elab.async false
set_option linter.all false
set_option maxRecDepth 100000
set_option maxHeartbeats 10000000
/-! The defs that draw, then ask: the counts. -/
namespace Pw
open PySem PySem.Spec PyProof.Rows L2 LamX
section
variable {P : Program} {w : World} {K : PySem.W.Frag} {mg : Str → Option Value} {base : Heap}
theorem same_del1 {H : Hp} {st : Addr} : Same (del H st) H := fun b o e => by
  by_cases h : b = st
  · rw [h, del_same] at e
    cases e
  · rw [del_ne h] at e
    exact e
theorem tabs_keepS {T : List (Addr × Str)} {H H' : Hp} {st : Addr} (t : Tabs T H) (ok : StOk H st) (s : SameS st H H') : Tabs T H' := fun q hq => by
  obtain ⟨ps, a1, a2, a3⟩ := t q hq
  obtain ⟨xs, hst⟩ := ok.lst
  refine ⟨ps, s _ _ (fun z => by rw [z, hst] at a1; cases a1) a1, a2, fun pos cv hc => ?_⟩
  obtain ⟨c, e2, e3⟩ := a3 pos cv hc
  exact ⟨c, e2, s _ _ (fun z => by rw [z, hst] at e3; cases e3) e3⟩
theorem keepP_S {st : Addr} {H H' : Hp} (s : SameS st H H') : KeepP st H H' := fun b o n _ e => s b o n e
theorem StOk.ext {H H' : Hp} {st : Addr} (h : StOk H st) (s : ExtN H H') : StOk H' st := by
  rcases h with ⟨n, e⟩ | ⟨a, b, c, e⟩
  · exact .inl ⟨n, s _ _ e (fun ps z => by cases z)⟩
  · exact .inr ⟨a, b, c, s _ _ e (fun ps z => by cases z)⟩
theorem wish_good {n m : Nat} : isWish n m (.tup (List.replicate m .non)) = true := by
  show (decide ((List.replicate m D.non).length = m) && (List.replicate m D.non).all fun d => isNone d || isRoom n d) = true
  rw [decide_eq_true (List.length_replicate), Bool.true_and, List.all_eq_true]
  intro d hd
  rw [(List.mem_replicate.mp hd).2]
  rfl
theorem zero_walks {m : Nat} (h : 1 ≤ m) : isWhole 0 ((m : Int) - 1) (.int 0) = true := by
  show (decide ((0 : Int) ≤ 0) && decide ((0 : Int) ≤ (m : Int) - 1)) = true
  rw [decide_eq_true (show (0 : Int) ≤ 0 by decide), decide_eq_true (by omega)]
  rfl
theorem at01v (x y : V) (b : Bool) : atI [x, y] (if b = true then 1 else 0) = some (if b = true then y else x) := by cases b <;> rfl
/-- far against 61 -/
theorem far_ne {H : Hp} {d : D} {v : V} (hd : d ∈ oddsL 60) (h : Dn H d v) : ∃ pd, Dp K H v pd ∧ SeqAt.shaped pd = true ∧ isWhole 0 400 (if (!PyData.eqv pd (.int 61)) = true then d else .int 401) = false := by
  unfold oddsL at hd
  simp only [List.mem_cons, List.not_mem_nil, or_false] at hd
  rcases hd with rfl | rfl | rfl | rfl | rfl | rfl | rfl | rfl | rfl
  · rw [h.int]
    exact ⟨_, .int _, rfl, by decide +kernel⟩
  · rw [h.int]
    exact ⟨_, .int _, rfl, by decide +kernel⟩
  · rw [h.bl]
    exact ⟨_, .bl _, rfl, by decide +kernel⟩
  · rw [h.bl]
    exact ⟨_, .bl _, rfl, by decide +kernel⟩
  · rw [h.non]
    exact ⟨_, .non, rfl, by decide +kernel⟩
  · rw [h.str]
    exact ⟨_, .str _, by decide +kernel, by decide +kernel⟩
  · obtain ⟨p, xs, rfl, hp, hx⟩ := h.tup
    have e := DnA.of_ints (is := [0]) hx
    subst e
    exact ⟨_, .tup (SqT.of hp) (.cons (.int 0) .nil), by decide +kernel, by decide +kernel⟩
  · obtain ⟨p, xs, rfl, hp, hx⟩ := h.lst
    have e := DnA.of_ints (is := [0]) hx
    subst e
    exact ⟨_, .lst (SqL.of hp) (.cons (.int 0) .nil), by decide +kernel, by decide +kernel⟩
  · rw [h.int]
    exact ⟨_, .int _, by decide +kernel, by decide +kernel⟩
def sp_count_doors : Sp := fun vz H Q _ => ∃ st wv vs vb d2 d3 n m L, vz = [.ref st, wv, vs, vb] ∧ StOk H st ∧ Tabs Tall H ∧ Wd (del H st) wv n m L ∧ 1 ≤ m ∧ Dn (del H st) d2 vs ∧ Dn (del H st) d3 vb ∧ slim d3 ∧ isStand n m L d2 = true ∧ isBox n m L d3 = true ∧ ∀ H', KeepP st H H' → StOk H' st → Tabs Tall H' → Q (.bl true) H'
theorem ok_law_count_doors (T : Tx K mg) (TB : TabB base mg 1068 1064) : Fn0 P w K mg base 24 d_law_count_doors p_law_count_doors sp_count_doors := by
  refine ok_code (fn_law_count_doors T) (cod_law_count_doors T) s_law_count_doors (fun vz H Q E h => ?_) (fun A outer s H vz Q E hr h => ?_)
  · obtain ⟨st, wv, vs, vb, d2, d3, n, m, L, rfl, _⟩ := h
    rfl
  obtain ⟨st, wv, vs, vb, d2, d3, n, m, L, rfl, hst, hT, hw, hm, hs, hb, zb, c2, c3, hQ⟩ := h
  refine ⟨_, (pss_cons (ps_asg (pe_tup (pa_cons (pe_call (ok_law_odd_number T) (hr.mono (by decide)) rfl (mg_law_odd_number T) (fn_law_odd_number T).kp (b_law_odd_number T) .nil pass0 (pa_cons (pv 0) (pa_cons (pe_op op_pow pe_int pe_int) pa_nil))) (pa_cons (pe_call (ok_law_odd_number T) (hr.mono (by decide)) rfl (mg_law_odd_number T) (fn_law_odd_number T).kp (b_law_odd_number T) .nil pass0 (pa_cons (pv 0) (pa_cons pe_int pa_nil))) pa_nil))) (pg_tup rfl (pgs_cons (pg_name (i := 4) s_law_count_doors.nd rfl (.inr rfl)) (pgs_cons (pg_name (i := 5) s_law_count_doors.nd rfl (.inr rfl)) pgs_nil)))) (pss_cons (ps_set (i := 6) s_law_count_doors.nd rfl (.inr rfl) (pe_op op_repA (pe_tup (pa_cons pe_non pa_nil)) (pe_meth0 (pv 1) (cls_World T) (met_walkers T) (ok_World_walkers T) (hr.mono (by decide)) (b_World_walkers T) .nil pass0))) (pss_cons (ps_set (i := 7) s_law_count_doors.nd rfl (.inl rfl) (pe_lst (pa_cons (pe_lam (T := Tall) (k := 20) TB rfl tm_law_count_doors tu_law_count_doors (lamS_by (sc := defScope d_law_count_doors.st) (by decide +kernel)) rfl (fun _ _ _ _ _ => rfl) (fun A outer s H E f c' hr => (pe_call (ok_at T) (hr.mono (by decide)) rfl (mg_at T) (fn_at T).kp (b_at T) .nil passL (pa_cons (pv 1) (pa_cons (pv 2) (pa_cons (pv 4) pa_nil)))))) pa_nil))) (pss_cons (ps_expr (pe_bm PySem.F.plainAttrs_list PySem.F.slot_list_append PySem.F.type_list_append mt_append (pv 7) (pa_cons (pe_lam (T := Tall) (k := 20) TB rfl tm_law_count_doors tu_law_count_doors (lamS_by (sc := defScope d_law_count_doors.st) (by decide +kernel)) rfl (fun _ _ _ _ _ => rfl) (fun A outer s H E f c' hr => (pe_call (ok_visits T) (hr.mono (by decide)) rfl (mg_visits T) (fn_visits T).kp (b_visits T) .nil passL (pa_cons (pv 1) (pa_cons (pv 2) (pa_cons pe_int (pa_cons (pv 4) pa_nil))))))) pa_nil))) (pss_cons (ps_expr (pe_bm PySem.F.plainAttrs_list PySem.F.slot_list_append PySem.F.type_list_append mt_append (pv 7) (pa_cons (pe_lam (T := Tall) (k := 20) TB rfl tm_law_count_doors tu_law_count_doors (lamS_by (sc := defScope d_law_count_doors.st) (by decide +kernel)) rfl (fun _ _ _ _ _ => rfl) (fun A outer s H E f c' hr => (pe_call (ok_gone T) (hr.mono (by decide)) rfl (mg_gone T) (fn_gone T).kp (b_gone T) .nil passL (pa_cons (pv 1) (pa_cons (pv 2) (pa_cons pe_int (pa_cons (pv 4) pa_nil))))))) pa_nil))) (pss_cons (ps_expr (pe_bm PySem.F.plainAttrs_list PySem.F.slot_list_append PySem.F.type_list_append mt_append (pv 7) (pa_cons (pe_lam (T := Tall) (k := 20) TB rfl tm_law_count_doors tu_law_count_doors (lamS_by (sc := defScope d_law_count_doors.st) (by decide +kernel)) rfl (fun _ _ _ _ _ => rfl) (fun A outer s H E f c' hr => (pe_call (ok_times T) (hr.mono (by decide)) rfl (mg_times T) (fn_times T).kp (b_times T) .nil passL (pa_cons (pv 1) (pa_cons (pv 2) (pa_cons (pv 6) (pa_cons (pv 4) pa_nil))))))) pa_nil))) (pss_cons (ps_expr (pe_bm PySem.F.plainAttrs_list PySem.F.slot_list_append PySem.F.type_list_append mt_append (pv 7) (pa_cons (pe_lam (T := Tall) (k := 20) TB rfl tm_law_count_doors tu_law_count_doors (lamS_by (sc := defScope d_law_count_doors.st) (by decide +kernel)) rfl (fun _ _ _ _ _ => rfl) (fun A outer s H E f c' hr => (pe_call (ok_back_by T) (hr.mono (by decide)) rfl (mg_back_by T) (fn_back_by T).kp (b_back_by T) .nil passL (pa_cons (pv 1) (pa_cons (pv 3) (pa_cons (pv 5) pa_nil)))))) pa_nil))) (pss_cons (ps_expr (pe_bm PySem.F.plainAttrs_list PySem.F.slot_list_append PySem.F.type_list_append mt_append (pv 7) (pa_cons (pe_lam (T := Tall) (k := 20) TB rfl tm_law_count_doors tu_law_count_doors (lamS_by (sc := defScope d_law_count_doors.st) (by decide +kernel)) rfl (fun _ _ _ _ _ => rfl) (fun A outer s H E f c' hr => (pe_call (ok_many_back T) (hr.mono (by decide)) rfl (mg_many_back T) (fn_many_back T).kp (b_many_back T) .nil passL (pa_cons (pv 1) (pa_cons (pv 3) (pa_cons (pv 5) pa_nil)))))) pa_nil))) (pss_cons (ps_expr (pe_bm PySem.F.plainAttrs_list PySem.F.slot_list_append PySem.F.type_list_append mt_append (pv 7) (pa_cons (pe_lam (T := Tall) (k := 20) TB rfl tm_law_count_doors tu_law_count_doors (lamS_by (sc := defScope d_law_count_doors.st) (by decide +kernel)) rfl (fun _ _ _ _ _ => rfl) (fun A outer s H E f c' hr => (pe_call (ok_run T) (hr.mono (by decide)) rfl (mg_run T) (fn_run T).kp (b_run T) .nil passL (pa_cons (pv 1) (pa_cons (pv 2) (pa_cons (pe_ix ix_listK (pe_lst (pa_cons pe_int (pa_cons (pv 5) pa_nil))) (pe_callTy call_int1 rfl (mf_int T) boot_int1 (pa_cons (pe_cmpR (op_neDK (un_of hr)) (pv 5) pe_int (nomark _)) pa_nil)) (fun _ _ => rfl)) pa_nil)))))) pa_nil))) (pss_one (ps_ret (pe_asked (E := E0) (ok_law_all T) (hr.mono (by decide)) (fun _ => rfl) rfl (mg_law_all T) (fn_law_all T).kp (b_law_all T) (fun _ _ _ _ _ _ h => h) (pa_cons (pv 7) (pa_cons pe_str pa_nil)))))))))))))), ?_⟩
  refine sqA (tupI (consI ⟨_, rfl, 10, 40, rfl, rfl, ⟨by decide, by decide, by decide⟩, st, 10 ^ 40, rfl, hst, fun H1 vo d1 s1 st1 mo ho => consI ⟨_, rfl, st, 60, rfl, st1, fun H2 vf d4 s2 st2 mf hf => ⟨len_2, fun p np => ?_⟩⟩⟩))
  refine ⟨p, _, rfl, SqT.of upd_same, rfl, _, _, rfl, _, _, rfl, rfl, ?_⟩
  have s3 : SameS st H2 (upd H2 p (.tup [vo, vf])) := SameS.new np
  have st3 := st2.new (u := .tup [vo, vf]) np
  have sA : SameS st H (upd H2 p (.tup [vo, vf])) := (s1.trans s2).trans s3
  replace hw := (hw.mono (same_dels sA)).mono same_del1
  replace hs := Dn.mono same_del1 _ _ (Dn.mono (same_dels sA) _ _ hs)
  replace hb := Dn.mono same_del1 _ _ (Dn.mono (same_dels sA) _ _ hb)
  replace ho := Dn.mono same_del1 _ _ (Dn.mono (same_dels (s2.trans s3)) _ _ ho)
  replace hf := Dn.mono same_del1 _ _ (Dn.mono (same_dels s3) _ _ hf)
  replace hT := tabs_keepS hT hst sA
  have c1 : isWhole 0 (10 ^ 40) d1 = false := odd_whole mo (by decide) (by decide)
  have c4 : isWhole 0 60 d4 = false := odd_whole mf (by decide) (by decide)
  generalize hH3 : upd H2 p (.tup [vo, vf]) = H3 at hw hs hb ho hf hT sA st3 ⊢
  clear hH3 s1 s2 s3 np st1 st2 hst
  refine sqN (rd_nones rfl hw hm fun pw H4 s4 e1 => ?_)
  have hwi : Dn H4 (.tup (List.replicate m .non)) (.ref pw) := dn_tup e1 (dna_reps m)
  replace hT := hT.ext s4
  replace hw := hw.mono s4
  replace ho := Dn.mono s4 _ _ ho
  replace hf := Dn.mono s4 _ _ hf
  replace hs := Dn.mono s4 _ _ hs
  replace hb := Dn.mono s4 _ _ hb
  have st4 := st3.same s4
  refine rd_first (S := fun σ => σ[1]? = some (some wv) ∧ σ[2]? = some (some vs) ∧ σ[3]? = some (some vb) ∧ σ[4]? = some (some vo) ∧ σ[5]? = some (some vf) ∧ σ[6]? = some (some (.ref pw))) (W := TW "count") (H0 := H4) hT (ExtN.refl _) (fun σ' H3 S e => ⟨_, S.1, _, S.2.1, _, S.2.2.2.1, wv, vs, vo, d2, d1, n, m, L, rfl, (hw.ext e), (Dn.ext e _ _ hs), (Dn.ext e _ _ ho), ref_skip c2 (ref_one 4 c1 rfl rfl (Same.refl _))⟩) fun p fs H5 np k2 I => ?_
  clear k2
  refine rd_append I rfl (by decide) (fun σ' H3 S e => ⟨_, S.1, _, S.2.1, _, S.2.2.2.1, wv, vs, .int 0, vo, d2, (.int 0), d1, n, m, L, rfl, (hw.ext e), (Dn.ext e _ _ hs), (dn_int 0), (Dn.ext e _ _ ho), ref_skip c2 (ref_skip (zero_walks hm) (ref_one 4 c1 rfl rfl (Same.refl _)))⟩) fun fs H5 k2 I => ?_
  clear k2
  refine rd_append I rfl (by decide) (fun σ' H3 S e => ⟨_, S.1, _, S.2.1, _, S.2.2.2.1, wv, vs, .int 0, vo, d2, (.int 0), d1, n, m, L, rfl, (hw.ext e), (Dn.ext e _ _ hs), (dn_int 0), (Dn.ext e _ _ ho), ref_skip c2 (ref_skip (zero_walks hm) (ref_one 4 c1 rfl rfl (Same.refl _)))⟩) fun fs H5 k2 I => ?_
  clear k2
  refine rd_append I rfl (by decide) (fun σ' H3 S e => ⟨_, S.1, _, S.2.1, _, S.2.2.2.2.2, _, S.2.2.2.1, wv, vs, (.ref pw), vo, d2, (.tup (List.replicate m .non)), d1, n, m, L, rfl, (hw.ext e), (Dn.ext e _ _ hs), (Dn.ext e _ _ hwi), (Dn.ext e _ _ ho), ref_skip c2 (ref_skip wish_good (ref_one 4 c1 rfl rfl (Same.refl _)))⟩) fun fs H5 k2 I => ?_
  clear k2
  refine rd_append I rfl (by decide) (fun σ' H3 S e => ⟨_, S.1, _, S.2.2.1, _, S.2.2.2.2.1, wv, vb, vf, d3, d4, n, m, L, rfl, (hw.ext e), (Dn.ext e _ _ hb), (Dn.ext e _ _ hf), zb, ref_skip c3 (ref_one 4 c4 rfl rfl (Same.refl _))⟩) fun fs H5 k2 I => ?_
  clear k2
  refine rd_append I rfl (by decide) (fun σ' H3 S e => ⟨_, S.1, _, S.2.2.1, _, S.2.2.2.2.1, wv, vb, vf, d3, d4, n, m, L, rfl, (hw.ext e), (Dn.ext e _ _ hb), (Dn.ext e _ _ hf), zb, ref_skip c3 (ref_one 4 c4 rfl rfl (Same.refl _))⟩) fun fs H5 k2 I => ?_
  clear k2
  refine rd_append I rfl (by decide) ?_ fun fs H5 k2 I => ?_
  · intro σ' H6 S e
    refine ⟨_, S.1, _, S.2.1, _, S.2.2.2.2.1, len_2, fun q nq => ?_⟩
    have hf6 := Dn.mono (same_upd (u := .lst [.int 401, vf]) nq) _ _ (Dn.ext e _ _ hf)
    obtain ⟨pd, f1, f2, f3⟩ := far_ne (K := K) mf hf6
    refine ⟨_, S.2.2.2.2.1, pd, .int 61, f1, .int 61, f2, rfl, .inr ⟨_, rfl, q, _, _, _, rfl, rfl, SqL.of upd_same, at01v _ _ _, ?_⟩⟩
    refine ⟨wv, vs, _, d2, _, n, m, L, rfl, (hw.ext e).mono (same_upd nq), Dn.mono (same_upd nq) _ _ (Dn.ext e _ _ hs), ?_, ref_skip c2 (ref_one 4 f3 rfl rfl (same_upd nq))⟩
    generalize (!PyData.eqv pd (.int 61)) = b
    cases b with
    | true => exact hf6
    | false => exact dn_int 401
  exact rd_asked I rfl ⟨rfl, rfl, rfl, rfl, rfl, rfl⟩ (by decide) shp_count eqv_count fun H' s' => hQ H' ((keepP_S sA).trans (.of ((extN_same s4).trans (I.ext.trans (extN_same s'))))) (st4.ext (I.ext.trans (extN_same s'))) (I.tabs.ext s')
end
end Pw
set_option Elab.async false
set_option linter.all false
set_option maxRecDepth 100000
set_option maxHeartbeats 10000000
/-! The life doors. -/
namespace Pw
open PySem PySem.Spec PyProof.Rows L2 LamX
section
variable {P : Program} {w : World} {K : PySem.W.Frag} {mg : Str → Option Value} {base : Heap}
def oddLives : List D := [.int 7, .int 0, .int (-1), .bl true, .non, .str "1", .tup [.int 1], .int (10 ^ 20)]
theorem odd_life {d : D} (h : d ∈ oddLives) : isWhole 1 6 d = false := by
  unfold oddLives at h
  simp only [List.mem_cons, List.not_mem_nil, or_false] at h
  rcases h with rfl | rfl | rfl | rfl | rfl | rfl | rfl | rfl <;> decide +kernel
theorem len_8 {a b c d e f g h : V} : [a, b, c, d, e, f, g, h].length ≤ sizeLine := by show 8 ≤ sizeLine; rw [sizeLine_eq]; decide
def sp_life_doors : Sp := fun vz H Q _ => ∃ st vr d2, vz = [.ref st, vr] ∧ StOk H st ∧ Tabs Tall H ∧ Dn (del H st) d2 vr ∧ isRule d2 = true ∧ ∀ H', KeepP st H H' → StOk H' st → Tabs Tall H' → Q (.bl true) H'
theorem ok_law_life_doors (T : Tx K mg) (TB : TabB base mg 1075 1071) : Fn0 P w K mg base 24 d_law_life_doors p_law_life_doors sp_life_doors := by
  refine ok_code (fn_law_life_doors T) (cod_law_life_doors T) s_law_life_doors (fun vz H Q E h => ?_) (fun A outer s H vz Q E hr h => ?_)
  · obtain ⟨st, vr, d2, rfl, _⟩ := h
    rfl
  obtain ⟨st, vr, d2, rfl, hst, hT, hs, c2, hQ⟩ := h
  refine ⟨_, (pss_cons (ps_set (i := 2) s_law_life_doors.nd rfl (.inr rfl) (pe_ix ix_list (pe_lst (pa_cons pe_int (pa_cons pe_int (pa_cons (pe_un un_neg pe_int) (pa_cons pe_bl (pa_cons pe_non (pa_cons pe_str (pa_cons (pe_tup (pa_cons pe_int pa_nil)) (pa_cons (pe_op op_pow pe_int pe_int) pa_nil))))))))) (pe_call (ok_law_digit T) (hr.mono (by decide)) rfl (mg_law_digit T) (fn_law_digit T).kp (b_law_digit T) .nil pass0 (pa_cons (pv 0) (pa_cons pe_int pa_nil))) (fun _ _ => rfl))) (pss_cons (ps_set (i := 3) s_law_life_doors.nd rfl (.inl rfl) (pe_lst (pa_cons (pe_lam (T := Tall) (k := 20) TB rfl tm_law_life_doors tu_law_life_doors (lamS_by (sc := defScope d_law_life_doors.st) (by decide +kernel)) rfl (fun _ _ _ _ _ => rfl) (fun A outer s H E f c' hr => (pe_call (ok_ranked T) (hr.mono (by decide)) rfl (mg_ranked T) (fn_ranked T).kp (b_ranked T) .nil passL (pa_cons (pv 1) (pa_cons (pv 2) pa_nil))))) pa_nil))) (pss_cons (ps_expr (pe_bm PySem.F.plainAttrs_list PySem.F.slot_list_append PySem.F.type_list_append mt_append (pv 3) (pa_cons (pe_lam (T := Tall) (k := 20) TB rfl tm_law_life_doors tu_law_life_doors (lamS_by (sc := defScope d_law_life_doors.st) (by decide +kernel)) rfl (fun _ _ _ _ _ => rfl) (fun A outer s H E f c' hr => (pe_call (ok_alike T) (hr.mono (by decide)) rfl (mg_alike T) (fn_alike T).kp (b_alike T) .nil passL (pa_cons (pv 1) (pa_cons (pe_tup pa_nil) (pa_cons (pv 2) pa_nil)))))) pa_nil))) (pss_cons (ps_expr (pe_bm PySem.F.plainAttrs_list PySem.F.slot_list_append PySem.F.type_list_append mt_append (pv 3) (pa_cons (pe_lam (T := Tall) (k := 20) TB rfl tm_law_life_doors tu_law_life_doors (lamS_by (sc := defScope d_law_life_doors.st) (by decide +kernel)) rfl (fun _ _ _ _ _ => rfl) (fun A outer s H E f c' hr => (pe_call (ok_alone T) (hr.mono (by decide)) rfl (mg_alone T) (fn_alone T).kp (b_alone T) .nil passL (pa_cons (pv 1) (pa_cons (pe_tup pa_nil) (pa_cons (pv 2) pa_nil)))))) pa_nil))) (pss_cons (ps_if (pt_not (pt_val (pe_asked (E := E0) (ok_law_all T) (hr.mono (by decide)) (fun _ => rfl) rfl (mg_law_all T) (fn_law_all T).kp (b_law_all T) (fun _ _ _ _ _ _ h => h) (pa_cons (pv 3) (pa_cons pe_str pa_nil))))) (pss_one (ps_ret pe_bl)) pss_nil) (pss_cons (ps_set (i := 3) s_law_life_doors.nd rfl (.inl rfl) (pe_lst (pa_cons (pe_lam (T := Tall) (k := 20) TB rfl tm_law_life_doors tu_law_life_doors (lamS_by (sc := defScope d_law_life_doors.st) (by decide +kernel)) rfl (fun _ _ _ _ _ => rfl) (fun A outer s H E f c' hr => (pe_make (mk_World T) (ok_World_init T) (hr.mono (by decide)) rfl (mg_World T) (b_World_init T) .nil passL (pa_cons (pe_lst (pa_cons (pe_tup (pa_cons pe_int pa_nil)) pa_nil)) (pa_cons (pv 2) (pa_cons (pe_lst (pa_cons (pv 1) pa_nil)) pa_nil)))))) pa_nil))) (pss_cons (ps_expr (pe_bm PySem.F.plainAttrs_list PySem.F.slot_list_append PySem.F.type_list_append mt_append (pv 3) (pa_cons (pe_lam (T := Tall) (k := 20) TB rfl tm_law_life_doors tu_law_life_doors (lamS_by (sc := defScope d_law_life_doors.st) (by decide +kernel)) rfl (fun _ _ _ _ _ => rfl) (fun A outer s H E f c' hr => (pe_call (ok_trails T) (hr.mono (by decide)) rfl (mg_trails T) (fn_trails T).kp (b_trails T) .nil passL (pa_cons (pe_lst (pa_cons (pe_tup (pa_cons pe_int pa_nil)) pa_nil)) (pa_cons (pv 2) (pa_cons (pe_tup (pa_cons pe_int pa_nil)) pa_nil)))))) pa_nil))) (pss_cons (ps_expr (pe_bm PySem.F.plainAttrs_list PySem.F.slot_list_append PySem.F.type_list_append mt_append (pv 3) (pa_cons (pe_lam (T := Tall) (k := 20) TB rfl tm_law_life_doors tu_law_life_doors (lamS_by (sc := defScope d_law_life_doors.st) (by decide +kernel)) rfl (fun _ _ _ _ _ => rfl) (fun A outer s H E f c' hr => (pe_call (ok_many_trails T) (hr.mono (by decide)) rfl (mg_many_trails T) (fn_many_trails T).kp (b_many_trails T) .nil passL (pa_cons (pe_lst (pa_cons (pe_tup (pa_cons pe_int pa_nil)) pa_nil)) (pa_cons (pv 2) (pa_cons (pe_tup (pa_cons pe_int pa_nil)) pa_nil)))))) pa_nil))) (pss_one (ps_ret (pe_asked (E := E0) (ok_law_all T) (hr.mono (by decide)) (fun _ => rfl) rfl (mg_law_all T) (fn_law_all T).kp (b_law_all T) (fun _ _ _ _ _ _ h => h) (pa_cons (pv 3) (pa_cons pe_str pa_nil))))))))))))), ?_⟩
  refine sqN (opI ?_)
  refine ⟨1, rfl, len_1, fun t nt => ⟨10, 20, rfl, rfl, ⟨by decide, by decide, by decide⟩, len_8, fun p np => ?_⟩⟩
  have st3 := (hst.new (u := .tup [V.int 1]) nt).ne np
  refine rd_dig (b := 8) rfl (fun Q' q => q) (by decide) (by decide) ((hst.new nt).new np) fun H3 j s1 st4 j0 j1 => ?_
  obtain ⟨vo, d1, e, mo, ho⟩ := pickD (ds := oddLives) (vs := [.int 7, .int 0, .int (-1), .bl true, .non, .str "1", .ref t, .int (10 ^ 20)])
    (dna_cons (dn_int _) (dna_cons (dn_int _) (dna_cons (dn_int _) (dna_cons (dn_bl _) (dna_cons dn_non (dna_cons (dn_str _) (dna_cons (dn_tup (del_at (hst.ne nt) (upd2 upd_same np)) (dna_cons (dn_int 1) dna_nil)) (dna_cons (dn_int _) dna_nil)))))))) s1 j0 j1
  refine ⟨p, _, j, vo, rfl, rfl, SqL.of (s1 _ _ st3 upd_same), e, ?_⟩
  have sA : SameS st H H3 := ((SameS.new nt).trans (SameS.new np)).trans s1
  replace hs := Dn.mono same_del1 _ _ (Dn.mono (same_dels sA) _ _ hs)
  replace ho := Dn.mono same_del1 _ _ ho
  replace hT := tabs_keepS hT hst sA
  have c1 := odd_life mo
  clear e j0 j1 s1 st3 np nt mo hst
  refine rd_first (S := fun σ => σ[1]? = some (some vr) ∧ σ[2]? = some (some vo)) (W := TW "life") (H0 := H3) hT (ExtN.refl _) (fun σ' H3 S e => ⟨_, S.1, _, S.2, vr, vo, d2, d1, rfl, (Dn.ext e _ _ hs), (Dn.ext e _ _ ho), ref_skip c2 (ref_one 7 c1 rfl rfl (Same.refl _))⟩) fun p fs H5 np k2 I => ?_
  clear k2
  refine rd_append I rfl (by decide) (fun σ' H3 S e => ⟨_, S.1, len_0, fun q0 nq0 => ⟨_, S.2, vr, .ref q0, vo, d2, (.tup []), d1, rfl, (Dn.mono (same_upd nq0) _ _ (Dn.ext e _ _ hs)), (dn_tup upd_same dna_nil), (Dn.mono (same_upd nq0) _ _ (Dn.ext e _ _ ho)), ref_skip c2 (ref_skip (rfl : isRule (.tup []) = true) (ref_one 7 c1 rfl rfl (same_upd nq0)))⟩⟩) fun fs H5 k2 I => ?_
  clear k2
  refine rd_append I rfl (by decide) (fun σ' H3 S e => ⟨_, S.1, len_0, fun q0 nq0 => ⟨_, S.2, vr, .ref q0, vo, d2, (.tup []), d1, rfl, (Dn.mono (same_upd nq0) _ _ (Dn.ext e _ _ hs)), (dn_tup upd_same dna_nil), (Dn.mono (same_upd nq0) _ _ (Dn.ext e _ _ ho)), ref_skip c2 (ref_skip (rfl : isRule (.tup []) = true) (ref_one 7 c1 rfl rfl (same_upd nq0)))⟩⟩) fun fs H5 k2 I => ?_
  refine ifNot (rd_asked I rfl ⟨rfl, rfl⟩ (by decide) shp_life eqv_life fun H6 s6 => ⟨_, rfl, iteF ?_⟩)
  have e6 : ExtN H3 H6 := I.ext.trans (extN_same s6)
  have T6 := I.tabs.ext s6
  replace ho := Dn.ext e6 _ _ ho
  replace hs := Dn.ext e6 _ _ hs
  clear k2 np I s6
  refine nxI ?_
  dsimp only
  refine rd_first (S := fun σ => σ[1]? = some (some vr) ∧ σ[2]? = some (some vo)) (W := TW "life") (H0 := H6) T6 (ExtN.refl _) (fun σ' H4 S e => ⟨len_1, fun q0 n0 => ⟨len_1, fun q1 n1 => ⟨_, S.2, _, S.1, len_1, fun q2 n2 => fun x dx nx ndx ne => ⟨x, dx, .ref q1, vo, .ref q2, [.tup [.int 0]], d1, [d2], rfl, upd_same, Dn.mono (same_mk nx ndx ne) _ _ (dn_lst (upd2 upd_same n2) (dna_cons (dn_tup (upd2 (upd2 upd_same n1) n2) (dna_cons (dn_int 0) dna_nil)) dna_nil)), rfl, Dn.mono (((same_upd n0).trans ((same_upd n1).trans (same_upd n2))).trans (same_mk nx ndx ne)) _ _ (Dn.ext e _ _ ho), Dn.mono (same_mk nx ndx ne) _ _ (dn_lst upd_same (dna_cons (Dn.mono ((same_upd n0).trans ((same_upd n1).trans (same_upd n2))) _ _ (Dn.ext e _ _ hs)) dna_nil)), (fun _ => raisesW_of (((same_upd n0).trans ((same_upd n1).trans (same_upd n2))).trans (same_mk nx ndx ne))), (fun h => by rw [c1] at h; cases h), fun h => by rw [c1] at h; cases h⟩⟩⟩⟩) fun p fs H5 np k2 I => ?_
  clear k2
  refine rd_append I rfl (by decide) (fun σ' H3 S e => ⟨len_1, fun q0 nq0 => ⟨len_1, fun q1 nq1 => ⟨_, S.2, len_1, fun q2 nq2 => ⟨.ref q1, vo, .ref q2, .lst [.tup [.int 0]], d1, rfl, dn_lst (upd2 upd_same nq2) (dna_cons (dn_tup (upd2 (upd2 upd_same nq1) nq2) (dna_cons (dn_int 0) dna_nil)) dna_nil), rfl, (Dn.mono ((same_upd nq0).trans ((same_upd nq1).trans (same_upd nq2))) _ _ (Dn.ext e _ _ ho)), c1, raisesW_of (((same_upd nq0).trans (same_upd nq1)).trans (same_upd nq2))⟩⟩⟩⟩) fun fs H5 k2 I => ?_
  clear k2
  refine rd_append I rfl (by decide) (fun σ' H3 S e => ⟨len_1, fun q0 nq0 => ⟨len_1, fun q1 nq1 => ⟨_, S.2, len_1, fun q2 nq2 => ⟨.ref q1, vo, .ref q2, .lst [.tup [.int 0]], d1, rfl, dn_lst (upd2 upd_same nq2) (dna_cons (dn_tup (upd2 (upd2 upd_same nq1) nq2) (dna_cons (dn_int 0) dna_nil)) dna_nil), rfl, (Dn.mono ((same_upd nq0).trans ((same_upd nq1).trans (same_upd nq2))) _ _ (Dn.ext e _ _ ho)), c1, raisesW_of (((same_upd nq0).trans (same_upd nq1)).trans (same_upd nq2))⟩⟩⟩⟩) fun fs H5 k2 I => ?_
  exact rd_asked I rfl ⟨rfl, rfl⟩ (by decide) shp_life eqv_life fun H' s' => hQ H' ((keepP_S sA).trans (.of (e6.trans (I.ext.trans (extN_same s'))))) (st4.ext (e6.trans (I.ext.trans (extN_same s')))) (I.tabs.ext s')
end
end Pw
set_option Elab.async false
set_option linter.all false
set_option maxRecDepth 100000
set_option maxHeartbeats 10000000
/-! The other doors: walkers, rooms, wishes. -/
namespace Pw
open PySem PySem.Spec PyProof.Rows L2 LamX
section
variable {P : Program} {w : World} {K : PySem.W.Frag} {mg : Str → Option Value} {base : Heap}
theorem ifOrNot {a b : TE} {t v u : TS} {D : Ends} {σ : L2.St} {H : Hp} (h : a σ H fun x H' => ∃ c, x = .bl c ∧ (if (!c) = true then (if true = true then t { D with nx := u D } σ H' else v { D with nx := u D } σ H') else b σ H' fun y H'' => ∃ c2, y = .bl c2 ∧ (if (!c2) = true then t { D with nx := u D } σ H'' else v { D with nx := u D } σ H''))) :
    tSeq (tIfS (tOr (tNot (tB a)) (tNot (tB b))) t v) u D σ H := h
theorem nones_data : ∀ {vs : List V}, (∀ v ∈ vs, v = .non ∨ v = .int 0) → ∃ ds : List D, (∀ H : Hp, DnA H ds vs) ∧ ds.length = vs.length
  | [], _ => ⟨[], fun _ => dna_nil, rfl⟩
  | v :: r, h => by
    obtain ⟨ds, h1, h2⟩ := nones_data fun y hy => h y (List.mem_cons_of_mem _ hy)
    rcases h v List.mem_cons_self with rfl | rfl
    · exact ⟨.non :: ds, fun H => dna_cons dn_non (h1 H), by rw [List.length_cons, List.length_cons, h2]⟩
    · exact ⟨.int 0 :: ds, fun H => dna_cons (dn_int 0) (h1 H), by rw [List.length_cons, List.length_cons, h2]⟩
theorem rep_non : ∀ k : Nat, (List.replicate k [V.non]).flatten = List.replicate k V.non
  | 0 => rfl
  | k + 1 => by rw [List.replicate_succ, List.flatten_cons, rep_non k]; rfl
/-- the wishes that _law_other_doors chooses from -/
def oddWishes (m : Nat) (G : List D) (d : D) (j : Nat) : List D := [.tup (G.take j ++ [d] ++ G.drop (j + 1)), .tup [.non, .non, .non, .non], .lst (List.replicate m .non), .non]
theorem odd_wish {n m : Nat} {G : List D} {d e : D} {j : Nat} (h : e ∈ oddWishes m G d j) (h1 : isRoom n d = false) (h2 : isNone d = false) (m2 : m ≤ 2) : isWish n m e = false := by
  unfold oddWishes at h
  simp only [List.mem_cons, List.not_mem_nil, or_false] at h
  rcases h with rfl | rfl | rfl | rfl
  · show (decide (_ = m) && _) = false
    rw [all_no (d := d) (by simp) (show (isNone d || isRoom n d) = false by rw [h1, h2]; rfl), Bool.and_false]
  · show (decide (4 = m) && _) = false
    rw [decide_eq_false (show ¬ 4 = m by omega), Bool.false_and]
  · rfl
  · rfl
def sp_other_doors : Sp := fun vz H Q _ => ∃ st wv vs d2 n m L, vz = [.ref st, wv, vs] ∧ StOk H st ∧ Tabs Tall H ∧ Wd (del H st) wv n m L ∧ 1 ≤ m ∧ m ≤ 2 ∧ 1 ≤ n ∧ n ≤ 4 ∧ Dn (del H st) d2 vs ∧ isStand n m L d2 = true ∧ ∀ H', KeepP st H H' → StOk H' st → Tabs Tall H' → Q (.bl true) H'
theorem ok_law_other_doors (T : Tx K mg) (TB : TabB base mg 1080 1078) : Fn0 P w K mg base 24 d_law_other_doors p_law_other_doors sp_other_doors := by
  refine ok_code (fn_law_other_doors T) (cod_law_other_doors T) s_law_other_doors (fun vz H Q E h => ?_) (fun A outer s H vz Q E hr h => ?_)
  · obtain ⟨st, wv, vs, d2, n, m, L, rfl, _⟩ := h
    rfl
  obtain ⟨st, wv, vs, d2, n, m, L, rfl, hst, hT, hw, hm, m2, n1, n4, hs, c2, hQ⟩ := h
  refine ⟨_, (pss_cons (ps_asg (pe_tup (pa_cons (pe_call (ok_law_odd_number T) (hr.mono (by decide)) rfl (mg_law_odd_number T) (fn_law_odd_number T).kp (b_law_odd_number T) .nil pass0 (pa_cons (pv 0) (pa_cons (pe_op op_sub (pe_meth0 (pv 1) (cls_World T) (met_walkers T) (ok_World_walkers T) (hr.mono (by decide)) (b_World_walkers T) .nil pass0) pe_int) pa_nil))) (pa_cons (pe_call (ok_law_odd_number T) (hr.mono (by decide)) rfl (mg_law_odd_number T) (fn_law_odd_number T).kp (b_law_odd_number T) .nil pass0 (pa_cons (pv 0) (pa_cons (pe_op op_sub (pe_meth0 (pv 1) (cls_World T) (met_rooms T) (ok_World_rooms T) (hr.mono (by decide)) (b_World_rooms T) .nil pass0) pe_int) pa_nil))) pa_nil))) (pg_tup rfl (pgs_cons (pg_name (i := 3) s_law_other_doors.nd rfl (.inr rfl)) (pgs_cons (pg_name (i := 4) s_law_other_doors.nd rfl (.inr rfl)) pgs_nil)))) (pss_cons (ps_if (pt_cmpR op_isN (pv 4) pe_non (nomark _)) (pss_one (ps_set (i := 4) s_law_other_doors.nd rfl (.inr rfl) (pe_un un_neg pe_int))) pss_nil) (pss_cons (ps_set (i := 5) s_law_other_doors.nd rfl (.inl rfl) (pe_callTy call_tuple_of rfl (mf_tuple T) boot_tuple1 (pa_cons (pe_lc (own := [("_law_k", 6)]) (g := gName 6) rfl s_law_other_doors.nd (pi_range1 rfl (mf_range T) (pa_cons (pe_meth0 (pv 1) (cls_World T) (met_walkers T) (ok_World_walkers T) (hr.mono (by decide)) (b_World_walkers T) .nil pass0) pa_nil)) (blkOk_by (own := [("_law_k", 6)]) (N := n_law_other_doors) (sc := defScope d_law_other_doors.st) (by decide +kernel)) (fun _ _ _ _ _ => (pg_name (i := 6) s_law_other_doors.nd rfl (.inl rfl))) (fun _ _ _ _ _ => pts_nil) (fun _ _ _ _ _ => (pe_ix ix_listK (pe_lst (pa_cons pe_non (pa_cons pe_int pa_nil))) (pe_call (ok_law_digit T) (hr.mono (by decide)) rfl (mg_law_digit T) (fn_law_digit T).kp (b_law_digit T) .nil pass0 (pa_cons (pv 0) (pa_cons pe_int pa_nil))) (fun _ _ => rfl)))) pa_nil))) (pss_cons (ps_set (i := 7) s_law_other_doors.nd rfl (.inl rfl) (pe_call (ok_law_digit T) (hr.mono (by decide)) rfl (mg_law_digit T) (fn_law_digit T).kp (b_law_digit T) .nil pass0 (pa_cons (pv 0) (pa_cons (pe_meth0 (pv 1) (cls_World T) (met_walkers T) (ok_World_walkers T) (hr.mono (by decide)) (b_World_walkers T) .nil pass0) pa_nil)))) (pss_cons (ps_set (i := 8) s_law_other_doors.nd rfl (.inl rfl) (pe_lst (pa_cons (pe_op op_catA (pe_op op_catA (pe_slice sl_tupA (pv 5) po_none (po_some (pv 7))) (pe_tup (pa_cons (pv 4) pa_nil))) (pe_slice sl_tupA (pv 5) (po_some (pe_op op_add (pv 7) pe_int)) po_none)) (pa_cons (pe_op op_repA (pe_tup (pa_cons pe_non pa_nil)) pe_int) (pa_cons (pe_op op_rep (pe_lst (pa_cons pe_non pa_nil)) (pe_meth0 (pv 1) (cls_World T) (met_walkers T) (ok_World_walkers T) (hr.mono (by decide)) (b_World_walkers T) .nil pass0)) (pa_cons pe_non pa_nil)))))) (pss_cons (ps_set (i := 9) s_law_other_doors.nd rfl (.inr rfl) (pe_ix ix_list (pv 8) (pe_call (ok_law_digit T) (hr.mono (by decide)) rfl (mg_law_digit T) (fn_law_digit T).kp (b_law_digit T) .nil pass0 (pa_cons (pv 0) (pa_cons pe_int pa_nil))) (fun _ _ => rfl))) (pss_cons (ps_set (i := 10) s_law_other_doors.nd rfl (.inl rfl) (pe_lst (pa_cons (pe_lam (T := Tall) (k := 20) TB rfl tm_law_other_doors tu_law_other_doors (lamS_by (sc := defScope d_law_other_doors.st) (by decide +kernel)) rfl (fun _ _ _ _ _ => rfl) (fun A outer s H E f c' hr => (pe_call (ok_visits T) (hr.mono (by decide)) rfl (mg_visits T) (fn_visits T).kp (b_visits T) .nil passL (pa_cons (pv 1) (pa_cons (pv 2) (pa_cons (pv 3) (pa_cons pe_int pa_nil))))))) pa_nil))) (pss_cons (ps_expr (pe_bm PySem.F.plainAttrs_list PySem.F.slot_list_append PySem.F.type_list_append mt_append (pv 10) (pa_cons (pe_lam (T := Tall) (k := 20) TB rfl tm_law_other_doors tu_law_other_doors (lamS_by (sc := defScope d_law_other_doors.st) (by decide +kernel)) rfl (fun _ _ _ _ _ => rfl) (fun A outer s H E f c' hr => (pe_call (ok_gone T) (hr.mono (by decide)) rfl (mg_gone T) (fn_gone T).kp (b_gone T) .nil passL (pa_cons (pv 1) (pa_cons (pv 2) (pa_cons (pv 3) (pa_cons pe_int pa_nil))))))) pa_nil))) (pss_cons (ps_expr (pe_bm PySem.F.plainAttrs_list PySem.F.slot_list_append PySem.F.type_list_append mt_append (pv 10) (pa_cons (pe_lam (T := Tall) (k := 20) TB rfl tm_law_other_doors tu_law_other_doors (lamS_by (sc := defScope d_law_other_doors.st) (by decide +kernel)) rfl (fun _ _ _ _ _ => rfl) (fun A outer s H E f c' hr => (pe_call (ok_together T) (hr.mono (by decide)) rfl (mg_together T) (fn_together T).kp (b_together T) .nil passL (pa_cons (pv 1) (pa_cons (pv 2) (pa_cons (pv 3) (pa_cons pe_int pa_nil))))))) pa_nil))) (pss_cons (ps_expr (pe_bm PySem.F.plainAttrs_list PySem.F.slot_list_append PySem.F.type_list_append mt_append (pv 10) (pa_cons (pe_lam (T := Tall) (k := 20) TB rfl tm_law_other_doors tu_law_other_doors (lamS_by (sc := defScope d_law_other_doors.st) (by decide +kernel)) rfl (fun _ _ _ _ _ => rfl) (fun A outer s H E f c' hr => (pe_call (ok_together T) (hr.mono (by decide)) rfl (mg_together T) (fn_together T).kp (b_together T) .nil passL (pa_cons (pv 1) (pa_cons (pv 2) (pa_cons pe_int (pa_cons (pv 3) pa_nil))))))) pa_nil))) (pss_cons (ps_set (i := 11) s_law_other_doors.nd rfl (.inl rfl) (pe_lst (pa_cons (pe_lam (T := Tall) (k := 20) TB rfl tm_law_other_doors tu_law_other_doors (lamS_by (sc := defScope d_law_other_doors.st) (by decide +kernel)) rfl (fun _ _ _ _ _ => rfl) (fun A outer s H E f c' hr => (pe_call (ok_put T) (hr.mono (by decide)) rfl (mg_put T) (fn_put T).kp (b_put T) .nil passL (pa_cons (pv 1) (pa_cons (pv 2) (pa_cons (pv 4) pa_nil)))))) pa_nil))) (pss_cons (ps_expr (pe_bm PySem.F.plainAttrs_list PySem.F.slot_list_append PySem.F.type_list_append mt_append (pv 11) (pa_cons (pe_lam (T := Tall) (k := 20) TB rfl tm_law_other_doors tu_law_other_doors (lamS_by (sc := defScope d_law_other_doors.st) (by decide +kernel)) rfl (fun _ _ _ _ _ => rfl) (fun A outer s H E f c' hr => (pe_call (ok_looked T) (hr.mono (by decide)) rfl (mg_looked T) (fn_looked T).kp (b_looked T) .nil passL (pa_cons (pv 1) (pa_cons (pv 2) (pa_cons (pv 4) pa_nil)))))) pa_nil))) (pss_cons (ps_if (PW.pt (pw_or (pt_not (pt_val (pe_asked (E := E0) (ok_law_all T) (hr.mono (by decide)) (fun _ => rfl) rfl (mg_law_all T) (fn_law_all T).kp (b_law_all T) (fun _ _ _ _ _ _ h => h) (pa_cons (pv 10) (pa_cons pe_str pa_nil))))) (pw_or1 (pt_not (pt_val (pe_asked (E := E0) (ok_law_all T) (hr.mono (by decide)) (fun _ => rfl) rfl (mg_law_all T) (fn_law_all T).kp (b_law_all T) (fun _ _ _ _ _ _ h => h) (pa_cons (pv 11) (pa_cons pe_str pa_nil)))))))) (pss_one (ps_ret pe_bl)) pss_nil) (pss_cons (ps_set (i := 10) s_law_other_doors.nd rfl (.inl rfl) (pe_lst (pa_cons (pe_lam (T := Tall) (k := 20) TB rfl tm_law_other_doors tu_law_other_doors (lamS_by (sc := defScope d_law_other_doors.st) (by decide +kernel)) rfl (fun _ _ _ _ _ => rfl) (fun A outer s H E f c' hr => (pe_call (ok_first_when T) (hr.mono (by decide)) rfl (mg_first_when T) (fn_first_when T).kp (b_first_when T) .nil passL (pa_cons (pv 1) (pa_cons (pv 2) (pa_cons (pv 9) pa_nil)))))) pa_nil))) (pss_cons (ps_expr (pe_bm PySem.F.plainAttrs_list PySem.F.slot_list_append PySem.F.type_list_append mt_append (pv 10) (pa_cons (pe_lam (T := Tall) (k := 20) TB rfl tm_law_other_doors tu_law_other_doors (lamS_by (sc := defScope d_law_other_doors.st) (by decide +kernel)) rfl (fun _ _ _ _ _ => rfl) (fun A outer s H E f c' hr => (pe_call (ok_times T) (hr.mono (by decide)) rfl (mg_times T) (fn_times T).kp (b_times T) .nil passL (pa_cons (pv 1) (pa_cons (pv 2) (pa_cons (pv 9) (pa_cons pe_int pa_nil))))))) pa_nil))) (pss_cons (ps_expr (pe_bm PySem.F.plainAttrs_list PySem.F.slot_list_append PySem.F.type_list_append mt_append (pv 10) (pa_cons (pe_lam (T := Tall) (k := 20) TB rfl tm_law_other_doors tu_law_other_doors (lamS_by (sc := defScope d_law_other_doors.st) (by decide +kernel)) rfl (fun _ _ _ _ _ => rfl) (fun A outer s H E f c' hr => (pe_call (ok_fewest T) (hr.mono (by decide)) rfl (mg_fewest T) (fn_fewest T).kp (b_fewest T) .nil passL (pa_cons (pv 1) (pa_cons (pv 2) (pa_cons (pv 9) pa_nil)))))) pa_nil))) (pss_cons (ps_expr (pe_bm PySem.F.plainAttrs_list PySem.F.slot_list_append PySem.F.type_list_append mt_append (pv 10) (pa_cons (pe_lam (T := Tall) (k := 20) TB rfl tm_law_other_doors tu_law_other_doors (lamS_by (sc := defScope d_law_other_doors.st) (by decide +kernel)) rfl (fun _ _ _ _ _ => rfl) (fun A outer s H E f c' hr => (pe_call (ok_check_fewest T) (hr.mono (by decide)) rfl (mg_check_fewest T) (fn_check_fewest T).kp (b_check_fewest T) .nil passL (pa_cons (pv 1) (pa_cons (pv 2) (pa_cons (pv 9) (pa_cons pe_non pa_nil))))))) pa_nil))) (pss_one (ps_ret (pe_asked (E := E0) (ok_law_all T) (hr.mono (by decide)) (fun _ => rfl) rfl (mg_law_all T) (fn_law_all T).kp (b_law_all T) (fun _ _ _ _ _ _ h => h) (pa_cons (pv 10) (pa_cons pe_str pa_nil)))))))))))))))))))))), ?_⟩
  refine sqA (tupI (consI ⟨_, rfl, opI (rd_walkers rfl (hw.mono same_del1) ⟨_, 1, rfl, rfl, st, _, rfl, hst, fun H1 vg dg s1 st1 mg1 hg => consI ⟨_, rfl, opI (rd_rooms rfl ((hw.mono (same_dels s1)).mono same_del1) ⟨_, 1, rfl, rfl, st, _, rfl, st1, fun H2 vr0 dr0 s2 st2 mr hr2 => ⟨len_2, fun p np => ?_⟩⟩)⟩⟩)⟩))
  refine ⟨p, _, rfl, SqT.of upd_same, rfl, _, _, rfl, _, _, rfl, rfl, ?_⟩
  have s3 : SameS st H2 (upd H2 p (.tup [vg, vr0])) := SameS.new np
  have st3 := st2.new (u := .tup [vg, vr0]) np
  have sA : SameS st H (upd H2 p (.tup [vg, vr0])) := (s1.trans s2).trans s3
  replace hw := hw.mono (same_dels sA)
  replace hs := Dn.mono (same_dels sA) _ _ hs
  replace hg := Dn.mono (same_dels (s2.trans s3)) _ _ hg
  replace hr2 := Dn.mono (same_dels s3) _ _ hr2
  replace hT := tabs_keepS hT hst sA
  have c1 : isWhole 0 ((m : Int) - 1) dg = false := odd_whole mg1 (by omega) (by omega)
  have c0 : isRoom n dr0 = false := odd_whole mr (by omega) (by omega)
  generalize hH3 : upd H2 p (.tup [vg, vr0]) = H3 at hw hs hg hr2 hT sA st3 ⊢
  clear hH3 s1 s2 s3 np st1 st2 hst mr mg1
  refine seqI (fun σ' H' => H' = H3 ∧ ∃ vr dr, σ' = [some (.ref st), some wv, some vs, some vg, some vr, none, none, none, none, none, none, none] ∧ Dn (del H3 st) dr vr ∧ isRoom n dr = false ∧ isNone dr = false) (fun N hN => ?_) (fun σ' H' R => ?_)
  · refine ⟨_, rfl, rfl, _, rfl, ?_⟩
    rw [none_dec hr2]
    cases c : isNone dr0 with
    | true =>
      refine iteT ⟨1, rfl, hN _ _ ⟨rfl, _, .int (-1), rfl, dn_int _, ?_, rfl⟩⟩
      show (decide ((0 : Int) ≤ -1) && decide (-1 ≤ (n : Int) - 1)) = false
      rw [decide_eq_false (by decide), Bool.false_and]
    | false => exact iteF (hN _ _ ⟨rfl, vr0, dr0, rfl, hr2, c0, c⟩)
  obtain ⟨rfl, vr, dr, rfl, hr3, c3, c4⟩ := R
  clear hr2 c0
  have hm2 : m < 100 := by omega
  refine sqN (cbI (consI ?_))
  refine rd_rangeS (st := st) (G := fun _ v => v = .non ∨ v = .int 0) (N := fun k => k = m) (fun _ _ _ _ h => h) (fun R q => rd_walkers rfl (hw.mono same_del1) (q H' m (.refl _ _) st3 hm2 rfl)) (fun H4 i Q' s4 st4 q => rd_pick rfl (fun Q' q => q) len_2 (fun H' Q' q => q) rfl (by simp) (by simp) st4 fun H5 v s5 st5 mv => q H5 v s5 st5 (by simpa using mv)) (fun p4 H4 vs4 s4 st4 e4 ne4 g4 hl4 => ?_)
  refine ⟨p4, vs4, rfl, .inl ⟨SqL.of e4, fun l nl => ?_⟩⟩
  obtain ⟨ds, hds, dl⟩ := nones_data g4
  have hgd := dn_tupN st4 nl (hds _)
  have st5 := st4.new (u := .tup vs4) nl
  have s5 := s4.trans (SameS.new (u := .tup vs4) nl)
  replace hw := hw.mono (same_dels s5)
  replace hs := Dn.mono (same_dels s5) _ _ hs
  replace hg := Dn.mono (same_dels s5) _ _ hg
  replace hr3 := Dn.mono (same_dels s5) _ _ hr3
  replace hT := tabs_keepS hT st3 s5
  replace sA := sA.trans s5
  generalize hH5 : upd H4 l (.tup vs4) = H5 at hw hs hg hr3 hgd hT sA st5 ⊢
  clear hH5 s4 st4 e4 ne4 nl s5 g4 hds st3
  refine sqN (rd_dig (b := (m : Int)) rfl (fun Q' q => rd_walkers rfl (hw.mono same_del1) q) (by omega) (by omega) st5 fun H6 j s6 st6 j0 j1 => ?_)
  obtain ⟨j, rfl⟩ : ∃ k : Nat, j = (k : Int) := ⟨j.toNat, by omega⟩
  replace hw := hw.mono (same_dels s6)
  replace hT := tabs_keepS hT st5 s6
  replace sA := sA.trans s6
  replace hs := Dn.mono (same_dels s6) _ _ hs
  replace hg := Dn.mono (same_dels s6) _ _ hg
  replace hr3 := Dn.mono (same_dels s6) _ _ hr3
  replace hgd := Dn.mono (same_dels s6) _ _ hgd
  clear s6 st5
  refine sqN (consI (opI (opI ⟨_, rfl, _, rfl, _, rfl, rd_takeD j st6 hgd fun a1 H7 s7 f1 => ?_⟩)))
  have st7 := st6.same s7
  replace hs := Dn.mono (same_dels (.of s7)) _ _ hs
  replace hg := Dn.mono (same_dels (.of s7)) _ _ hg
  replace hr3 := Dn.mono (same_dels (.of s7)) _ _ hr3
  replace hgd := Dn.mono (same_dels (.of s7)) _ _ hgd
  refine tupI ⟨_, rfl, len_1, fun q8 n8 => ?_⟩
  have f2 := dn_tupN st7 n8 (dna_cons hr3 dna_nil)
  have s8 : Same H7 (upd H7 q8 (.tup [vr])) := same_upd n8
  generalize upd H7 q8 (.tup [vr]) = H8 at f2 s8 ⊢
  have st8 := st7.same s8
  replace hs := Dn.mono (same_dels (.of s8)) _ _ hs
  replace hg := Dn.mono (same_dels (.of s8)) _ _ hg
  replace hr3 := Dn.mono (same_dels (.of s8)) _ _ hr3
  replace hgd := Dn.mono (same_dels (.of s8)) _ _ hgd
  replace f1 := Dn.mono (same_dels (.of s8)) _ _ f1
  refine rd_catD st8 f1 f2 (by simp; omega) fun a2 H9 s9 f3 => ?_
  have st9 := st8.same s9
  replace hs := Dn.mono (same_dels (.of s9)) _ _ hs
  replace hg := Dn.mono (same_dels (.of s9)) _ _ hg
  replace hr3 := Dn.mono (same_dels (.of s9)) _ _ hr3
  replace hgd := Dn.mono (same_dels (.of s9)) _ _ hgd
  refine ⟨_, rfl, _, rfl, (j : Int), 1, rfl, rfl, _, rfl, rd_dropI (j + 1) (by omega) st9 hgd fun a3 H10 s10 f4 => ?_⟩
  have st10 := st9.same s10
  replace hs := Dn.mono (same_dels (.of s10)) _ _ hs
  replace hg := Dn.mono (same_dels (.of s10)) _ _ hg
  replace hr3 := Dn.mono (same_dels (.of s10)) _ _ hr3
  replace hgd := Dn.mono (same_dels (.of s10)) _ _ hgd
  replace f3 := Dn.mono (same_dels (.of s10)) _ _ f3
  refine rd_catD st10 f3 f4 (by simp; omega) fun a4 H11 s11 f5 => ?_
  have st11 := st10.same s11
  replace hs := Dn.mono (same_dels (.of s11)) _ _ hs
  replace hg := Dn.mono (same_dels (.of s11)) _ _ hg
  replace hr3 := Dn.mono (same_dels (.of s11)) _ _ hr3
  replace hgd := Dn.mono (same_dels (.of s11)) _ _ hgd
  refine consI (opI ⟨len_1, fun q12 n12 => ?_⟩)
  have s12 : Same H11 (upd H11 q12 (.tup [.non])) := same_upd n12
  refine ⟨q12, 4, [.non], rfl, rfl, SqT.of upd_same, by simp, by decide, by decide, by decide, fun e => absurd e (by decide), fun _ q13 n13 => ?_⟩
  have f6 := dn_tupN (st11.new (u := .tup [.non]) n12) n13 (show DnA _ [.non, .non, .non, .non] ((List.replicate (4 : Int).toNat [V.non]).flatten) from dna_cons dn_non (dna_cons dn_non (dna_cons dn_non (dna_cons dn_non dna_nil))))
  have s13 := s12.trans (same_upd (u := .tup (List.replicate (4 : Int).toNat [V.non]).flatten) n13)
  generalize upd (upd H11 q12 (.tup [.non])) q13 (.tup (List.replicate (4 : Int).toNat [V.non]).flatten) = H13 at f6 s13 ⊢
  have st13 := st11.same s13
  replace hs := Dn.mono (same_dels (.of s13)) _ _ hs
  replace hg := Dn.mono (same_dels (.of s13)) _ _ hg
  replace hr3 := Dn.mono (same_dels (.of s13)) _ _ hr3
  replace hgd := Dn.mono (same_dels (.of s13)) _ _ hgd
  replace f5 := Dn.mono (same_dels (.of s13)) _ _ f5
  clear s12
  refine consI (opI ⟨len_1, fun q14 n14 => ?_⟩)
  have s14 : Same H13 (upd H13 q14 (.lst [.non])) := same_upd n14
  have sW : SameS st H6 (upd H13 q14 (.lst [.non])) := .of ((((((s7.trans s8).trans s9).trans s10).trans s11).trans s13).trans s14)
  refine rd_walkers rfl ((hw.mono (same_dels sW)).mono same_del1) ⟨q14, _, _, rfl, rfl, upd_same, by omega, by omega, ?_, fun q15 n15 => ?_⟩
  · show 1 * ((m : Nat) : Int).toNat ≤ sizeLine
    rw [sizeLine_eq]
    omega
  have f7 := dn_lstN (st13.new (u := .lst [.non]) n14) n15 (show DnA _ (List.replicate m .non) ((List.replicate ((m : Nat) : Int).toNat [V.non]).flatten) by rw [Int.toNat_natCast, rep_non]; exact dna_reps m)
  have s15 := s14.trans (same_upd (u := .lst (List.replicate ((m : Nat) : Int).toNat [V.non]).flatten) n15)
  generalize upd (upd H13 q14 (.lst [.non])) q15 (.lst (List.replicate ((m : Nat) : Int).toNat [V.non]).flatten) = H15 at f7 s15 ⊢
  have st15 := st13.same s15
  replace hs := Dn.mono (same_dels (.of s15)) _ _ hs
  replace hg := Dn.mono (same_dels (.of s15)) _ _ hg
  replace hr3 := Dn.mono (same_dels (.of s15)) _ _ hr3
  replace hgd := Dn.mono (same_dels (.of s15)) _ _ hgd
  replace f5 := Dn.mono (same_dels (.of s15)) _ _ f5
  replace f6 := Dn.mono (same_dels (.of s15)) _ _ f6
  clear s14 sW
  refine consI (cI ⟨len_4, fun q16 n16 => ?_⟩)
  have gW := dn_lstN st15 n16 (dna_cons f5 (dna_cons f6 (dna_cons f7 (dna_cons dn_non dna_nil))))
  have s16 := ((((((s7.trans s8).trans s9).trans s10).trans s11).trans s13).trans s15).trans (same_upd (u := .lst [a4, .ref q13, .ref q15, .non]) n16)
  have st16 := st15.new (u := .lst [a4, .ref q13, .ref q15, .non]) n16
  have s17 : Same H15 (upd H15 q16 (.lst [a4, .ref q13, .ref q15, .non])) := same_upd n16
  generalize upd H15 q16 (.lst [a4, .ref q13, .ref q15, .non]) = H16 at gW s16 st16 s17 ⊢
  replace hs := Dn.mono (same_dels (.of s17)) _ _ hs
  replace hg := Dn.mono (same_dels (.of s17)) _ _ hg
  replace hr3 := Dn.mono (same_dels (.of s17)) _ _ hr3
  refine sqN (opI ⟨_, rfl, rd_pickL (b := 4) rfl st16 gW rfl (by simp) (by simp) (fun Q' q => q) fun H18 vi di s18 st18 mi hi => ?_⟩)
  have sB : SameS st H6 H18 := (SameS.of s16).trans s18
  replace hw := (hw.mono (same_dels sB)).mono same_del1
  replace hT := tabs_keepS hT st6 sB
  replace sA := sA.trans sB
  replace hs := Dn.mono (same_dels s18) _ _ hs
  replace hg := Dn.mono (same_dels s18) _ _ hg
  replace hr3 := Dn.mono (same_dels s18) _ _ hr3
  replace hs := Dn.mono same_del1 _ _ hs
  replace hg := Dn.mono same_del1 _ _ hg
  replace hr3 := Dn.mono same_del1 _ _ hr3
  replace hi := Dn.mono same_del1 _ _ hi
  have c5 : isWish n m di = false := odd_wish mi c3 c4 m2
  clear s7 st7 f1 n8 f2 s8 st8 s9 st9 f3 s10 st10 f4 s11 st11 f5 n12 n13 s13 st13 f6 n14 n15 s15 st15 f7 n16 gW s16 st16 s17 s18 mi sB st6 hgd
  refine rd_first (S := fun σ => σ[1]? = some (some wv) ∧ σ[2]? = some (some vs) ∧ σ[3]? = some (some vg) ∧ σ[4]? = some (some vr) ∧ σ[9]? = some (some vi)) (W := TW "walker") (H0 := H18) hT (ExtN.refl _) (fun σ' H3 S e => ⟨_, S.1, _, S.2.1, _, S.2.2.1, wv, vs, vg, .int 1, d2, dg, (.int 1), n, m, L, rfl, (hw.ext e), (Dn.ext e _ _ hs), (Dn.ext e _ _ hg), (dn_int 1), ref_skip c2 (ref_one 5 c1 rfl rfl (Same.refl _))⟩) fun p fs H5 np k2 I => ?_
  clear k2
  refine rd_append I rfl (by decide) (fun σ' H3 S e => ⟨_, S.1, _, S.2.1, _, S.2.2.1, wv, vs, vg, .int 1, d2, dg, (.int 1), n, m, L, rfl, (hw.ext e), (Dn.ext e _ _ hs), (Dn.ext e _ _ hg), (dn_int 1), ref_skip c2 (ref_one 5 c1 rfl rfl (Same.refl _))⟩) fun fs H5 k2 I => ?_
  clear k2
  refine rd_append I rfl (by decide) (fun σ' H3 S e => ⟨_, S.1, _, S.2.1, _, S.2.2.1, wv, vs, vg, .int 0, d2, dg, (.int 0), n, m, L, rfl, (hw.ext e), (Dn.ext e _ _ hs), (Dn.ext e _ _ hg), (dn_int 0), ref_skip c2 (ref_one 5 c1 rfl rfl (Same.refl _))⟩) fun fs H5 k2 I => ?_
  clear k2
  refine rd_append I rfl (by decide) (fun σ' H3 S e => ⟨_, S.1, _, S.2.1, _, S.2.2.1, wv, vs, .int 0, vg, d2, (.int 0), dg, n, m, L, rfl, (hw.ext e), (Dn.ext e _ _ hs), (dn_int 0), (Dn.ext e _ _ hg), ref_skip c2 (ref_skip (zero_walks hm) (ref_one 5 c1 rfl rfl (Same.refl _)))⟩) fun fs H5 k2 I => ?_
  clear k2
  refine rd_first (S := fun σ => σ[1]? = some (some wv) ∧ σ[2]? = some (some vs) ∧ σ[3]? = some (some vg) ∧ σ[4]? = some (some vr) ∧ σ[9]? = some (some vi)) (W := TW "room") (H0 := H18) I.tabs I.ext (fun σ' H3 S e => ⟨_, S.1, _, S.2.1, _, S.2.2.2.1, wv, vs, vr, d2, dr, n, m, L, rfl, (hw.ext e), (Dn.ext e _ _ hs), (Dn.ext e _ _ hr3), ref_skip c2 (ref_one 6 c3 rfl rfl (Same.refl _))⟩) fun p2 fs2 H6 np2 k2 I2 => ?_
  have nep : p ≠ p2 := np2.ne I.lst (fun ps z => by cases z)
  replace I := I.ext1 I2.tabs (k2.ext np2 (ExtN.refl _))
  clear k2
  refine rd_append I2 rfl (by decide) (fun σ' H3 S e => ⟨_, S.1, _, S.2.1, _, S.2.2.2.1, wv, vs, vr, d2, dr, n, m, L, rfl, (hw.ext e), (Dn.ext e _ _ hs), (Dn.ext e _ _ hr3), ref_skip c2 (ref_one 6 c3 rfl rfl (Same.refl _))⟩) fun fs2 H6 k2 I3 => ?_
  replace I := I.keep I2.lst nep I2.new I3.tabs k2
  clear k2 np2 I2
  refine ifOrNot (rd_asked I rfl ⟨rfl, rfl, rfl, rfl, rfl⟩ (by decide) shp_walker eqv_walker fun H7 s7 => ⟨_, rfl, iteF ?_⟩)
  replace I3 := I3.ext1 (I3.tabs.ext s7) (extN_same s7)
  refine rd_asked I3 rfl ⟨rfl, rfl, rfl, rfl, rfl⟩ (by decide) shp_room eqv_room fun H8 s8 => ⟨_, rfl, iteF ?_⟩
  have e8 : ExtN H18 H8 := I3.ext.trans (extN_same s8)
  have T8 := I3.tabs.ext s8
  clear I I3 s7 s8 np nep
  refine nxI ?_
  dsimp only
  replace hs := Dn.ext e8 _ _ hs
  replace hg := Dn.ext e8 _ _ hg
  replace hr3 := Dn.ext e8 _ _ hr3
  replace hi := Dn.ext e8 _ _ hi
  replace hw := hw.ext e8
  refine rd_first (S := fun σ => σ[1]? = some (some wv) ∧ σ[2]? = some (some vs) ∧ σ[3]? = some (some vg) ∧ σ[4]? = some (some vr) ∧ σ[9]? = some (some vi)) (W := TW "wish") (H0 := H8) T8 (ExtN.refl _) (fun σ' H3 S e => ⟨_, S.1, _, S.2.1, _, S.2.2.2.2, wv, vs, vi, d2, di, n, m, L, rfl, (hw.ext e), (Dn.ext e _ _ hs), (Dn.ext e _ _ hi), ref_skip c2 (ref_one 3 c5 rfl rfl (Same.refl _))⟩) fun p fs H5 np k2 I => ?_
  clear k2
  refine rd_append I rfl (by decide) (fun σ' H3 S e => ⟨_, S.1, _, S.2.1, _, S.2.2.2.2, wv, vs, vi, .int 1, d2, di, (.int 1), n, m, L, rfl, (hw.ext e), (Dn.ext e _ _ hs), (Dn.ext e _ _ hi), (dn_int 1), ref_skip c2 (ref_one 3 c5 rfl rfl (Same.refl _))⟩) fun fs H5 k2 I => ?_
  clear k2
  refine rd_append I rfl (by decide) (fun σ' H3 S e => ⟨_, S.1, _, S.2.1, _, S.2.2.2.2, wv, vs, vi, d2, di, n, m, L, rfl, (hw.ext e), (Dn.ext e _ _ hs), (Dn.ext e _ _ hi), ref_skip c2 (ref_one 3 c5 rfl rfl (Same.refl _))⟩) fun fs H5 k2 I => ?_
  clear k2
  refine rd_append I rfl (by decide) (fun σ' H3 S e => ⟨_, S.1, _, S.2.1, _, S.2.2.2.2, wv, vs, vi, .non, d2, di, n, m, L, rfl, (hw.ext e), (Dn.ext e _ _ hs), (Dn.ext e _ _ hi), ref_skip c2 (ref_one 3 c5 rfl rfl (Same.refl _))⟩) fun fs H5 k2 I => ?_
  exact rd_asked I rfl ⟨rfl, rfl, rfl, rfl, rfl⟩ (by decide) shp_wish eqv_wish fun H' s' => hQ H' ((keepP_S sA).trans (.of (e8.trans (I.ext.trans (extN_same s'))))) (st18.ext (e8.trans (I.ext.trans (extN_same s')))) (I.tabs.ext s')
end
end Pw
set_option Elab.async false
set_option linter.all false
set_option maxRecDepth 100000
set_option maxHeartbeats 10000000
/-! The law itself. -/
namespace Pw
open PySem PySem.Spec PyProof.Rows L2 LamX
section
variable {P : Program} {w : World} {K : PySem.W.Frag} {mg : Str → Option Value} {base : Heap}
theorem fn0_of {k : Nat} {d : Df} {ps : List Str} {sp : Sp} (F : FnX P w K mg base k d ps sp) : Fn0 P w K mg base k d ps (fun vs H Q _ => sp vs H Q (fun _ _ _ => False)) :=
  ⟨fun vs H Q E h => F.len _ _ _ _ h, fun A outer s H args us vs Q E hr e0 hb hv h => codeAny_mono (F.run A outer s H args us vs Q _ hr e0 hb hv h) fun r s' hq => by
    cases r with
    | error e =>
      obtain ⟨a, B, H2, cls, d, rfl, fl, hok, ub, na, os, ag, z⟩ := hq
      exact z.elim
    | ok fl =>
      cases fl with
      | ret u => exact hq
      | next => exact hq
      | brk => exact hq
      | cont => exact hq⟩
theorem ok_World0 (T : Tx K mg) : Fn0 P w K mg base 5 d_World_init p_World_init (fun vs H Q _ => sp_Winit vs H Q (fun _ _ _ => False)) := fn0_of (ok_World_init T)
/-! ### data of rows and rules -/
theorem row_dn {n : Nat} {H : Hp} {st : Addr} {v : V} (hst : StOk H st) (h : RowAt n H v) : ∃ d, Dn (del H st) d v ∧ rowOk n d = true := by
  obtain ⟨p, vs, rfl, e, h1, h4, g⟩ := h
  obtain ⟨is, rfl, his⟩ := ints_of g
  refine ⟨_, dn_ints (del_tup hst e), ?_⟩
  rw [List.length_map] at h1 h4
  show (decide (1 ≤ (is.map D.int).length) && decide ((is.map D.int).length ≤ 4) && (is.map D.int).all (isWhole 0 ((n : Int) - 1))) = true
  rw [List.length_map, decide_eq_true h1, decide_eq_true h4, Bool.true_and, Bool.true_and, List.all_eq_true]
  intro d hd
  obtain ⟨i, hi, rfl⟩ := List.mem_map.mp hd
  obtain ⟨a, b⟩ := his i hi
  show (decide (0 ≤ i) && decide (i ≤ (n : Int) - 1)) = true
  rw [decide_eq_true a, decide_eq_true (by omega)]
  rfl
theorem all_dn {H : Hp} {G : V → Prop} {p : D → Bool} (hG : ∀ v, G v → ∃ d, Dn H d v ∧ p d = true) : ∀ {vs : List V}, (∀ v ∈ vs, G v) → ∃ ds : List D, DnA H ds vs ∧ ds.length = vs.length ∧ ds.all p = true
  | [], _ => ⟨[], dna_nil, rfl, rfl⟩
  | v :: r, h => by
    obtain ⟨d, h1, h2⟩ := hG v (h v List.mem_cons_self)
    obtain ⟨ds, g1, g2, g3⟩ := all_dn hG fun y hy => h y (List.mem_cons_of_mem _ hy)
    exact ⟨d :: ds, dna_cons h1 g1, by rw [List.length_cons, List.length_cons, g2], by rw [List.all_cons, h2, g3]; rfl⟩
theorem wd_del {H : Hp} {st : Addr} {v : V} {n m : Nat} {L : Int} (hst : StOk H st) (h : Wd H v n m L) : Wd (del H st) v n m L := by
  obtain ⟨p, dx, f, r, fs, rs, e, h1, h2, h3, h4, h5, h6⟩ := h
  refine ⟨p, dx, f, r, fs, rs, e, del_at (fun z => ?_) h1, del_tup hst h2, h3, del_tup hst h4, h5, h6⟩
  obtain ⟨xs, e2⟩ := hst.lst
  rw [z, e2] at h1
  cases h1
/-! ### what stands through a turn -/
structure Lw (st : Addr) (wv vs vb : V) (r : Addr) (rs : List V) (n m : Nat) (L : Int) (db : D) (H : Hp) : Prop where
  ok : StOk H st
  tabs : Tabs Tall H
  wd : Wd (del H st) wv n m L
  sa : StAt H vs n m L
  bx : Dn (del H st) db vb
  ne : r ≠ st
  rl : H r = some (.lst rs)
  rv : ∀ v ∈ rs, RlAt H v
theorem keepP_T {st : Addr} {H H' : Hp} (k : KeepP st H H') (ok : StOk H st) : SameT H H' := fun b xs e => k b _ (fun z => by
  obtain ⟨ys, e2⟩ := ok.lst
  rw [z, e2] at e
  cases e) (fun ps z => by cases z) e
theorem keepP_D {st : Addr} {H H' : Hp} (k : KeepP st H H') : ExtN (del H st) (del H' st) := fun b o e t => by
  by_cases h : b = st
  · rw [h, del_same] at e
    cases e
  · rw [del_ne h] at e ⊢
    exact k b o h t e
section
variable {st r : Addr} {wv vs vb : V} {rs : List V} {n m : Nat} {L : Int} {db : D} {H H' : Hp}
theorem Lw.keep (I : Lw st wv vs vb r rs n m L db H) (k : KeepP st H H') (ok : StOk H' st) (T : Tabs Tall H') : Lw st wv vs vb r rs n m L db H' :=
  ⟨ok, T, I.wd.ext (keepP_D k), I.sa.keep (keepP_T k I.ok), Dn.ext (keepP_D k) _ _ I.bx, I.ne, k _ _ I.ne (fun ps z => by cases z) I.rl, fun v hv => (I.rv v hv).keep (keepP_T k I.ok)⟩
theorem Lw.keepS (I : Lw st wv vs vb r rs n m L db H) (s : SameS st H H') (ok : StOk H' st) : Lw st wv vs vb r rs n m L db H' := I.keep (keepP_S s) ok (tabs_keepS I.tabs I.ok s)
theorem Lw.keepE (I : Lw st wv vs vb r rs n m L db H) (s : ExtN H H') (T : Tabs Tall H') : Lw st wv vs vb r rs n m L db H' := I.keep (.of s) (I.ok.ext s) T
theorem Lw.wd1 (I : Lw st wv vs vb r rs n m L db H) : Wd H wv n m L := I.wd.mono same_del1
theorem Lw.bx1 (I : Lw st wv vs vb r rs n m L db H) : Dn H db vb := Dn.mono same_del1 _ _ I.bx
end
theorem ext_seq {H H' : Hp} {a : Addr} {xs : List V} (e : ExtN H H') (h : SqL K H a xs) : SqL K H' a xs := by
  rcases h with (h | ⟨o, h⟩) | h
  · exact .inl (.inl (e _ _ h (fun ps z => by cases z)))
  · exact .inl (.inr ⟨o, e _ _ h (fun ps z => by cases z)⟩)
  · exact .inr h
theorem ifOrNot0 {a b : TE} {t v : TS} {D : Ends} {σ : L2.St} {H : Hp} (h : a σ H fun x H' => ∃ c, x = .bl c ∧ (if (!c) = true then (if true = true then t D σ H' else v D σ H') else b σ H' fun y H'' => ∃ c2, y = .bl c2 ∧ (if (!c2) = true then t D σ H'' else v D σ H''))) :
    tIfS (tOr (tNot (tB a)) (tNot (tB b))) t v D σ H := h
/-- the law's own: what may stand behind a turn -/
structure TurnSo (a : Addr) (H : Hp) (σ : L2.St) (H1 : Hp) : Prop where
  env : ∃ x1 x2 x3 x4 x5 x6 x7 x8 x9 : Option V, σ = [some (.ref a), x1, x2, x3, x4, x5, x6, x7, x8, x9]
  ext : ExtN H H1
  tabs : Tabs Tall H1
theorem boot_max1 : bootBuiltins "max" = some (.builtin "max") := by decide +kernel
theorem boot_min1 : bootBuiltins "min" = some (.builtin "min") := by decide +kernel
def sp_law (K : PySem.W.Frag) : Sp := fun vz H Q _ => ∃ (a : Addr) (ns : List Int), vz = [.ref a] ∧ SqL K H a (ns.map V.int) ∧ ns.length < 1000 ∧ Tabs Tall H ∧ ∀ H', Q (.bl true) H'
theorem ok_law (T : Tx K mg) (TB : ∀ p ∈ tabs, TabB base mg p.1 p.2) : Fn0 P w K mg base 25 d_law p_law (sp_law K) := by
  have TB1 : TabB base mg 1047 1043 := TB _ (List.mem_of_getElem? (i := 0) rfl)
  have TB2 : TabB base mg 1054 1050 := TB _ (List.mem_of_getElem? (i := 1) rfl)
  have TB3 : TabB base mg 1061 1057 := TB _ (List.mem_of_getElem? (i := 2) rfl)
  have TB4 : TabB base mg 1068 1064 := TB _ (List.mem_of_getElem? (i := 3) rfl)
  have TB5 : TabB base mg 1075 1071 := TB _ (List.mem_of_getElem? (i := 4) rfl)
  have TB6 : TabB base mg 1080 1078 := TB _ (List.mem_of_getElem? (i := 5) rfl)
  refine FunD.ok (fn_law T) s_law (fun vz H Q E h => ?_) (fun cdv A outer s H vz Q E hr h => ?_)
  · obtain ⟨a, ns, rfl, _⟩ := h
    rfl
  obtain ⟨a, ns, rfl, ha, hn, hT, hQ⟩ := h
  refine ⟨_, PSs.nox (pss_cons (ps_for PassesOwn.never rfl (pi_range1 rfl (mf_range T) (pa_cons (pe_callB (call_max2 rfl) rfl (mf_max T) boot_max1 (pa_cons pe_int (pa_cons (pe_callB (call_min2 rfl) rfl (mf_min T) boot_min1 (pa_cons pe_int (pa_cons (pe_callB call_len rfl (mf_len T) boot_len1 (pa_cons (pv 0) pa_nil)) pa_nil))) pa_nil))) pa_nil)) (pg_name (i := 1) s_law.nd rfl (.inl rfl)) (pss_cons (ps_set (i := 2) s_law.nd rfl (.inl rfl) (pe_lst (pa_cons (pe_op op_add (pe_call (ok_law_cell_at T) (hr.mono (by decide)) rfl (mg_law_cell_at T) (fn_law_cell_at T).kp (b_law_cell_at T) .nil pass0 (pa_cons (pv 0) (pa_cons (pv 1) pa_nil))) (pe_op op_mul pe_int (pv 1))) pa_nil))) (pss_cons (ps_asg (pe_call (ok_law_parts T) (hr.mono (by decide)) rfl (mg_law_parts T) (fn_law_parts T).kp (b_law_parts T) .nil pass0 (pa_cons (pv 2) (pa_cons pe_int (pa_cons pe_int (pa_cons pe_int pa_nil))))) (pg_tup rfl (pgs_cons (pg_name (i := 3) s_law.nd rfl (.inl rfl)) (pgs_cons (pg_name (i := 4) s_law.nd rfl (.inl rfl)) (pgs_cons (pg_name (i := 5) s_law.nd rfl (.inl rfl)) pgs_nil))))) (pss_cons (ps_set (i := 6) s_law.nd rfl (.inl rfl) (pe_make (mk_World T) (ok_World0 T) (hr.mono (by decide)) rfl (mg_World T) (b_World_init T) .nil pass0 (pa_cons (pv 3) (pa_cons (pv 4) (pa_cons (pv 5) pa_nil))))) (pss_cons (ps_set (i := 7) s_law.nd rfl (.inl rfl) (pe_call (ok_law_stand T) (hr.mono (by decide)) rfl (mg_law_stand T) (fn_law_stand T).kp (b_law_stand T) .nil pass0 (pa_cons (pv 2) (pa_cons (pe_callB call_len rfl (mf_len T) boot_len1 (pa_cons (pv 3) pa_nil)) (pa_cons (pv 4) (pa_cons (pe_callB call_len rfl (mf_len T) boot_len1 (pa_cons (pv 5) pa_nil)) pa_nil)))))) (pss_cons (ps_set (i := 8) s_law.nd rfl (.inl rfl) (pe_tup (pa_cons (pe_ix ix_tup (pv 7) pe_int (fun _ _ => rfl)) (pa_cons (pe_callTy call_tuple_of rfl (mf_tuple T) boot_tuple1 (pa_cons (pe_lc (own := [("_law_mark", 9)]) (g := gName 9) rfl s_law.nd (pi_tup (pe_ix ix_tup (pv 7) pe_int (fun _ _ => rfl))) (blkOk_by (own := [("_law_mark", 9)]) (N := n_law) (sc := defScope d_law.st) (by decide +kernel)) (fun _ _ _ _ _ => (pg_name (i := 9) s_law.nd rfl (.inl rfl))) (fun _ _ _ _ _ => pts_nil) (fun _ _ _ _ _ => (pe_tup (pa_cons (pv 9) pa_nil)))) pa_nil)) pa_nil)))) (pss_cons (ps_if (pt_not (pt_val (pe_call ((fun T => ok_law_stand_doors T TB1) T) (hr.mono (by decide)) rfl (mg_law_stand_doors T) (fn_law_stand_doors T).kp (b_law_stand_doors T) .nil pass0 (pa_cons (pv 6) (pa_cons (pe_call (ok_law_odd_stand T) (hr.mono (by decide)) rfl (mg_law_odd_stand T) (fn_law_odd_stand T).kp (b_law_odd_stand T) .nil pass0 (pa_cons (pv 2) (pa_cons (pv 7) (pa_cons (pv 4) pa_nil)))) (pa_cons (pv 7) (pa_cons (pv 8) pa_nil))))))) (pss_one (ps_ret pe_bl)) pss_nil) (pss_cons (ps_if (pt_not (pt_val (pe_call ((fun T => ok_law_box_doors T TB2) T) (hr.mono (by decide)) rfl (mg_law_box_doors T) (fn_law_box_doors T).kp (b_law_box_doors T) .nil pass0 (pa_cons (pv 6) (pa_cons (pe_call (ok_law_odd_box T) (hr.mono (by decide)) rfl (mg_law_odd_box T) (fn_law_odd_box T).kp (b_law_odd_box T) .nil pass0 (pa_cons (pv 2) (pa_cons (pv 7) (pa_cons (pv 4) pa_nil)))) (pa_cons (pv 7) (pa_cons (pv 8) pa_nil))))))) (pss_one (ps_ret pe_bl)) pss_nil) (pss_cons (ps_if (PW.pt (pw_or (pt_not (pt_val (pe_call ((fun T => ok_law_rule_doors T TB3) T) (hr.mono (by decide)) rfl (mg_law_rule_doors T) (fn_law_rule_doors T).kp (b_law_rule_doors T) .nil pass0 (pa_cons (pe_call (ok_law_odd_rule T) (hr.mono (by decide)) rfl (mg_law_odd_rule T) (fn_law_odd_rule T).kp (b_law_odd_rule T) .nil pass0 (pa_cons (pv 2) (pa_cons (pe_ix ix_list (pv 5) pe_int (fun _ _ => rfl)) pa_nil))) (pa_cons (pe_ix ix_list (pv 5) pe_int (fun _ _ => rfl)) (pa_cons (pv 4) pa_nil)))))) (pw_or1 (pt_not (pt_val (pe_call ((fun T => ok_law_life_doors T TB5) T) (hr.mono (by decide)) rfl (mg_law_life_doors T) (fn_law_life_doors T).kp (b_law_life_doors T) .nil pass0 (pa_cons (pv 2) (pa_cons (pe_ix ix_list (pv 5) pe_int (fun _ _ => rfl)) pa_nil)))))))) (pss_one (ps_ret pe_bl)) pss_nil) (pss_one (ps_if (PW.pt (pw_or (pt_not (pt_val (pe_call ((fun T => ok_law_count_doors T TB4) T) (hr.mono (by decide)) rfl (mg_law_count_doors T) (fn_law_count_doors T).kp (b_law_count_doors T) .nil pass0 (pa_cons (pv 2) (pa_cons (pv 6) (pa_cons (pv 7) (pa_cons (pv 8) pa_nil))))))) (pw_or1 (pt_not (pt_val (pe_call ((fun T => ok_law_other_doors T TB6) T) (hr.mono (by decide)) rfl (mg_law_other_doors T) (fn_law_other_doors T).kp (b_law_other_doors T) .nil pass0 (pa_cons (pv 2) (pa_cons (pv 6) (pa_cons (pv 7) pa_nil))))))))) (pss_one (ps_ret pe_bl)) pss_nil))))))))))) (pss_one (ps_ret pe_bl))), ?_⟩
  have hsz : sizeLine = 16777216 := sizeLine_eq
  obtain ⟨N, hN0, hN1, hR⟩ : ∃ N : Nat, N ≤ 6 ∧ 0 ≤ N ∧ (if (if ((ns.map V.int).length : Int) < 6 then ((ns.map V.int).length : Int) else 6) > 1 then (if ((ns.map V.int).length : Int) < 6 then ((ns.map V.int).length : Int) else 6) else 1) = (N : Int) := by
    refine ⟨(if (if ((ns.map V.int).length : Int) < 6 then ((ns.map V.int).length : Int) else 6) > 1 then (if ((ns.map V.int).length : Int) < 6 then ((ns.map V.int).length : Int) else 6) else 1).toNat, ?_, ?_, ?_⟩
    · split <;> split <;> omega
    · omega
    · rw [Int.toNat_of_nonneg]
      split <;> split <;> omega
  refine ⟨_, rfl, _, (ns.map V.int).length, rfl, .inl ⟨_, ha, rfl⟩, 6, _, rfl, 1, _, rfl, ?_⟩
  rw [hR]
  refine ⟨(N : Int), rfl, by omega, by omega, ?_⟩
  rw [Int.toNat_natCast]
  refine for_range (fun i σ H1 => TurnSo a H σ H1) ⟨⟨_, _, _, _, _, _, _, _, _, rfl⟩, ExtN.refl _, hT⟩ (fun i σ H1 hi I => ?_) (fun σ H1 I => hQ H1)
  obtain ⟨⟨x1, x2, x3, x4, x5, x6, x7, x8, x9, rfl⟩, e1, T1⟩ := I
  have ei : (0 : Int) + (i : Int) = ((i : Nat) : Int) := Int.zero_add _
  rw [ei]
  show tSeq _ _ _ _ H1
  refine sqN (consI (opI ⟨_, rfl, _, rfl, a, i, ns, rfl, ext_seq e1 ha, fun z => ⟨_, rfl, 239, (i : Int), rfl, rfl, .inl ⟨by decide, by decide⟩, z, _, rfl, rfl, len_1, fun st nst => ?_⟩⟩))
  have st1 : StOk (upd H1 st (.lst [.int (z + 239 * (i : Int))])) st := .inl ⟨_, upd_same⟩
  have e2 := e1.trans (extN_same (same_upd (u := .lst [.int (z + 239 * (i : Int))]) nst))
  have nN : NoN H st := noN_of e1 nst
  have T2 := T1.ext (same_upd (u := .lst [.int (z + 239 * (i : Int))]) nst)
  generalize upd H1 st (.lst [.int (z + 239 * (i : Int))]) = H2 at st1 e2 T2 ⊢
  clear nst T1 e1 ei
  refine sqA ⟨_, rfl, st, rfl, st1, fun H3 t f r xs rs n m L s3 st3 et ef fst lx n1 n4 rows er rst lr m1 m2 rls L1 L3 => ?_⟩
  refine ⟨t, _, rfl, SqT.of et, rfl, _, _, rfl, _, _, rfl, _, _, rfl, rfl, ?_⟩
  obtain ⟨dw, hdw, ldw, gdw⟩ := all_dn (H := del H3 st) (p := rowOk n) (G := RowAt n H3) (fun v g => row_dn st3 g) rows
  obtain ⟨dr, hdr, ldr, gdr⟩ := all_dn (H := del H3 st) (p := isRule) (G := RlAt H3) (fun v g => g.dn st3) rls
  have dF : Dn (del H3 st) (.lst dw) (.ref f) := dn_lst (del_at fst ef) hdw
  have dRl : Dn (del H3 st) (.lst dr) (.ref r) := dn_lst (del_at rst er) hdr
  have T3 := tabs_keepS T2 st1 s3
  have k3 : KeepP st H2 H3 := keepP_S s3
  have cL : isWhole 1 6 (.int L) = true := by
    show (decide (1 ≤ L) && decide (L ≤ 6)) = true
    rw [decide_eq_true L1, decide_eq_true (by omega)]
    rfl
  have cW : waysOk (.lst dw) = true := by
    show (decide (1 ≤ dw.length) && decide (dw.length ≤ 8) && dw.all (rowOk dw.length)) = true
    rw [show dw.length = n by omega, gdw, decide_eq_true n1, decide_eq_true (by omega)]
    rfl
  have cR : rulesOk (.lst dr) = true := by
    show (decide (1 ≤ dr.length) && decide (dr.length ≤ 3) && dr.all isRule) = true
    rw [show dr.length = m by omega, gdr, decide_eq_true m1, decide_eq_true (by omega)]
    rfl
  clear T2 st1 s3 rows gdw gdr hdw hdr et ef
  refine sqN ⟨_, rfl, _, rfl, _, rfl, fun x dx nx ndx ne => ?_⟩
  have sM : Same H3 (upd (upd H3 dx (.own x)) x (.ins c_World dx [])) := same_mk nx ndx ne
  refine ⟨x, dx, .ref f, .int L, .ref r, dw, .int L, dr, rfl, upd_same, Dn.mono sM _ _ (Dn.mono same_del1 _ _ dF), cW, dn_int L, Dn.mono sM _ _ (Dn.mono same_del1 _ _ dRl), (fun c => by rw [cL] at c; cases c), (fun _ c => by rw [cR] at c; cases c), fun _ _ H4 fl g ys zs sm ea el ly eg lz => ⟨rfl, ?_⟩⟩
  have s4 : Same H3 H4 := fun b o e => by
    have bx : b ≠ x := ne_of_none e nx
    have z := sm b o (by rw [del_ne bx]; exact sM b o e)
    rw [del_ne bx] at z
    exact z
  have hw : Wd H4 (.ref x) n m L := ⟨x, dx, fl, g, ys, zs, rfl, ea, el, by omega, eg, by omega, by omega, by omega⟩
  have st4 := st3.same s4
  have T4 := T3.ext s4
  have dF4 := Dn.mono (same_dels (SameS.of (st := st) s4)) _ _ dF
  have dR4 := Dn.mono (same_dels (SameS.of (st := st) s4)) _ _ dRl
  clear sM sm ea el eg nx ndx ne T3 dF dRl cW cR
  refine sqN ⟨_, rfl, _, rfl, _, n, rfl, len_ofL dF4 (by omega), _, rfl, _, rfl, _, m, rfl, len_ofL dR4 (by omega), st, n, m, L, rfl, n1, by omega, by omega, by omega, by omega, st4, fun H5 vs s5 st5 sa => ?_⟩
  obtain ⟨pv, pr, pk, is, js, evs, ev, er5, ek, lR, lK, hi5, hj5⟩ := id sa
  subst evs
  refine sqN (tupI (consI (opI ⟨_, rfl, pv, _, 0, _, rfl, rfl, SqT.of ev, rfl, consI (cbI (consI ?_))⟩)))
  refine rd_few (j := 9) (show 9 < 10 by decide) (fun Q' q => ⟨_, rfl, pv, _, 1, _, rfl, rfl, SqT.of ev, rfl, q⟩) ek (by omega) st5 fun pf H6 s6 dF6 => ?_
  obtain ⟨pf', ys6, epf, npf, hpf, hys⟩ := dn_lstAt dF6
  refine ⟨pf', ys6, by rw [epf], .inl ⟨SqL.of hpf, fun q nq => ⟨len_2, fun b nb => ?_⟩⟩⟩
  have st6 := st5.same s6
  have s7 : Same H5 (upd (upd H6 q (.tup ys6)) b (.tup [.ref pr, .ref q])) := s6.trans ((same_upd nq).trans (same_upd nb))
  have st7 := st5.same s7
  have db : Dn (del (upd (upd H6 q (.tup ys6)) b (.tup [.ref pr, .ref q])) st) (.tup [.tup (is.map D.int), .tup (fewD js)]) (.ref b) := dn_tupN (st6.new nq) nb (dna_cons (dn_ints (del_tup (st6.new nq) (upd2 (s6 _ _ er5) nq))) (dna_cons (dn_tupN st6 nq hys) dna_nil))
  generalize upd (upd H6 q (.tup ys6)) b (.tup [.ref pr, .ref q]) = H7 at s7 st7 db ⊢
  have s57 : SameS st H4 H7 := s5.trans (.of s7)
  have sX : SameS st H3 H7 := (SameS.of s4).trans s57
  have I : Lw st (.ref x) (.ref pv) (.ref b) r rs n m L _ H7 := ⟨st7, tabs_keepS T4 st4 s57, (wd_del st4 hw).mono (same_dels s57), sa.keep (.of s7), db, rst, sX _ _ rst er, fun v hv => (rls v hv).keep (sX.tup st3)⟩
  have k7 : KeepP st H2 H7 := k3.trans (keepP_S sX)
  have bg := box_good lR lK hi5 hj5
  have zb := good_slim (R := is.map D.int) (js := js)
  generalize D.tup [.tup (is.map D.int), .tup (fewD js)] = dB at I bg zb
  obtain ⟨v0, rs, rfl⟩ : ∃ v0 rs', rs = v0 :: rs' := by
    cases rs with
    | nil => simp at lr; omega
    | cons v r => exact ⟨v, r, rfl⟩
  clear db s57 sX s7 st7 hpf hys nq nb s6 dF6 npf epf st6 ev er5 ek lR lK hi5 hj5 sa s5 st5 dF4 dR4 T4 st4 hw s4 k3 rls er lz ly ldr ldw lx st3 lr
  refine ifNot ⟨_, rfl, _, rfl, _, rfl, _, rfl, st, .ref pv, n, m, L, rfl, I.ok, I.sa, n1, n4, m1, m2, by omega, by omega, fun H8 vo d is' js' d1 d2 i' j' s8 st8 ho md1 md2 hi2 hj2 lr2 lk2 mem => ⟨_, rfl, _, rfl, ?_⟩⟩
  replace I := I.keepS s8 st8
  obtain ⟨dS, hdS, gS⟩ := I.sa.dn I.ok
  refine ⟨.ref x, vo, .ref pv, .ref b, d, dS, dB, n, m, L, rfl, I.tabs, I.wd1, m1, Dn.mono same_del1 _ _ ho, Dn.mono same_del1 _ _ hdS, I.bx1, zb, odd_stand mem md1 md2 hi2 hj2 lr2 lk2 n4 (by omega), gS, bg, fun H9 e9 T9 => ⟨_, rfl, iteF ?_⟩⟩
  replace I := I.keepE e9 T9
  replace k7 := (k7.trans (keepP_S s8)).trans (.of e9)
  clear s8 st8 ho md1 md2 hi2 hj2 lr2 lk2 mem hdS gS e9 T9
  refine nxI ?_
  dsimp only
  refine ifNot ⟨_, rfl, _, rfl, _, rfl, _, rfl, st, .ref pv, n, m, L, rfl, I.ok, I.sa, n1, n4, m1, m2, by omega, by omega, fun H10 vo d is' js' d1 i' s8 st8 ho md1 hi2 lr2 lk2 mem => ⟨_, rfl, _, rfl, ?_⟩⟩
  replace I := I.keepS s8 st8
  obtain ⟨dS, hdS, gS⟩ := I.sa.dn I.ok
  refine ⟨.ref x, vo, .ref pv, .ref b, d, dS, dB, n, m, L, rfl, I.tabs, I.wd1, Dn.mono same_del1 _ _ ho, Dn.mono same_del1 _ _ hdS, I.bx1, box_slim mem md1, zb, odd_box mem md1 lr2 lk2 n1, gS, bg, fun H11 e9 T9 => ⟨_, rfl, iteF ?_⟩⟩
  replace I := I.keepE e9 T9
  replace k7 := (k7.trans (keepP_S s8)).trans (.of e9)
  clear s8 st8 ho md1 hi2 lr2 lk2 mem hdS gS e9 T9
  refine nxI ?_
  dsimp only
  refine ifOrNot ⟨_, rfl, _, rfl, r, _, 0, v0, rfl, rfl, SqL.of I.rl, atI0 _ _, st, v0, rfl, I.ok, I.rv v0 List.mem_cons_self, fun H12 vo d s8 st8 ho no => ⟨_, rfl, r, _, 0, v0, rfl, rfl, SqL.of (s8 _ _ I.ne I.rl), atI0 _ _, _, rfl, ?_⟩⟩
  replace I := I.keepS s8 st8
  obtain ⟨dR, hdR, gR⟩ := (I.rv v0 List.mem_cons_self).dn I.ok
  refine ⟨vo, v0, .int L, d, dR, .int L, rfl, I.tabs, Dn.mono same_del1 _ _ ho, Dn.mono same_del1 _ _ hdR, dn_int L, no, gR, cL, fun H13 e9 T9 => ⟨_, rfl, iteF ?_⟩⟩
  replace I := I.keepE e9 T9
  replace k7 := (k7.trans (keepP_S s8)).trans (.of e9)
  clear s8 st8 ho no hdR gR e9 T9
  obtain ⟨dR, hdR, gR⟩ := (I.rv v0 List.mem_cons_self).dn I.ok
  refine ⟨_, rfl, _, rfl, r, _, 0, v0, rfl, rfl, SqL.of I.rl, atI0 _ _, st, v0, dR, rfl, I.ok, I.tabs, hdR, gR, fun H14 k14 st14 T14 => ⟨_, rfl, iteF ?_⟩⟩
  replace I := I.keep k14 st14 T14
  replace k7 := k7.trans k14
  clear hdR gR k14 st14 T14
  refine nxI ?_
  dsimp only
  obtain ⟨dS, hdS, gS⟩ := I.sa.dn I.ok
  refine ifOrNot0 ⟨_, rfl, _, rfl, _, rfl, _, rfl, st, .ref x, .ref pv, .ref b, dS, dB, n, m, L, rfl, I.ok, I.tabs, I.wd, m1, hdS, I.bx, zb, gS, bg, fun H15 k15 st15 T15 => ⟨_, rfl, iteF ?_⟩⟩
  replace I := I.keep k15 st15 T15
  replace k7 := k7.trans k15
  clear hdS gS k15 st15 T15
  obtain ⟨dS, hdS, gS⟩ := I.sa.dn I.ok
  refine ⟨_, rfl, _, rfl, _, rfl, st, .ref x, .ref pv, dS, n, m, L, rfl, I.ok, I.tabs, I.wd, m1, m2, n1, n4, hdS, gS, fun H16 k16 st16 T16 => ⟨_, rfl, iteF ?_⟩⟩
  refine nxI ⟨⟨_, _, _, _, _, _, _, _, _, rfl⟩, (k7.trans k16).ext nN e2, T16⟩
end
end Pw
set_option Elab.async false
set_option linter.all false
set_option maxRecDepth 100000
set_option maxHeartbeats 4000000
/-! The end. -/
namespace Pw
open PySem PySem.Spec PyProof.Rows L2 LamX
theorem tall_of {H : Hp} (h : ∀ p ∈ tabs, H p.2 = some (.tbl #[])) : Tabs Tall H := fun p hp => by
  have z : p.1 ∈ tabs.map (·.2) := by
    have y : Tall.all (fun p => (tabs.map (·.2)).contains p.1) = true := by decide +kernel
    simpa using List.all_eq_true.mp y p hp
  obtain ⟨c, hc, e⟩ := List.mem_map.mp z
  exact TabS.nil (by rw [← e]; exact h c hc)
theorem binds_law {K : PySem.W.Frag} {mg : Str → Option Value} (T : Tx K mg) (s : Shared) (u : Value) : BindsTo s (fdOf K d_law.at_) ⟨[u], []⟩ [("_law_script", u)] := by
  obtain ⟨oc, od, dV, kV, doc, pm, an, cdv, ct, osl, e, lk, hcd, hD, hK⟩ := (fn_law T).ex
  rw [e]
  rcases hD with ⟨_, rfl⟩ | ⟨e, _⟩
  · exact .of_eq (bind1 (by decide +kernel) kV doc pm an cdv ct [u] rfl)
  · exact absurd rfl e
theorem law_at (w : World) (mg : Str → Option Value) (fa : Addr) (h : Heap) (Y : hk.says w h) (G : h.Ns mainGlobals mg) (hm : mg "law" = some (.ref fa)) : ∃ K : PySem.W.Frag, K.In h ∧ LawAtS PySem.Challenge.rw_palewalk_k94_whole_refused_at_every_door w K CX0 25 63 "_law_script" mg fa h := by
  obtain ⟨K, S⟩ := Y
  have T := tx_of S G
  obtain rfl : fa = d_law.at_ := by
    have z := mg_law T
    rw [hm] at z
    exact Value.ref.inj (Option.some.inj z)
  refine ⟨K, S.kin, fdOf K d_law.at_, tabs, sp_law K, S.empty, S.out, fun p hp => PySem.W.codeHd_of_K S.kin (T.hds p hp), binds_law T, fun H a ns hl _ hT hS => ⟨a, ns, rfl, hS, by omega, tall_of hT, fun _ => rfl⟩, fun base hK hN TB => ok_law T TB⟩
end Pw
set_option Elab.async false
set_option linter.all false
open PySem PySem.W PyProof.Rows
set_option maxRecDepth 100000 in
set_option maxHeartbeats 0 in
theorem PySem.Challenge.cw_palewalk_k94_whole_refused_at_every_door_holds : PySem.Challenge.rw_palewalk_k94_whole_refused_at_every_door.Holds := by
  w_on; o_law
  refine HandSHeadRun.head_any (r := Pw.R) (q := Pw.qv) (H := Pw.hk) (ob := Pw.ob) (M := 9000) (loose := Pw.loose) (kwd := []) Pw.ob_eq (by kernel_rfl) (fun s => by kernel_rfl) Pw.run (by rfl) (by rfl) (by rfl) (by rfl) (by first | assumption | decide +kernel) (by decide +kernel) ⟨rfl, rfl, rfl, rfl, rfl, by decide +kernel⟩ ?hw ?hc
  case hw => w_witness2
  case hc =>
    refine LamX.walk_ofTsE (l := PySem.Challenge.rw_palewalk_k94_whole_refused_at_every_door) (n := 63) (k := 25) (x := "_law_script") (CX := fun _ => L2.CX0) rfl (by rw [PySem.sizeLine_eq]; decide) rfl ⟨rfl, by decide, by decide⟩ (fun w mg fa h Y G hm => Pw.law_at w mg fa h Y G hm) (fun _ _ _ _ _ z => z)
