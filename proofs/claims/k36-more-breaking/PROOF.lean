import PyProof.Rows.All
import Wide.All
import OpenK.AllK
import Wide.FinOn
import HandS.ForMost
import HandS.ForExc
import HandS.ExcInit
import HandS.ExcField
import HandS.TryMany
import HandS.IsInst
import HandS.Wide
import HandS.TupLe
import HandS.TupAny
import HandS.SortOrd
import HandS.ClsMeth
import PySem.Challenge.RW_iceopened_k36_whole_more_breaking
import KE.KStateDown
import Lean
import HandS.Head0
import HandS.Head1
import HandS.Head2
import HandS.HeadEnd
import HandS.HeadHook1
import HandS.WordsExc
set_option Elab.async false
set_option linter.all false
set_option maxRecDepth 100000
set_option maxHeartbeats 0
namespace Ik
open PySem L2
open PySem.W (Frag)
/-- the i-th statement of the text -/
def top (i : Nat) : Stmt := PySem.Challenge.pw_iceopened_k36_whole_more_breaking.main.body.getD i (.Pass ⟨0, 0, 0, 0⟩)
/-- what isinstance asks of the class of an instance -/
structure InsTy (K : Frag) (C : Addr) : Prop where
  ha : PySem.W.findIn K (.ref C) "__class__" = some (some (.builtin "object.__class__"))
  hn : PySem.W.specialIn K (.builtin "object.__class__") "__get__" = some (some (.builtin "getset_descriptor.__get__"))
  ht : PySem.W.takesIn K (.builtin "object.__class__") = some true
  hm : PySem.W.mroIn K C (.type "object") = some true
/-- C.m, read off the class itself, is u -/
structure ClsFn (K : Frag) (C : Addr) (m : Str) (u : Value) : Prop where
  rd : PySem.W.readsIn K C (.type "type") = true
  ga : PySem.W.specialIn K (.ref C) "__getattribute__" = some (some (.builtin "type.__getattribute__"))
  at_ : PySem.W.findCls K (.ref C) (.type "type") m = some (.val u)
/-- an exception class of the text with its own __init__ at f -/
structure ExcTy (K : Frag) (C f : Addr) : Prop where
  ox : OexC K C
  xf : XfC K C
  ic : PySem.W.findIn K (.ref C) "__init__" = some (some (.ref f))
  ti : PySem.W.typeIn K (.ref f) = some (.type "function")
  te : PySem.W.exmOne K (.ref C) (.ref C) = some true

abbrev cChannel : Addr := 314
abbrev cVessel : Addr := 370
abbrev cBreaker : Addr := 412
abbrev cShip : Addr := 445
abbrev cIce : Addr := 561
abbrev cWaters : Addr := 603
abbrev cLeg : Addr := 669
abbrev cWalk : Addr := 751
abbrev cWorld : Addr := 887
abbrev cFaulty : Addr := 241
abbrev cIceError : Addr := 31
abbrev S_Faulty_init : Stmt := (inClass (top 13) 0)
abbrev a_Faulty_init : Addr := 238
abbrev S_is_whole : Stmt := (top 17)
abbrev a_is_whole : Addr := 250
abbrev S_is_within : Stmt := (top 18)
abbrev a_is_within : Addr := 257
abbrev S_is_name : Stmt := (top 19)
abbrev a_is_name : Addr := 262
abbrev S_need_names : Stmt := (top 26)
abbrev a_need_names : Addr := 269
abbrev S_need_numbers : Stmt := (top 27)
abbrev a_need_numbers : Addr := 276
abbrev S_Channel_init : Stmt := (inClass (top 28) 0)
abbrev a_Channel_init : Addr := 290
abbrev S_Channel_ends : Stmt := (inClass (top 28) 1)
abbrev a_Channel_ends : Addr := 297
abbrev S_Channel_beyond : Stmt := (inClass (top 28) 2)
abbrev a_Channel_beyond : Addr := 304
abbrev S_Vessel_init : Stmt := (inClass (top 29) 0)
abbrev a_Vessel_init : Addr := 332
abbrev S_Vessel_settle : Stmt := (inClass (top 29) 1)
abbrev a_Vessel_settle : Addr := 339
abbrev S_Vessel_thins : Stmt := (inClass (top 29) 3)
abbrev a_Vessel_thins : Addr := 353
abbrev S_Vessel_lets : Stmt := (inClass (top 29) 4)
abbrev a_Vessel_lets : Addr := 360
abbrev S_Breaker_init : Stmt := (inClass (top 30) 0)
abbrev a_Breaker_init : Addr := 388
abbrev S_Breaker_thins : Stmt := (inClass (top 30) 2)
abbrev a_Breaker_thins : Addr := 402
abbrev S_Ship_init : Stmt := (inClass (top 31) 0)
abbrev a_Ship_init : Addr := 428
abbrev S_Ice_init : Stmt := (inClass (top 37) 0)
abbrev a_Ice_init : Addr := 461
abbrev S_Ice_need_hour : Stmt := (inClass (top 37) 1)
abbrev a_Ice_need_hour : Addr := 468
abbrev S_Ice_need_breaking : Stmt := (inClass (top 37) 2)
abbrev a_Ice_need_breaking : Addr := 475
abbrev S_Ice_break_at : Stmt := (inClass (top 37) 3)
abbrev a_Ice_break_at : Addr := 482
abbrev S_Ice_breakings : Stmt := (inClass (top 37) 5)
abbrev a_Ice_breakings : Addr := 494
abbrev S_Ice_grown : Stmt := (inClass (top 37) 6)
abbrev a_Ice_grown : Addr := 501
abbrev S_Ice_rows : Stmt := (inClass (top 37) 7)
abbrev a_Ice_rows : Addr := 508
abbrev S_Ice_bases : Stmt := (inClass (top 37) 8)
abbrev a_Ice_bases : Addr := 513
abbrev S_Ice_thick : Stmt := (inClass (top 37) 9)
abbrev a_Ice_thick : Addr := 518
abbrev S_Waters_init : Stmt := (inClass (top 38) 0)
abbrev a_Waters_init : Addr := 579
abbrev S_Waters_ice : Stmt := (inClass (top 38) 1)
abbrev a_Waters_ice : Addr := 586
abbrev S_Waters_thick : Stmt := (inClass (top 38) 2)
abbrev a_Waters_thick : Addr := 593
abbrev S_is_entry : Stmt := (top 41)
abbrev a_is_entry : Addr := 614
abbrev S_are_entries : Stmt := (top 42)
abbrev a_are_entries : Addr := 621
abbrev S_is_table : Stmt := (top 43)
abbrev a_is_table : Addr := 626
abbrev S_table_told : Stmt := (top 44)
abbrev a_table_told : Addr := 633
abbrev S_turns_of : Stmt := (top 46)
abbrev a_turns_of : Addr := 638
abbrev S_Leg_init : Stmt := (inClass (top 47) 0)
abbrev a_Leg_init : Addr := 652
abbrev S_Leg_arrives : Stmt := (inClass (top 47) 1)
abbrev a_Leg_arrives : Addr := 659
abbrev S_Leg_lands : Stmt := (inClass (top 47) 2)
abbrev a_Leg_lands : Addr := 666
abbrev S_Walk_init : Stmt := (inClass (top 48) 0)
abbrev a_Walk_init : Addr := 687
abbrev S_Walk_look : Stmt := (inClass (top 48) 1)
abbrev a_Walk_look : Addr := 694
abbrev S_Walk_word_for : Stmt := (inClass (top 48) 2)
abbrev a_Walk_word_for : Addr := 701
abbrev S_Walk_faults : Stmt := (inClass (top 48) 3)
abbrev a_Walk_faults : Addr := 708
abbrev S_Walk_done : Stmt := (inClass (top 48) 4)
abbrev a_Walk_done : Addr := 715
abbrev S_Walk_table : Stmt := (inClass (top 48) 5)
abbrev a_Walk_table : Addr := 720
abbrev S_Walk_at_end : Stmt := (inClass (top 48) 7)
abbrev a_Walk_at_end : Addr := 734
abbrev S_good_walk : Stmt := (top 49)
abbrev a_good_walk : Addr := 762
abbrev S_is_list : Stmt := (top 56)
abbrev a_is_list : Addr := 769
abbrev S_need_kinds : Stmt := (top 57)
abbrev a_need_kinds : Addr := 774
abbrev S_need_unlike : Stmt := (top 58)
abbrev a_need_unlike : Addr := 781
abbrev S_need_ports : Stmt := (top 59)
abbrev a_need_ports : Addr := 788
abbrev S_World_init : Stmt := (inClass (top 60) 0)
abbrev a_World_init : Addr := 800
abbrev S_World_begin_hour : Stmt := (inClass (top 60) 1)
abbrev a_World_begin_hour : Addr := 807
abbrev S_World_channels : Stmt := (inClass (top 60) 3)
abbrev a_World_channels : Addr := 821
abbrev S_World_vessels : Stmt := (inClass (top 60) 6)
abbrev a_World_vessels : Addr := 842
abbrev S_World_channel : Stmt := (inClass (top 60) 7)
abbrev a_World_channel : Addr := 849
abbrev S_World_vessel : Stmt := (inClass (top 60) 8)
abbrev a_World_vessel : Addr := 856
abbrev S_World_from_hour : Stmt := (inClass (top 60) 11)
abbrev a_World_from_hour : Addr := 877
abbrev S_l_cell : Stmt := (top 62)
abbrev a_l_cell : Addr := 898
abbrev S_l_box : Stmt := (top 63)
abbrev a_l_box : Addr := 905
abbrev S_l_take : Stmt := (top 64)
abbrev a_l_take : Addr := 912
abbrev S_l_names : Stmt := (top 65)
abbrev a_l_names : Addr := 917
abbrev S_l_small_world : Stmt := (top 66)
abbrev a_l_small_world : Addr := 924
abbrev S_l_world : Stmt := (top 67)
abbrev a_l_world : Addr := 929
abbrev S_l_vessels : Stmt := (top 69)
abbrev a_l_vessels : Addr := 943
abbrev S_l_entries : Stmt := (top 73)
abbrev a_l_entries : Addr := 965
abbrev S_l_table : Stmt := (top 74)
abbrev a_l_table : Addr := 972
abbrev S_l_asked : Stmt := (top 75)
abbrev a_l_asked : Addr := 979
abbrev S_l_safe : Stmt := (top 76)
abbrev a_l_safe : Addr := 986
abbrev S_l_kept : Stmt := (top 77)
abbrev a_l_kept : Addr := 991
abbrev S_law : Stmt := (top 78)
abbrev a_law : Addr := 996
/-- what the top leaves, as the walk asks it -/
structure Txt (K : Frag) (mg : Str → Option Value) : Prop where
  g_is_whole : mg "is_whole" = some (.ref 250)
  g_is_within : mg "is_within" = some (.ref 257)
  g_is_name : mg "is_name" = some (.ref 262)
  g_need_names : mg "need_names" = some (.ref 269)
  g_need_numbers : mg "need_numbers" = some (.ref 276)
  g_is_entry : mg "is_entry" = some (.ref 614)
  g_are_entries : mg "are_entries" = some (.ref 621)
  g_is_table : mg "is_table" = some (.ref 626)
  g_table_told : mg "table_told" = some (.ref 633)
  g_turns_of : mg "turns_of" = some (.ref 638)
  g_good_walk : mg "good_walk" = some (.ref 762)
  g_is_list : mg "is_list" = some (.ref 769)
  g_need_kinds : mg "need_kinds" = some (.ref 774)
  g_need_unlike : mg "need_unlike" = some (.ref 781)
  g_need_ports : mg "need_ports" = some (.ref 788)
  g_l_cell : mg "_law_cell" = some (.ref 898)
  g_l_box : mg "_law_box" = some (.ref 905)
  g_l_take : mg "_law_take" = some (.ref 912)
  g_l_names : mg "_law_names" = some (.ref 917)
  g_l_small_world : mg "_law_small_world" = some (.ref 924)
  g_l_world : mg "_law_world" = some (.ref 929)
  g_l_vessels : mg "_law_vessels" = some (.ref 943)
  g_l_entries : mg "_law_entries" = some (.ref 965)
  g_l_table : mg "_law_table" = some (.ref 972)
  g_l_asked : mg "_law_asked" = some (.ref 979)
  g_l_safe : mg "_law_safe" = some (.ref 986)
  g_l_kept : mg "_law_kept" = some (.ref 991)
  g_law : mg "law" = some (.ref 996)
  g_Channel : mg "Channel" = some (.ref 314)
  g_Vessel : mg "Vessel" = some (.ref 370)
  g_Breaker : mg "Breaker" = some (.ref 412)
  g_Ship : mg "Ship" = some (.ref 445)
  g_Ice : mg "Ice" = some (.ref 561)
  g_Waters : mg "Waters" = some (.ref 603)
  g_Leg : mg "Leg" = some (.ref 669)
  g_Walk : mg "Walk" = some (.ref 751)
  g_World : mg "World" = some (.ref 887)
  g_Faulty : mg "Faulty" = some (.ref 241)
  g_IceError : mg "IceError" = some (.ref 31)
  z_isinstance : mg "isinstance" = none
  z_int : mg "int" = none
  z_bool : mg "bool" = none
  z_str : mg "str" = none
  z_len : mg "len" = none
  z_all : mg "all" = none
  z_list : mg "list" = none
  z_tuple : mg "tuple" = none
  z_dict : mg "dict" = none
  z_sorted : mg "sorted" = none
  z_enumerate : mg "enumerate" = none
  z_min : mg "min" = none
  z_max : mg "max" = none
  z_sum : mg "sum" = none
  z_range : mg "range" = none
  i_LONGEST_NAME : ∃ t, mg "LONGEST_NAME" = some (.int 8 t)
  i_MOST_HOUR : ∃ t, mg "MOST_HOUR" = some (.int 1000000 t)
  i_MOST_ICE : ∃ t, mg "MOST_ICE" = some (.int 1000000 t)
  i_MOST_DEPTH : ∃ t, mg "MOST_DEPTH" = some (.int 1000 t)
  i_MOST_LENGTH : ∃ t, mg "MOST_LENGTH" = some (.int 1000 t)
  i_MOST_GROWTH : ∃ t, mg "MOST_GROWTH" = some (.int 1000 t)
  i_LAST_HOUR_ice : ∃ t, mg "LAST_HOUR_ice" = some (.int 1000000000 t)
  i_LAST_BREAKING : ∃ t, mg "LAST_BREAKING" = some (.int 100000000 t)
  i_MOST_CUT : ∃ t, mg "MOST_CUT" = some (.int 1000000 t)
  i_MOST_BREAKINGS : ∃ t, mg "MOST_BREAKINGS" = some (.int 200 t)
  i_LAST_HOUR_tables : ∃ t, mg "LAST_HOUR_tables" = some (.int 100000000 t)
  i_MOST_BEGIN : ∃ t, mg "MOST_BEGIN" = some (.int 1000000 t)
  i_MOST_PORTS : ∃ t, mg "MOST_PORTS" = some (.int 8 t)
  i_MOST_CHANNELS : ∃ t, mg "MOST_CHANNELS" = some (.int 12 t)
  i_MOST_BREAKERS : ∃ t, mg "MOST_BREAKERS" = some (.int 4 t)
  i_MOST_SHIPS : ∃ t, mg "MOST_SHIPS" = some (.int 6 t)
  s_LETTERS : ∃ t, mg "LETTERS" = some (.str "abcdefghijklmnopqrstuvwxyz" t)
  cl_Channel : Cls K 314
  mk_Channel : Mk K 314 290
  na_Channel_name : NoAttr K 314 "name"
  na_Channel_one : NoAttr K 314 "one"
  na_Channel_other : NoAttr K 314 "other"
  na_Channel_hours : NoAttr K 314 "hours"
  na_Channel_depth : NoAttr K 314 "depth"
  na_Channel_first : NoAttr K 314 "first"
  na_Channel_growth : NoAttr K 314 "growth"
  na_Channel_most : NoAttr K 314 "most"
  me_Channel_ends : Meth K 314 "ends" 297
  me_Channel_beyond : Meth K 314 "beyond" 304
  cl_Breaker : Cls K 412
  mk_Breaker : Mk K 412 388
  na_Breaker_name : NoAttr K 412 "name"
  na_Breaker_port : NoAttr K 412 "port"
  na_Breaker_hour : NoAttr K 412 "hour"
  na_Breaker_strength : NoAttr K 412 "strength"
  na_Breaker_draught : NoAttr K 412 "draught"
  na_Breaker_cut : NoAttr K 412 "cut"
  me_Breaker_settle : Meth K 412 "settle" 339
  me_Breaker_thins : Meth K 412 "thins" 402
  me_Breaker_lets : Meth K 412 "lets" 360
  cl_Ship : Cls K 445
  mk_Ship : Mk K 445 428
  na_Ship_name : NoAttr K 445 "name"
  na_Ship_port : NoAttr K 445 "port"
  na_Ship_hour : NoAttr K 445 "hour"
  na_Ship_strength : NoAttr K 445 "strength"
  na_Ship_draught : NoAttr K 445 "draught"
  na_Ship_goal : NoAttr K 445 "goal"
  me_Ship_settle : Meth K 445 "settle" 339
  me_Ship_thins : Meth K 445 "thins" 353
  me_Ship_lets : Meth K 445 "lets" 360
  cl_Ice : Cls K 561
  mk_Ice : Mk K 561 461
  na_Ice_way : NoAttr K 561 "way"
  na_Ice_since : NoAttr K 561 "since"
  na_Ice_cuts : NoAttr K 561 "cuts"
  me_Ice_need_hour : Meth K 561 "need_hour" 468
  me_Ice_need_breaking : Meth K 561 "need_breaking" 475
  me_Ice_break_at : Meth K 561 "break_at" 482
  me_Ice_breakings : Meth K 561 "breakings" 494
  me_Ice_grown : Meth K 561 "grown" 501
  me_Ice_rows : Meth K 561 "rows" 508
  me_Ice_bases : Meth K 561 "bases" 513
  me_Ice_thick : Meth K 561 "thick" 518
  cl_Waters : Cls K 603
  mk_Waters : Mk K 603 579
  na_Waters_of_world : NoAttr K 603 "of_world"
  na_Waters_by_name : NoAttr K 603 "by_name"
  me_Waters_ice : Meth K 603 "ice" 586
  me_Waters_thick : Meth K 603 "thick" 593
  cl_Leg : Cls K 669
  mk_Leg : Mk K 669 652
  na_Leg_goes : NoAttr K 669 "goes"
  na_Leg_through : NoAttr K 669 "through"
  na_Leg_begins : NoAttr K 669 "begins"
  me_Leg_arrives : Meth K 669 "arrives" 659
  me_Leg_lands : Meth K 669 "lands" 666
  cl_Walk : Cls K 751
  mk_Walk : Mk K 751 687
  na_Walk_of_world : NoAttr K 751 "of_world"
  na_Walk_legs : NoAttr K 751 "legs"
  na_Walk_seas : NoAttr K 751 "seas"
  na_Walk_wrong : NoAttr K 751 "wrong"
  na_Walk_gone : NoAttr K 751 "gone"
  me_Walk_look : Meth K 751 "look" 694
  me_Walk_word_for : Meth K 751 "word_for" 701
  me_Walk_faults : Meth K 751 "faults" 708
  me_Walk_done : Meth K 751 "done" 715
  me_Walk_table : Meth K 751 "table" 720
  me_Walk_at_end : Meth K 751 "at_end" 734
  cl_World : Cls K 887
  mk_World : Mk K 887 800
  na_World_beginning : NoAttr K 887 "beginning"
  na_World_all_ports : NoAttr K 887 "all_ports"
  na_World_all_channels : NoAttr K 887 "all_channels"
  na_World_all_breakers : NoAttr K 887 "all_breakers"
  na_World_all_ships : NoAttr K 887 "all_ships"
  me_World_begin_hour : Meth K 887 "begin_hour" 807
  me_World_channels : Meth K 887 "channels" 821
  me_World_vessels : Meth K 887 "vessels" 842
  me_World_channel : Meth K 887 "channel" 849
  me_World_vessel : Meth K 887 "vessel" 856
  me_World_from_hour : Meth K 887 "from_hour" 877
  in_Channel : InsTy K 314
  in_Breaker : InsTy K 412
  in_Ship : InsTy K 445
  k_SB : PySem.W.kitOne K (.ref 445) (.ref 412) = some false
  cf_Vessel : ClsFn K 370 "__init__" (.ref 332)
  cf_IceError : ClsFn K 31 "__init__" (.builtin "ValueError.__init__")
  ex_Faulty : ExcTy K 241 238
  na_Faulty_name : NoAttr K 241 "name"
  na_Faulty_number : NoAttr K 241 "number"
  na_Faulty_word : NoAttr K 241 "word"
  f_Faulty_init : ∃ fd, Fun K "__init__" "Faulty.__init__" S_Faulty_init 238 fd ∧ Binds K fd ["self", "name", "number", "word"] []
  f_is_whole : ∃ fd, Fun K "is_whole" "is_whole" S_is_whole 250 fd ∧ Binds K fd ["thing"] []
  f_is_within : ∃ fd, Fun K "is_within" "is_within" S_is_within 257 fd ∧ Binds K fd ["thing", "low", "high"] []
  f_is_name : ∃ fd, Fun K "is_name" "is_name" S_is_name 262 fd ∧ Binds K fd ["thing"] []
  f_need_names : ∃ fd, Fun K "need_names" "need_names" S_need_names 269 fd ∧ Binds K fd ["things"] []
  f_need_numbers : ∃ fd, Fun K "need_numbers" "need_numbers" S_need_numbers 276 fd ∧ Binds K fd ["rows"] []
  f_Channel_init : ∃ fd, Fun K "__init__" "Channel.__init__" S_Channel_init 290 fd ∧ Binds K fd ["self", "name", "one", "other", "hours", "depth", "first", "growth", "most"] []
  f_Channel_ends : ∃ fd, Fun K "ends" "Channel.ends" S_Channel_ends 297 fd ∧ Binds K fd ["self"] []
  f_Channel_beyond : ∃ fd, Fun K "beyond" "Channel.beyond" S_Channel_beyond 304 fd ∧ Binds K fd ["self", "port"] []
  f_Vessel_init : ∃ fd, Fun K "__init__" "Vessel.__init__" S_Vessel_init 332 fd ∧ Binds K fd ["self", "name", "port", "hour", "strength", "draught"] []
  f_Vessel_settle : ∃ fd, Fun K "settle" "Vessel.settle" S_Vessel_settle 339 fd ∧ Binds K fd ["self", "name", "port", "hour", "strength", "draught"] []
  f_Vessel_thins : ∃ fd, Fun K "thins" "Vessel.thins" S_Vessel_thins 353 fd ∧ Binds K fd ["self"] []
  f_Vessel_lets : ∃ fd, Fun K "lets" "Vessel.lets" S_Vessel_lets 360 fd ∧ Binds K fd ["self", "channel"] []
  f_Breaker_init : ∃ fd, Fun K "__init__" "Breaker.__init__" S_Breaker_init 388 fd ∧ Binds K fd ["self", "name", "port", "hour", "strength", "draught", "cut"] []
  f_Breaker_thins : ∃ fd, Fun K "thins" "Breaker.thins" S_Breaker_thins 402 fd ∧ Binds K fd ["self"] []
  f_Ship_init : ∃ fd, Fun K "__init__" "Ship.__init__" S_Ship_init 428 fd ∧ Binds K fd ["self", "name", "port", "goal", "hour", "strength", "draught"] []
  f_Ice_init : ∃ fd, Fun K "__init__" "Ice.__init__" S_Ice_init 461 fd ∧ Binds K fd ["self", "channel", "begin"] []
  f_Ice_need_hour : ∃ fd, Fun K "need_hour" "Ice.need_hour" S_Ice_need_hour 468 fd ∧ Binds K fd ["self", "hour"] []
  f_Ice_need_breaking : ∃ fd, Fun K "need_breaking" "Ice.need_breaking" S_Ice_need_breaking 475 fd ∧ Binds K fd ["self", "hour", "cut"] []
  f_Ice_break_at : ∃ fd, Fun K "break_at" "Ice.break_at" S_Ice_break_at 482 fd ∧ Binds K fd ["self", "hour", "cut"] []
  f_Ice_breakings : ∃ fd, Fun K "breakings" "Ice.breakings" S_Ice_breakings 494 fd ∧ Binds K fd ["self"] []
  f_Ice_grown : ∃ fd, Fun K "grown" "Ice.grown" S_Ice_grown 501 fd ∧ Binds K fd ["self", "level", "gap"] []
  f_Ice_rows : ∃ fd, Fun K "rows" "Ice.rows" S_Ice_rows 508 fd ∧ Binds K fd ["self"] []
  f_Ice_bases : ∃ fd, Fun K "bases" "Ice.bases" S_Ice_bases 513 fd ∧ Binds K fd ["self"] []
  f_Ice_thick : ∃ fd, Fun K "thick" "Ice.thick" S_Ice_thick 518 fd ∧ Binds K fd ["self", "hour"] []
  f_Waters_init : ∃ fd, Fun K "__init__" "Waters.__init__" S_Waters_init 579 fd ∧ Binds K fd ["self", "world"] []
  f_Waters_ice : ∃ fd, Fun K "ice" "Waters.ice" S_Waters_ice 586 fd ∧ Binds K fd ["self", "name"] []
  f_Waters_thick : ∃ fd, Fun K "thick" "Waters.thick" S_Waters_thick 593 fd ∧ Binds K fd ["self", "name", "hour"] []
  f_is_entry : ∃ fd, Fun K "is_entry" "is_entry" S_is_entry 614 fd ∧ Binds K fd ["begin", "channels", "thing"] []
  f_are_entries : ∃ fd, Fun K "are_entries" "are_entries" S_are_entries 621 fd ∧ Binds K fd ["begin", "channels", "thing"] []
  f_is_table : ∃ fd, Fun K "is_table" "is_table" S_is_table 626 fd ∧ Binds K fd ["world", "thing"] []
  f_table_told : ∃ fd, Fun K "table_told" "table_told" S_table_told 633 fd ∧ Binds K fd ["world", "table"] []
  f_turns_of : ∃ fd, Fun K "turns_of" "turns_of" S_turns_of 638 fd ∧ Binds K fd ["world", "table"] []
  f_Leg_init : ∃ fd, Fun K "__init__" "Leg.__init__" S_Leg_init 652 fd ∧ Binds K fd ["self", "hour", "channel", "start"] []
  f_Leg_arrives : ∃ fd, Fun K "arrives" "Leg.arrives" S_Leg_arrives 659 fd ∧ Binds K fd ["self"] []
  f_Leg_lands : ∃ fd, Fun K "lands" "Leg.lands" S_Leg_lands 666 fd ∧ Binds K fd ["self"] []
  f_Walk_init : ∃ fd, Fun K "__init__" "Walk.__init__" S_Walk_init 687 fd ∧ Binds K fd ["self", "world", "table"] []
  f_Walk_look : ∃ fd, Fun K "look" "Walk.look" S_Walk_look 694 fd ∧ Binds K fd ["self", "name", "number", "hour", "channel"] []
  f_Walk_word_for : ∃ fd, Fun K "word_for" "Walk.word_for" S_Walk_word_for 701 fd ∧ Binds K fd ["self", "vessel", "hour", "channel", "met"] []
  f_Walk_faults : ∃ fd, Fun K "faults" "Walk.faults" S_Walk_faults 708 fd ∧ Binds K fd ["self"] []
  f_Walk_done : ∃ fd, Fun K "done" "Walk.done" S_Walk_done 715 fd ∧ Binds K fd ["self"] []
  f_Walk_table : ∃ fd, Fun K "table" "Walk.table" S_Walk_table 720 fd ∧ Binds K fd ["self"] []
  f_Walk_at_end : ∃ fd, Fun K "at_end" "Walk.at_end" S_Walk_at_end 734 fd ∧ Binds K fd ["self", "name"] []
  f_good_walk : ∃ fd, Fun K "good_walk" "good_walk" S_good_walk 762 fd ∧ Binds K fd ["world", "table"] []
  f_is_list : ∃ fd, Fun K "is_list" "is_list" S_is_list 769 fd ∧ Binds K fd ["thing", "low", "high"] []
  f_need_kinds : ∃ fd, Fun K "need_kinds" "need_kinds" S_need_kinds 774 fd ∧ Binds K fd ["ports", "channels", "breakers", "ships"] []
  f_need_unlike : ∃ fd, Fun K "need_unlike" "need_unlike" S_need_unlike 781 fd ∧ Binds K fd ["names"] []
  f_need_ports : ∃ fd, Fun K "need_ports" "need_ports" S_need_ports 788 fd ∧ Binds K fd ["names", "ports"] []
  f_World_init : ∃ fd, Fun K "__init__" "World.__init__" S_World_init 800 fd ∧ Binds K fd ["self", "begin", "ports", "channels", "breakers", "ships"] []
  f_World_begin_hour : ∃ fd, Fun K "begin_hour" "World.begin_hour" S_World_begin_hour 807 fd ∧ Binds K fd ["self"] []
  f_World_channels : ∃ fd, Fun K "channels" "World.channels" S_World_channels 821 fd ∧ Binds K fd ["self"] []
  f_World_vessels : ∃ fd, Fun K "vessels" "World.vessels" S_World_vessels 842 fd ∧ Binds K fd ["self"] []
  f_World_channel : ∃ fd, Fun K "channel" "World.channel" S_World_channel 849 fd ∧ Binds K fd ["self", "name"] []
  f_World_vessel : ∃ fd, Fun K "vessel" "World.vessel" S_World_vessel 856 fd ∧ Binds K fd ["self", "name"] []
  f_World_from_hour : ∃ fd, Fun K "from_hour" "World.from_hour" S_World_from_hour 877 fd ∧ Binds K fd ["self", "vessel"] []
  f_l_cell : ∃ fd, Fun K "_law_cell" "_law_cell" S_l_cell 898 fd ∧ Binds K fd ["_law_script", "_law_k"] []
  f_l_box : ∃ fd, Fun K "_law_box" "_law_box" S_l_box 905 fd ∧ Binds K fd ["_law_cell_here"] []
  f_l_take : ∃ fd, Fun K "_law_take" "_law_take" S_l_take 912 fd ∧ Binds K fd ["_law_box_here", "_law_many"] []
  f_l_names : ∃ fd, Fun K "_law_names" "_law_names" S_l_names 917 fd ∧ Binds K fd ["_law_box_here", "_law_many"] []
  f_l_small_world : ∃ fd, Fun K "_law_small_world" "_law_small_world" S_l_small_world 924 fd ∧ Binds K fd ["_law_box_here"] []
  f_l_world : ∃ fd, Fun K "_law_world" "_law_world" S_l_world 929 fd ∧ Binds K fd ["_law_rows"] []
  f_l_vessels : ∃ fd, Fun K "_law_vessels" "_law_vessels" S_l_vessels 943 fd ∧ Binds K fd ["_law_rows"] []
  f_l_entries : ∃ fd, Fun K "_law_entries" "_law_entries" S_l_entries 965 fd ∧ Binds K fd ["_law_box_here", "_law_rows", "_law_vessel", "_law_many"] []
  f_l_table : ∃ fd, Fun K "_law_table" "_law_table" S_l_table 972 fd ∧ Binds K fd ["_law_box_here", "_law_rows"] []
  f_l_asked : ∃ fd, Fun K "_law_asked" "_law_asked" S_l_asked 979 fd ∧ Binds K fd ["_law_world_here", "_law_table_here"] []
  f_l_safe : ∃ fd, Fun K "_law_safe" "_law_safe" S_l_safe 986 fd ∧ Binds K fd ["_law_rows", "_law_done"] []
  f_l_kept : ∃ fd, Fun K "_law_kept" "_law_kept" S_l_kept 991 fd ∧ Binds K fd ["_law_before", "_law_behind"] []
  f_law : ∃ fd, Fun K "law" "law" S_law 996 fd ∧ Binds K fd ["_law_script"] []
end Ik


namespace Ik
open PySem PySem.Spec PyProof.Rows L2
open PySem.W (Frag)
/-! ### facts of the top -/
inductive Ft where
  | glo (x : Str) (a : Addr) | fre (x : Str) | num (x : Str) (i : Int) | txt (x z : Str) | cls (a : Addr) | noa (a : Addr) (f : Str) | met (a : Addr) (m : Str) (f : Addr) | mak (a f : Addr)
  | ity (a : Addr) | kit (t c : Value) (b : Bool) | cfn (a : Addr) (m : Str) (u : Value) | exc (a f : Addr)
def oo (a b : Option (Option Value)) : Bool := decide (a = b)
def ob (a b : Option Bool) : Bool := decide (a = b)
def isNum (i : Int) : Option (Option Value) → Bool
  | some (some (.int j _)) => decide (j = i)
  | _ => false
def isTxt (z : Str) : Option (Option Value) → Bool
  | some (some (.str y _)) => decide (y = z)
  | _ => false
/-- the class object of an exception over ValueError -/
def excShape (C : Addr) : Option Obj → Bool
  | some ⟨.type "type", _, .cls cd, sl⟩ => (match cd.mro, sl.toList with
    | .ref C' :: bm, [_, _, _, _, some (.builtin n), _] => decide (C' = C) && (decide (n = "ValueError.__new__") && (!cd.hasDel && (cd.hasDict && PySem.HandSPX.refsVE bm)))
    | _, _ => false)
  | _ => false
def Ft.ok (K : Frag) : Ft → Bool
  | .glo x a => oo (PySem.W.nsIn K mainGlobals x) (some (some (.ref a)))
  | .fre x => oo (PySem.W.nsIn K mainGlobals x) (some none)
  | .num x i => isNum i (PySem.W.nsIn K mainGlobals x)
  | .txt x z => isTxt z (PySem.W.nsIn K mainGlobals x)
  | .cls a => [PySem.W.plainGet K a Str.empty, PySem.W.hasDictIn K a, PySem.W.plainOver K a, oo (PySem.W.findIn K (.ref a) "__setattr__") (some (some (.builtin "object.__setattr__")))].all id
  | .noa a f => oo (PySem.W.findIn K (.ref a) f) (some none)
  | .met a m f => [oo (PySem.W.findIn K (.ref a) m) (some (some (.ref f))), PySem.W.isFn K (.ref f), PySem.W.keepIn K (.ref f)].all id
  | .mak a f => [PySem.W.makesIn K a, oo (PySem.W.findIn K (.ref a) "__init__") (some (some (.ref f))), PySem.W.isFn K (.ref f), PySem.W.keepIn K (.ref a)].all id
  | .ity a => [oo (PySem.W.findIn K (.ref a) "__class__") (some (some (.builtin "object.__class__"))), oo (PySem.W.specialIn K (.builtin "object.__class__") "__get__") (some (some (.builtin "getset_descriptor.__get__"))),
      ob (PySem.W.takesIn K (.builtin "object.__class__")) (some true), ob (PySem.W.mroIn K a (.type "object")) (some true)].all id
  | .kit t c b => ob (PySem.W.kitOne K t c) (some b)
  | .cfn a m u => [PySem.W.readsIn K a (.type "type"), oo (PySem.W.specialIn K (.ref a) "__getattribute__") (some (some (.builtin "type.__getattribute__"))),
      (match PySem.W.findCls K (.ref a) (.type "type") m with
        | some (.val v) => decide (v = u)
        | _ => false)].all id
  | .exc a f => [excShape a (K.lookup a), oo (PySem.W.findIn K (.ref a) "__setattr__") (some (some (.builtin "object.__setattr__"))), ob (PySem.W.subIn K (.ref a) (.type "BaseException")) (some true),
      decide (PySem.W.typeIn K (.ref a) = some (.type "type")), PySem.W.keepIn K (.ref a), xfB K a, oo (PySem.W.findIn K (.ref a) "__init__") (some (some (.ref f))),
      decide (PySem.W.typeIn K (.ref f) = some (.type "function")), ob (PySem.W.exmOne K (.ref a) (.ref a)) (some true)].all id
theorem oo_ok {a b : Option (Option Value)} (h : oo a b = true) : a = b := of_decide_eq_true h
theorem ob_ok {a b : Option Bool} (h : ob a b = true) : a = b := of_decide_eq_true h
theorem al {b : Bool} {l : List Bool} (h : (b :: l).all id = true) : b = true ∧ l.all id = true := Bool.and_eq_true_iff.mp h
section
variable {K : Frag} {h : Heap} {mg : Str → Option Value}
theorem glo_ok (X : K.In h) (G : h.Ns mainGlobals mg) {x : Str} {a : Addr} (c : (Ft.glo x a).ok K = true) : mg x = some (.ref a) := PySem.W.mg_of X G (oo_ok c)
theorem fre_ok (X : K.In h) (G : h.Ns mainGlobals mg) {x : Str} (c : (Ft.fre x).ok K = true) : mg x = none := PySem.W.mg_none_of X G (oo_ok c)
theorem num_ok (X : K.In h) (G : h.Ns mainGlobals mg) {x : Str} {i : Int} (c : (Ft.num x i).ok K = true) : ∃ t, mg x = some (.int i t) := by
  have c2 : isNum i (PySem.W.nsIn K mainGlobals x) = true := c
  unfold isNum at c2
  split at c2
  · rename_i j t e
    rw [← of_decide_eq_true c2]
    exact ⟨t, PySem.W.mg_of X G e⟩
  · cases c2
theorem txt_ok (X : K.In h) (G : h.Ns mainGlobals mg) {x z : Str} (c : (Ft.txt x z).ok K = true) : ∃ t, mg x = some (.str z t) := by
  have c2 : isTxt z (PySem.W.nsIn K mainGlobals x) = true := c
  unfold isTxt at c2
  split at c2
  · rename_i y t e
    rw [← of_decide_eq_true c2]
    exact ⟨t, PySem.W.mg_of X G e⟩
  · cases c2
theorem cls_ok {a : Addr} (c : (Ft.cls a).ok K = true) : Cls K a := by
  obtain ⟨c1, c⟩ := al c; obtain ⟨c2, c⟩ := al c; obtain ⟨c3, c⟩ := al c; obtain ⟨c4, c⟩ := al c
  exact ⟨c1, c2, c3, oo_ok c4⟩
theorem noa_ok {a : Addr} {f : Str} (c : (Ft.noa a f).ok K = true) : NoAttr K a f := oo_ok c
theorem met_ok {a f : Addr} {m : Str} (c : (Ft.met a m f).ok K = true) : Meth K a m f := by
  obtain ⟨c1, c⟩ := al c; obtain ⟨c2, c⟩ := al c; obtain ⟨c3, c⟩ := al c
  exact ⟨oo_ok c1, c2, c3⟩
theorem mak_ok {a f : Addr} (c : (Ft.mak a f).ok K = true) : Mk K a f := by
  obtain ⟨c1, c⟩ := al c; obtain ⟨c2, c⟩ := al c; obtain ⟨c3, c⟩ := al c; obtain ⟨c4, c⟩ := al c
  exact ⟨c1, oo_ok c2, c3, c4⟩
theorem ity_ok {a : Addr} (c : (Ft.ity a).ok K = true) : InsTy K a := by
  obtain ⟨c1, c⟩ := al c; obtain ⟨c2, c⟩ := al c; obtain ⟨c3, c⟩ := al c; obtain ⟨c4, c⟩ := al c
  exact ⟨oo_ok c1, oo_ok c2, ob_ok c3, ob_ok c4⟩
theorem kit_ok {t u : Value} {b : Bool} (c : (Ft.kit t u b).ok K = true) : PySem.W.kitOne K t u = some b := ob_ok c
theorem cfn_ok {a : Addr} {m : Str} {u : Value} (c : (Ft.cfn a m u).ok K = true) : ClsFn K a m u := by
  obtain ⟨c1, c⟩ := al c; obtain ⟨c2, c⟩ := al c; obtain ⟨c3, c⟩ := al c
  refine ⟨c1, oo_ok c2, ?_⟩
  split at c3
  · rename_i v e
    rw [e, of_decide_eq_true c3]
  · cases c3
theorem shape_ok {C : Addr} {o : Option Obj} (c : excShape C o = true) : ∃ nm q N bs bm sn sub ab col dd k0 k1 k2 k3 k5, o = some (excClassObj nm q C N bs bm true sn sub ab col dd k0 k1 k2 k3 k5 "ValueError.__new__") ∧ PySem.HandSPX.refsVE bm = true := by
  unfold excShape at c
  split at c
  · rename_i dd cd sl
    split at c
    · rename_i C' bm k0 k1 k2 k3 n k5 hm hs
      simp only [Bool.and_eq_true, decide_eq_true_eq, Bool.not_eq_true'] at c
      obtain ⟨e1, e2, e3, e4, e5⟩ := c
      obtain ⟨nm, bs, mro, ns, qn, hd, sn, sub, ab, col, del⟩ := cd
      obtain ⟨l⟩ := sl
      dsimp only at hm e3 e4 hs
      subst hm e1 e2 e3 e4 hs
      exact ⟨nm, qn, ns, bs, bm, sn, sub, ab, col, dd, k0, k1, k2, k3, k5, rfl, e5⟩
    · cases c
  · cases c
theorem exc_ok {a f : Addr} (c : (Ft.exc a f).ok K = true) : ExcTy K a f := by
  obtain ⟨c1, c⟩ := al c; obtain ⟨c2, c⟩ := al c; obtain ⟨c3, c⟩ := al c; obtain ⟨c4, c⟩ := al c; obtain ⟨c5, c⟩ := al c
  obtain ⟨c6, c⟩ := al c; obtain ⟨c7, c⟩ := al c; obtain ⟨c8, c⟩ := al c; obtain ⟨c9, c⟩ := al c
  exact ⟨⟨shape_ok c1, oo_ok c2, ob_ok c3, of_decide_eq_true c4, c5⟩, xfB_ok c6, oo_ok c7, of_decide_eq_true c8, ob_ok c9⟩
end
/-! ### defs of the top -/
structure Df where
  at_ : Addr
  name : Str
  qual : Str
  st : Stmt
abbrev FV : Type := Option (Str × Str × Arguments × FuncBody × Scope × Addr × List (Str × Addr) × Value × Addr)
def fv : Option Obj → FV
  | some ⟨_, _, .func fd, _⟩ => some (fd.name, fd.qualname, fd.params, fd.body, fd.scope, fd.globals, fd.closure, fd.defaults, fd.builtins)
  | _ => none
def Df.val (d : Df) : FV := some (d.name, d.qual, defArgs d.st, .stmts (defBody d.st), defScope d.st, mainGlobals, [], .none, builtinsNs)
def cdOk (K : Frag) (q : Str) : Option Obj → Bool
  | some ⟨_, _, .func fd, _⟩ => PySem.W.codeIn K fd.code q
  | _ => false
def Df.ok (K : Frag) (d : Df) : Bool := [PySem.W.keepIn K (.ref d.at_), cdOk K d.qual (K.lookup d.at_)].all id
theorem Df.fun_ {K : Frag} {d : Df} (e : fv (K.lookup d.at_) = d.val) (c : d.ok K = true) : ∃ fd, Fun K d.name d.qual d.st d.at_ fd := by
  obtain ⟨kp, c⟩ := al c; obtain ⟨c2, c⟩ := al c
  unfold fv at e
  unfold cdOk at c2
  cases q : K.lookup d.at_ with
  | none => rw [q] at c2; cases c2
  | some o =>
    obtain ⟨oc, od, dt, osl⟩ := o
    rw [q] at c2 e
    cases dt with
    | func fd =>
      obtain ⟨n1, n2, n3, n4, n5, n6, n7, n8, n9, n10, n11, n12, n13, n14, n15⟩ := fd
      have e2 : (some (n1, n2, n3, n4, n5, n6, n7, n8, n15) : FV) = d.val := e
      unfold Df.val at e2
      simp only [Option.some.injEq, Prod.mk.injEq] at e2
      obtain ⟨h1, h2, h3, h4, h5, h6, h7, h8, h9⟩ := e2
      subst h1 h2 h3 h4 h5 h6 h7 h8 h9
      exact ⟨_, ⟨oc, od, n9, n10, n11, n12, n13, n14, osl, rfl, q, c2⟩, kp⟩
    | _ => cases c2

def ft0 : List Ft := [.glo "is_whole" 250, .glo "is_within" 257, .glo "is_name" 262, .glo "need_names" 269, .glo "need_numbers" 276, .glo "is_entry" 614, .glo "are_entries" 621, .glo "is_table" 626, .glo "table_told" 633, .glo "turns_of" 638, .glo "good_walk" 762, .glo "is_list" 769, .glo "need_kinds" 774, .glo "need_unlike" 781, .glo "need_ports" 788, .glo "_law_cell" 898, .glo "_law_box" 905, .glo "_law_take" 912, .glo "_law_names" 917, .glo "_law_small_world" 924, .glo "_law_world" 929, .glo "_law_vessels" 943, .glo "_law_entries" 965, .glo "_law_table" 972, .glo "_law_asked" 979, .glo "_law_safe" 986, .glo "_law_kept" 991, .glo "law" 996, .glo "Channel" 314, .glo "Vessel" 370, .glo "Breaker" 412, .glo "Ship" 445, .glo "Ice" 561, .glo "Waters" 603, .glo "Leg" 669, .glo "Walk" 751, .glo "World" 887, .glo "Faulty" 241, .glo "IceError" 31, .fre "isinstance"]
def ft1 : List Ft := [.fre "int", .fre "bool", .fre "str", .fre "len", .fre "all", .fre "list", .fre "tuple", .fre "dict", .fre "sorted", .fre "enumerate", .fre "min", .fre "max", .fre "sum", .fre "range", .num "LONGEST_NAME" 8, .num "MOST_HOUR" 1000000, .num "MOST_ICE" 1000000, .num "MOST_DEPTH" 1000, .num "MOST_LENGTH" 1000, .num "MOST_GROWTH" 1000, .num "LAST_HOUR_ice" 1000000000, .num "LAST_BREAKING" 100000000, .num "MOST_CUT" 1000000, .num "MOST_BREAKINGS" 200, .num "LAST_HOUR_tables" 100000000, .num "MOST_BEGIN" 1000000, .num "MOST_PORTS" 8, .num "MOST_CHANNELS" 12, .num "MOST_BREAKERS" 4, .num "MOST_SHIPS" 6, .txt "LETTERS" "abcdefghijklmnopqrstuvwxyz", .cls 314, .mak 314 290, .noa 314 "name", .noa 314 "one", .noa 314 "other", .noa 314 "hours", .noa 314 "depth", .noa 314 "first", .noa 314 "growth"]
def ft2 : List Ft := [.noa 314 "most", .met 314 "ends" 297, .met 314 "beyond" 304, .cls 412, .mak 412 388, .noa 412 "name", .noa 412 "port", .noa 412 "hour", .noa 412 "strength", .noa 412 "draught", .noa 412 "cut", .met 412 "settle" 339, .met 412 "thins" 402, .met 412 "lets" 360, .cls 445, .mak 445 428, .noa 445 "name", .noa 445 "port", .noa 445 "hour", .noa 445 "strength", .noa 445 "draught", .noa 445 "goal", .met 445 "settle" 339, .met 445 "thins" 353, .met 445 "lets" 360, .cls 561, .mak 561 461, .noa 561 "way", .noa 561 "since", .noa 561 "cuts", .met 561 "need_hour" 468, .met 561 "need_breaking" 475, .met 561 "break_at" 482, .met 561 "breakings" 494, .met 561 "grown" 501, .met 561 "rows" 508, .met 561 "bases" 513, .met 561 "thick" 518, .cls 603, .mak 603 579]
def ft3 : List Ft := [.noa 603 "of_world", .noa 603 "by_name", .met 603 "ice" 586, .met 603 "thick" 593, .cls 669, .mak 669 652, .noa 669 "goes", .noa 669 "through", .noa 669 "begins", .met 669 "arrives" 659, .met 669 "lands" 666, .cls 751, .mak 751 687, .noa 751 "of_world", .noa 751 "legs", .noa 751 "seas", .noa 751 "wrong", .noa 751 "gone", .met 751 "look" 694, .met 751 "word_for" 701, .met 751 "faults" 708, .met 751 "done" 715, .met 751 "table" 720, .met 751 "at_end" 734, .cls 887, .mak 887 800, .noa 887 "beginning", .noa 887 "all_ports", .noa 887 "all_channels", .noa 887 "all_breakers", .noa 887 "all_ships", .met 887 "begin_hour" 807, .met 887 "channels" 821, .met 887 "vessels" 842, .met 887 "channel" 849, .met 887 "vessel" 856, .met 887 "from_hour" 877, .ity 314, .ity 412, .ity 445]
def ft4 : List Ft := [.kit (.ref 445) (.ref 412) false, .cfn 370 "__init__" (.ref 332), .cfn 31 "__init__" (.builtin "ValueError.__init__"), .exc 241 238, .noa 241 "name", .noa 241 "number", .noa 241 "word"]
def fts : List Ft := ft0 ++ ft1 ++ ft2 ++ ft3 ++ ft4
def df0 : List Df := [⟨238, "__init__", "Faulty.__init__", S_Faulty_init⟩, ⟨250, "is_whole", "is_whole", S_is_whole⟩, ⟨257, "is_within", "is_within", S_is_within⟩, ⟨262, "is_name", "is_name", S_is_name⟩, ⟨269, "need_names", "need_names", S_need_names⟩, ⟨276, "need_numbers", "need_numbers", S_need_numbers⟩, ⟨290, "__init__", "Channel.__init__", S_Channel_init⟩, ⟨297, "ends", "Channel.ends", S_Channel_ends⟩, ⟨304, "beyond", "Channel.beyond", S_Channel_beyond⟩, ⟨332, "__init__", "Vessel.__init__", S_Vessel_init⟩, ⟨339, "settle", "Vessel.settle", S_Vessel_settle⟩, ⟨353, "thins", "Vessel.thins", S_Vessel_thins⟩, ⟨360, "lets", "Vessel.lets", S_Vessel_lets⟩, ⟨388, "__init__", "Breaker.__init__", S_Breaker_init⟩, ⟨402, "thins", "Breaker.thins", S_Breaker_thins⟩, ⟨428, "__init__", "Ship.__init__", S_Ship_init⟩, ⟨461, "__init__", "Ice.__init__", S_Ice_init⟩, ⟨468, "need_hour", "Ice.need_hour", S_Ice_need_hour⟩, ⟨475, "need_breaking", "Ice.need_breaking", S_Ice_need_breaking⟩, ⟨482, "break_at", "Ice.break_at", S_Ice_break_at⟩, ⟨494, "breakings", "Ice.breakings", S_Ice_breakings⟩, ⟨501, "grown", "Ice.grown", S_Ice_grown⟩, ⟨508, "rows", "Ice.rows", S_Ice_rows⟩, ⟨513, "bases", "Ice.bases", S_Ice_bases⟩, ⟨518, "thick", "Ice.thick", S_Ice_thick⟩]
def df1 : List Df := [⟨579, "__init__", "Waters.__init__", S_Waters_init⟩, ⟨586, "ice", "Waters.ice", S_Waters_ice⟩, ⟨593, "thick", "Waters.thick", S_Waters_thick⟩, ⟨614, "is_entry", "is_entry", S_is_entry⟩, ⟨621, "are_entries", "are_entries", S_are_entries⟩, ⟨626, "is_table", "is_table", S_is_table⟩, ⟨633, "table_told", "table_told", S_table_told⟩, ⟨638, "turns_of", "turns_of", S_turns_of⟩, ⟨652, "__init__", "Leg.__init__", S_Leg_init⟩, ⟨659, "arrives", "Leg.arrives", S_Leg_arrives⟩, ⟨666, "lands", "Leg.lands", S_Leg_lands⟩, ⟨687, "__init__", "Walk.__init__", S_Walk_init⟩, ⟨694, "look", "Walk.look", S_Walk_look⟩, ⟨701, "word_for", "Walk.word_for", S_Walk_word_for⟩, ⟨708, "faults", "Walk.faults", S_Walk_faults⟩, ⟨715, "done", "Walk.done", S_Walk_done⟩, ⟨720, "table", "Walk.table", S_Walk_table⟩, ⟨734, "at_end", "Walk.at_end", S_Walk_at_end⟩, ⟨762, "good_walk", "good_walk", S_good_walk⟩, ⟨769, "is_list", "is_list", S_is_list⟩, ⟨774, "need_kinds", "need_kinds", S_need_kinds⟩, ⟨781, "need_unlike", "need_unlike", S_need_unlike⟩, ⟨788, "need_ports", "need_ports", S_need_ports⟩, ⟨800, "__init__", "World.__init__", S_World_init⟩, ⟨807, "begin_hour", "World.begin_hour", S_World_begin_hour⟩]
def df2 : List Df := [⟨821, "channels", "World.channels", S_World_channels⟩, ⟨842, "vessels", "World.vessels", S_World_vessels⟩, ⟨849, "channel", "World.channel", S_World_channel⟩, ⟨856, "vessel", "World.vessel", S_World_vessel⟩, ⟨877, "from_hour", "World.from_hour", S_World_from_hour⟩, ⟨898, "_law_cell", "_law_cell", S_l_cell⟩, ⟨905, "_law_box", "_law_box", S_l_box⟩, ⟨912, "_law_take", "_law_take", S_l_take⟩, ⟨917, "_law_names", "_law_names", S_l_names⟩, ⟨924, "_law_small_world", "_law_small_world", S_l_small_world⟩, ⟨929, "_law_world", "_law_world", S_l_world⟩, ⟨943, "_law_vessels", "_law_vessels", S_l_vessels⟩, ⟨965, "_law_entries", "_law_entries", S_l_entries⟩, ⟨972, "_law_table", "_law_table", S_l_table⟩, ⟨979, "_law_asked", "_law_asked", S_l_asked⟩, ⟨986, "_law_safe", "_law_safe", S_l_safe⟩, ⟨991, "_law_kept", "_law_kept", S_l_kept⟩, ⟨996, "law", "law", S_law⟩]
def dfs : List Df := df0 ++ df1 ++ df2
def ads : List Addr := [0, 1, 2, 3, 4, 5, 6, 7, 8, 9, 10, 314, 370, 412, 445, 561, 603, 669, 751, 887, 241, 31, 313, 369, 411, 444, 560, 602, 668, 750, 886, 240, 30, 238, 250, 257, 262, 269, 276, 290, 297, 304, 332, 339, 353, 360, 388, 402, 428, 461, 468, 475, 482, 494, 501, 508, 513, 518, 579, 586, 593, 614, 621, 626, 633, 638, 652, 659, 666, 687, 694, 701, 708, 715, 720, 734, 762, 769, 774, 781, 788, 800, 807, 821, 842, 849, 856, 877, 898, 905, 912, 917, 924, 929, 943, 965, 972, 979, 986, 991, 996, 237, 249, 256, 261, 268, 275, 289, 296, 303, 331, 338, 352, 359, 387, 401, 427, 460, 467, 474, 481, 493, 500, 507, 512, 517, 578, 585, 592, 613, 620, 625, 632, 637, 651, 658, 665, 686, 693, 700, 707, 714, 719, 733, 761, 768, 773, 780, 787, 799, 806, 820, 841, 848, 855, 876, 897, 904, 911, 916, 923, 928, 942, 964, 971, 978, 985, 990, 995]
/-! ### the hook -/
def okAll (K : Frag) : Bool := fts.all (fun f => f.ok K) && dfs.all fun d => d.ok K
abbrev Al : Type := Bool × List FV
def obs (K : Frag) : Al := (okAll K, dfs.map fun d => fv (K.lookup d.at_))
def wanted : Al := (true, dfs.map Df.val)
def Says (K : Frag) : Prop := obs K = wanted
def hk : PySem.W.Hook where
  α := Al
  obs := fun s => obs (He.frG s.heap.get? ads)
  val := fun _ => wanted
  says := fun _ h => ∃ K : Frag, K.In h ∧ Says K
  of := fun _ _ e => ⟨_, He.frG_in, e⟩
  keeps := fun _ _ _ ⟨K, hK, c⟩ k => ⟨K, Frag.In.keeps hK k, c⟩
theorem Says.ft_ {K : Frag} (c : Says K) (i : Nat) {f : Ft} (h : fts[i]? = some f := by rfl) : f.ok K = true := by
  have c1 : okAll K = true := congrArg (fun z : Al => z.1) c
  exact List.all_eq_true.mp (Bool.and_eq_true_iff.mp c1).1 f (List.mem_of_getElem? h)
theorem Says.df_ {K : Frag} (c : Says K) (i : Nat) {d : Df} {ps : List Str} (hb : ∀ (kV doc pm : Value) (an : Option Addr) (cdv ct : Value) (us : List Value), us.length = ps.length →
      bindArgs (PySem.W.fnOf d.name d.qual (defArgs d.st) (defBody d.st) (defScope d.st) .none kV doc pm an cdv ct) ⟨us, []⟩ = pure (ps.zip us)) (h : dfs[i]? = some d := by rfl) :
    ∃ fd, Fun K d.name d.qual d.st d.at_ fd ∧ Binds K fd ps [] := by
  have c1 : okAll K = true := congrArg (fun z : Al => z.1) c
  have c2 := List.all_eq_true.mp (Bool.and_eq_true_iff.mp c1).2 d (List.mem_of_getElem? h)
  have c3 : (dfs.map fun d => fv (K.lookup d.at_)) = dfs.map Df.val := congrArg (fun z : Al => z.2) c
  have c4 : (dfs.map fun d => fv (K.lookup d.at_))[i]? = (dfs.map Df.val)[i]? := by rw [c3]
  rw [List.getElem?_map, List.getElem?_map, h] at c4
  obtain ⟨fd, q⟩ := Df.fun_ (Option.some.inj c4) c2
  exact ⟨fd, q, q.binds hb⟩

theorem txt_of {K : Frag} {h : Heap} {mg : Str → Option Value} (X : K.In h) (G : h.Ns mainGlobals mg) (c : Says K) : Txt K mg where
  g_is_whole := glo_ok X G (c.ft_ 0)
  g_is_within := glo_ok X G (c.ft_ 1)
  g_is_name := glo_ok X G (c.ft_ 2)
  g_need_names := glo_ok X G (c.ft_ 3)
  g_need_numbers := glo_ok X G (c.ft_ 4)
  g_is_entry := glo_ok X G (c.ft_ 5)
  g_are_entries := glo_ok X G (c.ft_ 6)
  g_is_table := glo_ok X G (c.ft_ 7)
  g_table_told := glo_ok X G (c.ft_ 8)
  g_turns_of := glo_ok X G (c.ft_ 9)
  g_good_walk := glo_ok X G (c.ft_ 10)
  g_is_list := glo_ok X G (c.ft_ 11)
  g_need_kinds := glo_ok X G (c.ft_ 12)
  g_need_unlike := glo_ok X G (c.ft_ 13)
  g_need_ports := glo_ok X G (c.ft_ 14)
  g_l_cell := glo_ok X G (c.ft_ 15)
  g_l_box := glo_ok X G (c.ft_ 16)
  g_l_take := glo_ok X G (c.ft_ 17)
  g_l_names := glo_ok X G (c.ft_ 18)
  g_l_small_world := glo_ok X G (c.ft_ 19)
  g_l_world := glo_ok X G (c.ft_ 20)
  g_l_vessels := glo_ok X G (c.ft_ 21)
  g_l_entries := glo_ok X G (c.ft_ 22)
  g_l_table := glo_ok X G (c.ft_ 23)
  g_l_asked := glo_ok X G (c.ft_ 24)
  g_l_safe := glo_ok X G (c.ft_ 25)
  g_l_kept := glo_ok X G (c.ft_ 26)
  g_law := glo_ok X G (c.ft_ 27)
  g_Channel := glo_ok X G (c.ft_ 28)
  g_Vessel := glo_ok X G (c.ft_ 29)
  g_Breaker := glo_ok X G (c.ft_ 30)
  g_Ship := glo_ok X G (c.ft_ 31)
  g_Ice := glo_ok X G (c.ft_ 32)
  g_Waters := glo_ok X G (c.ft_ 33)
  g_Leg := glo_ok X G (c.ft_ 34)
  g_Walk := glo_ok X G (c.ft_ 35)
  g_World := glo_ok X G (c.ft_ 36)
  g_Faulty := glo_ok X G (c.ft_ 37)
  g_IceError := glo_ok X G (c.ft_ 38)
  z_isinstance := fre_ok X G (c.ft_ 39)
  z_int := fre_ok X G (c.ft_ 40)
  z_bool := fre_ok X G (c.ft_ 41)
  z_str := fre_ok X G (c.ft_ 42)
  z_len := fre_ok X G (c.ft_ 43)
  z_all := fre_ok X G (c.ft_ 44)
  z_list := fre_ok X G (c.ft_ 45)
  z_tuple := fre_ok X G (c.ft_ 46)
  z_dict := fre_ok X G (c.ft_ 47)
  z_sorted := fre_ok X G (c.ft_ 48)
  z_enumerate := fre_ok X G (c.ft_ 49)
  z_min := fre_ok X G (c.ft_ 50)
  z_max := fre_ok X G (c.ft_ 51)
  z_sum := fre_ok X G (c.ft_ 52)
  z_range := fre_ok X G (c.ft_ 53)
  i_LONGEST_NAME := num_ok X G (c.ft_ 54)
  i_MOST_HOUR := num_ok X G (c.ft_ 55)
  i_MOST_ICE := num_ok X G (c.ft_ 56)
  i_MOST_DEPTH := num_ok X G (c.ft_ 57)
  i_MOST_LENGTH := num_ok X G (c.ft_ 58)
  i_MOST_GROWTH := num_ok X G (c.ft_ 59)
  i_LAST_HOUR_ice := num_ok X G (c.ft_ 60)
  i_LAST_BREAKING := num_ok X G (c.ft_ 61)
  i_MOST_CUT := num_ok X G (c.ft_ 62)
  i_MOST_BREAKINGS := num_ok X G (c.ft_ 63)
  i_LAST_HOUR_tables := num_ok X G (c.ft_ 64)
  i_MOST_BEGIN := num_ok X G (c.ft_ 65)
  i_MOST_PORTS := num_ok X G (c.ft_ 66)
  i_MOST_CHANNELS := num_ok X G (c.ft_ 67)
  i_MOST_BREAKERS := num_ok X G (c.ft_ 68)
  i_MOST_SHIPS := num_ok X G (c.ft_ 69)
  s_LETTERS := txt_ok X G (c.ft_ 70)
  cl_Channel := cls_ok (c.ft_ 71)
  mk_Channel := mak_ok (c.ft_ 72)
  na_Channel_name := noa_ok (c.ft_ 73)
  na_Channel_one := noa_ok (c.ft_ 74)
  na_Channel_other := noa_ok (c.ft_ 75)
  na_Channel_hours := noa_ok (c.ft_ 76)
  na_Channel_depth := noa_ok (c.ft_ 77)
  na_Channel_first := noa_ok (c.ft_ 78)
  na_Channel_growth := noa_ok (c.ft_ 79)
  na_Channel_most := noa_ok (c.ft_ 80)
  me_Channel_ends := met_ok (c.ft_ 81)
  me_Channel_beyond := met_ok (c.ft_ 82)
  cl_Breaker := cls_ok (c.ft_ 83)
  mk_Breaker := mak_ok (c.ft_ 84)
  na_Breaker_name := noa_ok (c.ft_ 85)
  na_Breaker_port := noa_ok (c.ft_ 86)
  na_Breaker_hour := noa_ok (c.ft_ 87)
  na_Breaker_strength := noa_ok (c.ft_ 88)
  na_Breaker_draught := noa_ok (c.ft_ 89)
  na_Breaker_cut := noa_ok (c.ft_ 90)
  me_Breaker_settle := met_ok (c.ft_ 91)
  me_Breaker_thins := met_ok (c.ft_ 92)
  me_Breaker_lets := met_ok (c.ft_ 93)
  cl_Ship := cls_ok (c.ft_ 94)
  mk_Ship := mak_ok (c.ft_ 95)
  na_Ship_name := noa_ok (c.ft_ 96)
  na_Ship_port := noa_ok (c.ft_ 97)
  na_Ship_hour := noa_ok (c.ft_ 98)
  na_Ship_strength := noa_ok (c.ft_ 99)
  na_Ship_draught := noa_ok (c.ft_ 100)
  na_Ship_goal := noa_ok (c.ft_ 101)
  me_Ship_settle := met_ok (c.ft_ 102)
  me_Ship_thins := met_ok (c.ft_ 103)
  me_Ship_lets := met_ok (c.ft_ 104)
  cl_Ice := cls_ok (c.ft_ 105)
  mk_Ice := mak_ok (c.ft_ 106)
  na_Ice_way := noa_ok (c.ft_ 107)
  na_Ice_since := noa_ok (c.ft_ 108)
  na_Ice_cuts := noa_ok (c.ft_ 109)
  me_Ice_need_hour := met_ok (c.ft_ 110)
  me_Ice_need_breaking := met_ok (c.ft_ 111)
  me_Ice_break_at := met_ok (c.ft_ 112)
  me_Ice_breakings := met_ok (c.ft_ 113)
  me_Ice_grown := met_ok (c.ft_ 114)
  me_Ice_rows := met_ok (c.ft_ 115)
  me_Ice_bases := met_ok (c.ft_ 116)
  me_Ice_thick := met_ok (c.ft_ 117)
  cl_Waters := cls_ok (c.ft_ 118)
  mk_Waters := mak_ok (c.ft_ 119)
  na_Waters_of_world := noa_ok (c.ft_ 120)
  na_Waters_by_name := noa_ok (c.ft_ 121)
  me_Waters_ice := met_ok (c.ft_ 122)
  me_Waters_thick := met_ok (c.ft_ 123)
  cl_Leg := cls_ok (c.ft_ 124)
  mk_Leg := mak_ok (c.ft_ 125)
  na_Leg_goes := noa_ok (c.ft_ 126)
  na_Leg_through := noa_ok (c.ft_ 127)
  na_Leg_begins := noa_ok (c.ft_ 128)
  me_Leg_arrives := met_ok (c.ft_ 129)
  me_Leg_lands := met_ok (c.ft_ 130)
  cl_Walk := cls_ok (c.ft_ 131)
  mk_Walk := mak_ok (c.ft_ 132)
  na_Walk_of_world := noa_ok (c.ft_ 133)
  na_Walk_legs := noa_ok (c.ft_ 134)
  na_Walk_seas := noa_ok (c.ft_ 135)
  na_Walk_wrong := noa_ok (c.ft_ 136)
  na_Walk_gone := noa_ok (c.ft_ 137)
  me_Walk_look := met_ok (c.ft_ 138)
  me_Walk_word_for := met_ok (c.ft_ 139)
  me_Walk_faults := met_ok (c.ft_ 140)
  me_Walk_done := met_ok (c.ft_ 141)
  me_Walk_table := met_ok (c.ft_ 142)
  me_Walk_at_end := met_ok (c.ft_ 143)
  cl_World := cls_ok (c.ft_ 144)
  mk_World := mak_ok (c.ft_ 145)
  na_World_beginning := noa_ok (c.ft_ 146)
  na_World_all_ports := noa_ok (c.ft_ 147)
  na_World_all_channels := noa_ok (c.ft_ 148)
  na_World_all_breakers := noa_ok (c.ft_ 149)
  na_World_all_ships := noa_ok (c.ft_ 150)
  me_World_begin_hour := met_ok (c.ft_ 151)
  me_World_channels := met_ok (c.ft_ 152)
  me_World_vessels := met_ok (c.ft_ 153)
  me_World_channel := met_ok (c.ft_ 154)
  me_World_vessel := met_ok (c.ft_ 155)
  me_World_from_hour := met_ok (c.ft_ 156)
  in_Channel := ity_ok (c.ft_ 157)
  in_Breaker := ity_ok (c.ft_ 158)
  in_Ship := ity_ok (c.ft_ 159)
  k_SB := kit_ok (c.ft_ 160)
  cf_Vessel := cfn_ok (c.ft_ 161)
  cf_IceError := cfn_ok (c.ft_ 162)
  ex_Faulty := exc_ok (c.ft_ 163)
  na_Faulty_name := noa_ok (c.ft_ 164)
  na_Faulty_number := noa_ok (c.ft_ 165)
  na_Faulty_word := noa_ok (c.ft_ 166)
  f_Faulty_init := c.df_ 0 (ps := ["self", "name", "number", "word"]) fun _ _ _ _ _ _ us hl => match us, hl with | [_, _, _, _], _ => rfl
  f_is_whole := c.df_ 1 (ps := ["thing"]) fun _ _ _ _ _ _ us hl => match us, hl with | [_], _ => rfl
  f_is_within := c.df_ 2 (ps := ["thing", "low", "high"]) fun _ _ _ _ _ _ us hl => match us, hl with | [_, _, _], _ => rfl
  f_is_name := c.df_ 3 (ps := ["thing"]) fun _ _ _ _ _ _ us hl => match us, hl with | [_], _ => rfl
  f_need_names := c.df_ 4 (ps := ["things"]) fun _ _ _ _ _ _ us hl => match us, hl with | [_], _ => rfl
  f_need_numbers := c.df_ 5 (ps := ["rows"]) fun _ _ _ _ _ _ us hl => match us, hl with | [_], _ => rfl
  f_Channel_init := c.df_ 6 (ps := ["self", "name", "one", "other", "hours", "depth", "first", "growth", "most"]) fun _ _ _ _ _ _ us hl => match us, hl with | [_, _, _, _, _, _, _, _, _], _ => rfl
  f_Channel_ends := c.df_ 7 (ps := ["self"]) fun _ _ _ _ _ _ us hl => match us, hl with | [_], _ => rfl
  f_Channel_beyond := c.df_ 8 (ps := ["self", "port"]) fun _ _ _ _ _ _ us hl => match us, hl with | [_, _], _ => rfl
  f_Vessel_init := c.df_ 9 (ps := ["self", "name", "port", "hour", "strength", "draught"]) fun _ _ _ _ _ _ us hl => match us, hl with | [_, _, _, _, _, _], _ => rfl
  f_Vessel_settle := c.df_ 10 (ps := ["self", "name", "port", "hour", "strength", "draught"]) fun _ _ _ _ _ _ us hl => match us, hl with | [_, _, _, _, _, _], _ => rfl
  f_Vessel_thins := c.df_ 11 (ps := ["self"]) fun _ _ _ _ _ _ us hl => match us, hl with | [_], _ => rfl
  f_Vessel_lets := c.df_ 12 (ps := ["self", "channel"]) fun _ _ _ _ _ _ us hl => match us, hl with | [_, _], _ => rfl
  f_Breaker_init := c.df_ 13 (ps := ["self", "name", "port", "hour", "strength", "draught", "cut"]) fun _ _ _ _ _ _ us hl => match us, hl with | [_, _, _, _, _, _, _], _ => rfl
  f_Breaker_thins := c.df_ 14 (ps := ["self"]) fun _ _ _ _ _ _ us hl => match us, hl with | [_], _ => rfl
  f_Ship_init := c.df_ 15 (ps := ["self", "name", "port", "goal", "hour", "strength", "draught"]) fun _ _ _ _ _ _ us hl => match us, hl with | [_, _, _, _, _, _, _], _ => rfl
  f_Ice_init := c.df_ 16 (ps := ["self", "channel", "begin"]) fun _ _ _ _ _ _ us hl => match us, hl with | [_, _, _], _ => rfl
  f_Ice_need_hour := c.df_ 17 (ps := ["self", "hour"]) fun _ _ _ _ _ _ us hl => match us, hl with | [_, _], _ => rfl
  f_Ice_need_breaking := c.df_ 18 (ps := ["self", "hour", "cut"]) fun _ _ _ _ _ _ us hl => match us, hl with | [_, _, _], _ => rfl
  f_Ice_break_at := c.df_ 19 (ps := ["self", "hour", "cut"]) fun _ _ _ _ _ _ us hl => match us, hl with | [_, _, _], _ => rfl
  f_Ice_breakings := c.df_ 20 (ps := ["self"]) fun _ _ _ _ _ _ us hl => match us, hl with | [_], _ => rfl
  f_Ice_grown := c.df_ 21 (ps := ["self", "level", "gap"]) fun _ _ _ _ _ _ us hl => match us, hl with | [_, _, _], _ => rfl
  f_Ice_rows := c.df_ 22 (ps := ["self"]) fun _ _ _ _ _ _ us hl => match us, hl with | [_], _ => rfl
  f_Ice_bases := c.df_ 23 (ps := ["self"]) fun _ _ _ _ _ _ us hl => match us, hl with | [_], _ => rfl
  f_Ice_thick := c.df_ 24 (ps := ["self", "hour"]) fun _ _ _ _ _ _ us hl => match us, hl with | [_, _], _ => rfl
  f_Waters_init := c.df_ 25 (ps := ["self", "world"]) fun _ _ _ _ _ _ us hl => match us, hl with | [_, _], _ => rfl
  f_Waters_ice := c.df_ 26 (ps := ["self", "name"]) fun _ _ _ _ _ _ us hl => match us, hl with | [_, _], _ => rfl
  f_Waters_thick := c.df_ 27 (ps := ["self", "name", "hour"]) fun _ _ _ _ _ _ us hl => match us, hl with | [_, _, _], _ => rfl
  f_is_entry := c.df_ 28 (ps := ["begin", "channels", "thing"]) fun _ _ _ _ _ _ us hl => match us, hl with | [_, _, _], _ => rfl
  f_are_entries := c.df_ 29 (ps := ["begin", "channels", "thing"]) fun _ _ _ _ _ _ us hl => match us, hl with | [_, _, _], _ => rfl
  f_is_table := c.df_ 30 (ps := ["world", "thing"]) fun _ _ _ _ _ _ us hl => match us, hl with | [_, _], _ => rfl
  f_table_told := c.df_ 31 (ps := ["world", "table"]) fun _ _ _ _ _ _ us hl => match us, hl with | [_, _], _ => rfl
  f_turns_of := c.df_ 32 (ps := ["world", "table"]) fun _ _ _ _ _ _ us hl => match us, hl with | [_, _], _ => rfl
  f_Leg_init := c.df_ 33 (ps := ["self", "hour", "channel", "start"]) fun _ _ _ _ _ _ us hl => match us, hl with | [_, _, _, _], _ => rfl
  f_Leg_arrives := c.df_ 34 (ps := ["self"]) fun _ _ _ _ _ _ us hl => match us, hl with | [_], _ => rfl
  f_Leg_lands := c.df_ 35 (ps := ["self"]) fun _ _ _ _ _ _ us hl => match us, hl with | [_], _ => rfl
  f_Walk_init := c.df_ 36 (ps := ["self", "world", "table"]) fun _ _ _ _ _ _ us hl => match us, hl with | [_, _, _], _ => rfl
  f_Walk_look := c.df_ 37 (ps := ["self", "name", "number", "hour", "channel"]) fun _ _ _ _ _ _ us hl => match us, hl with | [_, _, _, _, _], _ => rfl
  f_Walk_word_for := c.df_ 38 (ps := ["self", "vessel", "hour", "channel", "met"]) fun _ _ _ _ _ _ us hl => match us, hl with | [_, _, _, _, _], _ => rfl
  f_Walk_faults := c.df_ 39 (ps := ["self"]) fun _ _ _ _ _ _ us hl => match us, hl with | [_], _ => rfl
  f_Walk_done := c.df_ 40 (ps := ["self"]) fun _ _ _ _ _ _ us hl => match us, hl with | [_], _ => rfl
  f_Walk_table := c.df_ 41 (ps := ["self"]) fun _ _ _ _ _ _ us hl => match us, hl with | [_], _ => rfl
  f_Walk_at_end := c.df_ 42 (ps := ["self", "name"]) fun _ _ _ _ _ _ us hl => match us, hl with | [_, _], _ => rfl
  f_good_walk := c.df_ 43 (ps := ["world", "table"]) fun _ _ _ _ _ _ us hl => match us, hl with | [_, _], _ => rfl
  f_is_list := c.df_ 44 (ps := ["thing", "low", "high"]) fun _ _ _ _ _ _ us hl => match us, hl with | [_, _, _], _ => rfl
  f_need_kinds := c.df_ 45 (ps := ["ports", "channels", "breakers", "ships"]) fun _ _ _ _ _ _ us hl => match us, hl with | [_, _, _, _], _ => rfl
  f_need_unlike := c.df_ 46 (ps := ["names"]) fun _ _ _ _ _ _ us hl => match us, hl with | [_], _ => rfl
  f_need_ports := c.df_ 47 (ps := ["names", "ports"]) fun _ _ _ _ _ _ us hl => match us, hl with | [_, _], _ => rfl
  f_World_init := c.df_ 48 (ps := ["self", "begin", "ports", "channels", "breakers", "ships"]) fun _ _ _ _ _ _ us hl => match us, hl with | [_, _, _, _, _, _], _ => rfl
  f_World_begin_hour := c.df_ 49 (ps := ["self"]) fun _ _ _ _ _ _ us hl => match us, hl with | [_], _ => rfl
  f_World_channels := c.df_ 50 (ps := ["self"]) fun _ _ _ _ _ _ us hl => match us, hl with | [_], _ => rfl
  f_World_vessels := c.df_ 51 (ps := ["self"]) fun _ _ _ _ _ _ us hl => match us, hl with | [_], _ => rfl
  f_World_channel := c.df_ 52 (ps := ["self", "name"]) fun _ _ _ _ _ _ us hl => match us, hl with | [_, _], _ => rfl
  f_World_vessel := c.df_ 53 (ps := ["self", "name"]) fun _ _ _ _ _ _ us hl => match us, hl with | [_, _], _ => rfl
  f_World_from_hour := c.df_ 54 (ps := ["self", "vessel"]) fun _ _ _ _ _ _ us hl => match us, hl with | [_, _], _ => rfl
  f_l_cell := c.df_ 55 (ps := ["_law_script", "_law_k"]) fun _ _ _ _ _ _ us hl => match us, hl with | [_, _], _ => rfl
  f_l_box := c.df_ 56 (ps := ["_law_cell_here"]) fun _ _ _ _ _ _ us hl => match us, hl with | [_], _ => rfl
  f_l_take := c.df_ 57 (ps := ["_law_box_here", "_law_many"]) fun _ _ _ _ _ _ us hl => match us, hl with | [_, _], _ => rfl
  f_l_names := c.df_ 58 (ps := ["_law_box_here", "_law_many"]) fun _ _ _ _ _ _ us hl => match us, hl with | [_, _], _ => rfl
  f_l_small_world := c.df_ 59 (ps := ["_law_box_here"]) fun _ _ _ _ _ _ us hl => match us, hl with | [_], _ => rfl
  f_l_world := c.df_ 60 (ps := ["_law_rows"]) fun _ _ _ _ _ _ us hl => match us, hl with | [_], _ => rfl
  f_l_vessels := c.df_ 61 (ps := ["_law_rows"]) fun _ _ _ _ _ _ us hl => match us, hl with | [_], _ => rfl
  f_l_entries := c.df_ 62 (ps := ["_law_box_here", "_law_rows", "_law_vessel", "_law_many"]) fun _ _ _ _ _ _ us hl => match us, hl with | [_, _, _, _], _ => rfl
  f_l_table := c.df_ 63 (ps := ["_law_box_here", "_law_rows"]) fun _ _ _ _ _ _ us hl => match us, hl with | [_, _], _ => rfl
  f_l_asked := c.df_ 64 (ps := ["_law_world_here", "_law_table_here"]) fun _ _ _ _ _ _ us hl => match us, hl with | [_, _], _ => rfl
  f_l_safe := c.df_ 65 (ps := ["_law_rows", "_law_done"]) fun _ _ _ _ _ _ us hl => match us, hl with | [_, _], _ => rfl
  f_l_kept := c.df_ 66 (ps := ["_law_before", "_law_behind"]) fun _ _ _ _ _ _ us hl => match us, hl with | [_, _], _ => rfl
  f_law := c.df_ 67 (ps := ["_law_script"]) fun _ _ _ _ _ _ us hl => match us, hl with | [_], _ => rfl
end Ik


namespace Ik
open PySem PySem.Spec PyProof.Rows L2
open PySem.W (Frag)

def lo0 : List Str := ["_wall", "IceError", "NoName", "NoNumber", "NoPort", "NoChannel", "NoVessel", "NoHour", "NoWorld", "NoTable", "Doubled", "TooMany", "Faulty", "LETTERS", "LONGEST_NAME", "is_whole", "is_within", "is_name", "MOST_HOUR", "MOST_ICE", "MOST_DEPTH", "MOST_LENGTH", "MOST_GROWTH", "need_names", "need_numbers", "Channel", "Vessel", "Breaker", "Ship", "LAST_HOUR_ice"]
def lo1 : List Str := ["LAST_BREAKING", "MOST_CUT", "MOST_BREAKINGS", "Ice", "Waters", "LAST_HOUR_tables", "is_entry", "are_entries", "is_table", "table_told", "turns_of", "Leg", "Walk", "good_walk", "MOST_BEGIN", "MOST_PORTS", "MOST_CHANNELS", "MOST_BREAKERS", "MOST_SHIPS", "is_list", "need_kinds", "need_unlike", "need_ports", "World", "_law_cell", "_law_box", "_law_take", "_law_names", "_law_small_world", "_law_world"]
def lo2 : List Str := ["_law_thick", "_law_vessels", "_law_turns", "_law_word", "_law_walked", "_law_entries", "_law_table", "_law_asked", "_law_safe", "_law_kept"]
def los : List Str := lo0 ++ lo1 ++ lo2
abbrev R : PySem.W.OpenRow := PySem.W.OpenLaw.row PySem.Challenge.rw_iceopened_k36_whole_more_breaking
def obT (s : PySem.W.SharedT) : Al := obs (He.frG (HandSHeadRun.getT s) ads)
theorem obT_eq (s : PySem.W.SharedT) : obT s = hk.obs s.abs := by
  have e : HandSHeadRun.getT s = s.abs.heap.get? := funext (HandSHeadRun.getT_eq s)
  show obs (He.frG (HandSHeadRun.getT s) ads) = obs (He.frG s.abs.heap.get? ads)
  rw [e]
theorem run (w : World) : HandSHeadRun.RunEq R (PySem.W.view R.prog [78]) hk obT 8000 los w := by
  intro os
  kernel_rfl
end Ik



namespace Ik
open PySem PySem.Spec L2
open PySem.W (Frag)
/-! ### names of built-ins -/
theorem bt_isinstance : bootBuiltins "isinstance" = some (.builtin "isinstance") := by decide +kernel
theorem bt_len : bootBuiltins "len" = some (.builtin "len") := by decide +kernel
theorem bt_all : bootBuiltins "all" = some (.builtin "all") := by decide +kernel
theorem bt_sorted : bootBuiltins "sorted" = some (.builtin "sorted") := by decide +kernel
theorem bt_min : bootBuiltins "min" = some (.builtin "min") := by decide +kernel
theorem bt_max : bootBuiltins "max" = some (.builtin "max") := by decide +kernel
theorem bt_sum : bootBuiltins "sum" = some (.builtin "sum") := by decide +kernel
theorem bt_int : bootBuiltins "int" = some (.type "int") := by decide +kernel
theorem bt_bool : bootBuiltins "bool" = some (.type "bool") := by decide +kernel
theorem bt_str : bootBuiltins "str" = some (.type "str") := by decide +kernel
theorem bt_list : bootBuiltins "list" = some (.type "list") := by decide +kernel
theorem bt_tuple : bootBuiltins "tuple" = some (.type "tuple") := by decide +kernel
theorem bt_dict : bootBuiltins "dict" = some (.type "dict") := by decide +kernel
/-! ### a def with its promise, its function object hidden -/
structure DOk (P : Program) (w : World) (K : Frag) (mg : Str → Option Value) (base : Heap) (CX : CXT) (k : Nat) (f : Addr) (ps : List Str) (sp : Sp) : Prop where
  ex : ∃ fd, FnOk P w K mg base CX k f fd ps sp ∧ Binds K fd ps []
  kp : PySem.W.keepIn K (.ref f) = true
section
variable {P : Program} {w : World} {K : Frag} {mg : Str → Option Value} {base : Heap} {x qual : Str} {st : Stmt} {f : Addr} {N ps : List Str} {k : Nat} {sp : Sp} {sc : Scope}
/-- a def that lets nothing out -/
theorem DOk.mk0 (F : ∃ fd, Fun K x qual st f fd ∧ Binds K fd ps []) (S : FnScope N ps sc) (hz : defScope st = sc) (len : ∀ vs H Q E, sp vs H Q E → vs.length = ps.length)
    (hbody : ∀ (cdv : Value) (A : Around) (outer : List Env) (s : Shared) (H : Hp) (vs : List V) (Q : VK) (E : XK), Room k (A.deeper (PyProof.Rows.envOfC qual sc s.heap.objs.size f cdv)) → sp vs H Q E →
      ∃ t, PSs (cxOf CX0 P w K mg base N qual sc f cdv A outer s H E).nox (defBody st) t ∧ t { nx := fun _ H' => Q .non H', rt := Q } (start N vs) H) : DOk P w K mg base CX0 (k + 1) f ps sp := by
  subst hz
  obtain ⟨fd, F, b⟩ := F
  exact ⟨⟨fd, F.ok S len hbody, b⟩, F.kp⟩
end
/-! ### constants, classes of the module -/
section
variable {X : Cx} {x : Str} {pos : Pos}
theorem pe_num {i : Int} (h : ∃ t, X.mg x = some (.int i t)) (hg : Gl X x := by rfl) (hd : (x == ("__debug__" : Str)) = false := by decide) : PE X (.Name x pos) (tC (.int i)) := by
  obtain ⟨t, e⟩ := h
  exact pe_glob (v := .int i) hg e ⟨t, rfl⟩ hd
theorem pe_txt {z : Str} (h : ∃ t, X.mg x = some (.str z t)) (hg : Gl X x := by rfl) (hd : (x == ("__debug__" : Str)) = false := by decide) : PE X (.Name x pos) (tC (.str z)) := by
  obtain ⟨t, e⟩ := h
  exact pe_glob (v := .str z) hg e ⟨t, rfl⟩ hd
theorem pe_cls {a : Addr} (h : X.mg x = some (.ref a)) (hg : Gl X x := by rfl) (hd : (x == ("__debug__" : Str)) = false := by decide) : PE X (.Name x pos) (tC (.ref a)) := pe_glob (v := .ref a) hg h rfl hd
end
/-! ### calls -/
section
variable {X : Cx} {j k : Nat} {f C : Addr} {ps : List Str} {sp : Sp} {x m : Str} {p pos apos : Pos} {e o : Expr} {es : List Expr} {ta : TE} {t : TA}
theorem pe_fn (D : DOk X.prog X.w X.K X.mg X.base CX0 j f ps sp) (hm : X.mg x = some (.ref f)) (hr : Room k X.A) (ha : PA X (e :: es) t) (hj : j ≤ k := by decide) (hg : Gl X x := by rfl)
    (hdb : (x == ("__debug__" : Str)) = false := by decide) (he : starEach (e :: es) X.env = (false, eval e X.env) :: starEach es X.env := by rfl) (hpl : (backTo pos (starEach es X.env)).any (·.1) = false := by rfl) :
    PE X (.Call (.Name x p) (e :: es) [] pos) (tCall sp [] E0 t) := by
  obtain ⟨⟨fd, F, b⟩, kp⟩ := D
  exact pe_call F (hr.mono hj) hg hm kp b .nil pass0 ha hdb he hpl
theorem pe_mkc (D : DOk X.prog X.w X.K X.mg X.base CX0 j f ps sp) (M : Mk X.K C f) (hm : X.mg x = some (.ref C)) (hr : Room k X.A) (ha : PA X (e :: es) t) (hj : j + 1 ≤ k := by decide) (hg : Gl X x := by rfl)
    (hdb : (x == ("__debug__" : Str)) = false := by decide) (he : starEach (e :: es) X.env = (false, eval e X.env) :: starEach es X.env := by rfl) (hpl : (backTo pos (starEach es X.env)).any (·.1) = false := by rfl) :
    PE X (.Call (.Name x p) (e :: es) [] pos) (tMake C sp [] E0 t) := by
  obtain ⟨⟨fd, F, b⟩, kp⟩ := D
  exact pe_make M F (hr.mono hj) hg hm b .nil pass0 ha hdb he hpl
theorem pe_me {pl : Sem Bool} (D : DOk X.prog X.w X.K X.mg X.base CX0 j f ps sp) (c : Cls X.K C) (hm : Meth X.K C m f) (hr : Room k X.A) (he : PE X o ta) (ha : PA X (e :: es) t) (hj : j ≤ k := by decide)
    (hst : starEach (e :: es) X.env = (false, eval e X.env) :: starEach es X.env := by rfl) (hpl : (backTo pos (starEach es X.env)).any (·.1) = false := by rfl)
    (ht : eval (.Call (.Attribute o m apos) (e :: es) [] pos) X.env = (do
      let ov ← eval o X.env
      standAt apos.atName
      let (g, first) ← holding [ov] (getMethod ov m pl)
      callWith pos g first (backTo pos (starEach (e :: es) X.env)) (backToKw pos (keywordEach [] X.env))) := by rfl) :
    PE X (.Call (.Attribute o m apos) (e :: es) [] pos) (tMeth C m sp [] E0 ta t) := by
  obtain ⟨⟨fd, F, b⟩, kp⟩ := D
  exact pe_meth he c hm F (hr.mono hj) b .nil pass0 ha hst hpl ht
theorem pe_me0 {pl : Sem Bool} (D : DOk X.prog X.w X.K X.mg X.base CX0 j f ps sp) (c : Cls X.K C) (hm : Meth X.K C m f) (hr : Room k X.A) (he : PE X o ta) (hj : j ≤ k := by decide)
    (ht : eval (.Call (.Attribute o m apos) [] [] pos) X.env = (do
      let ov ← eval o X.env
      standAt apos.atName
      let (g, first) ← holding [ov] (getMethod ov m pl)
      callWith pos g first (backTo pos (starEach [] X.env)) (backToKw pos (keywordEach [] X.env))) := by rfl) :
    PE X (.Call (.Attribute o m apos) [] [] pos) (tMeth C m sp [] E0 ta tNil) := by
  obtain ⟨⟨fd, F, b⟩, kp⟩ := D
  exact pe_meth0 he c hm F (hr.mono hj) b .nil pass0 ht
/-- one of two readings -/
theorem pe_or2 {t1 t2 : TE} (h1 : PE X e t1) (h2 : PE X e t2) : PE X e (fun σ H Q => t1 σ H Q ∨ t2 σ H Q) :=
  ⟨fun pins s σ H Q I h => h.elim (h1.run pins s σ H Q I) (h2.run pins s σ H Q I)⟩
/-- C.m(e, ..): the def that the class C names m, called as it stands -/
theorem pe_clf {pl : Sem Bool} (D : DOk X.prog X.w X.K X.mg X.base CX0 j f ps sp) (c : ClsFn X.K C m (.ref f)) (hm : X.mg x = some (.ref C)) (hr : Room k X.A) (ha : PA X (e :: es) t) (hj : j ≤ k := by decide) (hg : Gl X x := by rfl)
    (hdb : (x == ("__debug__" : Str)) = false := by decide) (hst : starEach (e :: es) X.env = (false, eval e X.env) :: starEach es X.env := by rfl) (hpl : (backTo pos (starEach es X.env)).any (·.1) = false := by rfl)
    (ht : eval (.Call (.Attribute (.Name x p) m apos) (e :: es) [] pos) X.env = (do
      let ov ← eval (.Name x p) X.env
      standAt apos.atName
      let (g, first) ← holding [ov] (getMethod ov m pl)
      callWith pos g first (backTo pos (starEach (e :: es) X.env)) (backToKw pos (keywordEach [] X.env))) := by rfl) :
    PE X (.Call (.Attribute (.Name x p) m apos) (e :: es) [] pos) (tCall sp [] E0 t) := by
  obtain ⟨⟨fd, F, b⟩, kp⟩ := D
  refine ⟨fun pins s σ H Q I h => ?_⟩
  refine PySem.W.methodCall_KW (pl := pl) (ld_glob I hg hm ?_ hdb) ht
  refine PySem.W.method_cls I.kIn c.ga (PySem.W.cls_value I.kIn c.rd c.at_ rfl ?_)
  refine PySem.W.callWith_K (first := []) (h₀ := X.base) I.ok.mod.kin kp (thn (ha.run pos pins _ σ H _ (I.tok _) h) fun us s2 ⟨vs, H2, I2, r, q2⟩ => ⟨I2.kIn, ?_⟩) hst hpl
  exact run_fn (us := us) (vs := vs) F (hr.mono hj) b .nil pass0 I2 r q2
end
/-! ### dict(d) -/
theorem call_dictC {X : Cx} : CallR X (.type "dict") (fun xs H Q => ∃ (a : Addr) (kvs : List (Key × V)), xs = [.ref a] ∧ Rd H a (.dK kvs) ∧ ∀ p, H p = none → Q (.ref p) (upd H p (.dK kvs))) := by
  intro pins s σ H xs us Q I r h
  obtain ⟨a, kvs, rfl, e, q⟩ := h
  rw [Vals.ref1 r]
  exact d_copyOf I e fun p s' hp I' => ⟨.ref p, _, I', rfl, q p hp⟩
/-! ### loops over any walk of n turns -/
section
theorem for_it {J : It} {n : Nat} {g : TG} {tb : TS} {D : Ends} {σ : St} {H : Hp} (Pv : Nat → St → Hp → Prop) (h0 : Pv 0 σ H) (hd : ∀ σ H, Pv n σ H → J.stop n H ∧ D.nx σ H)
    (hs : ∀ i σ H, i < n → Pv i σ H → J.go i H ∧ ∀ x H', J.yld i H x H' → g x σ H' fun σ2 H2 => tb { D with nx := Pv (i + 1), ct := Pv (i + 1), bk := D.nx } σ2 H2) :
    ∃ W : Nat → Nat → St → Hp → Prop, (∃ m, W 0 m σ H) ∧ ∀ i m σ H, W i m σ H →
      (J.stop i H ∧ D.nx σ H) ∨ (J.go i H ∧ ∃ N : St → Hp → Prop, (∀ σ' H', N σ' H' → ∃ m', m' < m ∧ W (i + 1) m' σ' H') ∧ ∀ x H', J.yld i H x H' → g x σ H' fun σ2 H2 => tb { D with nx := N, ct := N, bk := D.nx } σ2 H2) := by
  refine ⟨fun i m σ H => i + m = n ∧ Pv i σ H, ⟨n, Nat.zero_add n, h0⟩, ?_⟩
  rintro i m σ H ⟨e, p⟩
  cases m with
  | zero =>
    obtain rfl : i = n := e
    exact .inl (hd σ H p)
  | succ m =>
    obtain ⟨a, b⟩ := hs i σ H (by omega) p
    exact .inr ⟨a, Pv (i + 1), fun σ' H' p' => ⟨m, Nat.lt_succ_self m, by omega, p'⟩, b⟩
theorem lc_it {J : It} {n : Nat} {g : TG} {tt : TT} {te : TE} {vs : List Nat} {σ : St} {H1 : Hp} {D : Addr} {Qd : Hp → Prop} (Pv : Nat → Hp → Prop) (h0 : Pv 0 (upd H1 D (.lst []))) (hd : ∀ H, Pv n H → J.stop n H ∧ Qd H)
    (hs : ∀ i H, i < n → Pv i H → J.go i H ∧ ∀ x H', J.yld i H x H' → g x (wipe σ vs) H' fun σ2 H2 => wipe σ2 vs = wipe σ vs ∧ tt σ2 H2 fun b H3 =>
      if b = true then te σ2 H3 fun y H4 => ∃ acc, H4 D = some (.lst acc) ∧ acc.length < sizeLine ∧ Pv (i + 1) (upd H4 D (.lst (acc ++ [y]))) else Pv (i + 1) H3) :
    ∃ W : Nat → Nat → Hp → Prop, (∃ m, W 0 m (upd H1 D (.lst []))) ∧ ∀ i m H, W i m H →
      (J.stop i H ∧ Qd H) ∨ (J.go i H ∧ ∃ Nx : Hp → Prop, (∀ H', Nx H' → ∃ m', m' < m ∧ W (i + 1) m' H') ∧ ∀ x H', J.yld i H x H' → g x (wipe σ vs) H' fun σ2 H2 => wipe σ2 vs = wipe σ vs ∧ tt σ2 H2 fun b H3 =>
        if b = true then te σ2 H3 fun y H4 => ∃ acc, H4 D = some (.lst acc) ∧ acc.length < sizeLine ∧ Nx (upd H4 D (.lst (acc ++ [y]))) else Nx H3) := by
  refine ⟨fun i m H => i + m = n ∧ Pv i H, ⟨n, Nat.zero_add n, h0⟩, ?_⟩
  rintro i m H ⟨e, p⟩
  cases m with
  | zero =>
    obtain rfl : i = n := e
    exact .inl (hd H p)
  | succ m =>
    obtain ⟨a, b⟩ := hs i H (by omega) p
    exact .inr ⟨a, Pv (i + 1), fun H' p' => ⟨m, Nat.lt_succ_self m, by omega, p'⟩, b⟩
end
end Ik
namespace Ik
open PySem PySem.Spec L2
open PySem.W (Frag)
theorem kit_ib (K : Frag) : PySem.W.kitOne K (.type "int") (.type "bool") = some false := by kernel_rfl
theorem kit_li (K : Frag) : PySem.W.kitAny K (.type "list") [.type "list", .type "tuple"] = some true := by kernel_rfl
/-! ### tests whose answer is known -/
theorem ifT {b : Bool} {A B : Prop} (hb : b = true) (h : A) : if b = true then A else B := by
  rw [hb, if_pos rfl]; exact h
theorem ifF {b : Bool} {A B : Prop} (hb : b = false) (h : B) : if b = true then A else B := by
  rw [hb, if_neg Bool.false_ne_true]; exact h
theorem decT {c : Prop} [Decidable c] (h : c) : decide c = true := decide_eq_true h
theorem decF {c : Prop} [Decidable c] (h : ¬ c) : decide c = false := decide_eq_false h
theorem decNT {c : Prop} [Decidable c] (h : c) : (!decide c) = false := by rw [decide_eq_true h]; rfl
theorem decNF {c : Prop} [Decidable c] (h : ¬ c) : (!decide c) = true := by rw [decide_eq_false h]; rfl
/-! ### heaps -/
theorem _root_.L2.Same.atNew {H H' : Hp} {p : Addr} {o : HO} (s : Same H H') (hp : H' p = none) : Same H (upd H' p o) := fun b u e => by
  rw [upd_ne (ne_of_none (s b u e) hp)]; exact s b u e
theorem _root_.L2.Same.atFresh {H H' : Hp} {p : Addr} {o : HO} (s : Same H H') (hp : H p = none) : Same H (upd H' p o) := fun b u e => by
  rw [upd_ne (ne_of_none e hp)]; exact s b u e
theorem same_new {H : Hp} {p : Addr} {o : HO} (hp : H p = none) : Same H (upd H p o) := (Same.refl H).atNew hp
theorem _root_.L2.Same.noneAt {H H' : Hp} (s : Same H H') {p : Addr} (hp : H' p = none) : H p = none := s.free hp
theorem ne_upd {H : Hp} {p q : Addr} {o u : HO} (hp : H p = none) (hq : (upd H p o) q = none) : q ≠ p := fun e => by
  rw [e, upd_same] at hq; cases hq
theorem upd_none {H : Hp} {p q : Addr} {o : HO} (h : (upd H p o) q = none) : q ≠ p ∧ H q = none := by
  by_cases e : q = p
  · rw [e, upd_same] at h; cases h
  · exact ⟨e, by rw [upd_ne e] at h; exact h⟩
theorem small64k {n : Nat} (h : n ≤ 4096) : n ≤ sizeLine := by rw [sizeLine_eq]; omega
theorem small64l {n : Nat} (h : n ≤ 4096) : n < sizeLine := by rw [sizeLine_eq]; omega
theorem atI_getLast {xs : List V} {v : V} (h : xs.getLast? = some v) : atI xs (-1) = some v := by
  obtain ⟨ys, rfl⟩ := List.getLast?_eq_some_iff.mp h
  exact atI_last ys v
theorem take_succ_of {α : Type} {l : List α} {i : Nat} {x : α} (h : l[i]? = some x) : l.take (i + 1) = l.take i ++ [x] := by
  rw [List.take_add_one, h]; rfl
theorem map_at {α β : Type} {f : α → β} {l : List α} {i : Nat} {y : β} (h : (l.map f)[i]? = some y) : ∃ x, l[i]? = some x ∧ y = f x := by
  rw [List.getElem?_map] at h
  obtain ⟨x, h1, h2⟩ := Option.map_eq_some_iff.mp h
  exact ⟨x, h1, h2.symm⟩
/-- a tuple is no list, no dict, no instance: it stays when one of these is stored -/
theorem tup_stays {H : Hp} {F t : Addr} {o u : HO} {xs : List V} (hF : H F = some u) (hu : ∀ ys, u ≠ .tup ys) (h : H t = some (.tup xs)) : upd H F o t = some (.tup xs) := by
  rw [upd_ne fun e => ?_]
  · exact h
  · rw [e, hF] at h; exact hu xs (Option.some.inj h)
theorem tup_lst {H : Hp} {F : Addr} {o : HO} {ys : List V} (hF : H F = some (.lst ys)) : ∀ t xs, H t = some (.tup xs) → upd H F o t = some (.tup xs) :=
  fun t xs h => tup_stays hF (fun _ z => by cases z) h
theorem tup_new {H : Hp} {F : Addr} {o : HO} (hF : H F = none) : ∀ t xs, H t = some (.tup xs) → upd H F o t = some (.tup xs) :=
  fun t xs h => same_new hF _ _ h
/-! ### rules whose reading names the written part: it is named K -/
section
variable {X : Cx} {K : Frag}
theorem pe_fldK (K : Frag) {o : Expr} {f : Str} {pos : Pos} {ta : TE} (he : PE X o ta) (e : X.K = K := by rfl) (hb : attributeBase o f X.env (eval o X.env) = eval o X.env := by rfl) : PE X (.Attribute o f pos) (tFld K ta f) := by
  subst e; exact pe_fld he hb
theorem ix_listK (K : Frag) (e : X.K = K := by rfl) : IxR X (rIxL K) := by subst e; exact ix_list
theorem ix_tupK (K : Frag) (e : X.K = K := by rfl) : IxR X (rIxT K) := by subst e; exact ix_tup
theorem sl_listK (K : Frag) (e : X.K = K := by rfl) : SlR X (rSlL K) := by subst e; exact sl_list
theorem sl_tupK (K : Frag) (e : X.K = K := by rfl) : SlR X (rSlT K) := by subst e; exact sl_tup
theorem call_isiK (K : Frag) (e : X.K = K := by rfl) : CallR X (.builtin "isinstance") (rIsi K) := by subst e; exact call_isi
theorem call_isiTK (K : Frag) (e : X.K = K := by rfl) : CallR X (.builtin "isinstance") (rIsiT K) := by subst e; exact call_isiT
theorem op_inK (K : Frag) (e : X.K = K := by rfl) : OpR X (compareOp .In) (rIn K false) := by subst e; exact op_in_seq
theorem op_notInK (K : Frag) (e : X.K = K := by rfl) : OpR X (compareOp .NotIn) (rIn K true) := by subst e; exact op_notIn_seq
theorem op_catAK (K : Frag) (e : X.K = K := by rfl) : OpR X (binaryOp .Add) (rCatA K) := by subst e; exact op_catA
theorem op_eqDK (K : Frag) {k : Nat} (hr : Room k X.A) (e : X.K = K := by rfl) : OpR X (compareOp .Eq) (rEqD K) := by subst e; exact op_eqD hr.units
theorem op_neDK (K : Frag) {k : Nat} (hr : Room k X.A) (e : X.K = K := by rfl) : OpR X (compareOp .NotEq) (rNeD K) := by subst e; exact op_neD hr.units
def rLenK (K : Frag) : List V → Hp → VK → Prop := fun xs H Q => ∃ x n, xs = [x] ∧ LenV K x H n ∧ Q (.int n) H
theorem call_lenK (K : Frag) (e : X.K = K := by rfl) : CallR X (.builtin "len") (rLenK K) := by subst e; exact call_len
def rListK (K : Frag) : List V → Hp → VK → Prop := fun xs H Q => ∃ p ys, xs = [.ref p] ∧ (SqL K H p ys ∨ SqT K H p ys) ∧ ∀ l, H l = none → Q (.ref l) (upd H l (.lst ys))
theorem call_listK (K : Frag) (e : X.K = K := by rfl) : CallR X (.type "list") (rListK K) := by subst e; exact call_list_of
theorem cr_sumK (K : Frag) (hc : X.calm = true) (e : X.K = K := by rfl) : CallR X (.builtin "sum") (rSum K) := by subst e; exact cr_sum hc
theorem cr_allK (K : Frag) (hc : X.calm = true) (e : X.K = K := by rfl) : CallR X (.builtin "all") (rAll K) := by subst e; exact cr_all hc
theorem cr_sortedK (K : Frag) (e : X.K = K := by rfl) : CallR X (.builtin "sorted") (rSorted K) := by subst e; exact cr_sorted
end
theorem pair_r {α β : Type} {F : α → β → Prop} {l₁ : List α} {l₂ : List β} (h : Paired F l₁ l₂) : ∀ {i : Nat} {y : β}, l₂[i]? = some y → ∃ x, l₁[i]? = some x ∧ F x y := by
  induction h with
  | nil => intro i y e; simp at e
  | cons p t ih =>
    intro i y e
    cases i with
    | zero => rw [List.getElem?_cons_zero, Option.some.injEq] at e; subst e; exact ⟨_, List.getElem?_cons_zero, p⟩
    | succ i => rw [List.getElem?_cons_succ] at e; obtain ⟨x, h1, h2⟩ := ih e; exact ⟨x, by rw [List.getElem?_cons_succ]; exact h1, h2⟩
theorem pair_l {α β : Type} {F : α → β → Prop} {l₁ : List α} {l₂ : List β} (h : Paired F l₁ l₂) : ∀ {i : Nat} {x : α}, l₁[i]? = some x → ∃ y, l₂[i]? = some y ∧ F x y := by
  induction h with
  | nil => intro i y e; simp at e
  | cons p t ih =>
    intro i y e
    cases i with
    | zero => rw [List.getElem?_cons_zero, Option.some.injEq] at e; subst e; exact ⟨_, List.getElem?_cons_zero, p⟩
    | succ i => rw [List.getElem?_cons_succ] at e; obtain ⟨x, h1, h2⟩ := ih e; exact ⟨x, by rw [List.getElem?_cons_succ]; exact h1, h2⟩
theorem _root_.PySem.Paired.to {α β : Type} {F G : α → β → Prop} {l₁ : List α} {l₂ : List β} (h : Paired F l₁ l₂) (f : ∀ a b, F a b → G a b) : Paired G l₁ l₂ := L2.Paired.mapP h f
theorem paired_eq {l₁ l₂ : List V} (h : Paired (fun v y => v = y) l₁ l₂) : l₁ = l₂ := by
  induction h with
  | nil => rfl
  | cons e _ ih => rw [e, ih]
/-! ### a comprehension that makes one thing of each item of a tracked list -/
section
variable {β : Type} {R : Hp → V → β → Prop} {K : Frag} {a D : Addr} {xs : List V} {bs : List β} {g : TG} {te : TE} {vs : List Nat} {σ : L2.St} {H1 : Hp} {Qd : Hp → Prop}
theorem lc_mapR (h1 : ∀ H H' v b, Same H H' → R H v b → R H' v b) (h2 : ∀ H F ys zs v b, H F = some (.lst ys) → R H v b → R (upd H F (.lst zs)) v b) (ha : H1 a = some (.lst xs)) (hD : H1 D = none)
    (hn : xs.length ≤ 4096) (hl : xs.length = bs.length)
    (step : ∀ (i : Nat) x b H', xs[i]? = some x → bs[i]? = some b → Same H1 H' → ∀ Q : VK, (∀ y H3, Same H' H3 → R H3 y b → Q y H3) → g x (wipe σ vs) H' fun σ2 H2 => wipe σ2 vs = wipe σ vs ∧ te σ2 H2 Q)
    (gm : ∀ x σ H (A B : L2.St → Hp → Prop), (∀ σ H, A σ H → B σ H) → g x σ H A → g x σ H B)
    (hd : ∀ H' ys, Same H1 H' → H' D = some (.lst ys) → Paired (R H') ys bs → Qd H') :
    ∃ W : Nat → Nat → Hp → Prop, (∃ m, W 0 m (upd H1 D (.lst []))) ∧ ∀ i m H, W i m H →
      ((Itl K a).stop i H ∧ Qd H) ∨ ((Itl K a).go i H ∧ ∃ Nx : Hp → Prop, (∀ H', Nx H' → ∃ m', m' < m ∧ W (i + 1) m' H') ∧ ∀ x H', (Itl K a).yld i H x H' → g x (wipe σ vs) H' fun σ2 H2 => wipe σ2 vs = wipe σ vs ∧ tYes σ2 H2 fun b H3 =>
        if b = true then te σ2 H3 fun y H4 => ∃ acc, H4 D = some (.lst acc) ∧ acc.length < sizeLine ∧ Nx (upd H4 D (.lst (acc ++ [y]))) else Nx H3) := by
  refine lc_list (K := K) (a := a) (xs := xs) (fun i H' => Same H1 H' ∧ ∃ ys, H' D = some (.lst ys) ∧ Paired (R H') ys (bs.take i)) ⟨same_new hD, [], upd_same, .nil⟩ (fun i H' _ e => .of (e.1 _ _ ha)) ?_ ?_
  · rintro i x H' hi ⟨s1, ys, gD, pr⟩
    have hi2 := (List.getElem?_eq_some_iff.mp hi).1
    obtain ⟨b, hb⟩ : ∃ b, bs[i]? = some b := ⟨_, List.getElem?_eq_getElem (by omega)⟩
    refine gm _ _ _ _ _ ?_ (step i x b H' hi hb s1 (fun y H4 => ∃ acc, H4 D = some (.lst acc) ∧ acc.length < sizeLine ∧ Same H1 (upd H4 D (.lst (acc ++ [y]))) ∧
      ∃ ys, upd H4 D (.lst (acc ++ [y])) D = some (.lst ys) ∧ Paired (R (upd H4 D (.lst (acc ++ [y])))) ys (bs.take (i + 1))) fun y H3 s2 r => ?_)
    · rintro σ2 H2 ⟨e, h⟩
      exact ⟨e, h⟩
    · have gD3 := s2 _ _ gD
      refine ⟨ys, gD3, ?_, (s1.trans s2).atFresh hD, ys ++ [y], upd_same, ?_⟩
      · rw [Paired.length pr, List.length_take]
        exact small64l (by omega)
      · rw [take_succ_of hb]
        exact Paired.snoc (pr.to fun _ _ q => h2 _ _ _ _ _ _ gD3 (h1 _ _ _ _ s2 q)) (h2 _ _ _ _ _ _ gD3 r)
  · rintro H' ⟨s1, ys, gD, pr⟩
    rw [hl, List.take_length] at pr
    exact hd H' ys s1 gD pr
/-- the same, the things known ahead -/
theorem lc_mapV {ys : List V} (ha : H1 a = some (.lst xs)) (hD : H1 D = none) (hn : xs.length ≤ 4096) (hl : xs.length = ys.length)
    (step : ∀ (i : Nat) x y H', xs[i]? = some x → ys[i]? = some y → Same H1 H' → ∀ Q : VK, (∀ H3, Same H' H3 → Q y H3) → g x (wipe σ vs) H' fun σ2 H2 => wipe σ2 vs = wipe σ vs ∧ te σ2 H2 Q)
    (gm : ∀ x σ H (A B : L2.St → Hp → Prop), (∀ σ H, A σ H → B σ H) → g x σ H A → g x σ H B)
    (hd : ∀ H', Same H1 H' → H' D = some (.lst ys) → Qd H') :
    ∃ W : Nat → Nat → Hp → Prop, (∃ m, W 0 m (upd H1 D (.lst []))) ∧ ∀ i m H, W i m H →
      ((Itl K a).stop i H ∧ Qd H) ∨ ((Itl K a).go i H ∧ ∃ Nx : Hp → Prop, (∀ H', Nx H' → ∃ m', m' < m ∧ W (i + 1) m' H') ∧ ∀ x H', (Itl K a).yld i H x H' → g x (wipe σ vs) H' fun σ2 H2 => wipe σ2 vs = wipe σ vs ∧ tYes σ2 H2 fun b H3 =>
        if b = true then te σ2 H3 fun y H4 => ∃ acc, H4 D = some (.lst acc) ∧ acc.length < sizeLine ∧ Nx (upd H4 D (.lst (acc ++ [y]))) else Nx H3) := by
  refine lc_mapR (R := fun _ v y => v = y) (fun _ _ _ _ _ e => e) (fun _ _ _ _ _ _ _ e => e) ha hD hn hl (fun i x y H' h1 h2 s1 Q q => step i x y H' h1 h2 s1 Q fun H3 s3 => q y H3 s3 rfl) gm fun H' zs s1 gD pr => ?_
  have := paired_eq pr
  subst this
  exact hd H' s1 gD
theorem gName_m {i : Nat} : ∀ x σ H (A B : L2.St → Hp → Prop), (∀ σ H, A σ H → B σ H) → gName i x σ H A → gName i x σ H B := fun _ _ _ _ _ h q => h _ _ q
end
theorem all_flat_str (ys : List Str) : (ys.map V.str).all flatV = true := by
  rw [List.all_eq_true]
  intro v hv
  obtain ⟨y, _, rfl⟩ := List.mem_map.mp hv
  rfl
theorem inV_str (z : Str) (ys : List Str) : inV (V.str z) (ys.map V.str) = decide (z ∈ ys) := by
  unfold inV
  induction ys with
  | nil => rfl
  | cons y ys ih =>
    rw [List.map_cons, List.any_cons, ih]
    have e : eqV (V.str y) (V.str z) = decide (y = z) := by
      unfold eqV
      first
        | rfl
        | simp
    rw [e]
    by_cases h : y = z
    · simp [h]
    · have h2 : ¬ z = y := fun q => h q.symm
      simp [h, h2]
theorem in_strs {z : Str} {ys : List Str} (h : z ∈ ys) : inV (V.str z) (ys.map V.str) = true := by rw [inV_str]; exact decide_eq_true h
theorem pair_app {α β : Type} {F : α → β → Prop} {l₁ l₃ : List α} {l₂ l₄ : List β} (h : Paired F l₁ l₂) (g : Paired F l₃ l₄) : Paired F (l₁ ++ l₃) (l₂ ++ l₄) := by
  induction h with
  | nil => exact g
  | cons p _ ih => exact .cons p ih
theorem nodup_name {α : Type} {f : α → Str} {l : List α} (nd : (l.map f).Nodup) {a b : α} (ha : a ∈ l) (hb : b ∈ l) (e : f a = f b) : a = b := by
  obtain ⟨i, hi, rfl⟩ := List.mem_iff_getElem.mp ha
  obtain ⟨j, hj, rfl⟩ := List.mem_iff_getElem.mp hb
  rcases Nat.lt_trichotomy i j with h | h | h
  · exact absurd (by rw [List.getElem_map, List.getElem_map]; exact e) (List.pairwise_iff_getElem.mp nd i j (by rw [List.length_map]; exact hi) (by rw [List.length_map]; exact hj) h)
  · subst h; rfl
  · exact absurd (by rw [List.getElem_map, List.getElem_map]; exact e.symm) (List.pairwise_iff_getElem.mp nd j i (by rw [List.length_map]; exact hj) (by rw [List.length_map]; exact hi) h)
/-! ### a list against [] -/
def rEqNil (K : Frag) (neg : Bool) : R2 := fun x y H Q => ∃ a b xs, x = .ref a ∧ y = .ref b ∧ SqL K H a xs ∧ SqL K H b [] ∧ Q (.bl (if neg then !xs.isEmpty else xs.isEmpty)) H
theorem op_eqNilK {X : Cx} {k : Nat} (K : Frag) (hr : Room k X.A) (e : X.K = K := by rfl) : OpR X (compareOp .Eq) (rEqNil K false) := by
  subst e
  intro pins s σ H x y v u Q I rx ry h
  obtain ⟨a, b, xs, rfl, rfl, ha, hb, q⟩ := h
  obtain rfl : v = Value.ref a := rx
  obtain rfl : u = Value.ref b := ry
  obtain ⟨its, rv, pl, _⟩ := I.list ha
  obtain ⟨its', rv', pl', _⟩ := I.list hb
  cases rv'
  cases rv with
  | nil => exact PySem.SeqAt.eq_listAt (e := fun _ => true) pl.isList pl'.isList rfl hr.units0 (fun j h1 _ => absurd h1 (Nat.not_lt_zero _)) ⟨.bl _, H, I, rfl, q⟩
  | cons r t => exact PySem.SeqAt.eq_list_lengthsAt pl.isList pl'.isList rfl hr.units0 ⟨.bl _, H, I, rfl, q⟩
theorem op_neNilK {X : Cx} {k : Nat} (K : Frag) (hr : Room k X.A) (e : X.K = K := by rfl) : OpR X (compareOp .NotEq) (rEqNil K true) := by
  subst e
  intro pins s σ H x y v u Q I rx ry h
  obtain ⟨a, b, xs, rfl, rfl, ha, hb, q⟩ := h
  obtain rfl : v = Value.ref a := rx
  obtain rfl : u = Value.ref b := ry
  obtain ⟨its, rv, pl, _⟩ := I.list ha
  obtain ⟨its', rv', pl', _⟩ := I.list hb
  cases rv'
  cases rv with
  | nil => exact PySem.SeqAt.RcNeAt.lists (e := fun _ => true) pl.isList pl'.isList rfl hr.units0 (fun j h1 _ => absurd h1 (Nat.not_lt_zero _)) _ _ _ _ ⟨.bl _, H, I, rfl, q⟩
  | cons r t => exact PySem.SeqAt.RcNeAt.lists_lengths pl.isList pl'.isList rfl hr.units0 _ _ _ _ ⟨.bl _, H, I, rfl, q⟩
end Ik


namespace Ik
open PySem PySem.Spec L2
open PySem.W (Frag)
/-- the letters -/
abbrev az : Str := "abcdefghijklmnopqrstuvwxyz"
/-- a name: one to eight small letters -/
structure IsNm (x : Str) : Prop where
  lo : 1 ≤ x.length
  hi : x.length ≤ 8
  abc : ∀ c ∈ x.cps.toList, c ∈ az.cps.toList
/-! ### promises -/
def sp_is_whole : Sp := fun vs H Q _ => ∃ i : Int, vs = [.int i] ∧ Q (.bl true) H
def sp_is_within : Sp := fun vs H Q _ => ∃ i lo hi : Int, vs = [.int i, .int lo, .int hi] ∧ lo ≤ i ∧ i ≤ hi ∧ Q (.bl true) H
def sp_is_name : Sp := fun vs H Q _ => ∃ x : Str, vs = [.str x] ∧ IsNm x ∧ ∀ H', Same H H' → Q (.bl true) H'
def sp_need_names (K : Frag) : Sp := fun vs H Q _ => ∃ (a : Addr) (xs : List Str), vs = [.ref a] ∧ H a = some (.lst (xs.map V.str)) ∧ (∀ x ∈ xs, IsNm x) ∧ ∀ H', Same H H' → Q .non H'
/-- three numbers, the first within the others -/
def Row3 (H : Hp) (v : V) : Prop := ∃ (t : Addr) (i lo hi : Int), v = .ref t ∧ H t = some (.tup [.int i, .int lo, .int hi]) ∧ lo ≤ i ∧ i ≤ hi
def sp_need_numbers (K : Frag) : Sp := fun vs H Q _ => ∃ (a : Addr) (xs : List V), vs = [.ref a] ∧ H a = some (.lst xs) ∧ (∀ v ∈ xs, Row3 H v) ∧ Q .non H
def Z_is_whole : Scope := { kind := .function, names := [("thing", .local), ("isinstance", .globalImplicit), ("int", .globalImplicit), ("bool", .globalImplicit)], isGenerator := false, isCoroutine := false, more := (defScope S_is_whole).more }
abbrev N_is_whole : List Str := ["thing"]
abbrev P_is_whole : List Str := ["thing"]
theorem sc_is_whole : FnScope N_is_whole P_is_whole Z_is_whole := ⟨rfl, rfl, rfl, by decide +kernel, rfl, by decide +kernel, by decide +kernel⟩
theorem sz_is_whole : defScope S_is_whole = Z_is_whole := rfl
def Z_is_within : Scope := { kind := .function, names := [("thing", .local), ("low", .local), ("high", .local), ("is_whole", .globalImplicit)], isGenerator := false, isCoroutine := false, more := (defScope S_is_within).more }
abbrev N_is_within : List Str := ["thing", "low", "high"]
abbrev P_is_within : List Str := ["thing", "low", "high"]
theorem sc_is_within : FnScope N_is_within P_is_within Z_is_within := ⟨rfl, rfl, rfl, by decide +kernel, rfl, by decide +kernel, by decide +kernel⟩
theorem sz_is_within : defScope S_is_within = Z_is_within := rfl
def Z_is_name : Scope := { kind := .function, names := [("thing", .local), ("isinstance", .globalImplicit), ("str", .globalImplicit), ("len", .globalImplicit), ("LONGEST_NAME", .globalImplicit), ("all", .globalImplicit)], isGenerator := false, isCoroutine := false, more := (defScope S_is_name).more }
abbrev N_is_name : List Str := ["thing", "sign"]
abbrev P_is_name : List Str := ["thing"]
theorem sc_is_name : FnScope N_is_name P_is_name Z_is_name := ⟨rfl, rfl, rfl, by decide +kernel, rfl, by decide +kernel, by decide +kernel⟩
theorem sz_is_name : defScope S_is_name = Z_is_name := rfl
def Z_need_names : Scope := { kind := .function, names := [("things", .local), ("thing", .local), ("is_name", .globalImplicit), ("NoName", .globalImplicit)], isGenerator := false, isCoroutine := false, more := (defScope S_need_names).more }
abbrev N_need_names : List Str := ["things", "thing"]
abbrev P_need_names : List Str := ["things"]
theorem sc_need_names : FnScope N_need_names P_need_names Z_need_names := ⟨rfl, rfl, rfl, by decide +kernel, rfl, by decide +kernel, by decide +kernel⟩
theorem sz_need_names : defScope S_need_names = Z_need_names := rfl
def Z_need_numbers : Scope := { kind := .function, names := [("rows", .local), ("thing", .local), ("low", .local), ("high", .local), ("is_within", .globalImplicit), ("NoNumber", .globalImplicit)], isGenerator := false, isCoroutine := false, more := (defScope S_need_numbers).more }
abbrev N_need_numbers : List Str := ["rows", "thing", "low", "high"]
abbrev P_need_numbers : List Str := ["rows"]
theorem sc_need_numbers : FnScope N_need_numbers P_need_numbers Z_need_numbers := ⟨rfl, rfl, rfl, by decide +kernel, rfl, by decide +kernel, by decide +kernel⟩
theorem sz_need_numbers : defScope S_need_numbers = Z_need_numbers := rfl
section
variable {P : Program} {w : World} {K : Frag} {mg : Str → Option Value} {base : Heap}
theorem ok_is_whole (T : Txt K mg) : DOk P w K mg base CX0 1 a_is_whole P_is_whole sp_is_whole := by
  refine DOk.mk0 T.f_is_whole sc_is_whole sz_is_whole (fun vs H Q E h => ?_) (fun cdv A outer s H vs Q E hr h => ?_)
  · obtain ⟨i, rfl, _⟩ := h; rfl
  · obtain ⟨i, rfl, k⟩ := h
    refine ⟨_, (pss_one (ps_ret (pe_and (pe_callB (call_isiK K) (by rfl) T.z_isinstance bt_isinstance (pa_cons (pv 0) (pa_cons (pe_bltn (v := .ty "int") (by rfl) T.z_int bt_int rfl) pa_nil))) (pe_one (pe_not (pe_callB (call_isiK K) (by rfl) T.z_isinstance bt_isinstance (pa_cons (pv 0) (pa_cons (pe_bltn (v := .ty "bool") (by rfl) T.z_bool bt_bool rfl) pa_nil)))))))), ?_⟩
    refine ⟨_, rfl, _, _, _, _, _, rfl, .ty _, .base (.int i), (rfl : PySem.W.kitOne _ (.type "int") (.type "int") = some true), true, rfl, ?_⟩
    refine iteT ⟨_, rfl, _, _, _, _, false, rfl, .ty _, .base (.int i), kit_ib _, false, rfl, k⟩
theorem ok_is_within (T : Txt K mg) (D_is_whole : DOk P w K mg base CX0 1 a_is_whole P_is_whole sp_is_whole) : DOk P w K mg base CX0 2 a_is_within P_is_within sp_is_within := by
  refine DOk.mk0 T.f_is_within sc_is_within sz_is_within (fun vs H Q E h => ?_) (fun cdv A outer s H vs Q E hr h => ?_)
  · obtain ⟨i, lo, hi, rfl, _⟩ := h; rfl
  · obtain ⟨i, lo, hi, rfl, h1, h2, k⟩ := h
    refine ⟨_, (pss_one (ps_ret (pe_and (pe_fn D_is_whole T.g_is_whole hr (pa_cons (pv 0) pa_nil)) (pe_one (pe_chain op_le op_le (pv 1) (pv 0) (pv 2)))))), ?_⟩
    refine ⟨_, rfl, _, rfl, true, rfl, iteT ⟨_, rfl, _, rfl, _, _, rfl, rfl, _, rfl, ?_⟩⟩
    rw [decide_eq_true h1]
    refine iteT ⟨_, rfl, _, _, rfl, rfl, ?_⟩
    show Q (.bl (decide (i ≤ hi))) H
    rw [decide_eq_true h2]
    exact k
theorem ok_is_name (T : Txt K mg) : DOk P w K mg base CX0 1 a_is_name P_is_name sp_is_name := by
  refine DOk.mk0 T.f_is_name sc_is_name sz_is_name (fun vs H Q E h => ?_) (fun cdv A outer s H vs Q E hr h => ?_)
  · obtain ⟨i, rfl, _⟩ := h; rfl
  · obtain ⟨x, rfl, hx, k⟩ := h
    have hu := hu_of hr
    refine ⟨_, (pss_cons (ps_if (PW.pt (pw_or (pt_not (pt_val (pe_callB (call_isiK K) (by rfl) T.z_isinstance bt_isinstance (pa_cons (pv 0) (pa_cons (pe_bltn (v := .ty "str") (by rfl) T.z_str bt_str rfl) pa_nil))))) (pw_or1 (pt_not (pt_chain op_le op_le pe_int (pe_callB (call_lenK K) (by rfl) T.z_len bt_len (pa_cons (pv 0) pa_nil)) (pe_num T.i_LONGEST_NAME)))))) (pss_one (ps_ret pe_bl)) pss_nil)
    (pss_one (ps_ret (pe_callB (cr_allK K rfl) (by rfl) T.z_all bt_all (pa_cons (pe_lc (own := [("sign", 1)]) (g := (gName 1)) rfl sc_is_name.nd (pi_str (pv 0)) (blkOk_by (own := [("sign", 1)]) (N := N_is_name) (sc := Z_is_name) (by decide +kernel)) (fun _ _ _ _ _ => (pg_name (i := 1) sc_is_name.nd rfl (Or.inl rfl))) (fun _ _ _ _ _ => pts_nil) (fun _ _ _ _ _ => (pe_cmpR op_in_sign (pv 1) (pe_txt T.s_LETTERS) (by rfl)))) pa_nil))))), ?_⟩
    refine ⟨_, rfl, _, _, _, _, _, rfl, .ty _, .base (.str x), (rfl : PySem.W.kitOne _ (.type "str") (.type "str") = some true), true, rfl, ?_⟩
    refine iteF ?_
    refine ⟨_, rfl, _, x.length, rfl, ⟨small64k (by have := hx.hi; omega), rfl⟩, _, _, rfl, rfl, _, rfl, ifT (decT (by have := hx.lo; omega)) ⟨_, _, rfl, rfl, _, rfl, ?_⟩⟩
    refine ifF (decNT (by have := hx.hi; show (x.length : Int) ≤ 8; omega)) ?_
    refine ⟨_, rfl, x, rfl, fun D hD => lc_it (n := x.cps.size) (fun i H' => Same H H' ∧ H' D = some (.lst (List.replicate i (.bl true)))) ⟨same_new hD, upd_same⟩ ?_ ?_⟩
    · rintro H' ⟨s1, h1⟩
      refine ⟨Nat.le_refl _, D, List.replicate x.cps.size true, rfl, .of (by rw [List.map_replicate]; exact h1), ?_⟩
      rw [List.all_replicate]
      refine Eq.subst (motive := fun b => Q (.bl b) H') ?_ (k H' s1)
      split <;> rfl
    · rintro i H' hi ⟨s1, h1⟩
      refine ⟨hi, ?_⟩
      rintro _ _ ⟨rfl, c, hc, rfl⟩
      refine ⟨rfl, ?_⟩
      refine ⟨_, rfl, c, _, rfl, rfl, _, h1, ?_, ?_⟩
      · rw [List.length_replicate]
        exact small64l (by have := hx.hi; have e : x.length = x.cps.size := rfl; omega)
      · have hm : c ∈ x.cps.toList := by
          rw [← Array.getElem?_toList] at hc
          exact List.mem_of_getElem? hc
        refine ⟨s1.atFresh hD, ?_⟩
        rw [upd_same]
        rw [decide_eq_true (p := c ∈ _) (hx.abc c hm), List.replicate_succ']
theorem ok_need_names (T : Txt K mg) (D_is_name : DOk P w K mg base CX0 1 a_is_name P_is_name sp_is_name) : DOk P w K mg base CX0 2 a_need_names P_need_names (sp_need_names K) := by
  refine DOk.mk0 T.f_need_names sc_need_names sz_need_names (fun vs H Q E h => ?_) (fun cdv A outer s H vs Q E hr h => ?_)
  · obtain ⟨a, xs, rfl, _⟩ := h; rfl
  · obtain ⟨a, xs, rfl, ha, hx, k⟩ := h
    refine ⟨_, (pss_one (ps_for PassesOwn.never rfl (pi_list (pv 0)) (pg_name (i := 1) sc_need_names.nd rfl (Or.inl rfl))
      (pss_one (ps_if (pt_not (pt_val (pe_fn D_is_name T.g_is_name hr (pa_cons (pv 1) pa_nil)))) (pss_one ps_never) pss_nil)))), ?_⟩
    refine ⟨_, rfl, a, rfl, ⟨_, .of ha⟩, for_list (K := K) (a := a) (xs := xs.map V.str) (fun i σ H' => ∃ v, σ = [some (.ref a), v] ∧ Same H H') ⟨_, rfl, Same.refl H⟩ (fun i σ H' _ ⟨_, _, s1⟩ => .of (s1 _ _ ha)) ?_ ?_⟩
    · rintro i y σ H' hi ⟨v, rfl, s1⟩
      rw [List.getElem?_map] at hi
      obtain ⟨z, hz, rfl⟩ := Option.map_eq_some_iff.mp hi
      refine ⟨_, rfl, z, rfl, hx z (List.mem_of_getElem? hz), fun H2 s2 => ⟨true, rfl, iteF ?_⟩⟩
      exact ⟨_, rfl, s1.trans s2⟩
    · rintro σ H' ⟨v, rfl, s1⟩
      exact k H' s1
theorem ok_need_numbers (T : Txt K mg) (D_is_within : DOk P w K mg base CX0 2 a_is_within P_is_within sp_is_within) : DOk P w K mg base CX0 3 a_need_numbers P_need_numbers (sp_need_numbers K) := by
  refine DOk.mk0 T.f_need_numbers sc_need_numbers sz_need_numbers (fun vs H Q E h => ?_) (fun cdv A outer s H vs Q E hr h => ?_)
  · obtain ⟨a, xs, rfl, _⟩ := h; rfl
  · obtain ⟨a, xs, rfl, ha, hx, k⟩ := h
    refine ⟨_, (pss_one (ps_for PassesOwn.never rfl (pi_list (pv 0)) (pg_tup rfl (pgs_cons (pg_name (i := 1) sc_need_numbers.nd rfl (Or.inl rfl)) (pgs_cons (pg_name (i := 2) sc_need_numbers.nd rfl (Or.inl rfl)) (pgs_cons (pg_name (i := 3) sc_need_numbers.nd rfl (Or.inl rfl)) pgs_nil))))
      (pss_one (ps_if (pt_not (pt_val (pe_fn D_is_within T.g_is_within hr (pa_cons (pv 1) (pa_cons (pv 2) (pa_cons (pv 3) pa_nil)))))) (pss_one ps_never) pss_nil)))), ?_⟩
    refine ⟨_, rfl, a, rfl, ⟨_, .of ha⟩, for_list (K := K) (a := a) (xs := xs) (fun i σ H' => ∃ u v r, σ = [some (.ref a), u, v, r] ∧ H' = H) ⟨_, _, _, rfl, rfl⟩ (fun i σ H' _ ⟨_, _, _, _, e⟩ => .of (by rw [e]; exact ha)) ?_ ?_⟩
    · rintro i y σ H' hi ⟨u, v, r, rfl, rfl⟩
      obtain ⟨t, n, lo, hh, rfl, ht, h1, h2⟩ := hx y (List.mem_of_getElem? hi)
      refine ⟨t, _, rfl, .of ht, rfl, _, _, rfl, _, _, rfl, _, _, rfl, rfl, ?_⟩
      exact ⟨_, rfl, _, rfl, _, rfl, n, lo, hh, rfl, h1, h2, true, rfl, iteF ⟨_, _, _, rfl, rfl⟩⟩
    · rintro σ H' ⟨u, v, r, rfl, rfl⟩
      exact k
end
end Ik


namespace Ik
open PySem PySem.Spec L2
open PySem.W (Frag)
theorem szOf {n m : Nat} (h : Nat.ble n m = true) : n ≤ m := Nat.le_of_ble_eq_true h
/-! ### channels and vessels -/
structure Chan where
  name : Str
  one : Str
  other : Str
  hours : Int
  depth : Int
  first : Int
  growth : Int
  most : Int
structure Chan.Ok (c : Chan) : Prop where
  n0 : IsNm c.name
  n1 : IsNm c.one
  n2 : IsNm c.other
  ne : c.one ≠ c.other
  h0 : 1 ≤ c.hours
  h1 : c.hours ≤ 1000
  d0 : 0 ≤ c.depth
  d1 : c.depth ≤ 1000
  f0 : 0 ≤ c.first
  g0 : 0 ≤ c.growth
  g1 : c.growth ≤ 1000
  m0 : c.first ≤ c.most
  m1 : c.most ≤ 1000000
def Chan.fs (c : Chan) : List (Str × V) := [("name", .str c.name), ("one", .str c.one), ("other", .str c.other), ("hours", .int c.hours), ("depth", .int c.depth), ("first", .int c.first), ("growth", .int c.growth), ("most", .int c.most)]
def Chan.row (c : Chan) : List V := [.str c.name, .str c.one, .str c.other, .int c.hours, .int c.depth, .int c.first, .int c.growth, .int c.most]
/-- a breaker (isB) or a ship -/
structure Ves where
  isB : Bool
  name : Str
  port : Str
  goal : Str
  hour : Int
  strength : Int
  draught : Int
  cut : Int
structure Ves.Ok (v : Ves) : Prop where
  n0 : IsNm v.name
  n1 : IsNm v.port
  n2 : v.isB = false → IsNm v.goal
  h0 : 0 ≤ v.hour
  h1 : v.hour ≤ 1000000
  s0 : 0 ≤ v.strength
  s1 : v.strength ≤ 1000000
  d0 : 0 ≤ v.draught
  d1 : v.draught ≤ 1000
  c0 : v.isB = true → 1 ≤ v.cut
  c1 : v.isB = true → v.cut ≤ 1000000
def Ves.fs0 (v : Ves) : List (Str × V) := [("name", .str v.name), ("port", .str v.port), ("hour", .int v.hour), ("strength", .int v.strength), ("draught", .int v.draught)]
def Ves.fs (v : Ves) : List (Str × V) := match v.isB with
  | true => [("name", .str v.name), ("port", .str v.port), ("hour", .int v.hour), ("strength", .int v.strength), ("draught", .int v.draught), ("cut", .int v.cut)]
  | false => [("name", .str v.name), ("port", .str v.port), ("hour", .int v.hour), ("strength", .int v.strength), ("draught", .int v.draught), ("goal", .str v.goal)]
def Ves.cls (v : Ves) : Addr := match v.isB with
  | true => cBreaker
  | false => cShip
def Ves.row (v : Ves) : List V := match v.isB with
  | true => [.str v.name, .str v.port, .int v.hour, .int v.strength, .int v.draught, .int v.cut]
  | false => [.str v.name, .str v.port, .str v.goal, .int v.hour, .int v.strength, .int v.draught]
def ChanAt (H : Hp) (a : Addr) (c : Chan) : Prop := ∃ dx, H a = some (.ins cChannel dx c.fs)
def VesAt (H : Hp) (a : Addr) (v : Ves) : Prop := ∃ dx, H a = some (.ins v.cls dx v.fs)
theorem ChanAt.mono {H H' : Hp} {a : Addr} {c : Chan} (h : ChanAt H a c) (s : Same H H') : ChanAt H' a c := let ⟨d, e⟩ := h; ⟨d, s _ _ e⟩
theorem VesAt.mono {H H' : Hp} {a : Addr} {v : Ves} (h : VesAt H a v) (s : Same H H') : VesAt H' a v := let ⟨d, e⟩ := h; ⟨d, s _ _ e⟩
section
variable (v : Ves)
theorem Ves.l_name : v.fs.lookup ("name" : Str) = some (.str v.name) := by unfold Ves.fs; cases v.isB <;> rfl
theorem Ves.l_port : v.fs.lookup ("port" : Str) = some (.str v.port) := by unfold Ves.fs; cases v.isB <;> rfl
theorem Ves.l_hour : v.fs.lookup ("hour" : Str) = some (.int v.hour) := by unfold Ves.fs; cases v.isB <;> rfl
theorem Ves.l_strength : v.fs.lookup ("strength" : Str) = some (.int v.strength) := by unfold Ves.fs; cases v.isB <;> rfl
theorem Ves.l_draught : v.fs.lookup ("draught" : Str) = some (.int v.draught) := by unfold Ves.fs; cases v.isB <;> rfl
theorem Ves.l_thins : v.fs.lookup ("thins" : Str) = none := by unfold Ves.fs; cases v.isB <;> rfl
theorem Ves.l_lets : v.fs.lookup ("lets" : Str) = none := by unfold Ves.fs; cases v.isB <;> rfl
variable {v} {K : Frag} {mg : Str → Option Value} (T : Txt K mg)
include T
theorem Ves.cl : Cls K v.cls := by unfold Ves.cls; cases v.isB; exact T.cl_Ship; exact T.cl_Breaker
theorem Ves.na_name : NoAttr K v.cls "name" := by unfold Ves.cls; cases v.isB; exact T.na_Ship_name; exact T.na_Breaker_name
theorem Ves.na_port : NoAttr K v.cls "port" := by unfold Ves.cls; cases v.isB; exact T.na_Ship_port; exact T.na_Breaker_port
theorem Ves.na_hour : NoAttr K v.cls "hour" := by unfold Ves.cls; cases v.isB; exact T.na_Ship_hour; exact T.na_Breaker_hour
theorem Ves.na_strength : NoAttr K v.cls "strength" := by unfold Ves.cls; cases v.isB; exact T.na_Ship_strength; exact T.na_Breaker_strength
theorem Ves.na_draught : NoAttr K v.cls "draught" := by unfold Ves.cls; cases v.isB; exact T.na_Ship_draught; exact T.na_Breaker_draught
end
/-! ### promises -/
/-- all but the object at p is as it was -/
def But (p : Addr) (H H' : Hp) : Prop := ∀ b o, H b = some o → b ≠ p → H' b = some o
theorem But.of {p : Addr} {H H1 H' : Hp} (s : Same H H1) (h : ∀ b, b ≠ p → H' b = H1 b) : But p H H' := fun b o e n => by rw [h b n]; exact s b o e
def sp_Channel_init : Sp := fun vs H Q _ => ∃ (p dx : Addr) (c : Chan), vs = .ref p :: c.row ∧ H p = some (.ins cChannel dx []) ∧ c.Ok ∧ ∀ H', But p H H' → H' p = some (.ins cChannel dx c.fs) → Q .non H'
def sp_Channel_ends : Sp := fun vs H Q _ => ∃ (p : Addr) (c : Chan), vs = [.ref p] ∧ ChanAt H p c ∧ ∀ t, H t = none → Q (.ref t) (upd H t (.tup [.str c.one, .str c.other]))
/-- the other end -/
def Chan.over (c : Chan) (x : Str) : Str := if x = c.one then c.other else c.one
def sp_Channel_beyond : Sp := fun vs H Q _ => ∃ (p : Addr) (c : Chan) (x : Str), vs = [.ref p, .str x] ∧ ChanAt H p c ∧ (x = c.one ∨ x = c.other) ∧ Q (.str (c.over x)) H
def sp_Vessel_settle : Sp := fun vs H Q _ => ∃ (p dx : Addr) (v : Ves), vs = [.ref p, .str v.name, .str v.port, .int v.hour, .int v.strength, .int v.draught] ∧ H p = some (.ins v.cls dx []) ∧
  ∀ H', (∀ b, b ≠ p → H' b = H b) → H' p = some (.ins v.cls dx v.fs0) → Q .non H'
def sp_Vessel_init : Sp := fun vs H Q _ => ∃ (p dx : Addr) (v : Ves), vs = [.ref p, .str v.name, .str v.port, .int v.hour, .int v.strength, .int v.draught] ∧ H p = some (.ins v.cls dx []) ∧ v.Ok ∧
  ∀ H', But p H H' → H' p = some (.ins v.cls dx v.fs0) → Q .non H'
def sp_Breaker_init : Sp := fun vs H Q _ => ∃ (p dx : Addr) (v : Ves), v.isB = true ∧ vs = .ref p :: v.row ∧ H p = some (.ins cBreaker dx []) ∧ v.Ok ∧ ∀ H', But p H H' → H' p = some (.ins v.cls dx v.fs) → Q .non H'
def sp_Ship_init : Sp := fun vs H Q _ => ∃ (p dx : Addr) (v : Ves), v.isB = false ∧ vs = .ref p :: v.row ∧ H p = some (.ins cShip dx []) ∧ v.Ok ∧ ∀ H', But p H H' → H' p = some (.ins v.cls dx v.fs) → Q .non H'
def sp_Vessel_thins : Sp := fun vs H Q _ => ∃ (p : Addr), vs = [.ref p] ∧ Q (.int 0) H
def sp_Breaker_thins : Sp := fun vs H Q _ => ∃ (p : Addr) (v : Ves), vs = [.ref p] ∧ v.isB = true ∧ VesAt H p v ∧ Q (.int v.cut) H
def sp_Vessel_lets : Sp := fun vs H Q _ => ∃ (p q : Addr) (v : Ves) (c : Chan), vs = [.ref p, .ref q] ∧ VesAt H p v ∧ ChanAt H q c ∧ Q (.bl (decide (v.draught ≤ c.depth))) H
def Z_Channel_init : Scope := { kind := .function, names := [("self", .local), ("name", .local), ("one", .local), ("other", .local), ("hours", .local), ("depth", .local), ("first", .local), ("growth", .local), ("most", .local), ("need_names", .globalImplicit), ("Doubled", .globalImplicit), ("need_numbers", .globalImplicit), ("MOST_LENGTH", .globalImplicit), ("MOST_DEPTH", .globalImplicit), ("MOST_ICE", .globalImplicit), ("MOST_GROWTH", .globalImplicit)], isGenerator := false, isCoroutine := false, more := (defScope S_Channel_init).more }
abbrev N_Channel_init : List Str := ["self", "name", "one", "other", "hours", "depth", "first", "growth", "most"]
abbrev P_Channel_init : List Str := ["self", "name", "one", "other", "hours", "depth", "first", "growth", "most"]
theorem sc_Channel_init : FnScope N_Channel_init P_Channel_init Z_Channel_init := ⟨rfl, rfl, rfl, by decide +kernel, rfl, by decide +kernel, by decide +kernel⟩
theorem sz_Channel_init : defScope S_Channel_init = Z_Channel_init := rfl
def Z_Channel_ends : Scope := { kind := .function, names := [("self", .local)], isGenerator := false, isCoroutine := false, more := (defScope S_Channel_ends).more }
abbrev N_Channel_ends : List Str := ["self"]
abbrev P_Channel_ends : List Str := ["self"]
theorem sc_Channel_ends : FnScope N_Channel_ends P_Channel_ends Z_Channel_ends := ⟨rfl, rfl, rfl, by decide +kernel, rfl, by decide +kernel, by decide +kernel⟩
theorem sz_Channel_ends : defScope S_Channel_ends = Z_Channel_ends := rfl
def Z_Channel_beyond : Scope := { kind := .function, names := [("self", .local), ("port", .local), ("NoPort", .globalImplicit)], isGenerator := false, isCoroutine := false, more := (defScope S_Channel_beyond).more }
abbrev N_Channel_beyond : List Str := ["self", "port"]
abbrev P_Channel_beyond : List Str := ["self", "port"]
theorem sc_Channel_beyond : FnScope N_Channel_beyond P_Channel_beyond Z_Channel_beyond := ⟨rfl, rfl, rfl, by decide +kernel, rfl, by decide +kernel, by decide +kernel⟩
theorem sz_Channel_beyond : defScope S_Channel_beyond = Z_Channel_beyond := rfl
def Z_Vessel_settle : Scope := { kind := .function, names := [("self", .local), ("name", .local), ("port", .local), ("hour", .local), ("strength", .local), ("draught", .local)], isGenerator := false, isCoroutine := false, more := (defScope S_Vessel_settle).more }
abbrev N_Vessel_settle : List Str := ["self", "name", "port", "hour", "strength", "draught"]
abbrev P_Vessel_settle : List Str := ["self", "name", "port", "hour", "strength", "draught"]
theorem sc_Vessel_settle : FnScope N_Vessel_settle P_Vessel_settle Z_Vessel_settle := ⟨rfl, rfl, rfl, by decide +kernel, rfl, by decide +kernel, by decide +kernel⟩
theorem sz_Vessel_settle : defScope S_Vessel_settle = Z_Vessel_settle := rfl
def Z_Vessel_init : Scope := { kind := .function, names := [("self", .local), ("name", .local), ("port", .local), ("hour", .local), ("strength", .local), ("draught", .local), ("need_names", .globalImplicit), ("need_numbers", .globalImplicit), ("MOST_HOUR", .globalImplicit), ("MOST_ICE", .globalImplicit), ("MOST_DEPTH", .globalImplicit)], isGenerator := false, isCoroutine := false, more := (defScope S_Vessel_init).more }
abbrev N_Vessel_init : List Str := ["self", "name", "port", "hour", "strength", "draught"]
abbrev P_Vessel_init : List Str := ["self", "name", "port", "hour", "strength", "draught"]
theorem sc_Vessel_init : FnScope N_Vessel_init P_Vessel_init Z_Vessel_init := ⟨rfl, rfl, rfl, by decide +kernel, rfl, by decide +kernel, by decide +kernel⟩
theorem sz_Vessel_init : defScope S_Vessel_init = Z_Vessel_init := rfl
def Z_Breaker_init : Scope := { kind := .function, names := [("self", .local), ("name", .local), ("port", .local), ("hour", .local), ("strength", .local), ("draught", .local), ("cut", .local), ("Vessel", .globalImplicit), ("need_numbers", .globalImplicit), ("MOST_ICE", .globalImplicit)], isGenerator := false, isCoroutine := false, more := (defScope S_Breaker_init).more }
abbrev N_Breaker_init : List Str := ["self", "name", "port", "hour", "strength", "draught", "cut"]
abbrev P_Breaker_init : List Str := ["self", "name", "port", "hour", "strength", "draught", "cut"]
theorem sc_Breaker_init : FnScope N_Breaker_init P_Breaker_init Z_Breaker_init := ⟨rfl, rfl, rfl, by decide +kernel, rfl, by decide +kernel, by decide +kernel⟩
theorem sz_Breaker_init : defScope S_Breaker_init = Z_Breaker_init := rfl
def Z_Ship_init : Scope := { kind := .function, names := [("self", .local), ("name", .local), ("port", .local), ("goal", .local), ("hour", .local), ("strength", .local), ("draught", .local), ("need_names", .globalImplicit), ("Vessel", .globalImplicit)], isGenerator := false, isCoroutine := false, more := (defScope S_Ship_init).more }
abbrev N_Ship_init : List Str := ["self", "name", "port", "goal", "hour", "strength", "draught"]
abbrev P_Ship_init : List Str := ["self", "name", "port", "goal", "hour", "strength", "draught"]
theorem sc_Ship_init : FnScope N_Ship_init P_Ship_init Z_Ship_init := ⟨rfl, rfl, rfl, by decide +kernel, rfl, by decide +kernel, by decide +kernel⟩
theorem sz_Ship_init : defScope S_Ship_init = Z_Ship_init := rfl
def Z_Vessel_thins : Scope := { kind := .function, names := [("self", .local)], isGenerator := false, isCoroutine := false, more := (defScope S_Vessel_thins).more }
abbrev N_Vessel_thins : List Str := ["self"]
abbrev P_Vessel_thins : List Str := ["self"]
theorem sc_Vessel_thins : FnScope N_Vessel_thins P_Vessel_thins Z_Vessel_thins := ⟨rfl, rfl, rfl, by decide +kernel, rfl, by decide +kernel, by decide +kernel⟩
theorem sz_Vessel_thins : defScope S_Vessel_thins = Z_Vessel_thins := rfl
def Z_Breaker_thins : Scope := { kind := .function, names := [("self", .local)], isGenerator := false, isCoroutine := false, more := (defScope S_Breaker_thins).more }
abbrev N_Breaker_thins : List Str := ["self"]
abbrev P_Breaker_thins : List Str := ["self"]
theorem sc_Breaker_thins : FnScope N_Breaker_thins P_Breaker_thins Z_Breaker_thins := ⟨rfl, rfl, rfl, by decide +kernel, rfl, by decide +kernel, by decide +kernel⟩
theorem sz_Breaker_thins : defScope S_Breaker_thins = Z_Breaker_thins := rfl
def Z_Vessel_lets : Scope := { kind := .function, names := [("self", .local), ("channel", .local)], isGenerator := false, isCoroutine := false, more := (defScope S_Vessel_lets).more }
abbrev N_Vessel_lets : List Str := ["self", "channel"]
abbrev P_Vessel_lets : List Str := ["self", "channel"]
theorem sc_Vessel_lets : FnScope N_Vessel_lets P_Vessel_lets Z_Vessel_lets := ⟨rfl, rfl, rfl, by decide +kernel, rfl, by decide +kernel, by decide +kernel⟩
theorem sz_Vessel_lets : defScope S_Vessel_lets = Z_Vessel_lets := rfl
section
variable {P : Program} {w : World} {K : Frag} {mg : Str → Option Value} {base : Heap}
theorem ok_Channel_init (T : Txt K mg) (D_need_names : DOk P w K mg base CX0 2 a_need_names P_need_names (sp_need_names K)) (D_need_numbers : DOk P w K mg base CX0 3 a_need_numbers P_need_numbers (sp_need_numbers K)) :
    DOk P w K mg base CX0 4 a_Channel_init P_Channel_init sp_Channel_init := by
  refine DOk.mk0 T.f_Channel_init sc_Channel_init sz_Channel_init (fun vs H Q E h => ?_) (fun cdv A outer s H vs Q E hr h => ?_)
  · obtain ⟨p, dx, c, rfl, _⟩ := h; rfl
  · obtain ⟨p, dx, c, rfl, hp, O, k⟩ := h
    refine ⟨_, (pss_cons (ps_expr (pe_fn D_need_names T.g_need_names hr (pa_cons (pe_lst (pa_cons (pv 1) (pa_cons (pv 2) (pa_cons (pv 3) pa_nil)))) pa_nil)))
    (pss_cons (ps_if (pt_cmpR op_eq (pv 2) (pv 3) (nomark _)) (pss_one ps_never) pss_nil)
    (pss_cons (ps_expr (pe_fn D_need_numbers T.g_need_numbers hr (pa_cons (pe_lst (pa_cons (pe_tup (pa_cons (pv 4) (pa_cons pe_int (pa_cons (pe_num T.i_MOST_LENGTH) pa_nil)))) (pa_cons (pe_tup (pa_cons (pv 5) (pa_cons pe_int (pa_cons (pe_num T.i_MOST_DEPTH) pa_nil)))) (pa_cons (pe_tup (pa_cons (pv 6) (pa_cons pe_int (pa_cons (pe_num T.i_MOST_ICE) pa_nil)))) pa_nil)))) pa_nil)))
    (pss_cons (ps_expr (pe_fn D_need_numbers T.g_need_numbers hr (pa_cons (pe_lst (pa_cons (pe_tup (pa_cons (pv 7) (pa_cons pe_int (pa_cons (pe_num T.i_MOST_GROWTH) pa_nil)))) (pa_cons (pe_tup (pa_cons (pv 8) (pa_cons (pv 6) (pa_cons (pe_num T.i_MOST_ICE) pa_nil)))) pa_nil))) pa_nil)))
    (pss_cons (ps_fld (pv 0) (pv 1) rfl)
    (pss_cons (ps_fld (pv 0) (pv 2) rfl)
    (pss_cons (ps_fld (pv 0) (pv 3) rfl)
    (pss_cons (ps_fld (pv 0) (pv 4) rfl)
    (pss_cons (ps_fld (pv 0) (pv 5) rfl)
    (pss_cons (ps_fld (pv 0) (pv 6) rfl)
    (pss_cons (ps_fld (pv 0) (pv 7) rfl)
    (pss_one (ps_fld (pv 0) (pv 8) rfl))))))))))))), ?_⟩
    refine ⟨_, rfl, _, rfl, _, rfl, szOf rfl, fun l hl => ⟨l, [c.name, c.one, c.other], rfl, upd_same, ?_, fun H1 s1 => ?_⟩⟩
    · intro x hx
      simp only [List.mem_cons, List.not_mem_nil, or_false] at hx
      rcases hx with rfl | rfl | rfl
      · exact O.n0
      · exact O.n1
      · exact O.n2
    have s1 : Same H H1 := (same_new hl).trans s1
    refine ⟨_, rfl, _, rfl, rfl, _, rfl, ifF (decF fun e => O.ne (V.str.inj e)) ?_⟩
    refine ⟨_, rfl, szOf rfl, fun t1 h1 => ⟨_, rfl, szOf rfl, fun t2 h2 => ⟨_, rfl, szOf rfl, fun t3 h3 => ⟨szOf rfl, fun l1 hl1 => ⟨l1, _, rfl, upd_same, ?_, ?_⟩⟩⟩⟩⟩
    · intro x hx
      simp only [List.mem_cons, List.not_mem_nil, or_false] at hx
      have g3 := same_new (o := .lst [.ref t1, .ref t2, .ref t3]) hl1
      have g2 := (same_new h3).trans g3
      rcases hx with rfl | rfl | rfl
      · exact ⟨t1, c.hours, 1, 1000, rfl, ((same_new h2).trans g2) _ _ upd_same, O.h0, O.h1⟩
      · exact ⟨t2, c.depth, 0, 1000, rfl, g2 _ _ upd_same, O.d0, O.d1⟩
      · exact ⟨t3, c.first, 0, 1000000, rfl, g3 _ _ upd_same, O.f0, Int.le_trans O.m0 O.m1⟩
    have s2 := s1.trans ((same_new (o := .tup [.int c.hours, .int 1, .int 1000]) h1).trans ((same_new (o := .tup [.int c.depth, .int 0, .int 1000]) h2).trans ((same_new (o := .tup [.int c.first, .int 0, .int 1000000]) h3).trans (same_new (o := .lst [.ref t1, .ref t2, .ref t3]) hl1))))
    refine ⟨_, rfl, szOf rfl, fun t4 h4 => ⟨_, rfl, _, rfl, szOf rfl, fun t5 h5 => ⟨szOf rfl, fun l2 hl2 => ⟨l2, _, rfl, upd_same, ?_, ?_⟩⟩⟩⟩
    · intro x hx
      simp only [List.mem_cons, List.not_mem_nil, or_false] at hx
      have g3 := same_new (o := .lst [.ref t4, .ref t5]) hl2
      rcases hx with rfl | rfl
      · exact ⟨t4, c.growth, 0, 1000, rfl, ((same_new h5).trans g3) _ _ upd_same, O.g0, O.g1⟩
      · exact ⟨t5, c.most, c.first, 1000000, rfl, g3 _ _ upd_same, O.m0, O.m1⟩
    have s3 := s2.trans ((same_new (o := .tup [.int c.growth, .int 0, .int 1000]) h4).trans ((same_new (o := .tup [.int c.most, .int c.first, .int 1000000]) h5).trans (same_new (o := .lst [.ref t4, .ref t5]) hl2)))
    refine ⟨_, rfl, _, rfl, p, cChannel, dx, _, rfl, s3 _ _ hp, T.cl_Channel, T.na_Channel_name, szOf rfl, ?_⟩
    refine ⟨_, rfl, _, rfl, p, cChannel, dx, _, rfl, upd_same, T.cl_Channel, T.na_Channel_one, szOf rfl, ?_⟩
    refine ⟨_, rfl, _, rfl, p, cChannel, dx, _, rfl, upd_same, T.cl_Channel, T.na_Channel_other, szOf rfl, ?_⟩
    refine ⟨_, rfl, _, rfl, p, cChannel, dx, _, rfl, upd_same, T.cl_Channel, T.na_Channel_hours, szOf rfl, ?_⟩
    refine ⟨_, rfl, _, rfl, p, cChannel, dx, _, rfl, upd_same, T.cl_Channel, T.na_Channel_depth, szOf rfl, ?_⟩
    refine ⟨_, rfl, _, rfl, p, cChannel, dx, _, rfl, upd_same, T.cl_Channel, T.na_Channel_first, szOf rfl, ?_⟩
    refine ⟨_, rfl, _, rfl, p, cChannel, dx, _, rfl, upd_same, T.cl_Channel, T.na_Channel_growth, szOf rfl, ?_⟩
    refine ⟨_, rfl, _, rfl, p, cChannel, dx, _, rfl, upd_same, T.cl_Channel, T.na_Channel_most, szOf rfl, ?_⟩
    refine k _ (.of s3 fun b n => ?_) upd_same
    rw [upd_ne n, upd_ne n, upd_ne n, upd_ne n, upd_ne n, upd_ne n, upd_ne n, upd_ne n]
theorem ok_Channel_ends (T : Txt K mg) : DOk P w K mg base CX0 1 a_Channel_ends P_Channel_ends sp_Channel_ends := by
  refine DOk.mk0 T.f_Channel_ends sc_Channel_ends sz_Channel_ends (fun vs H Q E h => ?_) (fun cdv A outer s H vs Q E hr h => ?_)
  · obtain ⟨p, c, rfl, _⟩ := h; rfl
  · obtain ⟨p, c, rfl, ⟨dx, hp⟩, k⟩ := h
    refine ⟨_, (pss_one (ps_ret (pe_tup (pa_cons (pe_fldK K (pv 0)) (pa_cons (pe_fldK K (pv 0)) pa_nil))))), ?_⟩
    exact ⟨_, rfl, p, _, _, _, _, rfl, hp, T.cl_Channel, T.na_Channel_one, rfl, _, rfl, p, _, _, _, _, rfl, hp, T.cl_Channel, T.na_Channel_other, rfl, szOf rfl, k⟩
theorem ok_Channel_beyond (T : Txt K mg) : DOk P w K mg base CX0 1 a_Channel_beyond P_Channel_beyond sp_Channel_beyond := by
  refine DOk.mk0 T.f_Channel_beyond sc_Channel_beyond sz_Channel_beyond (fun vs H Q E h => ?_) (fun cdv A outer s H vs Q E hr h => ?_)
  · obtain ⟨p, c, x, rfl, _⟩ := h; rfl
  · obtain ⟨p, c, x, rfl, ⟨dx, hp⟩, hx, k⟩ := h
    refine ⟨_, (pss_cons (ps_if (pt_cmpR op_eq (pv 1) (pe_fldK K (pv 0)) (nomark _)) (pss_one (ps_ret (pe_fldK K (pv 0)))) pss_nil)
    (pss_cons (ps_if (pt_cmpR op_eq (pv 1) (pe_fldK K (pv 0)) (nomark _)) (pss_one (ps_ret (pe_fldK K (pv 0)))) pss_nil)
    (pss_one ps_never))), ?_⟩
    refine ⟨_, rfl, _, rfl, p, _, _, _, _, rfl, hp, T.cl_Channel, T.na_Channel_one, rfl, rfl, _, rfl, ?_⟩
    by_cases e : x = c.one
    · refine ifT (decT (congrArg V.str e)) ?_
      rw [show c.over x = c.other from if_pos e] at k
      exact ⟨_, rfl, p, _, _, _, _, rfl, hp, T.cl_Channel, T.na_Channel_other, rfl, k⟩
    · refine ifF (decF fun z => e (V.str.inj z)) ?_
      have e2 : x = c.other := hx.resolve_left e
      refine ⟨_, rfl, _, rfl, p, _, _, _, _, rfl, hp, T.cl_Channel, T.na_Channel_other, rfl, rfl, _, rfl, ifT (decT (congrArg V.str e2)) ?_⟩
      rw [show c.over x = c.one from if_neg e] at k
      exact ⟨_, rfl, p, _, _, _, _, rfl, hp, T.cl_Channel, T.na_Channel_one, rfl, k⟩
theorem ok_Vessel_settle (T : Txt K mg) : DOk P w K mg base CX0 1 a_Vessel_settle P_Vessel_settle sp_Vessel_settle := by
  refine DOk.mk0 T.f_Vessel_settle sc_Vessel_settle sz_Vessel_settle (fun vs H Q E h => ?_) (fun cdv A outer s H vs Q E hr h => ?_)
  · obtain ⟨p, dx, v, rfl, _⟩ := h; rfl
  · obtain ⟨p, dx, v, rfl, hp, k⟩ := h
    refine ⟨_, (pss_cons (ps_fld (pv 0) (pv 1) rfl)
    (pss_cons (ps_fld (pv 0) (pv 2) rfl)
    (pss_cons (ps_fld (pv 0) (pv 3) rfl)
    (pss_cons (ps_fld (pv 0) (pv 4) rfl)
    (pss_one (ps_fld (pv 0) (pv 5) rfl)))))), ?_⟩
    refine ⟨_, rfl, _, rfl, p, v.cls, dx, _, rfl, hp, Ves.cl T, Ves.na_name T, szOf rfl, ?_⟩
    refine ⟨_, rfl, _, rfl, p, v.cls, dx, _, rfl, upd_same, Ves.cl T, Ves.na_port T, szOf rfl, ?_⟩
    refine ⟨_, rfl, _, rfl, p, v.cls, dx, _, rfl, upd_same, Ves.cl T, Ves.na_hour T, szOf rfl, ?_⟩
    refine ⟨_, rfl, _, rfl, p, v.cls, dx, _, rfl, upd_same, Ves.cl T, Ves.na_strength T, szOf rfl, ?_⟩
    refine ⟨_, rfl, _, rfl, p, v.cls, dx, _, rfl, upd_same, Ves.cl T, Ves.na_draught T, szOf rfl, ?_⟩
    refine k _ (fun b n => ?_) upd_same
    rw [upd_ne n, upd_ne n, upd_ne n, upd_ne n, upd_ne n]
theorem ok_Vessel_init (T : Txt K mg) (D_need_names : DOk P w K mg base CX0 2 a_need_names P_need_names (sp_need_names K)) (D_need_numbers : DOk P w K mg base CX0 3 a_need_numbers P_need_numbers (sp_need_numbers K))
    (D_Vessel_settle : DOk P w K mg base CX0 1 a_Vessel_settle P_Vessel_settle sp_Vessel_settle) : DOk P w K mg base CX0 4 a_Vessel_init P_Vessel_init sp_Vessel_init := by
  refine DOk.mk0 T.f_Vessel_init sc_Vessel_init sz_Vessel_init (fun vs H Q E h => ?_) (fun cdv A outer s H vs Q E hr h => ?_)
  · obtain ⟨p, dx, v, rfl, _⟩ := h; rfl
  · obtain ⟨p, dx, v, rfl, hp, O, k⟩ := h
    refine ⟨_, (pss_cons (ps_expr (pe_fn D_need_names T.g_need_names hr (pa_cons (pe_lst (pa_cons (pv 1) (pa_cons (pv 2) pa_nil))) pa_nil)))
    (pss_cons (ps_expr (pe_fn D_need_numbers T.g_need_numbers hr (pa_cons (pe_lst (pa_cons (pe_tup (pa_cons (pv 3) (pa_cons pe_int (pa_cons (pe_num T.i_MOST_HOUR) pa_nil)))) (pa_cons (pe_tup (pa_cons (pv 4) (pa_cons pe_int (pa_cons (pe_num T.i_MOST_ICE) pa_nil)))) (pa_cons (pe_tup (pa_cons (pv 5) (pa_cons pe_int (pa_cons (pe_num T.i_MOST_DEPTH) pa_nil)))) pa_nil)))) pa_nil)))
    (pss_one (ps_expr (pe_or2 (pe_me D_Vessel_settle T.cl_Breaker T.me_Breaker_settle hr (pv 0) (pa_cons (pv 1) (pa_cons (pv 2) (pa_cons (pv 3) (pa_cons (pv 4) (pa_cons (pv 5) pa_nil)))))) (pe_me D_Vessel_settle T.cl_Ship T.me_Ship_settle hr (pv 0) (pa_cons (pv 1) (pa_cons (pv 2) (pa_cons (pv 3) (pa_cons (pv 4) (pa_cons (pv 5) pa_nil))))))))))), ?_⟩
    refine ⟨_, rfl, _, rfl, szOf rfl, fun l hl => ⟨l, [v.name, v.port], rfl, upd_same, ?_, fun H1 s1 => ?_⟩⟩
    · intro x hx
      simp only [List.mem_cons, List.not_mem_nil, or_false] at hx
      rcases hx with rfl | rfl
      · exact O.n0
      · exact O.n1
    have s1 : Same H H1 := (same_new hl).trans s1
    refine ⟨_, rfl, szOf rfl, fun t1 h1 => ⟨_, rfl, szOf rfl, fun t2 h2 => ⟨_, rfl, szOf rfl, fun t3 h3 => ⟨szOf rfl, fun l1 hl1 => ⟨l1, _, rfl, upd_same, ?_, ?_⟩⟩⟩⟩⟩
    · intro x hx
      simp only [List.mem_cons, List.not_mem_nil, or_false] at hx
      have g3 := same_new (o := .lst [.ref t1, .ref t2, .ref t3]) hl1
      have g2 := (same_new h3).trans g3
      rcases hx with rfl | rfl | rfl
      · exact ⟨t1, v.hour, 0, 1000000, rfl, ((same_new h2).trans g2) _ _ upd_same, O.h0, O.h1⟩
      · exact ⟨t2, v.strength, 0, 1000000, rfl, g2 _ _ upd_same, O.s0, O.s1⟩
      · exact ⟨t3, v.draught, 0, 1000, rfl, g3 _ _ upd_same, O.d0, O.d1⟩
    have s2 := s1.trans ((same_new (o := .tup [.int v.hour, .int 0, .int 1000000]) h1).trans ((same_new (o := .tup [.int v.strength, .int 0, .int 1000000]) h2).trans ((same_new (o := .tup [.int v.draught, .int 0, .int 1000]) h3).trans (same_new (o := .lst [.ref t1, .ref t2, .ref t3]) hl1))))
    have fin : sp_Vessel_settle [.ref p, .str v.name, .str v.port, .int v.hour, .int v.strength, .int v.draught] _ (fun _ H' => Q .non H') E0 := ⟨p, dx, v, rfl, s2 _ _ hp, fun H' e1 e2 => k H' (.of s2 e1) e2⟩
    cases hb : v.isB
    · have ec : v.cls = cShip := by unfold Ves.cls; rw [hb]
      have hp2 := s2 _ _ hp
      rw [ec] at hp2
      exact .inr ⟨_, rfl, p, dx, _, rfl, hp2, rfl, _, rfl, _, rfl, _, rfl, _, rfl, _, rfl, fin⟩
    · have ec : v.cls = cBreaker := by unfold Ves.cls; rw [hb]
      have hp2 := s2 _ _ hp
      rw [ec] at hp2
      exact .inl ⟨_, rfl, p, dx, _, rfl, hp2, rfl, _, rfl, _, rfl, _, rfl, _, rfl, _, rfl, fin⟩
theorem ok_Breaker_init (T : Txt K mg) (D_need_numbers : DOk P w K mg base CX0 3 a_need_numbers P_need_numbers (sp_need_numbers K))
    (D_Vessel_init : DOk P w K mg base CX0 4 a_Vessel_init P_Vessel_init sp_Vessel_init) : DOk P w K mg base CX0 5 a_Breaker_init P_Breaker_init sp_Breaker_init := by
  refine DOk.mk0 T.f_Breaker_init sc_Breaker_init sz_Breaker_init (fun vs H Q E h => ?_) (fun cdv A outer s H vs Q E hr h => ?_)
  · obtain ⟨p, dx, v, hb, rfl, _⟩ := h; unfold Ves.row; rw [hb]; rfl
  · obtain ⟨p, dx, v, hb, rfl, hp, O, k⟩ := h
    have er : v.row = [.str v.name, .str v.port, .int v.hour, .int v.strength, .int v.draught, .int v.cut] := by unfold Ves.row; rw [hb]
    have ec : v.cls = cBreaker := by unfold Ves.cls; rw [hb]
    rw [er]
    refine ⟨_, (pss_cons (ps_expr (pe_clf D_Vessel_init T.cf_Vessel T.g_Vessel hr (pa_cons (pv 0) (pa_cons (pv 1) (pa_cons (pv 2) (pa_cons (pv 3) (pa_cons (pv 4) (pa_cons (pv 5) pa_nil))))))))
    (pss_cons (ps_expr (pe_fn D_need_numbers T.g_need_numbers hr (pa_cons (pe_lst (pa_cons (pe_tup (pa_cons (pv 6) (pa_cons pe_int (pa_cons (pe_num T.i_MOST_ICE) pa_nil)))) pa_nil)) pa_nil)))
    (pss_one (ps_fld (pv 0) (pv 6) rfl)))), ?_⟩
    refine ⟨_, rfl, _, rfl, _, rfl, _, rfl, _, rfl, _, rfl, p, dx, v, rfl, by rw [ec]; exact hp, O, fun H1 s1 g1 => ?_⟩
    refine ⟨_, rfl, szOf rfl, fun t1 h1 => ⟨szOf rfl, fun l1 hl1 => ⟨l1, _, rfl, upd_same, ?_, ?_⟩⟩⟩
    · intro x hx
      simp only [List.mem_cons, List.not_mem_nil, or_false] at hx
      subst hx
      exact ⟨t1, v.cut, 1, 1000000, rfl, (same_new hl1) _ _ upd_same, O.c0 hb, O.c1 hb⟩
    have s2 : Same H1 _ := (same_new (o := .tup [.int v.cut, .int 1, .int 1000000]) h1).trans (same_new (o := .lst [.ref t1]) hl1)
    refine ⟨_, rfl, _, rfl, p, v.cls, dx, _, rfl, s2 _ _ g1, Ves.cl T, by rw [ec]; exact T.na_Breaker_cut, szOf rfl, ?_⟩
    have ef : putF "cut" (.int v.cut) v.fs0 = v.fs := by unfold Ves.fs; rw [hb]; rfl
    rw [ef]
    refine k _ (fun b o e n => ?_) upd_same
    rw [upd_ne n]
    exact s2 _ _ (s1 b o e n)
theorem ok_Ship_init (T : Txt K mg) (D_need_names : DOk P w K mg base CX0 2 a_need_names P_need_names (sp_need_names K))
    (D_Vessel_init : DOk P w K mg base CX0 4 a_Vessel_init P_Vessel_init sp_Vessel_init) : DOk P w K mg base CX0 5 a_Ship_init P_Ship_init sp_Ship_init := by
  refine DOk.mk0 T.f_Ship_init sc_Ship_init sz_Ship_init (fun vs H Q E h => ?_) (fun cdv A outer s H vs Q E hr h => ?_)
  · obtain ⟨p, dx, v, hb, rfl, _⟩ := h; unfold Ves.row; rw [hb]; rfl
  · obtain ⟨p, dx, v, hb, rfl, hp, O, k⟩ := h
    have er : v.row = [.str v.name, .str v.port, .str v.goal, .int v.hour, .int v.strength, .int v.draught] := by unfold Ves.row; rw [hb]
    have ec : v.cls = cShip := by unfold Ves.cls; rw [hb]
    rw [er]
    refine ⟨_, (pss_cons (ps_expr (pe_fn D_need_names T.g_need_names hr (pa_cons (pe_lst (pa_cons (pv 1) (pa_cons (pv 2) (pa_cons (pv 3) pa_nil)))) pa_nil)))
    (pss_cons (ps_expr (pe_clf D_Vessel_init T.cf_Vessel T.g_Vessel hr (pa_cons (pv 0) (pa_cons (pv 1) (pa_cons (pv 2) (pa_cons (pv 4) (pa_cons (pv 5) (pa_cons (pv 6) pa_nil))))))))
    (pss_one (ps_fld (pv 0) (pv 3) rfl)))), ?_⟩
    refine ⟨_, rfl, _, rfl, _, rfl, szOf rfl, fun l hl => ⟨l, [v.name, v.port, v.goal], rfl, upd_same, ?_, fun H1 s1 => ?_⟩⟩
    · intro x hx
      simp only [List.mem_cons, List.not_mem_nil, or_false] at hx
      rcases hx with rfl | rfl | rfl
      · exact O.n0
      · exact O.n1
      · exact O.n2 hb
    have s1 : Same H H1 := (same_new hl).trans s1
    refine ⟨_, rfl, _, rfl, _, rfl, _, rfl, _, rfl, _, rfl, p, dx, v, rfl, by rw [ec]; exact s1 _ _ hp, O, fun H2 s2 g2 => ?_⟩
    refine ⟨_, rfl, _, rfl, p, v.cls, dx, _, rfl, g2, Ves.cl T, by rw [ec]; exact T.na_Ship_goal, szOf rfl, ?_⟩
    have ef : putF "goal" (.str v.goal) v.fs0 = v.fs := by unfold Ves.fs; rw [hb]; rfl
    rw [ef]
    refine k _ (fun b o e n => ?_) upd_same
    rw [upd_ne n]
    exact s2 _ _ (s1 b o e) n
theorem ok_Vessel_thins (T : Txt K mg) : DOk P w K mg base CX0 1 a_Vessel_thins P_Vessel_thins sp_Vessel_thins := by
  refine DOk.mk0 T.f_Vessel_thins sc_Vessel_thins sz_Vessel_thins (fun vs H Q E h => ?_) (fun cdv A outer s H vs Q E hr h => ?_)
  · obtain ⟨p, rfl, _⟩ := h; rfl
  · obtain ⟨p, rfl, k⟩ := h
    exact ⟨_, (pss_one (ps_ret pe_int)), k⟩
theorem ok_Breaker_thins (T : Txt K mg) : DOk P w K mg base CX0 1 a_Breaker_thins P_Breaker_thins sp_Breaker_thins := by
  refine DOk.mk0 T.f_Breaker_thins sc_Breaker_thins sz_Breaker_thins (fun vs H Q E h => ?_) (fun cdv A outer s H vs Q E hr h => ?_)
  · obtain ⟨p, v, rfl, _⟩ := h; rfl
  · obtain ⟨p, v, rfl, hb, ⟨dx, hp⟩, k⟩ := h
    have ec : v.cls = cBreaker := by unfold Ves.cls; rw [hb]
    have el : v.fs.lookup ("cut" : Str) = some (.int v.cut) := by unfold Ves.fs; rw [hb]; rfl
    refine ⟨_, (pss_one (ps_ret (pe_fldK K (pv 0)))), ?_⟩
    exact ⟨_, rfl, p, _, _, _, _, rfl, hp, Ves.cl T, by rw [ec]; exact T.na_Breaker_cut, el, k⟩
theorem ok_Vessel_lets (T : Txt K mg) : DOk P w K mg base CX0 1 a_Vessel_lets P_Vessel_lets sp_Vessel_lets := by
  refine DOk.mk0 T.f_Vessel_lets sc_Vessel_lets sz_Vessel_lets (fun vs H Q E h => ?_) (fun cdv A outer s H vs Q E hr h => ?_)
  · obtain ⟨p, q, v, c, rfl, _⟩ := h; rfl
  · obtain ⟨p, q, v, c, rfl, ⟨dx, hp⟩, ⟨dy, hq⟩, k⟩ := h
    refine ⟨_, (pss_one (ps_ret (pe_cmpR op_le (pe_fldK K (pv 0)) (pe_fldK K (pv 1)) (nomark _)))), ?_⟩
    exact ⟨_, rfl, p, _, _, _, _, rfl, hp, Ves.cl T, Ves.na_draught T, v.l_draught, _, rfl, q, _, _, _, _, rfl, hq, T.cl_Channel, T.na_Channel_depth, rfl, _, _, rfl, rfl, k⟩
end
end Ik


/-! The ice of a channel, as mathematics: levels hour by hour, what sorted hours of breakings tell of it, more breakings make it no thicker. -/
namespace Ik
/-- what ice comes to when nothing breaks it for so many hours -/
def grow (most growth level gap : Int) : Int := min most (level + growth * gap)
/-- the ice behind the breakings, n hours behind the begin b; cs tells the cuts of an hour -/
def lev (first growth most : Int) (cs : Int → Int) (b : Int) : Nat → Int
  | 0 => max 0 (first - cs b)
  | n + 1 => max 0 (min most (lev first growth most cs b n + growth) - cs (b + ((n + 1 : Nat) : Int)))
def ice (first growth most : Int) (cs : Int → Int) (b h : Int) : Int := lev first growth most cs b (h - b).toNat
section
variable {first growth most : Int} {cs cs' : Int → Int} {b : Int}
theorem lev_bd (f0 : 0 ≤ first) (m0 : first ≤ most) (hc : ∀ x, 0 ≤ cs x) : ∀ n, 0 ≤ lev first growth most cs b n ∧ lev first growth most cs b n ≤ most
  | 0 => by
    have := hc b
    show 0 ≤ max 0 (first - cs b) ∧ max 0 (first - cs b) ≤ most
    omega
  | n + 1 => by
    have := hc (b + ((n + 1 : Nat) : Int))
    show 0 ≤ max 0 (min most (lev first growth most cs b n + growth) - cs (b + ((n + 1 : Nat) : Int))) ∧ max 0 (min most (lev first growth most cs b n + growth) - cs (b + ((n + 1 : Nat) : Int))) ≤ most
    omega
theorem ice_bd (f0 : 0 ≤ first) (m0 : first ≤ most) (hc : ∀ x, 0 ≤ cs x) (h : Int) : 0 ≤ ice first growth most cs b h ∧ ice first growth most cs b h ≤ most := lev_bd f0 m0 hc _
/-- more cuts, less ice -/
theorem lev_mono (hle : ∀ x, cs x ≤ cs' x) : ∀ n, lev first growth most cs' b n ≤ lev first growth most cs b n
  | 0 => by
    have := hle b
    show max 0 (first - cs' b) ≤ max 0 (first - cs b)
    omega
  | n + 1 => by
    have h1 := hle (b + ((n + 1 : Nat) : Int))
    have h2 := lev_mono hle n
    show max 0 (min most (lev first growth most cs' b n + growth) - cs' (b + ((n + 1 : Nat) : Int))) ≤ max 0 (min most (lev first growth most cs b n + growth) - cs (b + ((n + 1 : Nat) : Int)))
    omega
theorem ice_mono (hle : ∀ x, cs x ≤ cs' x) (h : Int) : ice first growth most cs' b h ≤ ice first growth most cs b h := lev_mono hle _
/-- grown hour by hour: k hours without a cut, the last one left open -/
theorem lev_gap (g0 : 0 ≤ growth) (f0 : 0 ≤ first) (m0 : first ≤ most) (hc : ∀ x, 0 ≤ cs x) (n : Nat) : ∀ k : Nat, (∀ j : Nat, 1 ≤ j → j ≤ k → cs (b + ((n + j : Nat) : Int)) = 0) →
    lev first growth most cs b (n + k) = grow most growth (lev first growth most cs b n) k
  | 0, _ => by
    have := (lev_bd (growth := growth) (b := b) f0 m0 hc n).2
    show lev first growth most cs b n = min most (lev first growth most cs b n + growth * (0 : Nat))
    rw [show ((0 : Nat) : Int) = 0 from rfl, Int.mul_zero, Int.add_zero]
    omega
  | k + 1, hz => by
    have ih := lev_gap g0 f0 m0 hc n k fun j h1 h2 => hz j h1 (by omega)
    have z := hz (k + 1) (by omega) (Nat.le_refl _)
    have bd := lev_bd (growth := growth) (b := b) f0 m0 hc n
    show max 0 (min most (lev first growth most cs b (n + k) + growth) - cs (b + ((n + k + 1 : Nat) : Int))) = grow most growth (lev first growth most cs b n) ((k + 1 : Nat) : Int)
    have z' : cs (b + ((n + k + 1 : Nat) : Int)) = 0 := z
    rw [z', ih]
    unfold grow
    have e : growth * ((k + 1 : Nat) : Int) = growth * (k : Int) + growth := by
      rw [Int.natCast_succ, Int.mul_add, Int.mul_one]
    rw [e]
    have hp : 0 ≤ growth * (k : Int) := Int.mul_nonneg g0 (Int.natCast_nonneg k)
    omega
theorem ice_gap (g0 : 0 ≤ growth) (f0 : 0 ≤ first) (m0 : first ≤ most) (hc : ∀ x, 0 ≤ cs x) {k h : Int} (hb : b ≤ k) (hk : k ≤ h) (hz : ∀ x, k < x → x ≤ h → cs x = 0) :
    ice first growth most cs b h = grow most growth (ice first growth most cs b k) (h - k) := by
  have e := lev_gap (b := b) g0 f0 m0 hc (k - b).toNat (h - k).toNat fun j h1 h2 => hz _ (by omega) (by omega)
  have e1 : (k - b).toNat + (h - k).toNat = (h - b).toNat := by omega
  have e2 : (((h - k).toNat : Nat) : Int) = h - k := by omega
  rw [e1, e2] at e
  exact e
/-- the hour of a cut, none between -/
theorem ice_cut (g0 : 0 ≤ growth) (f0 : 0 ≤ first) (m0 : first ≤ most) (hc : ∀ x, 0 ≤ cs x) {k h : Int} (hb : b ≤ k) (hk : k < h) (hz : ∀ x, k < x → x < h → cs x = 0) :
    ice first growth most cs b h = max 0 (grow most growth (ice first growth most cs b k) (h - k) - cs h) := by
  have e := ice_gap (b := b) g0 f0 m0 hc hb (h := h - 1) (by omega) fun x h1 h2 => hz x h1 (by omega)
  have bd := ice_bd (growth := growth) (b := b) f0 m0 hc k
  have s : ice first growth most cs b h = max 0 (min most (ice first growth most cs b (h - 1) + growth) - cs h) := by
    unfold ice
    have e1 : (h - b).toNat = (h - 1 - b).toNat + 1 := by omega
    rw [e1]
    show max 0 (min most (lev first growth most cs b (h - 1 - b).toNat + growth) - cs (b + (((h - 1 - b).toNat + 1 : Nat) : Int))) = _
    have e2 : b + (((h - 1 - b).toNat + 1 : Nat) : Int) = h := by omega
    rw [e2]
  rw [s, e]
  unfold grow
  have em : growth * (h - k) = growth * (h - 1 - k) + growth := by
    have : h - k = (h - 1 - k) + 1 := by omega
    rw [this, Int.mul_add, Int.mul_one]
  have hp : 0 ≤ growth * (h - 1 - k) := Int.mul_nonneg g0 (by omega)
  rw [em]
  omega
/-- at the begin -/
theorem ice_begin (h0 : cs b = 0) (f0 : 0 ≤ first) : ice first growth most cs b b = first := by
  unfold ice
  have e : (b - b).toNat = 0 := by omega
  rw [e]
  show max 0 (first - cs b) = first
  rw [h0]
  omega
theorem ice_first (g0 : 0 ≤ growth) (f0 : 0 ≤ first) (m0 : first ≤ most) (hc : ∀ x, 0 ≤ cs x) {h : Int} (hb : b ≤ h) (hz : ∀ x, b ≤ x → x < h → cs x = 0) :
    ice first growth most cs b h = max 0 (grow most growth first (h - b) - cs h) := by
  by_cases e : h = b
  · subst e
    unfold ice grow
    have e : (h - h).toNat = 0 := by omega
    have e2 : h - h = 0 := by omega
    rw [e, e2, Int.mul_zero]
    show max 0 (first - cs h) = _
    omega
  · have := ice_cut (b := b) g0 f0 m0 hc (k := b) (h := h) (Int.le_refl _) (by omega) fun x h1 h2 => hz x (by omega) h2
    rw [this, ice_begin (hz b (Int.le_refl _) (by omega)) f0]
end
/-! ### breakings of a channel: hours with their cuts, as the dict has them -/
abbrev Cuts := List (Int × List Int)
def cutsAt (c : Cuts) (h : Int) : List Int := match c.find? fun p => decide (p.1 = h) with
  | some p => p.2
  | none => []
def cutSum (c : Cuts) (h : Int) : Int := (cutsAt c h).sum
def addCut (c : Cuts) (h x : Int) : Cuts := if (c.any fun p => decide (p.1 = h)) = true then c.map fun p => if p.1 = h then (p.1, cutsAt c h ++ [x]) else p else c ++ [(h, cutsAt c h ++ [x])]
structure CutsOk (b : Int) (c : Cuts) : Prop where
  nd : (c.map (·.1)).Nodup
  ge : ∀ p ∈ c, b ≤ p.1
  pos : ∀ p ∈ c, ∀ x ∈ p.2, 0 ≤ x
theorem sum_nn : ∀ {l : List Int}, (∀ x ∈ l, 0 ≤ x) → 0 ≤ l.sum
  | [], _ => Int.le_refl 0
  | x :: l, h => by
    rw [List.sum_cons]
    exact Int.add_nonneg (h x (List.mem_cons_self ..)) (sum_nn fun y hy => h y (List.mem_cons_of_mem _ hy))
theorem cutsAt_mem {c : Cuts} {h : Int} {x : Int} (hx : x ∈ cutsAt c h) : ∃ p ∈ c, p.1 = h ∧ x ∈ p.2 := by
  unfold cutsAt at hx
  split at hx
  · rename_i p e
    have e1 : decide (p.1 = h) = true := List.find?_some (p := fun p : Int × List Int => decide (p.1 = h)) e
    exact ⟨p, List.mem_of_find?_eq_some e, of_decide_eq_true e1, hx⟩
  · cases hx
theorem cutSum_nn {b : Int} {c : Cuts} (ok : CutsOk b c) (h : Int) : 0 ≤ cutSum c h := sum_nn fun x hx => by
  obtain ⟨p, hp, _, hx⟩ := cutsAt_mem hx
  exact ok.pos p hp x hx
theorem cutsAt_none {c : Cuts} {h : Int} (hn : h ∉ c.map (·.1)) : cutsAt c h = [] := by
  unfold cutsAt
  split
  · rename_i p e
    have e1 := of_decide_eq_true (List.find?_some (p := fun p : Int × List Int => decide (p.1 = h)) e)
    exact absurd (List.mem_map.mpr ⟨p, List.mem_of_find?_eq_some e, e1⟩) hn
  · rfl
theorem cutSum_none {c : Cuts} {h : Int} (hn : h ∉ c.map (·.1)) : cutSum c h = 0 := by unfold cutSum; rw [cutsAt_none hn]; rfl
theorem cutsAt_nil (h : Int) : cutsAt [] h = [] := rfl
theorem cutsAt_cons (p : Int × List Int) (c : Cuts) (h : Int) : cutsAt (p :: c) h = if p.1 = h then p.2 else cutsAt c h := by
  unfold cutsAt
  rw [List.find?_cons]
  by_cases e : p.1 = h
  · rw [decide_eq_true e, if_pos e]
  · rw [decide_eq_false e, if_neg e]
theorem cutsAt_map (h j : Int) (l : List Int) : ∀ c : Cuts, cutsAt (c.map fun p => if p.1 = h then (p.1, l) else p) j = if j = h ∧ h ∈ c.map (·.1) then l else cutsAt c j
  | [] => by simp [cutsAt]
  | p :: c => by
    have ih := cutsAt_map h j l c
    rw [List.map_cons, cutsAt_cons, cutsAt_cons, ih]
    by_cases e : p.1 = h
    · rw [if_pos e]
      by_cases e2 : j = h
      · subst e2
        simp [e]
      · have e3 : ¬ h = j := fun z => e2 z.symm
        simp [e, e2, e3]
    · rw [if_neg e]
      by_cases e2 : p.1 = j
      · have e3 : ¬ j = h := fun z => e (e2.trans z)
        rw [if_pos e2, if_pos e2, if_neg fun z => e3 z.1]
      · rw [if_neg e2, if_neg e2]
        have e4 : ¬ h = p.1 := fun z => e z.symm
        by_cases e5 : j = h ∧ h ∈ c.map (·.1)
        · rw [if_pos e5, if_pos ⟨e5.1, List.mem_cons_of_mem _ e5.2⟩]
        · rw [if_neg e5, if_neg fun z => e5 ⟨z.1, (List.mem_cons.mp z.2).resolve_left e4⟩]
theorem cutsAt_app (h j : Int) (l : List Int) : ∀ c : Cuts, h ∉ c.map (·.1) → cutsAt (c ++ [(h, l)]) j = if j = h then l else cutsAt c j
  | [], _ => by
    show cutsAt [(h, l)] j = _
    rw [cutsAt_cons]
    by_cases e : h = j
    · simp [e]
    · have : ¬ j = h := fun z => e z.symm
      simp [e, this]
  | p :: c, hn => by
    have hn2 : h ∉ c.map (·.1) := fun z => hn (List.mem_cons_of_mem _ z)
    have hp : ¬ p.1 = h := fun z => hn (by rw [← z]; exact List.mem_cons_self ..)
    rw [List.cons_append, cutsAt_cons, cutsAt_cons, cutsAt_app h j l c hn2]
    by_cases e : p.1 = j
    · have : ¬ j = h := fun z => hp (e.trans z)
      simp [e, this]
    · rw [if_neg e, if_neg e]
theorem any_iff (c : Cuts) (h : Int) : (c.any fun p => decide (p.1 = h)) = true ↔ h ∈ c.map (·.1) := by
  rw [List.any_eq_true, List.mem_map]
  constructor
  · rintro ⟨p, hp, e⟩; exact ⟨p, hp, of_decide_eq_true e⟩
  · rintro ⟨p, hp, e⟩; exact ⟨p, hp, decide_eq_true e⟩
theorem cutsAt_add (c : Cuts) (h x j : Int) : cutsAt (addCut c h x) j = if j = h then cutsAt c h ++ [x] else cutsAt c j := by
  unfold addCut
  by_cases e : h ∈ c.map (·.1)
  · rw [if_pos ((any_iff c h).mpr e), cutsAt_map]
    simp [e]
  · rw [if_neg (fun z => e ((any_iff c h).mp z)), cutsAt_app _ _ _ _ e]
theorem cutSum_add (c : Cuts) (h x j : Int) : cutSum (addCut c h x) j = if j = h then cutSum c h + x else cutSum c j := by
  unfold cutSum
  rw [cutsAt_add]
  by_cases e : j = h
  · rw [if_pos e, if_pos e, List.sum_append, List.sum_cons, List.sum_nil, Int.add_zero]
  · rw [if_neg e, if_neg e]
theorem addCut_keys (c : Cuts) (h x : Int) : (addCut c h x).map (·.1) = if h ∈ c.map (·.1) then c.map (·.1) else c.map (·.1) ++ [h] := by
  unfold addCut
  by_cases e : h ∈ c.map (·.1)
  · rw [if_pos ((any_iff c h).mpr e), if_pos e, List.map_map]
    refine List.map_congr_left fun p _ => ?_
    show (if p.1 = h then (p.1, cutsAt c h ++ [x]) else p).1 = p.1
    split <;> rfl
  · rw [if_neg (fun z => e ((any_iff c h).mp z)), if_neg e, List.map_append]
    rfl
theorem addCut_ok {b : Int} {c : Cuts} (ok : CutsOk b c) {h x : Int} (hb : b ≤ h) (hx : 0 ≤ x) : CutsOk b (addCut c h x) := by
  refine ⟨?_, fun p hp => ?_, fun p hp y hy => ?_⟩
  · rw [addCut_keys]
    by_cases e : h ∈ c.map (·.1)
    · rw [if_pos e]; exact ok.nd
    · rw [if_neg e, List.nodup_append]
      refine ⟨ok.nd, List.nodup_cons.mpr ⟨by simp, List.nodup_nil⟩, ?_⟩
      intro a ha d hd
      rw [List.mem_singleton] at hd
      subst hd
      exact fun z => e (z ▸ ha)
  · have : p.1 ∈ (addCut c h x).map (·.1) := List.mem_map.mpr ⟨p, hp, rfl⟩
    rw [addCut_keys] at this
    have go : p.1 ∈ c.map (·.1) → b ≤ p.1 := fun z => by
      obtain ⟨q, hq, e⟩ := List.mem_map.mp z
      rw [← e]; exact ok.ge q hq
    by_cases e : h ∈ c.map (·.1)
    · rw [if_pos e] at this; exact go this
    · rw [if_neg e, List.mem_append, List.mem_singleton] at this
      rcases this with z | z
      · exact go z
      · rw [z]; exact hb
  · have key : ∀ y ∈ cutsAt c h ++ [x], 0 ≤ y := fun y hy => by
      rw [List.mem_append, List.mem_singleton] at hy
      rcases hy with z | z
      · obtain ⟨q, hq, _, z⟩ := cutsAt_mem z
        exact ok.pos q hq y z
      · rw [z]; exact hx
    unfold addCut at hp
    split at hp
    · obtain ⟨q, hq, e⟩ := List.mem_map.mp hp
      by_cases z : q.1 = h
      · rw [if_pos z] at e
        rw [← e] at hy
        exact key y hy
      · rw [if_neg z] at e
        rw [← e] at hy
        exact ok.pos q hq y hy
    · rw [List.mem_append, List.mem_singleton] at hp
      rcases hp with z | z
      · exact ok.pos p z y hy
      · rw [z] at hy
        exact key y hy
/-- how many breakings there are -/
def cutNum (c : Cuts) : Nat := (c.map fun p => p.2.length).sum
theorem addCut_len (c : Cuts) (h x : Int) : (addCut c h x).length ≤ c.length + 1 := by
  unfold addCut
  split
  · rw [List.length_map]; omega
  · rw [List.length_append]; simp
theorem cutNum_cons (p : Int × List Int) (c : Cuts) : cutNum (p :: c) = p.2.length + cutNum c := by
  unfold cutNum
  rw [List.map_cons, List.sum_cons]
theorem cutNum_map {h : Int} {l : List Int} : ∀ {c : Cuts}, (c.map (·.1)).Nodup → h ∈ c.map (·.1) → cutNum (c.map fun p => if p.1 = h then (p.1, l) else p) + (cutsAt c h).length = cutNum c + l.length
  | [], _, hm => by cases hm
  | p :: c, nd, hm => by
    rw [List.map_cons, List.nodup_cons] at nd
    rw [List.map_cons, cutNum_cons, cutNum_cons, cutsAt_cons]
    by_cases e : p.1 = h
    · rw [if_pos e, if_pos e]
      have hn : h ∉ c.map (·.1) := by rw [← e]; exact nd.1
      have e2 : (c.map fun p => if p.1 = h then (p.1, l) else p) = c := by
        conv => rhs; rw [← List.map_id c]
        refine List.map_congr_left fun q hq => ?_
        rw [if_neg fun z => hn (List.mem_map.mpr ⟨q, hq, z⟩)]
        rfl
      rw [e2]
      show l.length + cutNum c + p.2.length = _
      omega
    · rw [if_neg e, if_neg e]
      have e4 : ¬ h = p.1 := fun z => e z.symm
      have ih := cutNum_map (l := l) nd.2 ((List.mem_cons.mp hm).resolve_left e4)
      omega
theorem cutNum_add {c : Cuts} (nd : (c.map (·.1)).Nodup) (h x : Int) : cutNum (addCut c h x) = cutNum c + 1 := by
  unfold addCut
  by_cases e : h ∈ c.map (·.1)
  · rw [if_pos ((any_iff c h).mpr e)]
    have := cutNum_map (l := cutsAt c h ++ [x]) nd e
    rw [List.length_append, List.length_singleton] at this
    omega
  · rw [if_neg (fun z => e ((any_iff c h).mp z)), cutsAt_none e]
    unfold cutNum
    rw [List.map_append, List.sum_append]
    rfl
/-! ### the sorted hours of breakings -/
structure Hours (c : Cuts) (ks : List Int) : Prop where
  perm : ks.Perm (c.map (·.1))
  le : ks.Pairwise (· ≤ ·)
section
variable {first growth most : Int} {b : Int} {c : Cuts} {ks : List Int}
def atOf (b : Int) (ks : List Int) : Nat → Int
  | 0 => b
  | i + 1 => ks.getD i b
def levOf (first growth most : Int) (c : Cuts) (b : Int) (ks : List Int) : Nat → Int
  | 0 => first
  | i + 1 => ice first growth most (cutSum c) b (ks.getD i b)
theorem Hours.mem (s : Hours c ks) {x : Int} : x ∈ ks ↔ x ∈ c.map (·.1) := s.perm.mem_iff
theorem Hours.nd (s : Hours c ks) (ok : CutsOk b c) : ks.Nodup := s.perm.nodup_iff.mpr ok.nd
theorem Hours.ge (s : Hours c ks) (ok : CutsOk b c) {x : Int} (h : x ∈ ks) : b ≤ x := by
  obtain ⟨p, hp, e⟩ := List.mem_map.mp (s.mem.mp h)
  rw [← e]; exact ok.ge p hp
theorem pw_at {l : List Int} (h : l.Pairwise (· ≤ ·)) {i j : Nat} {x y : Int} (hi : l[i]? = some x) (hj : l[j]? = some y) (hij : i ≤ j) : x ≤ y := by
  obtain ⟨a, rfl⟩ := List.getElem?_eq_some_iff.mp hi
  obtain ⟨d, rfl⟩ := List.getElem?_eq_some_iff.mp hj
  rcases Nat.lt_or_eq_of_le hij with z | z
  · exact List.pairwise_iff_getElem.mp h i j a d z
  · subst z; exact Int.le_refl _
theorem rows_step (g0 : 0 ≤ growth) (f0 : 0 ≤ first) (m0 : first ≤ most) (ok : CutsOk b c) (s : Hours c ks) {i : Nat} {k : Int} (hk : ks[i]? = some k) :
    max 0 (grow most growth (levOf first growth most c b ks i) (k - atOf b ks i) - cutSum c k) = ice first growth most (cutSum c) b k := by
  have hb := s.ge ok (List.mem_of_getElem? hk)
  have nn := cutSum_nn ok
  cases i with
  | zero =>
    refine (ice_first g0 f0 m0 nn hb fun x h1 h2 => cutSum_none fun hx => ?_).symm
    obtain ⟨j, hj, e⟩ := List.mem_iff_getElem.mp (s.mem.mpr hx)
    have := pw_at s.le hk (j := j) (y := x) (by rw [List.getElem?_eq_getElem hj, e]) (Nat.zero_le _)
    omega
  | succ i =>
    have hi : i < ks.length := by have := (List.getElem?_eq_some_iff.mp hk).1; omega
    have hq : ks[i]? = some (ks.getD i b) := by rw [List.getD_eq_getElem?_getD, List.getElem?_eq_getElem hi]; rfl
    show max 0 (grow most growth (ice first growth most (cutSum c) b (ks.getD i b)) (k - ks.getD i b) - cutSum c k) = _
    have h1 := pw_at s.le hq hk (Nat.le_succ i)
    have hne : ks.getD i b ≠ k := fun e => by
      obtain ⟨a1, e1⟩ := List.getElem?_eq_some_iff.mp hq
      obtain ⟨a2, e2⟩ := List.getElem?_eq_some_iff.mp hk
      exact List.pairwise_iff_getElem.mp (s.nd ok) i (i + 1) a1 a2 (Nat.lt_succ_self i) (by rw [e1, e2, e])
    refine (ice_cut g0 f0 m0 nn (s.ge ok (List.mem_of_getElem? hq)) (by omega) fun x h2 h3 => cutSum_none fun hx => ?_).symm
    obtain ⟨j, hj, e⟩ := List.mem_iff_getElem.mp (s.mem.mpr hx)
    have hjx : ks[j]? = some x := by rw [List.getElem?_eq_getElem hj, e]
    by_cases hji : j ≤ i
    · have := pw_at s.le hjx hq hji
      omega
    · have := pw_at s.le hk hjx (by omega)
      omega
def basesOf (first growth most : Int) (c : Cuts) (b : Int) (ks : List Int) : List (Int × Int) :=
  (if b ∈ c.map (·.1) then [] else [(b, first)]) ++ ks.map fun k => (k, ice first growth most (cutSum c) b k)
theorem grow_nn (g0 : 0 ≤ growth) {m l gap : Int} (hm : 0 ≤ m) (hl : 0 ≤ l) (hg : 0 ≤ gap) : 0 ≤ grow m growth l gap := by
  have := Int.mul_nonneg g0 hg
  unfold grow
  omega
theorem bases_last (g0 : 0 ≤ growth) (f0 : 0 ≤ first) (m0 : first ≤ most) (ok : CutsOk b c) (s : Hours c ks) {h : Int} (hb : b ≤ h) :
    ∃ t l, ((basesOf first growth most c b ks).filter fun p => decide (p.1 ≤ h)).getLast? = some (t, l) ∧ grow most growth l (h - t) = ice first growth most (cutSum c) b h ∧ b ≤ t ∧ t ≤ h := by
  have nn := cutSum_nn ok
  unfold basesOf
  rw [List.filter_append, List.filter_map]
  have ef : ((fun p : Int × Int => decide (p.1 ≤ h)) ∘ fun k => (k, ice first growth most (cutSum c) b k)) = fun k => decide (k ≤ h) := rfl
  rw [ef]
  cases q : ks.filter (fun k => decide (k ≤ h)) with
  | nil =>
    have none_le : ∀ x ∈ c.map (·.1), ¬ x ≤ h := fun x hx hl => by
      have : x ∈ ks.filter (fun k => decide (k ≤ h)) := List.mem_filter.mpr ⟨s.mem.mpr hx, decide_eq_true hl⟩
      rw [q] at this
      cases this
    have nb : b ∉ c.map (·.1) := fun z => none_le b z hb
    rw [if_neg nb]
    refine ⟨b, first, ?_, ?_, Int.le_refl _, hb⟩
    · rw [List.filter_cons_of_pos (by exact decide_eq_true hb)]
      rfl
    · rw [ice_first g0 f0 m0 nn hb fun x h1 h2 => cutSum_none fun hx => none_le x hx (by omega), cutSum_none fun hx => none_le h hx (Int.le_refl _)]
      have := grow_nn g0 (m := most) (l := first) (gap := h - b) (by omega) f0 (by omega)
      omega
  | cons y ys =>
    obtain ⟨k, hk⟩ : ∃ k, (y :: ys).getLast? = some k := ⟨_, List.getLast?_eq_some_getLast (List.cons_ne_nil y ys)⟩
    have hkm : k ∈ ks.filter (fun k => decide (k ≤ h)) := by rw [q]; exact List.mem_of_getLast? hk
    obtain ⟨hk1, hk2⟩ := List.mem_filter.mp hkm
    have hk2 := of_decide_eq_true hk2
    refine ⟨k, ice first growth most (cutSum c) b k, ?_, ?_, s.ge ok hk1, hk2⟩
    · rw [List.getLast?_append, List.getLast?_map, hk]
      rfl
    · refine (ice_gap g0 f0 m0 nn (s.ge ok hk1) hk2 fun x h1 h2 => cutSum_none fun hx => ?_).symm
      have hxm : x ∈ ks.filter (fun k => decide (k ≤ h)) := List.mem_filter.mpr ⟨s.mem.mpr hx, decide_eq_true h2⟩
      have pw : (ks.filter (fun k => decide (k ≤ h))).Pairwise (· ≤ ·) := s.le.filter _
      rw [q] at hxm pw
      obtain ⟨j, hj, e⟩ := List.mem_iff_getElem.mp hxm
      rw [List.getLast?_eq_getElem?] at hk
      have := pw_at pw (i := j) (j := (y :: ys).length - 1) (x := x) (y := k) (by rw [List.getElem?_eq_getElem hj, e]) hk (by omega)
      omega
end
theorem cutsAt_len (h : Int) : ∀ c : Cuts, (cutsAt c h).length ≤ cutNum c
  | [] => Nat.zero_le _
  | p :: c => by
    rw [cutsAt_cons, cutNum_cons]
    have := cutsAt_len h c
    split <;> omega
theorem cutNum_keys : ∀ {c : Cuts}, (c.map (·.1)).Nodup → ((c.map (·.1)).map fun k => (cutsAt c k).length).sum = cutNum c
  | [], _ => rfl
  | p :: c, nd => by
    rw [List.map_cons, List.nodup_cons] at nd
    rw [cutNum_cons, List.map_cons, List.map_cons, List.sum_cons, cutsAt_cons, if_pos rfl, ← cutNum_keys nd.2]
    congr 1
    congr 1
    refine List.map_congr_left fun k hk => ?_
    have : ¬ p.1 = k := fun z => nd.1 (by rw [z]; exact hk)
    rw [cutsAt_cons, if_neg this]
theorem Hours.num {c : Cuts} {ks : List Int} {b : Int} (s : Hours c ks) (ok : CutsOk b c) : (ks.map fun k => (cutsAt c k).length).sum = cutNum c := by
  rw [← cutNum_keys ok.nd]
  exact (s.perm.map _).sum_nat
end Ik


namespace Ik
open PySem PySem.Spec L2
open PySem.W (Frag)
/-! ### an Ice on the heap: what never changes, its breakings -/
def iceF (q d : Addr) (b : Int) : List (Str × V) := [("way", .ref q), ("since", .int b), ("cuts", .ref d)]
def IceS (H : Hp) (a d : Addr) (c : Chan) (b : Int) : Prop := ∃ dx q, H a = some (.ins cIce dx (iceF q d b)) ∧ ChanAt H q c
def CutP (H : Hp) (kv : Key × V) (p : Int × List Int) : Prop := kv.1 = .inl p.1 ∧ ∃ l, kv.2 = .ref l ∧ H l = some (.lst (p.2.map V.int))
theorem IceS.mono {H H' : Hp} {a d : Addr} {c : Chan} {b : Int} (h : IceS H a d c b) (s : Same H H') : IceS H' a d c b :=
  let ⟨dx, q, e, g⟩ := h; ⟨dx, q, s _ _ e, g.mono s⟩
theorem CutP.mono {H H' : Hp} {kv : Key × V} {p : Int × List Int} (h : CutP H kv p) (s : Same H H') : CutP H' kv p :=
  let ⟨e, l, e2, e3⟩ := h; ⟨e, l, e2, s _ _ e3⟩
theorem cut_get {H : Hp} (h : Int) : ∀ {kvs : List (Key × V)} {cuts : Cuts}, Paired (CutP H) kvs cuts →
    (valV kvs (Sum.inl h : Key) = none ∧ h ∉ cuts.map (·.1)) ∨ (h ∈ cuts.map (·.1) ∧ ∃ l, valV kvs (Sum.inl h : Key) = some (.ref l) ∧ H l = some (.lst ((cutsAt cuts h).map V.int)))
  | _, _, .nil => .inl ⟨rfl, by simp⟩
  | _, _, .cons (a := kv) (b := p) (l₁ := kvs) (l₂ := cuts) hp ht => by
    obtain ⟨e1, l, e2, e3⟩ := hp
    by_cases e : p.1 = h
    · have ek : kv.1 = (Sum.inl h : Key) := by rw [e1, e]
      refine .inr ⟨by rw [← e]; exact List.mem_cons_self .., l, ?_, ?_⟩
      · rw [valV_pos ek, e2]
      · rw [cutsAt_cons, if_pos e]; exact e3
    · have ek : ¬ kv.1 = (Sum.inl h : Key) := by rw [e1]; exact fun z => e (Sum.inl.inj z)
      have e4 : ¬ h = p.1 := fun z => e z.symm
      rw [valV_neg ek]
      rcases cut_get h ht with ⟨g1, g2⟩ | ⟨g1, l', g2, g3⟩
      · exact .inl ⟨g1, fun z => (List.mem_cons.mp z).elim e4 g2⟩
      · refine .inr ⟨List.mem_cons_of_mem _ g1, l', g2, ?_⟩
        rw [cutsAt_cons, if_neg e]; exact g3
theorem cut_keys {H : Hp} : ∀ {kvs : List (Key × V)} {cuts : Cuts}, Paired (CutP H) kvs cuts → kvs.map (·.1) = (cuts.map (·.1)).map Sum.inl
  | _, _, .nil => rfl
  | _, _, .cons hp ht => by rw [List.map_cons, List.map_cons, List.map_cons, hp.1, cut_keys ht]
theorem cut_any {H : Hp} (h : Int) {kvs : List (Key × V)} {cuts : Cuts} (p : Paired (CutP H) kvs cuts) : (kvs.any fun kv => decide (kv.1 = (Sum.inl h : Key))) = cuts.any fun q => decide (q.1 = h) := by
  induction p with
  | nil => rfl
  | @cons kv q kvs cuts hp ht ih =>
    rw [List.any_cons, List.any_cons, ih]
    congr 1
    rw [hp.1]
    by_cases e : q.1 = h
    · rw [e]; simp
    · have : ¬ (Sum.inl q.1 : Key) = Sum.inl h := fun z => e (Sum.inl.inj z)
      simp [e, this]
theorem cut_put {H H' : Hp} {h x : Int} {l : Addr} {kvs : List (Key × V)} {cuts : Cuts} (p : Paired (CutP H) kvs cuts) (s : Same H H') (hl : H' l = some (.lst ((cutsAt cuts h ++ [x]).map V.int))) :
    Paired (CutP H') (putK kvs (Sum.inl h : Key) (.ref l)) (addCut cuts h x) := by
  have key : ∀ {kvs : List (Key × V)} {cs : Cuts}, Paired (CutP H) kvs cs → Paired (CutP H') (kvs.map fun kv => if kv.1 = (Sum.inl h : Key) then (kv.1, V.ref l) else kv) (cs.map fun q => if q.1 = h then (q.1, cutsAt cuts h ++ [x]) else q) := by
    intro kvs cs p
    induction p with
    | nil => exact .nil
    | @cons kv q kvs cs hp ht ih =>
      refine .cons ?_ ih
      by_cases e : q.1 = h
      · have ek : kv.1 = (Sum.inl h : Key) := by rw [hp.1, e]
        dsimp only
        rw [if_pos e, if_pos ek]
        exact ⟨hp.1, l, rfl, hl⟩
      · have ek : ¬ kv.1 = (Sum.inl h : Key) := by rw [hp.1]; exact fun z => e (Sum.inl.inj z)
        dsimp only
        rw [if_neg e, if_neg ek]
        exact hp.mono s
  unfold putK addCut
  rw [cut_any h p]
  split
  · exact key p
  · exact Paired.snoc (p.to fun _ _ q => q.mono s) ⟨rfl, l, rfl, hl⟩
/-! ### the sum of lengths -/
theorem cut_len {H : Hp} {kvs : List (Key × V)} {cuts : Cuts} (p : Paired (CutP H) kvs cuts) : kvs.length = cuts.length := Paired.length p
/-! ### promises -/
def sp_Ice_init : Sp := fun vs H Q _ => ∃ (p dx q : Addr) (c : Chan) (b : Int), vs = [.ref p, .ref q, .int b] ∧ H p = some (.ins cIce dx []) ∧ ChanAt H q c ∧ 0 ≤ b ∧ b ≤ 1000000 ∧
  ∀ d H', H d = none → But p H H' → H' p = some (.ins cIce dx (iceF q d b)) → H' d = some (.dK []) → (∀ e, H' e = none → H e = none) → Q .non H'
def sp_need_hour : Sp := fun vs H Q _ => ∃ (a d : Addr) (c : Chan) (b h : Int), vs = [.ref a, .int h] ∧ IceS H a d c b ∧ b ≤ h ∧ h ≤ 1000000000 ∧ Q .non H
def sp_need_breaking : Sp := fun vs H Q _ => ∃ (a d : Addr) (c : Chan) (b h x : Int), vs = [.ref a, .int h, .int x] ∧ IceS H a d c b ∧ b ≤ h ∧ h ≤ 100000000 ∧ 1 ≤ x ∧ x ≤ 1000000 ∧ Q .non H
/-- the dict at d holds these breakings, few of them -/
structure CutsIn (H : Hp) (d : Addr) (b : Int) (kvs : List (Key × V)) (cuts : Cuts) : Prop where
  at_ : H d = some (.dK kvs)
  pr : Paired (CutP H) kvs cuts
  ok : CutsOk b cuts
  few : cuts.length < 64
  num : cutNum cuts < 64
theorem CutsIn.mono {H H' : Hp} {d : Addr} {b : Int} {kvs : List (Key × V)} {cuts : Cuts} (h : CutsIn H d b kvs cuts) (s : Same H H') : CutsIn H' d b kvs cuts :=
  ⟨s _ _ h.at_, h.pr.to fun _ _ q => q.mono s, h.ok, h.few, h.num⟩
def sp_breakings : Sp := fun vs H Q _ => ∃ (a d : Addr) (c : Chan) (b : Int) (kvs : List (Key × V)) (cuts : Cuts), vs = [.ref a] ∧ IceS H a d c b ∧ CutsIn H d b kvs cuts ∧
  ∀ H' p xs, Same H H' → H' p = some (.lst xs) → xs.length = cutNum cuts → Q (.ref p) H'
def Chan.grow (c : Chan) (l g : Int) : Int := Ik.grow c.most c.growth l g
def Chan.ice (c : Chan) (cuts : Cuts) (b h : Int) : Int := Ik.ice c.first c.growth c.most (cutSum cuts) b h
def sp_grown : Sp := fun vs H Q _ => ∃ (a d : Addr) (c : Chan) (b l g : Int), vs = [.ref a, .int l, .int g] ∧ IceS H a d c b ∧ c.Ok ∧ Q (.int (c.grow l g)) H
def RowP (c : Chan) (cuts : Cuts) (b : Int) (H : Hp) (v : V) (k : Int) : Prop := ∃ t ah, v = .ref t ∧ H t = some (.tup [.int k, .int ah, .int (c.ice cuts b k)])
theorem RowP.mono {c : Chan} {cuts : Cuts} {b : Int} {H H' : Hp} {v : V} {k : Int} (h : RowP c cuts b H v k) (s : ∀ t xs, H t = some (.tup xs) → H' t = some (.tup xs)) : RowP c cuts b H' v k :=
  let ⟨t, ah, e, g⟩ := h; ⟨t, ah, e, s _ _ g⟩
def sp_rows : Sp := fun vs H Q _ => ∃ (a d : Addr) (c : Chan) (b : Int) (kvs : List (Key × V)) (cuts : Cuts), vs = [.ref a] ∧ IceS H a d c b ∧ c.Ok ∧ CutsIn H d b kvs cuts ∧
  ∀ ks H' p xs, Hours cuts ks → Same H H' → H' p = some (.lst xs) → Paired (RowP c cuts b H') xs ks → Q (.ref p) H'
def BaseP (H : Hp) (v : V) (p : Int × Int) : Prop := ∃ t, v = .ref t ∧ H t = some (.tup [.int p.1, .int p.2])
theorem BaseP.mono {H H' : Hp} {v : V} {p : Int × Int} (h : BaseP H v p) (s : ∀ t xs, H t = some (.tup xs) → H' t = some (.tup xs)) : BaseP H' v p :=
  let ⟨t, e, g⟩ := h; ⟨t, e, s _ _ g⟩
def Chan.bases (c : Chan) (cuts : Cuts) (b : Int) (ks : List Int) : List (Int × Int) := basesOf c.first c.growth c.most cuts b ks
def sp_bases : Sp := fun vs H Q _ => ∃ (a d : Addr) (c : Chan) (b : Int) (kvs : List (Key × V)) (cuts : Cuts), vs = [.ref a] ∧ IceS H a d c b ∧ c.Ok ∧ CutsIn H d b kvs cuts ∧
  ∀ ks H' p xs, Hours cuts ks → Same H H' → H' p = some (.lst xs) → Paired (BaseP H') xs (c.bases cuts b ks) → Q (.ref p) H'
def sp_Ice_thick : Sp := fun vs H Q _ => ∃ (a d : Addr) (c : Chan) (b h : Int) (kvs : List (Key × V)) (cuts : Cuts), vs = [.ref a, .int h] ∧ IceS H a d c b ∧ c.Ok ∧ CutsIn H d b kvs cuts ∧ b ≤ h ∧ h ≤ 1000000000 ∧
  ∀ H', Same H H' → Q (.int (c.ice cuts b h)) H'
def sp_break_at : Sp := fun vs H Q _ => ∃ (a d : Addr) (c : Chan) (b h x : Int) (kvs : List (Key × V)) (cuts : Cuts), vs = [.ref a, .int h, .int x] ∧ IceS H a d c b ∧ CutsIn H d b kvs cuts ∧ b ≤ h ∧ h ≤ 100000000 ∧ 1 ≤ x ∧ x ≤ 1000000 ∧
  ∀ l H', H l = none → But d H H' → H' d = some (.dK (putK kvs (Sum.inl h) (.ref l))) → H' l = some (.lst ((cutsAt cuts h ++ [x]).map V.int)) → Q .non H'
def Z_Ice_init : Scope := { kind := .function, names := [("self", .local), ("channel", .local), ("begin", .local), ("isinstance", .globalImplicit), ("Channel", .globalImplicit), ("NoChannel", .globalImplicit), ("is_within", .globalImplicit), ("MOST_HOUR", .globalImplicit), ("NoNumber", .globalImplicit)], isGenerator := false, isCoroutine := false, more := (defScope S_Ice_init).more }
abbrev N_Ice_init : List Str := ["self", "channel", "begin"]
abbrev P_Ice_init : List Str := ["self", "channel", "begin"]
theorem sc_Ice_init : FnScope N_Ice_init P_Ice_init Z_Ice_init := ⟨rfl, rfl, rfl, by decide +kernel, rfl, by decide +kernel, by decide +kernel⟩
theorem sz_Ice_init : defScope S_Ice_init = Z_Ice_init := rfl
def Z_Ice_need_hour : Scope := { kind := .function, names := [("self", .local), ("hour", .local), ("is_within", .globalImplicit), ("LAST_HOUR_ice", .globalImplicit), ("NoHour", .globalImplicit)], isGenerator := false, isCoroutine := false, more := (defScope S_Ice_need_hour).more }
abbrev N_Ice_need_hour : List Str := ["self", "hour"]
abbrev P_Ice_need_hour : List Str := ["self", "hour"]
theorem sc_Ice_need_hour : FnScope N_Ice_need_hour P_Ice_need_hour Z_Ice_need_hour := ⟨rfl, rfl, rfl, by decide +kernel, rfl, by decide +kernel, by decide +kernel⟩
theorem sz_Ice_need_hour : defScope S_Ice_need_hour = Z_Ice_need_hour := rfl
def Z_Ice_need_breaking : Scope := { kind := .function, names := [("self", .local), ("hour", .local), ("cut", .local), ("is_within", .globalImplicit), ("LAST_BREAKING", .globalImplicit), ("NoHour", .globalImplicit), ("MOST_CUT", .globalImplicit), ("NoNumber", .globalImplicit)], isGenerator := false, isCoroutine := false, more := (defScope S_Ice_need_breaking).more }
abbrev N_Ice_need_breaking : List Str := ["self", "hour", "cut"]
abbrev P_Ice_need_breaking : List Str := ["self", "hour", "cut"]
theorem sc_Ice_need_breaking : FnScope N_Ice_need_breaking P_Ice_need_breaking Z_Ice_need_breaking := ⟨rfl, rfl, rfl, by decide +kernel, rfl, by decide +kernel, by decide +kernel⟩
theorem sz_Ice_need_breaking : defScope S_Ice_need_breaking = Z_Ice_need_breaking := rfl
def Z_Ice_breakings : Scope := { kind := .function, names := [("self", .local), ("found", .local), ("hour", .cell), ("sorted", .globalImplicit)], isGenerator := false, isCoroutine := false, more := (defScope S_Ice_breakings).more }
abbrev N_Ice_breakings : List Str := ["self", "found", "hour", "cut"]
abbrev P_Ice_breakings : List Str := ["self"]
theorem sc_Ice_breakings : FnScope N_Ice_breakings P_Ice_breakings Z_Ice_breakings := ⟨rfl, rfl, rfl, by decide +kernel, rfl, by decide +kernel, by decide +kernel⟩
theorem sz_Ice_breakings : defScope S_Ice_breakings = Z_Ice_breakings := rfl
def Z_Ice_grown : Scope := { kind := .function, names := [("self", .local), ("level", .local), ("gap", .local), ("min", .globalImplicit)], isGenerator := false, isCoroutine := false, more := (defScope S_Ice_grown).more }
abbrev N_Ice_grown : List Str := ["self", "level", "gap"]
abbrev P_Ice_grown : List Str := ["self", "level", "gap"]
theorem sc_Ice_grown : FnScope N_Ice_grown P_Ice_grown Z_Ice_grown := ⟨rfl, rfl, rfl, by decide +kernel, rfl, by decide +kernel, by decide +kernel⟩
theorem sz_Ice_grown : defScope S_Ice_grown = Z_Ice_grown := rfl
def Z_Ice_rows : Scope := { kind := .function, names := [("self", .local), ("found", .local), ("at", .local), ("level", .local), ("hour", .local), ("ahead", .local), ("sorted", .globalImplicit), ("max", .globalImplicit), ("sum", .globalImplicit)], isGenerator := false, isCoroutine := false, more := (defScope S_Ice_rows).more }
abbrev N_Ice_rows : List Str := ["self", "found", "at", "level", "hour", "ahead"]
abbrev P_Ice_rows : List Str := ["self"]
theorem sc_Ice_rows : FnScope N_Ice_rows P_Ice_rows Z_Ice_rows := ⟨rfl, rfl, rfl, by decide +kernel, rfl, by decide +kernel, by decide +kernel⟩
theorem sz_Ice_rows : defScope S_Ice_rows = Z_Ice_rows := rfl
def Z_Ice_bases : Scope := { kind := .function, names := [("self", .local), ("found", .local)], isGenerator := false, isCoroutine := false, more := (defScope S_Ice_bases).more }
abbrev N_Ice_bases : List Str := ["self", "found", "hour", "ahead", "behind"]
abbrev P_Ice_bases : List Str := ["self"]
theorem sc_Ice_bases : FnScope N_Ice_bases P_Ice_bases Z_Ice_bases := ⟨rfl, rfl, rfl, by decide +kernel, rfl, by decide +kernel, by decide +kernel⟩
theorem sz_Ice_bases : defScope S_Ice_bases = Z_Ice_bases := rfl
def Z_Ice_thick : Scope := { kind := .function, names := [("self", .local), ("hour", .cell), ("start", .local), ("level", .local)], isGenerator := false, isCoroutine := false, more := (defScope S_Ice_thick).more }
abbrev N_Ice_thick : List Str := ["self", "hour", "start", "level", "base"]
abbrev P_Ice_thick : List Str := ["self", "hour"]
theorem sc_Ice_thick : FnScope N_Ice_thick P_Ice_thick Z_Ice_thick := ⟨rfl, rfl, rfl, by decide +kernel, rfl, by decide +kernel, by decide +kernel⟩
theorem sz_Ice_thick : defScope S_Ice_thick = Z_Ice_thick := rfl
def Z_Ice_break_at : Scope := { kind := .function, names := [("self", .local), ("hour", .local), ("cut", .local), ("len", .globalImplicit), ("MOST_BREAKINGS", .globalImplicit), ("TooMany", .globalImplicit)], isGenerator := false, isCoroutine := false, more := (defScope S_Ice_break_at).more }
abbrev N_Ice_break_at : List Str := ["self", "hour", "cut"]
abbrev P_Ice_break_at : List Str := ["self", "hour", "cut"]
theorem sc_Ice_break_at : FnScope N_Ice_break_at P_Ice_break_at Z_Ice_break_at := ⟨rfl, rfl, rfl, by decide +kernel, rfl, by decide +kernel, by decide +kernel⟩
theorem sz_Ice_break_at : defScope S_Ice_break_at = Z_Ice_break_at := rfl
section
variable {P : Program} {w : World} {K : Frag} {mg : Str → Option Value} {base : Heap}
theorem ok_Ice_init (T : Txt K mg) (D_is_within : DOk P w K mg base CX0 2 a_is_within P_is_within sp_is_within) : DOk P w K mg base CX0 3 a_Ice_init P_Ice_init sp_Ice_init := by
  refine DOk.mk0 T.f_Ice_init sc_Ice_init sz_Ice_init (fun vs H Q E h => ?_) (fun cdv A outer s H vs Q E hr h => ?_)
  · obtain ⟨p, dx, q, c, b, rfl, _⟩ := h; rfl
  · obtain ⟨p, dx, q, c, b, rfl, hp, ⟨dy, hq⟩, b0, b1, k⟩ := h
    refine ⟨_, (pss_cons (ps_if (pt_not (pt_val (pe_callB (call_isiK K) (by rfl) T.z_isinstance bt_isinstance (pa_cons (pv 1) (pa_cons (pe_cls T.g_Channel) pa_nil))))) (pss_one ps_never) pss_nil)
    (pss_cons (ps_if (pt_not (pt_val (pe_fn D_is_within T.g_is_within hr (pa_cons (pv 2) (pa_cons pe_int (pa_cons (pe_num T.i_MOST_HOUR) pa_nil)))))) (pss_one ps_never) pss_nil)
    (pss_cons (ps_fld (pv 0) (pv 1) rfl)
    (pss_cons (ps_fld (pv 0) (pv 2) rfl)
    (pss_one (ps_fld (pv 0) pe_dnewK rfl)))))), ?_⟩
    refine ⟨_, rfl, _, _, _, _, _, rfl, .own _, .base (.ins hq T.cl_Channel T.in_Channel.ha T.in_Channel.hn T.in_Channel.ht T.in_Channel.hm), (rfl : PySem.W.kitOne _ (.ref cChannel) (.ref cChannel) = some true), true, rfl, iteF ?_⟩
    refine ⟨_, rfl, _, _, _, rfl, b0, b1, true, rfl, iteF ?_⟩
    refine ⟨_, rfl, _, rfl, p, cIce, dx, _, rfl, hp, T.cl_Ice, T.na_Ice_way, szOf rfl, ?_⟩
    refine ⟨_, rfl, _, rfl, p, cIce, dx, _, rfl, upd_same, T.cl_Ice, T.na_Ice_since, szOf rfl, ?_⟩
    intro d hd
    obtain ⟨n1, hd⟩ := upd_none hd
    obtain ⟨_, hd⟩ := upd_none hd
    refine ⟨_, rfl, p, cIce, dx, _, rfl, by rw [upd_ne n1.symm, upd_same], T.cl_Ice, T.na_Ice_cuts, szOf rfl, ?_⟩
    refine k d _ hd (fun e o h1 h2 => ?_) upd_same (by rw [upd_ne n1, upd_same]) fun e h1 => ?_
    · rw [upd_ne h2, upd_ne (ne_of_none h1 hd), upd_ne h2, upd_ne h2]
      exact h1
    · obtain ⟨_, h1⟩ := upd_none h1
      obtain ⟨_, h1⟩ := upd_none h1
      obtain ⟨_, h1⟩ := upd_none h1
      exact (upd_none h1).2
theorem ok_need_hour (T : Txt K mg) (D_is_within : DOk P w K mg base CX0 2 a_is_within P_is_within sp_is_within) : DOk P w K mg base CX0 3 a_Ice_need_hour P_Ice_need_hour sp_need_hour := by
  refine DOk.mk0 T.f_Ice_need_hour sc_Ice_need_hour sz_Ice_need_hour (fun vs H Q E h => ?_) (fun cdv A outer s H vs Q E hr h => ?_)
  · obtain ⟨a, d, c, b, h, rfl, _⟩ := h; rfl
  · obtain ⟨a, d, c, b, h, rfl, ⟨dx, q, ha, hq⟩, b0, b1, k⟩ := h
    refine ⟨_, (pss_one (ps_if (pt_not (pt_val (pe_fn D_is_within T.g_is_within hr (pa_cons (pv 1) (pa_cons (pe_fldK K (pv 0)) (pa_cons (pe_num T.i_LAST_HOUR_ice) pa_nil)))))) (pss_one ps_never) pss_nil)), ?_⟩
    exact ⟨_, rfl, _, rfl, a, _, _, _, _, rfl, ha, T.cl_Ice, T.na_Ice_since, rfl, _, _, _, rfl, b0, b1, true, rfl, iteF k⟩
theorem ok_need_breaking (T : Txt K mg) (D_is_within : DOk P w K mg base CX0 2 a_is_within P_is_within sp_is_within) : DOk P w K mg base CX0 3 a_Ice_need_breaking P_Ice_need_breaking sp_need_breaking := by
  refine DOk.mk0 T.f_Ice_need_breaking sc_Ice_need_breaking sz_Ice_need_breaking (fun vs H Q E h => ?_) (fun cdv A outer s H vs Q E hr h => ?_)
  · obtain ⟨a, d, c, b, h, x, rfl, _⟩ := h; rfl
  · obtain ⟨a, d, c, b, h, x, rfl, ⟨dx, q, ha, hq⟩, b0, b1, x0, x1, k⟩ := h
    refine ⟨_, (pss_cons (ps_if (pt_not (pt_val (pe_fn D_is_within T.g_is_within hr (pa_cons (pv 1) (pa_cons (pe_fldK K (pv 0)) (pa_cons (pe_num T.i_LAST_BREAKING) pa_nil)))))) (pss_one ps_never) pss_nil)
    (pss_one (ps_if (pt_not (pt_val (pe_fn D_is_within T.g_is_within hr (pa_cons (pv 2) (pa_cons pe_int (pa_cons (pe_num T.i_MOST_CUT) pa_nil)))))) (pss_one ps_never) pss_nil))), ?_⟩
    refine ⟨_, rfl, _, rfl, a, _, _, _, _, rfl, ha, T.cl_Ice, T.na_Ice_since, rfl, _, _, _, rfl, b0, b1, true, rfl, iteF ?_⟩
    exact ⟨_, rfl, _, _, _, rfl, x0, x1, true, rfl, iteF k⟩
theorem ok_grown (T : Txt K mg) : DOk P w K mg base CX0 1 a_Ice_grown P_Ice_grown sp_grown := by
  refine DOk.mk0 T.f_Ice_grown sc_Ice_grown sz_Ice_grown (fun vs H Q E h => ?_) (fun cdv A outer s H vs Q E hr h => ?_)
  · obtain ⟨a, d, c, b, l, g, rfl, _⟩ := h; rfl
  · obtain ⟨a, d, c, b, l, g, rfl, ⟨dx, q, ha, dy, hq⟩, O, k⟩ := h
    refine ⟨_, (pss_one (ps_ret (pe_callB (call_min2 rfl) (by rfl) T.z_min bt_min (pa_cons (pe_fldK K (pe_fldK K (pv 0))) (pa_cons (pe_op op_add (pv 1) (pe_op op_mul (pe_fldK K (pe_fldK K (pv 0))) (pv 2))) pa_nil))))), ?_⟩
    refine ⟨_, rfl, a, _, _, _, _, rfl, ha, T.cl_Ice, T.na_Ice_way, rfl, q, _, _, _, _, rfl, hq, T.cl_Channel, T.na_Channel_most, rfl, ?_⟩
    refine ⟨_, rfl, _, rfl, a, _, _, _, _, rfl, ha, T.cl_Ice, T.na_Ice_way, rfl, q, _, _, _, _, rfl, hq, T.cl_Channel, T.na_Channel_growth, rfl, _, rfl, _, _, rfl, rfl, .inl (by have := O.g0; have := O.g1; omega), _, _, rfl, rfl, _, _, rfl, ?_⟩
    refine Eq.subst (motive := fun z => Q (.int z) H) ?_ k
    unfold Chan.grow Ik.grow
    generalize c.growth * g = z
    split <;> omega
theorem ok_breakings (T : Txt K mg) : DOk P w K mg base CX0 1 a_Ice_breakings P_Ice_breakings sp_breakings := by
  refine DOk.mk0 T.f_Ice_breakings sc_Ice_breakings sz_Ice_breakings (fun vs H Q E h => ?_) (fun cdv A outer s H vs Q E hr h => ?_)
  · obtain ⟨a, d, c, b, kvs, cuts, rfl, _⟩ := h; rfl
  · obtain ⟨a, d, c, b, kvs, cuts, rfl, ⟨dx, q, ha, hq⟩, C, k⟩ := h
    have hu := hu_of hr
    refine ⟨_, (pss_cons (ps_set (i := 1) sc_Ice_breakings.nd rfl (Or.inl rfl) (pe_lst pa_nil))
    (pss_cons (ps_for PassesOwn.never rfl (pi_list (pe_callB (call_sortedDI rfl) (by rfl) T.z_sorted bt_sorted (pa_cons (pe_fldK K (pv 0)) pa_nil))) (pg_name (i := 2) sc_Ice_breakings.nd rfl (Or.inr rfl))
      (pss_one (ps_expr (pe_bm PySem.F.plainAttrs_list PySem.F.slot_list_extend PySem.F.type_list_extend mt_extend (pv 1) (pa_cons (pe_lc (own := [("cut", 3)]) (g := (gName 3)) rfl sc_Ice_breakings.nd (pi_list (pe_callB (cr_sortedK K) (by rfl) T.z_sorted bt_sorted (pa_cons (pe_dget hu (pe_fldK K (pv 0)) (pv 2) (fun _ _ => rfl)) pa_nil))) (blkOk_by (own := [("cut", 3)]) (N := N_Ice_breakings) (sc := Z_Ice_breakings) (by decide +kernel)) (fun _ _ _ _ _ => (pg_name (i := 3) sc_Ice_breakings.nd rfl (Or.inl rfl))) (fun _ _ _ _ _ => pts_nil) (fun _ _ _ _ _ => (pe_tup (pa_cons (pv 2) (pa_cons (pv 3) pa_nil))))) pa_nil)))))
    (pss_one (ps_ret (pv 1))))), ?_⟩
    refine ⟨szOf rfl, fun F hF => ?_⟩
    have s0 : Same H (upd H F (.lst [])) := same_new hF
    refine ⟨_, rfl, a, _, _, _, _, rfl, s0 _ _ ha, T.cl_Ice, T.na_Ice_cuts, rfl, d, kvs, _, rfl, .inl (s0 _ _ C.at_), cut_keys C.pr, by rw [List.length_map]; exact C.few, fun ys L h1 h2 hL => ?_⟩
    have hk : Hours cuts ys := ⟨h1, h2⟩
    obtain ⟨nLF, hL0⟩ := upd_none hL
    refine ⟨L, rfl, ⟨_, .of upd_same⟩, for_list (K := K) (a := L) (xs := ys.map V.int) (fun i σ H' => ∃ v, σ = [some (.ref a), some (.ref F), v, none] ∧ Same H H' ∧ H' L = some (.lst (ys.map V.int)) ∧
      ∃ xs, H' F = some (.lst xs) ∧ xs.length = ((ys.take i).map fun k => (cutsAt cuts k).length).sum ∧ xs.length ≤ 64 * i) ⟨none, rfl, s0.atNew hL, upd_same, [], by rw [upd_ne nLF.symm, upd_same], rfl, Nat.zero_le _⟩
      (fun i σ H' _ ⟨_, _, _, e, _⟩ => .of e) ?_ ?_⟩
    · rintro i y σ H' hi ⟨v, rfl, s1, gL, xs, gF, el, eb⟩
      obtain ⟨z, hz, rfl⟩ := map_at hi
      rcases cut_get z C.pr with ⟨_, g⟩ | ⟨_, l, g1, g2⟩
      · exact absurd (hk.mem.mp (List.mem_of_getElem? hz)) g
      have hi64 : i < 64 := by
        have := (List.getElem?_eq_some_iff.mp hz).1
        rw [h1.length_eq, List.length_map] at this
        exact Nat.lt_trans this C.few
      have n64 : (cutsAt cuts z).length < 64 := Nat.lt_of_le_of_lt (cutsAt_len z cuts) C.num
      refine ⟨_, rfl, .inl ⟨rfl, _, .of gF⟩, ?_⟩
      refine ⟨_, rfl, a, _, _, _, _, rfl, s1 _ _ ha, T.cl_Ice, T.na_Ice_cuts, rfl, _, rfl, d, _, rfl, (by have := DGet.k (k := (Sum.inl z : Key)) (s1 _ _ C.at_); rw [g1] at this; exact this), l, _, rfl, .of (s1 _ _ g2), n64, fun ns p hp1 hp2 hp => ?_⟩
      refine ⟨p, rfl, ⟨_, .of upd_same⟩, fun D hD => lc_list (K := K) (a := p) (xs := ns.map V.int) (fun j H2 => Same H' H2 ∧ H2 p = some (.lst (ns.map V.int)) ∧ ∃ acc, H2 D = some (.lst acc) ∧ acc.length = j) ?_ (fun j H2 _ e => .of e.2.1) ?_ ?_⟩
      · obtain ⟨n1, _⟩ := upd_none hD
        exact ⟨(same_new hp).atNew hD, by rw [upd_ne n1.symm, upd_same], [], upd_same, rfl⟩
      · rintro j y H2 hj ⟨s2, gp, acc, gD, ea⟩
        obtain ⟨u, hu, rfl⟩ := map_at hj
        have hj64 : j < 64 := by
          have := (List.getElem?_eq_some_iff.mp hu).1
          rw [hp1.length_eq] at this
          omega
        refine ⟨rfl, ?_⟩
        refine ⟨_, rfl, _, rfl, szOf rfl, fun t ht => ⟨acc, same_new ht _ _ gD, small64l (by omega), ?_⟩⟩
        have nDp : p ≠ D := fun e => by
          obtain ⟨n1, _⟩ := upd_none hD
          exact n1 e.symm
        have hDH : H' D = none := by
          obtain ⟨n1, n2⟩ := upd_none hD
          exact n2
        refine ⟨(s2.atNew ht).atFresh hDH, ?_, _, upd_same, by rw [List.length_append, ea]; rfl⟩
        rw [upd_ne nDp]
        exact same_new ht _ _ gp
      · rintro H2 ⟨s2, gp, acc, gD, ea⟩
        rw [List.length_map, hp1.length_eq] at ea
        have nFL : L ≠ F := nLF
        refine ⟨F, D, xs, acc, rfl, rfl, s2 _ _ gF, gD, small64k (by omega), ?_⟩
        refine ⟨_, rfl, (s1.trans s2).atFresh hF, ?_, xs ++ acc, upd_same, ?_, ?_⟩
        · rw [upd_ne nFL]; exact s2 _ _ gL
        · rw [List.length_append, take_succ_of hz, List.map_append, List.sum_append, el, ea]
          simp
        · rw [List.length_append]
          omega
    · rintro σ H' ⟨v, rfl, s1, gL, xs, gF, el, eb⟩
      refine ⟨_, rfl, k H' F xs s1 gF ?_⟩
      rw [el, List.length_map, List.take_length, hk.num C.ok]
theorem ok_rows (T : Txt K mg) (D_Ice_grown : DOk P w K mg base CX0 1 a_Ice_grown P_Ice_grown sp_grown) : DOk P w K mg base CX0 2 a_Ice_rows P_Ice_rows sp_rows := by
  refine DOk.mk0 T.f_Ice_rows sc_Ice_rows sz_Ice_rows (fun vs H Q E h => ?_) (fun cdv A outer s H vs Q E hr h => ?_)
  · obtain ⟨a, d, c, b, kvs, cuts, rfl, _⟩ := h; rfl
  · obtain ⟨a, d, c, b, kvs, cuts, rfl, S, O, C, k⟩ := h
    obtain ⟨dx, q, ha, dy, hq⟩ := id S
    have hu := hu_of hr
    refine ⟨_, (pss_cons (ps_set (i := 1) sc_Ice_rows.nd rfl (Or.inl rfl) (pe_lst pa_nil))
    (pss_cons (ps_set (i := 2) sc_Ice_rows.nd rfl (Or.inl rfl) (pe_fldK K (pv 0)))
    (pss_cons (ps_set (i := 3) sc_Ice_rows.nd rfl (Or.inl rfl) (pe_fldK K (pe_fldK K (pv 0))))
    (pss_cons (ps_for PassesOwn.never rfl (pi_list (pe_callB (call_sortedDI rfl) (by rfl) T.z_sorted bt_sorted (pa_cons (pe_fldK K (pv 0)) pa_nil))) (pg_name (i := 4) sc_Ice_rows.nd rfl (Or.inl rfl))
      (pss_cons (ps_set (i := 5) sc_Ice_rows.nd rfl (Or.inl rfl) (pe_me D_Ice_grown T.cl_Ice T.me_Ice_grown hr (pv 0) (pa_cons (pv 3) (pa_cons (pe_op op_sub (pv 4) (pv 2)) pa_nil))))
    (pss_cons (ps_set (i := 3) sc_Ice_rows.nd rfl (Or.inl rfl) (pe_callB (call_max2 rfl) (by rfl) T.z_max bt_max (pa_cons pe_int (pa_cons (pe_op op_sub (pv 5) (pe_callB (cr_sumK K rfl) (by rfl) T.z_sum bt_sum (pa_cons (pe_dget hu (pe_fldK K (pv 0)) (pv 4) (fun _ _ => rfl)) pa_nil))) pa_nil))))
    (pss_cons (ps_set (i := 2) sc_Ice_rows.nd rfl (Or.inl rfl) (pv 4))
    (pss_one (ps_expr (pe_bm PySem.F.plainAttrs_list PySem.F.slot_list_append PySem.F.type_list_append mt_append (pv 1) (pa_cons (pe_tup (pa_cons (pv 4) (pa_cons (pv 5) (pa_cons (pv 3) pa_nil)))) pa_nil))))))))
    (pss_one (ps_ret (pv 1))))))), ?_⟩
    refine ⟨szOf rfl, fun F hF => ?_⟩
    have s0 : Same H (upd H F (.lst [])) := same_new hF
    refine ⟨_, rfl, a, _, _, _, _, rfl, s0 _ _ ha, T.cl_Ice, T.na_Ice_since, rfl, ?_⟩
    refine ⟨_, rfl, a, _, _, _, _, rfl, s0 _ _ ha, T.cl_Ice, T.na_Ice_way, rfl, q, _, _, _, _, rfl, s0 _ _ hq, T.cl_Channel, T.na_Channel_first, rfl, ?_⟩
    refine ⟨_, rfl, a, _, _, _, _, rfl, s0 _ _ ha, T.cl_Ice, T.na_Ice_cuts, rfl, d, kvs, _, rfl, .inl (s0 _ _ C.at_), cut_keys C.pr, by rw [List.length_map]; exact C.few, fun ys L h1 h2 hL => ?_⟩
    have hk : Hours cuts ys := ⟨h1, h2⟩
    obtain ⟨nLF, hL0⟩ := upd_none hL
    refine ⟨L, rfl, ⟨_, .of upd_same⟩, for_list (K := K) (a := L) (xs := ys.map V.int) (fun i σ H' => ∃ v u, σ = [some (.ref a), some (.ref F), some (.int (atOf b ys i)), some (.int (levOf c.first c.growth c.most cuts b ys i)), v, u] ∧ Same H H' ∧
      H' L = some (.lst (ys.map V.int)) ∧ ∃ xs, H' F = some (.lst xs) ∧ Paired (RowP c cuts b H') xs (ys.take i)) ⟨none, none, rfl, s0.atNew hL, upd_same, [], by rw [upd_ne nLF.symm, upd_same], .nil⟩
      (fun i σ H' _ ⟨_, _, _, _, e, _⟩ => .of e) ?_ ?_⟩
    · rintro i y σ H' hi ⟨v, u, rfl, s1, gL, xs, gF, pr⟩
      obtain ⟨z, hz, rfl⟩ := map_at hi
      rcases cut_get z C.pr with ⟨_, g⟩ | ⟨_, l, g1, g2⟩
      · exact absurd (hk.mem.mp (List.mem_of_getElem? hz)) g
      have hi64 : i < 64 := by
        have := (List.getElem?_eq_some_iff.mp hz).1
        rw [h1.length_eq, List.length_map] at this
        exact Nat.lt_trans this C.few
      refine ⟨_, rfl, a, dx, _, rfl, s1 _ _ ha, rfl, _, rfl, _, rfl, _, rfl, _, _, rfl, rfl, a, d, c, b, _, _, rfl, S.mono s1, O, ?_⟩
      refine ⟨_, rfl, _, rfl, a, _, _, _, _, rfl, s1 _ _ ha, T.cl_Ice, T.na_Ice_cuts, rfl, _, rfl, d, _, rfl, (by have := DGet.k (k := (Sum.inl z : Key)) (s1 _ _ C.at_); rw [g1] at this; exact this), l, _, rfl, .of (s1 _ _ g2), _, _, rfl, rfl, _, _, rfl, ?_⟩
      refine ⟨_, rfl, _, rfl, .inl ⟨rfl, _, .of gF⟩, _, rfl, _, rfl, _, rfl, szOf rfl, fun t ht => ?_⟩
      have xl : xs.length ≤ 64 := by rw [Paired.length pr, List.length_take]; omega
      refine ⟨F, xs, _, rfl, rfl, same_new ht _ _ gF, small64l (by omega), ?_⟩
      have es := rows_step (first := c.first) (growth := c.growth) (most := c.most) O.g0 O.f0 O.m0 C.ok hk hz
      have em : (if (c.grow (levOf c.first c.growth c.most cuts b ys i) (z - atOf b ys i) - (cutsAt cuts z).sum) > 0 then c.grow (levOf c.first c.growth c.most cuts b ys i) (z - atOf b ys i) - (cutsAt cuts z).sum else 0) = c.ice cuts b z := by
        unfold Chan.ice
        rw [← es]
        unfold cutSum Chan.grow
        generalize Ik.grow c.most c.growth (levOf c.first c.growth c.most cuts b ys i) (z - atOf b ys i) - (cutsAt cuts z).sum = y
        split <;> omega
      have hzd : ys.getD i b = z := by rw [List.getD_eq_getElem?_getD, hz]; rfl
      refine ⟨some (.int z), some (.int (c.grow (levOf c.first c.growth c.most cuts b ys i) (z - atOf b ys i))), ?_, (s1.atNew ht).atFresh hF, ?_, _, upd_same, ?_⟩
      · rw [em]
        show _ = [some (V.ref a), some (V.ref F), some (V.int (ys.getD i b)), some (V.int (Ik.ice c.first c.growth c.most (cutSum cuts) b (ys.getD i b))), _, _]
        rw [hzd]
        rfl
      · rw [upd_ne nLF]; exact same_new ht _ _ gL
      · rw [take_succ_of hz]
        refine Paired.snoc (pr.to fun _ _ r => r.mono fun t' x' e => tup_lst (same_new ht _ _ gF) _ _ (same_new ht _ _ e)) ⟨t, c.grow (levOf c.first c.growth c.most cuts b ys i) (z - atOf b ys i), rfl, ?_⟩
        refine tup_lst (same_new ht _ _ gF) t _ ?_
        rw [upd_same, em]
    · rintro σ H' ⟨v, u, rfl, s1, gL, xs, gF, pr⟩
      rw [List.length_map, List.take_length] at pr
      exact ⟨_, rfl, k ys H' F xs hk s1 gF pr⟩
theorem ok_bases (T : Txt K mg) (D_Ice_rows : DOk P w K mg base CX0 2 a_Ice_rows P_Ice_rows sp_rows) : DOk P w K mg base CX0 3 a_Ice_bases P_Ice_bases sp_bases := by
  refine DOk.mk0 T.f_Ice_bases sc_Ice_bases sz_Ice_bases (fun vs H Q E h => ?_) (fun cdv A outer s H vs Q E hr h => ?_)
  · obtain ⟨a, d, c, b, kvs, cuts, rfl, _⟩ := h; rfl
  · obtain ⟨a, d, c, b, kvs, cuts, rfl, S, O, C, k⟩ := h
    obtain ⟨dx, q, ha, dy, hq⟩ := id S
    have hu := hu_of hr
    refine ⟨_, (pss_cons (ps_setLc (i := 1) (own := [("hour", 2), ("ahead", 3), ("behind", 4)]) (g := (gTup K 3 (gCons (gName 2) (gCons (gName 3) (gCons (gName 4) gNil))))) rfl sc_Ice_bases.nd rfl rfl (sw_true rfl rfl rfl (by decide +kernel)) (pi_list (pe_me0 D_Ice_rows T.cl_Ice T.me_Ice_rows hr (pv 0))) (blkOk_by (own := [("hour", 2), ("ahead", 3), ("behind", 4)]) (N := N_Ice_bases) (sc := Z_Ice_bases) (by decide +kernel)) (fun _ _ _ _ _ => (pg_tup rfl (pgs_cons (pg_name (i := 2) sc_Ice_bases.nd rfl (Or.inl rfl)) (pgs_cons (pg_name (i := 3) sc_Ice_bases.nd rfl (Or.inl rfl)) (pgs_cons (pg_name (i := 4) sc_Ice_bases.nd rfl (Or.inl rfl)) pgs_nil))))) (fun _ _ _ _ _ => pts_nil) (fun _ _ _ _ _ => (pe_tup (pa_cons (pv 2) (pa_cons (pv 4) pa_nil)))))
    (pss_cons (ps_if (pt_cmp (pc_din hu (pe_fldK K (pv 0)) (pe_fldK K (pv 0))) (by rfl)) (pss_one (ps_ret (pv 1))) pss_nil)
    (pss_one (ps_ret (pe_op op_cat (pe_lst (pa_cons (pe_tup (pa_cons (pe_fldK K (pv 0)) (pa_cons (pe_fldK K (pe_fldK K (pv 0))) pa_nil))) pa_nil)) (pv 1)))))), ?_⟩
    refine ⟨_, rfl, a, dx, _, rfl, ha, rfl, a, d, c, b, kvs, cuts, rfl, S, O, C, fun ks H1 L xs hk s1 gL pr => ?_⟩
    refine ⟨L, rfl, ⟨_, .of gL⟩, fun D hD => lc_list (K := K) (a := L) (xs := xs) (fun i H2 => Same H1 H2 ∧ ∃ acc, H2 D = some (.lst acc) ∧ Paired (BaseP H2) acc ((ks.take i).map fun k => (k, c.ice cuts b k))) ⟨same_new hD, [], upd_same, .nil⟩ (fun i H2 _ e => .of (e.1 _ _ gL)) ?_ ?_⟩
    · rintro i y H2 hi ⟨s2, acc, gD, pa⟩
      obtain ⟨z, hz, t, ah, rfl, ht⟩ := pair_l pr hi
      have xl : i < 64 := by
        have := (List.getElem?_eq_some_iff.mp hz).1
        rw [hk.perm.length_eq, List.length_map] at this
        exact Nat.lt_trans this C.few
      refine ⟨t, _, rfl, .of (s2 _ _ ht), rfl, _, _, rfl, _, _, rfl, _, _, rfl, rfl, rfl, ?_⟩
      refine ⟨_, rfl, _, rfl, szOf rfl, fun u hu' => ⟨acc, same_new hu' _ _ gD, ?_, ?_⟩⟩
      · rw [Paired.length pa, List.length_map, List.length_take]
        exact small64l (by omega)
      · refine ⟨(s2.atNew hu').atFresh hD, _, upd_same, ?_⟩
        rw [take_succ_of hz, List.map_append]
        have gD2 := same_new (o := .tup [.int z, .int (c.ice cuts b z)]) hu' _ _ gD
        exact Paired.snoc (pa.to fun _ _ r => r.mono fun t' x' e => tup_lst gD2 _ _ (same_new hu' _ _ e)) ⟨u, rfl, tup_lst gD2 u _ upd_same⟩
    · rintro H2 ⟨s2, acc, gD, pa⟩
      rw [Paired.length pr, List.take_length] at pa
      have s3 := s1.trans s2
      refine ⟨_, rfl, a, _, _, _, _, rfl, s3 _ _ ha, T.cl_Ice, T.na_Ice_since, rfl, _, rfl, a, _, _, _, _, rfl, s3 _ _ ha, T.cl_Ice, T.na_Ice_cuts, rfl, d, _, rfl, DGet.k (k := (Sum.inl b : Key)) (s3 _ _ C.at_), _, rfl, ?_⟩
      rcases cut_get b C.pr with ⟨g1, g2⟩ | ⟨g2, l, g1, _⟩
      · rw [g1]
        refine iteF ?_
        refine ⟨_, rfl, a, _, _, _, _, rfl, s3 _ _ ha, T.cl_Ice, T.na_Ice_since, rfl, _, rfl, a, _, _, _, _, rfl, s3 _ _ ha, T.cl_Ice, T.na_Ice_way, rfl, q, _, _, _, _, rfl, s3 _ _ hq, T.cl_Channel, T.na_Channel_first, rfl, szOf rfl, fun t ht => ?_⟩
        refine ⟨szOf rfl, fun B hB => ⟨_, rfl, B, D, _, acc, rfl, rfl, upd_same, ?_, ?_, fun p hp => ?_⟩⟩
        · exact same_new hB _ _ (same_new ht _ _ gD)
        · rw [Paired.length pa, List.length_map, List.length_singleton, hk.perm.length_eq, List.length_map]
          have := C.few
          exact small64k (by omega)
        · refine k ks _ p _ hk (((s3.atNew ht).atNew hB).atNew hp) upd_same ?_
          have e : c.bases cuts b ks = (b, c.first) :: ks.map fun k => (k, c.ice cuts b k) := by
            unfold Chan.bases basesOf
            rw [if_neg g2]
            rfl
          rw [e]
          have m1 := ((same_new (o := .lst [.ref t]) hB).trans (same_new (o := .lst ([.ref t] ++ acc)) hp))
          refine .cons ⟨t, rfl, m1 _ _ upd_same⟩ (pa.to fun _ _ r => r.mono fun t' x' e => m1 _ _ (same_new ht _ _ e))
      · rw [g1]
        refine iteT ?_
        refine ⟨_, rfl, k ks H2 D acc hk s3 gD ?_⟩
        have e : c.bases cuts b ks = ks.map fun k => (k, c.ice cuts b k) := by
          unfold Chan.bases basesOf
          rw [if_pos g2]
          rfl
        rw [e]
        exact pa
theorem ok_Ice_thick (T : Txt K mg) (D_Ice_need_hour : DOk P w K mg base CX0 3 a_Ice_need_hour P_Ice_need_hour sp_need_hour) (D_Ice_grown : DOk P w K mg base CX0 1 a_Ice_grown P_Ice_grown sp_grown)
    (D_Ice_bases : DOk P w K mg base CX0 3 a_Ice_bases P_Ice_bases sp_bases) : DOk P w K mg base CX0 4 a_Ice_thick P_Ice_thick sp_Ice_thick := by
  refine DOk.mk0 T.f_Ice_thick sc_Ice_thick sz_Ice_thick (fun vs H Q E h => ?_) (fun cdv A outer s H vs Q E hr h => ?_)
  · obtain ⟨a, d, c, b, h, kvs, cuts, rfl, _⟩ := h; rfl
  · obtain ⟨a, d, c, b, h, kvs, cuts, rfl, S, O, C, b0, b1, k⟩ := h
    obtain ⟨dx, q, ha, dy, hq⟩ := id S
    refine ⟨_, (pss_cons (ps_expr (pe_me D_Ice_need_hour T.cl_Ice T.me_Ice_need_hour hr (pv 0) (pa_cons (pv 1) pa_nil)))
    (pss_cons (ps_asg (pe_ix (ix_listK K) (pe_lc (own := [("base", 4)]) (g := (gName 4)) rfl sc_Ice_thick.nd (pi_list (pe_me0 D_Ice_bases T.cl_Ice T.me_Ice_bases hr (pv 0))) (blkOk_by (own := [("base", 4)]) (N := N_Ice_thick) (sc := Z_Ice_thick) (by decide +kernel)) (fun _ _ _ _ _ => (pg_name (i := 4) sc_Ice_thick.nd rfl (Or.inl rfl))) (fun _ _ _ _ _ => (pts_one (pt_cmpR op_le (pe_ix (ix_tupK K) (pv 4) pe_int (fun _ _ => rfl)) (pv 1) (nomark _)))) (fun _ _ _ _ _ => (pv 4))) (pe_un un_neg pe_int) (fun _ _ => rfl)) (pg_tup rfl (pgs_cons (pg_name (i := 2) sc_Ice_thick.nd rfl (Or.inl rfl)) (pgs_cons (pg_name (i := 3) sc_Ice_thick.nd rfl (Or.inl rfl)) pgs_nil))))
    (pss_one (ps_ret (pe_me D_Ice_grown T.cl_Ice T.me_Ice_grown hr (pv 0) (pa_cons (pv 3) (pa_cons (pe_op op_sub (pv 1) (pv 2)) pa_nil))))))), ?_⟩
    refine ⟨_, rfl, a, dx, _, rfl, ha, rfl, _, rfl, a, d, c, b, h, rfl, S, b0, b1, ?_⟩
    refine ⟨_, rfl, a, dx, _, rfl, ha, rfl, a, d, c, b, kvs, cuts, rfl, S, O, C, fun ks H1 L xs hk s1 gL pr => ?_⟩
    refine ⟨L, rfl, ⟨_, .of gL⟩, fun D hD => lc_list (K := K) (a := L) (xs := xs) (fun i H2 => Same H1 H2 ∧ ∃ acc, H2 D = some (.lst acc) ∧ acc.length ≤ i ∧ Paired (BaseP H2) acc (((c.bases cuts b ks).take i).filter fun p => decide (p.1 ≤ h))) ⟨same_new hD, [], upd_same, Nat.le_refl _, .nil⟩ (fun i H2 _ e => .of (e.1 _ _ gL)) ?_ ?_⟩
    · rintro i y H2 hi ⟨s2, acc, gD, al, pa⟩
      obtain ⟨z, hz, t, rfl, ht⟩ := pair_l pr hi
      have xl : i < 65 := by
        have := (List.getElem?_eq_some_iff.mp hz).1
        have e : (c.bases cuts b ks).length ≤ 1 + ks.length := by
          unfold Chan.bases basesOf
          rw [List.length_append, List.length_map]
          split <;> simp
        rw [hk.perm.length_eq, List.length_map] at e
        have := C.few
        omega
      refine ⟨rfl, _, rfl, t, _, _, _, rfl, rfl, .of (s2 _ _ ht), rfl, _, rfl, _, _, rfl, rfl, _, rfl, ?_⟩
      rw [take_succ_of hz, List.filter_append]
      by_cases e : z.1 ≤ h
      · refine ifT (decT e) ⟨_, rfl, acc, gD, small64l (by omega), s2.atFresh hD, _, upd_same, by rw [List.length_append]; simp; omega, ?_⟩
        rw [List.filter_cons_of_pos (by exact decT e)]
        exact Paired.snoc (pa.to fun _ _ r => r.mono fun t' x' e => tup_lst gD _ _ e) ⟨t, rfl, tup_lst gD _ _ (s2 _ _ ht)⟩
      · refine ifF (decF e) ⟨s2, acc, gD, by omega, ?_⟩
        rw [List.filter_cons_of_neg (by rw [decF e]; exact Bool.false_ne_true)]
        rw [List.filter_nil, List.append_nil]
        exact pa
    · rintro H2 ⟨s2, acc, gD, al, pa⟩
      rw [Paired.length pr, List.take_length] at pa
      obtain ⟨t, l, e1, e2, e3, e4⟩ := bases_last (first := c.first) (growth := c.growth) (most := c.most) O.g0 O.f0 O.m0 C.ok hk b0
      have e1 : ((c.bases cuts b ks).filter fun p => decide (p.1 ≤ h)).getLast? = some (t, l) := e1
      rw [List.getLast?_eq_getElem?] at e1
      obtain ⟨v, hv, u, rfl, gu⟩ : ∃ v, acc[acc.length - 1]? = some v ∧ BaseP H2 v (t, l) := by
        rw [← Paired.length pa] at e1
        obtain ⟨v, h1, h2⟩ := pair_r pa e1
        exact ⟨v, h1, h2⟩
      refine ⟨_, rfl, D, acc, _, _, rfl, rfl, .of gD, atI_getLast (by rw [List.getLast?_eq_getElem?]; exact hv), ?_⟩
      refine ⟨u, _, rfl, .of gu, rfl, _, _, rfl, _, _, rfl, rfl, ?_⟩
      have s3 := s1.trans s2
      refine ⟨_, rfl, a, dx, _, rfl, s3 _ _ ha, rfl, _, rfl, _, rfl, _, rfl, _, _, rfl, rfl, a, d, c, b, _, _, rfl, S.mono s3, O, ?_⟩
      have e5 : c.grow l (h - t) = c.ice cuts b h := e2
      rw [e5]
      exact k H2 s3
theorem ok_break_at (T : Txt K mg) (D_Ice_need_breaking : DOk P w K mg base CX0 3 a_Ice_need_breaking P_Ice_need_breaking sp_need_breaking)
    (D_Ice_breakings : DOk P w K mg base CX0 1 a_Ice_breakings P_Ice_breakings sp_breakings) : DOk P w K mg base CX0 4 a_Ice_break_at P_Ice_break_at sp_break_at := by
  refine DOk.mk0 T.f_Ice_break_at sc_Ice_break_at sz_Ice_break_at (fun vs H Q E h => ?_) (fun cdv A outer s H vs Q E hr h => ?_)
  · obtain ⟨a, d, c, b, h, x, kvs, cuts, rfl, _⟩ := h; rfl
  · obtain ⟨a, d, c, b, h, x, kvs, cuts, rfl, S, C, b0, b1, x0, x1, k⟩ := h
    obtain ⟨dx, q, ha, dy, hq⟩ := id S
    have hu := hu_of hr
    refine ⟨_, (pss_cons (ps_expr (pe_me D_Ice_need_breaking T.cl_Ice T.me_Ice_need_breaking hr (pv 0) (pa_cons (pv 1) (pa_cons (pv 2) pa_nil))))
    (pss_cons (ps_if (pt_cmpR op_ge (pe_callB (call_lenK K) (by rfl) T.z_len bt_len (pa_cons (pe_me0 D_Ice_breakings T.cl_Ice T.me_Ice_breakings hr (pv 0)) pa_nil)) (pe_num T.i_MOST_BREAKINGS) (nomark _)) (pss_one ps_never) pss_nil)
    (pss_one (ps_dput hu (pe_fldK K (pv 0)) (pv 1) (pe_op op_cat (pe_dget2 hu (pe_fldK K (pv 0)) (pv 1) (pe_lst pa_nil) ⟨rfl, rfl, rfl, rfl⟩) (pe_lst (pa_cons (pv 2) pa_nil))) rfl)))), ?_⟩
    refine ⟨_, rfl, a, dx, _, rfl, ha, rfl, _, rfl, _, rfl, a, d, c, b, h, x, rfl, S, b0, b1, x0, x1, ?_⟩
    refine ⟨_, rfl, a, dx, _, rfl, ha, rfl, a, d, c, b, kvs, cuts, rfl, S, C, fun H1 p xs s1 gp el => ?_⟩
    refine ⟨_, xs.length, rfl, .inl ⟨_, .of gp, rfl⟩, _, _, rfl, rfl, _, rfl, ifF (decF ?_) ?_⟩
    · have := C.num; omega
    have C1 := C.mono s1
    refine ⟨_, rfl, a, _, _, _, _, rfl, s1 _ _ ha, T.cl_Ice, T.na_Ice_cuts, rfl, d, rfl, .inl ⟨_, .inl C1.at_⟩, _, rfl, szOf rfl, fun z hz => ?_⟩
    have s2 := s1.atNew (o := .lst []) hz
    refine ⟨_, DGet.k (k := (Sum.inl h : Key)) (same_new hz _ _ C1.at_), ?_⟩
    refine ⟨_, rfl, szOf rfl, fun y hy => ?_⟩
    have s3 := s2.atNew (o := .lst [.int x]) hy
    obtain ⟨l, gl, el2⟩ : ∃ l, (valV kvs (Sum.inl h : Key)).getD (.ref z) = .ref l ∧ upd (upd H1 z (.lst [])) y (.lst [.int x]) l = some (.lst ((cutsAt cuts h).map V.int)) := by
      rcases cut_get h C.pr with ⟨g1, g2⟩ | ⟨g2, l, g1, g3⟩
      · rw [g1]
        refine ⟨z, rfl, ?_⟩
        rw [cutsAt_none g2]
        exact same_new hy _ _ upd_same
      · rw [g1]
        exact ⟨l, rfl, s3 _ _ g3⟩
    refine ⟨l, y, _, _, gl, rfl, el2, upd_same, ?_, fun L hL => ?_⟩
    · rw [List.length_map]
      have := cutsAt_len h cuts
      have := C.num
      exact small64k (by simp; omega)
    have s4 := s3.atNew (o := .lst ((cutsAt cuts h).map V.int ++ [V.int x])) hL
    refine ⟨_, rfl, a, _, _, _, _, rfl, s4 _ _ ha, T.cl_Ice, T.na_Ice_cuts, rfl, _, rfl, d, _, rfl, DPut.k (k := (Sum.inl h : Key)) (s4 _ _ C.at_) (small64l (by rw [cut_len C.pr]; have := C.few; omega)), ?_⟩
    have nLd : L ≠ d := (ne_of_none (s3 _ _ C.at_) hL).symm
    refine k L _ (s3.noneAt hL) (.of s4 fun e n => upd_ne n) upd_same ?_
    rw [upd_ne nLd, upd_same, List.map_append]
    rfl
end
end Ik


namespace Ik
open PySem PySem.Spec L2
open PySem.W (Frag)
/-! ### worlds -/
structure Wd where
  begin_ : Int
  ports : List Str
  chans : List Chan
  brs : List Ves
  shs : List Ves
def Wd.ves (w : Wd) : List Ves := w.brs ++ w.shs
structure Wd.Ok (w : Wd) : Prop where
  b0 : 0 ≤ w.begin_
  b1 : w.begin_ ≤ 1000000
  p0 : 1 ≤ w.ports.length
  p1 : w.ports.length ≤ 8
  pn : ∀ x ∈ w.ports, IsNm x
  pd : w.ports.Nodup
  c1 : w.chans.length ≤ 12
  cn : ∀ c ∈ w.chans, c.Ok
  cd : (w.chans.map (·.name)).Nodup
  ce : ∀ c ∈ w.chans, c.one ∈ w.ports ∧ c.other ∈ w.ports
  r1 : w.brs.length ≤ 4
  rn : ∀ v ∈ w.brs, v.isB = true ∧ v.Ok ∧ v.port ∈ w.ports
  s1 : w.shs.length ≤ 6
  sn : ∀ v ∈ w.shs, v.isB = false ∧ v.Ok ∧ v.port ∈ w.ports ∧ v.goal ∈ w.ports
  vd : (w.ves.map (·.name)).Nodup
def ChanR (H : Hp) (v : V) (c : Chan) : Prop := ∃ p, v = .ref p ∧ ChanAt H p c
def VesR (H : Hp) (v : V) (c : Ves) : Prop := ∃ p, v = .ref p ∧ VesAt H p c
theorem ChanR.mono {H H' : Hp} {v : V} {c : Chan} (h : ChanR H v c) (s : Same H H') : ChanR H' v c := let ⟨p, e, g⟩ := h; ⟨p, e, g.mono s⟩
theorem VesR.mono {H H' : Hp} {v : V} {c : Ves} (h : VesR H v c) (s : Same H H') : VesR H' v c := let ⟨p, e, g⟩ := h; ⟨p, e, g.mono s⟩
def worldF (b : Int) (lp lc lb ls : Addr) : List (Str × V) := [("beginning", .int b), ("all_ports", .ref lp), ("all_channels", .ref lc), ("all_breakers", .ref lb), ("all_ships", .ref ls)]
structure WorldL (H : Hp) (w : Wd) (lp lc lb ls : Addr) : Prop where
  hp : H lp = some (.lst (w.ports.map V.str))
  hc : ∃ xs, H lc = some (.lst xs) ∧ Paired (ChanR H) xs w.chans
  hb : ∃ xs, H lb = some (.lst xs) ∧ Paired (VesR H) xs w.brs
  hs : ∃ xs, H ls = some (.lst xs) ∧ Paired (VesR H) xs w.shs
theorem WorldL.mono {H H' : Hp} {w : Wd} {lp lc lb ls : Addr} (h : WorldL H w lp lc lb ls) (s : Same H H') : WorldL H' w lp lc lb ls :=
  ⟨s _ _ h.hp, let ⟨xs, e, p⟩ := h.hc; ⟨xs, s _ _ e, p.to fun _ _ q => q.mono s⟩, let ⟨xs, e, p⟩ := h.hb; ⟨xs, s _ _ e, p.to fun _ _ q => q.mono s⟩, let ⟨xs, e, p⟩ := h.hs; ⟨xs, s _ _ e, p.to fun _ _ q => q.mono s⟩⟩
def WorldAt (H : Hp) (a : Addr) (w : Wd) : Prop := ∃ dx lp lc lb ls, H a = some (.ins cWorld dx (worldF w.begin_ lp lc lb ls)) ∧ WorldL H w lp lc lb ls
theorem WorldAt.mono {H H' : Hp} {a : Addr} {w : Wd} (h : WorldAt H a w) (s : Same H H') : WorldAt H' a w :=
  let ⟨dx, lp, lc, lb, ls, e, g⟩ := h; ⟨dx, lp, lc, lb, ls, s _ _ e, g.mono s⟩
theorem Wd.Ok.vn {w : Wd} (O : w.Ok) {v : Ves} (h : v ∈ w.ves) : v.Ok ∧ v.port ∈ w.ports := by
  rcases List.mem_append.mp h with h | h
  · exact ⟨(O.rn v h).2.1, (O.rn v h).2.2⟩
  · exact ⟨(O.sn v h).2.1, (O.sn v h).2.2.1⟩
theorem Wd.Ok.vl {w : Wd} (O : w.Ok) : w.ves.length ≤ 10 := by
  unfold Wd.ves
  rw [List.length_append]
  have := O.r1; have := O.s1; omega
/-! ### promises -/
theorem But.new {p l : Addr} {H G : Hp} {o : HO} (h : But p H G) (hl : G l = none) : But p H (upd G l o) := fun b u e n => same_new hl _ _ (h b u e n)
theorem But.st {p : Addr} {H G : Hp} {o : HO} (h : But p H G) : But p H (upd G p o) := fun b u e n => by rw [upd_ne n]; exact h b u e n
theorem stepF {p l C dx : Addr} {H G : Hp} {fs fs' : List (Str × V)} {ys : List V} (h : But p H G) (hp : G p = some (.ins C dx fs)) (hl : G l = none) :
    But p H (upd (upd G l (.lst ys)) p (.ins C dx fs')) ∧ upd (upd G l (.lst ys)) p (.ins C dx fs') p = some (.ins C dx fs') ∧ upd (upd G l (.lst ys)) p (.ins C dx fs') l = some (.lst ys) ∧
      (∀ m zs, m ≠ p → G m = some (.lst zs) → upd (upd G l (.lst ys)) p (.ins C dx fs') m = some (.lst zs)) ∧ l ≠ p := by
  have n : l ≠ p := (ne_of_none hp hl).symm
  exact ⟨(h.new hl).st, upd_same, by rw [upd_ne n, upd_same], fun m zs nm e => by rw [upd_ne nm]; exact same_new hl _ _ e, n⟩
def sp_is_list : Sp := fun vs H Q _ => ∃ (a : Addr) (xs : List V) (lo hi : Int), vs = [.ref a, .int lo, .int hi] ∧ H a = some (.lst xs) ∧ xs.length ≤ 4096 ∧ lo ≤ xs.length ∧ (xs.length : Int) ≤ hi ∧ ∀ H', Same H H' → Q (.bl true) H'
def sp_need_kinds : Sp := fun vs H Q _ => ∃ (w : Wd) (lp lc lb ls : Addr), vs = [.ref lp, .ref lc, .ref lb, .ref ls] ∧ WorldL H w lp lc lb ls ∧ w.Ok ∧ ∀ H', Same H H' → Q .non H'
def sp_need_unlike : Sp := fun vs H Q _ => ∃ (a : Addr) (xs : List Str), vs = [.ref a] ∧ H a = some (.lst (xs.map V.str)) ∧ xs.Nodup ∧ xs.length ≤ 4096 ∧ ∀ H', Same H H' → Q .non H'
def sp_need_ports : Sp := fun vs H Q _ => ∃ (a b : Addr) (xs ys : List Str), vs = [.ref a, .ref b] ∧ H a = some (.lst (xs.map V.str)) ∧ H b = some (.lst (ys.map V.str)) ∧ (∀ x ∈ xs, x ∈ ys) ∧ Q .non H
def sp_World_init : Sp := fun vs H Q _ => ∃ (p dx : Addr) (w : Wd) (lp lc lb ls : Addr), vs = [.ref p, .int w.begin_, .ref lp, .ref lc, .ref lb, .ref ls] ∧ H p = some (.ins cWorld dx []) ∧ WorldL H w lp lc lb ls ∧ w.Ok ∧
  ∀ H', But p H H' → WorldAt H' p w → Q .non H'
def sp_begin_hour : Sp := fun vs H Q _ => ∃ (a : Addr) (w : Wd), vs = [.ref a] ∧ WorldAt H a w ∧ Q (.int w.begin_) H
def sp_channels : Sp := fun vs H Q _ => ∃ (a : Addr) (w : Wd), vs = [.ref a] ∧ WorldAt H a w ∧ ∀ H' l xs, Same H H' → H l = none → H' l = some (.lst xs) → Paired (ChanR H') xs w.chans → Q (.ref l) H'
def sp_vessels : Sp := fun vs H Q _ => ∃ (a : Addr) (w : Wd), vs = [.ref a] ∧ WorldAt H a w ∧ w.Ok ∧ ∀ H' l xs, Same H H' → H l = none → H' l = some (.lst xs) → Paired (VesR H') xs w.ves → Q (.ref l) H'
def sp_channel : Sp := fun vs H Q _ => ∃ (a : Addr) (w : Wd) (c : Chan), vs = [.ref a, .str c.name] ∧ WorldAt H a w ∧ w.Ok ∧ c ∈ w.chans ∧ ∀ p, ChanAt H p c → Q (.ref p) H
def sp_vessel : Sp := fun vs H Q _ => ∃ (a : Addr) (w : Wd) (v : Ves), vs = [.ref a, .str v.name] ∧ WorldAt H a w ∧ w.Ok ∧ v ∈ w.ves ∧ ∀ H' p, Same H H' → VesAt H' p v → Q (.ref p) H'
def Wd.from_ (w : Wd) (v : Ves) : Int := max w.begin_ v.hour
def sp_from_hour : Sp := fun vs H Q _ => ∃ (a p : Addr) (w : Wd) (v : Ves), vs = [.ref a, .ref p] ∧ WorldAt H a w ∧ VesAt H p v ∧ Q (.int (w.from_ v)) H
def Z_is_list : Scope := { kind := .function, names := [("thing", .local), ("low", .local), ("high", .local), ("isinstance", .globalImplicit), ("list", .globalImplicit), ("tuple", .globalImplicit), ("len", .globalImplicit)], isGenerator := false, isCoroutine := false, more := (defScope S_is_list).more }
abbrev N_is_list : List Str := ["thing", "low", "high"]
abbrev P_is_list : List Str := ["thing", "low", "high"]
theorem sc_is_list : FnScope N_is_list P_is_list Z_is_list := ⟨rfl, rfl, rfl, by decide +kernel, rfl, by decide +kernel, by decide +kernel⟩
theorem sz_is_list : defScope S_is_list = Z_is_list := rfl
def Z_need_kinds : Scope := { kind := .function, names := [("ports", .local), ("channels", .local), ("breakers", .local), ("ships", .local), ("is_list", .globalImplicit), ("MOST_PORTS", .globalImplicit), ("all", .globalImplicit), ("NoWorld", .globalImplicit), ("MOST_CHANNELS", .globalImplicit), ("MOST_BREAKERS", .globalImplicit), ("MOST_SHIPS", .globalImplicit)], isGenerator := false, isCoroutine := false, more := (defScope S_need_kinds).more }
abbrev N_need_kinds : List Str := ["ports", "channels", "breakers", "ships", "port", "one"]
abbrev P_need_kinds : List Str := ["ports", "channels", "breakers", "ships"]
theorem sc_need_kinds : FnScope N_need_kinds P_need_kinds Z_need_kinds := ⟨rfl, rfl, rfl, by decide +kernel, rfl, by decide +kernel, by decide +kernel⟩
theorem sz_need_kinds : defScope S_need_kinds = Z_need_kinds := rfl
def Z_need_unlike : Scope := { kind := .function, names := [("names", .local), ("known", .local), ("name", .local), ("Doubled", .globalImplicit)], isGenerator := false, isCoroutine := false, more := (defScope S_need_unlike).more }
abbrev N_need_unlike : List Str := ["names", "known", "name"]
abbrev P_need_unlike : List Str := ["names"]
theorem sc_need_unlike : FnScope N_need_unlike P_need_unlike Z_need_unlike := ⟨rfl, rfl, rfl, by decide +kernel, rfl, by decide +kernel, by decide +kernel⟩
theorem sz_need_unlike : defScope S_need_unlike = Z_need_unlike := rfl
def Z_need_ports : Scope := { kind := .function, names := [("names", .local), ("ports", .local), ("name", .local), ("NoPort", .globalImplicit)], isGenerator := false, isCoroutine := false, more := (defScope S_need_ports).more }
abbrev N_need_ports : List Str := ["names", "ports", "name"]
abbrev P_need_ports : List Str := ["names", "ports"]
theorem sc_need_ports : FnScope N_need_ports P_need_ports Z_need_ports := ⟨rfl, rfl, rfl, by decide +kernel, rfl, by decide +kernel, by decide +kernel⟩
theorem sz_need_ports : defScope S_need_ports = Z_need_ports := rfl
def Z_World_init : Scope := { kind := .function, names := [("self", .local), ("begin", .local), ("ports", .local), ("channels", .local), ("breakers", .local), ("ships", .local), ("channel", .local), ("ship", .local), ("is_within", .globalImplicit), ("MOST_BEGIN", .globalImplicit), ("NoNumber", .globalImplicit), ("need_kinds", .globalImplicit), ("need_unlike", .globalImplicit), ("list", .globalImplicit), ("need_ports", .globalImplicit)], isGenerator := false, isCoroutine := false, more := (defScope S_World_init).more }
abbrev N_World_init : List Str := ["self", "begin", "ports", "channels", "breakers", "ships", "channel", "ship", "vessel", "breaker"]
abbrev P_World_init : List Str := ["self", "begin", "ports", "channels", "breakers", "ships"]
theorem sc_World_init : FnScope N_World_init P_World_init Z_World_init := ⟨rfl, rfl, rfl, by decide +kernel, rfl, by decide +kernel, by decide +kernel⟩
theorem sz_World_init : defScope S_World_init = Z_World_init := rfl
def Z_World_begin_hour : Scope := { kind := .function, names := [("self", .local)], isGenerator := false, isCoroutine := false, more := (defScope S_World_begin_hour).more }
abbrev N_World_begin_hour : List Str := ["self"]
abbrev P_World_begin_hour : List Str := ["self"]
theorem sc_World_begin_hour : FnScope N_World_begin_hour P_World_begin_hour Z_World_begin_hour := ⟨rfl, rfl, rfl, by decide +kernel, rfl, by decide +kernel, by decide +kernel⟩
theorem sz_World_begin_hour : defScope S_World_begin_hour = Z_World_begin_hour := rfl
def Z_World_channels : Scope := { kind := .function, names := [("self", .local), ("list", .globalImplicit)], isGenerator := false, isCoroutine := false, more := (defScope S_World_channels).more }
abbrev N_World_channels : List Str := ["self"]
abbrev P_World_channels : List Str := ["self"]
theorem sc_World_channels : FnScope N_World_channels P_World_channels Z_World_channels := ⟨rfl, rfl, rfl, by decide +kernel, rfl, by decide +kernel, by decide +kernel⟩
theorem sz_World_channels : defScope S_World_channels = Z_World_channels := rfl
def Z_World_vessels : Scope := { kind := .function, names := [("self", .local)], isGenerator := false, isCoroutine := false, more := (defScope S_World_vessels).more }
abbrev N_World_vessels : List Str := ["self"]
abbrev P_World_vessels : List Str := ["self"]
theorem sc_World_vessels : FnScope N_World_vessels P_World_vessels Z_World_vessels := ⟨rfl, rfl, rfl, by decide +kernel, rfl, by decide +kernel, by decide +kernel⟩
theorem sz_World_vessels : defScope S_World_vessels = Z_World_vessels := rfl
def Z_World_channel : Scope := { kind := .function, names := [("self", .local), ("name", .local), ("channel", .local), ("NoChannel", .globalImplicit)], isGenerator := false, isCoroutine := false, more := (defScope S_World_channel).more }
abbrev N_World_channel : List Str := ["self", "name", "channel"]
abbrev P_World_channel : List Str := ["self", "name"]
theorem sc_World_channel : FnScope N_World_channel P_World_channel Z_World_channel := ⟨rfl, rfl, rfl, by decide +kernel, rfl, by decide +kernel, by decide +kernel⟩
theorem sz_World_channel : defScope S_World_channel = Z_World_channel := rfl
def Z_World_vessel : Scope := { kind := .function, names := [("self", .local), ("name", .local), ("vessel", .local), ("NoVessel", .globalImplicit)], isGenerator := false, isCoroutine := false, more := (defScope S_World_vessel).more }
abbrev N_World_vessel : List Str := ["self", "name", "vessel"]
abbrev P_World_vessel : List Str := ["self", "name"]
theorem sc_World_vessel : FnScope N_World_vessel P_World_vessel Z_World_vessel := ⟨rfl, rfl, rfl, by decide +kernel, rfl, by decide +kernel, by decide +kernel⟩
theorem sz_World_vessel : defScope S_World_vessel = Z_World_vessel := rfl
def Z_World_from_hour : Scope := { kind := .function, names := [("self", .local), ("vessel", .local), ("max", .globalImplicit)], isGenerator := false, isCoroutine := false, more := (defScope S_World_from_hour).more }
abbrev N_World_from_hour : List Str := ["self", "vessel"]
abbrev P_World_from_hour : List Str := ["self", "vessel"]
theorem sc_World_from_hour : FnScope N_World_from_hour P_World_from_hour Z_World_from_hour := ⟨rfl, rfl, rfl, by decide +kernel, rfl, by decide +kernel, by decide +kernel⟩
theorem sz_World_from_hour : defScope S_World_from_hour = Z_World_from_hour := rfl
section
variable {P : Program} {w : World} {K : Frag} {mg : Str → Option Value} {base : Heap}
theorem ok_is_list (T : Txt K mg) : DOk P w K mg base CX0 1 a_is_list P_is_list sp_is_list := by
  refine DOk.mk0 T.f_is_list sc_is_list sz_is_list (fun vs H Q E h => ?_) (fun cdv A outer s H vs Q E hr h => ?_)
  · obtain ⟨a, xs, lo, hi, rfl, _⟩ := h; rfl
  · obtain ⟨a, xs, lo, hi, rfl, ha, hn, h1, h2, k⟩ := h
    refine ⟨_, (pss_one (ps_ret (pe_and (pe_callB (call_isiTK K) (by rfl) T.z_isinstance bt_isinstance (pa_cons (pv 0) (pa_cons (pe_tup (pa_cons (pe_bltn (v := .ty "list") (by rfl) T.z_list bt_list rfl) (pa_cons (pe_bltn (v := .ty "tuple") (by rfl) T.z_tuple bt_tuple rfl) pa_nil))) pa_nil))) (pe_one (pe_chain op_le op_le (pv 1) (pe_callB (call_lenK K) (by rfl) T.z_len bt_len (pa_cons (pv 0) pa_nil)) (pv 2)))))), ?_⟩
    refine ⟨_, rfl, szOf rfl, fun t ht => ?_⟩
    have s1 := same_new (o := .tup [.ty "list", .ty "tuple"]) ht
    refine ⟨_, t, _, _, _, true, rfl, upd_same, .cons (.ty _) (.cons (.ty _) .nil), .base (.lst (s1 _ _ ha)), kit_li _, true, rfl, iteT ?_⟩
    refine ⟨_, rfl, _, rfl, _, xs.length, rfl, .inl ⟨xs, .of (s1 _ _ ha), rfl⟩, _, _, rfl, rfl, _, rfl, ifT (decT h1) ?_⟩
    refine ⟨_, rfl, _, _, rfl, rfl, ?_⟩
    show Q (.bl (decide ((xs.length : Int) ≤ hi))) _
    rw [decide_eq_true h2]
    exact k _ s1
theorem ok_need_unlike (T : Txt K mg) : DOk P w K mg base CX0 1 a_need_unlike P_need_unlike sp_need_unlike := by
  refine DOk.mk0 T.f_need_unlike sc_need_unlike sz_need_unlike (fun vs H Q E h => ?_) (fun cdv A outer s H vs Q E hr h => ?_)
  · obtain ⟨a, xs, rfl, _⟩ := h; rfl
  · obtain ⟨a, xs, rfl, ha, nd, hn, k⟩ := h
    have hu := hu_of hr
    refine ⟨_, (pss_cons (ps_set (i := 1) sc_need_unlike.nd rfl (Or.inl rfl) pe_dnewK)
    (pss_one (ps_for PassesOwn.never rfl (pi_list (pv 0)) (pg_name (i := 2) sc_need_unlike.nd rfl (Or.inl rfl))
      (pss_cons (ps_if (pt_cmp (pc_din hu (pv 2) (pv 1)) (by rfl)) (pss_one ps_never) pss_nil)
    (pss_one (ps_dput hu (pv 1) (pv 2) pe_bl rfl)))))), ?_⟩
    intro d hd
    have s0 := same_new (o := .dK []) hd
    refine ⟨_, rfl, a, rfl, ⟨_, .of (s0 _ _ ha)⟩, for_list (K := K) (a := a) (xs := xs.map V.str) (fun i σ H' => ∃ v, σ = [some (.ref a), some (.ref d), v] ∧ Same H H' ∧ ∃ kvs, H' d = some (.dK kvs) ∧ kvs.length ≤ i ∧ ∀ x, (valV kvs (Sum.inr x : Key)).isSome = true → x ∈ xs.take i)
      ⟨none, rfl, s0, [], upd_same, Nat.le_refl _, fun x h => by cases h⟩ (fun i σ H' _ ⟨_, _, s1, _⟩ => .of (s1 _ _ ha)) ?_ ?_⟩
    · rintro i y σ H' hi ⟨v, rfl, s1, kvs, gd, hk, hx⟩
      obtain ⟨z, hz, rfl⟩ := map_at hi
      have hnone : valV kvs (Sum.inr z : Key) = none := by
        cases e : valV kvs (Sum.inr z : Key) with
        | none => rfl
        | some u =>
          have := hx z (by rw [e]; rfl)
          obtain ⟨j, hj, ej⟩ := List.mem_iff_getElem.mp this
          rw [List.length_take] at hj
          have h1 : xs[j]? = some z := by rw [List.getElem?_eq_getElem (by omega), ← ej, List.getElem_take]
          obtain ⟨a1, e1⟩ := List.getElem?_eq_some_iff.mp h1
          obtain ⟨a2, e2⟩ := List.getElem?_eq_some_iff.mp hz
          exact absurd (e1.trans e2.symm) (List.pairwise_iff_getElem.mp nd j i a1 a2 (by omega))
      refine ⟨_, rfl, _, rfl, d, _, rfl, DGet.k (k := (Sum.inr z : Key)) gd, _, rfl, ?_⟩
      rw [hnone]
      refine iteF ?_
      have hi2 := (List.getElem?_eq_some_iff.mp hz).1
      refine ⟨_, rfl, _, rfl, d, _, rfl, DPut.k (k := (Sum.inr z : Key)) gd (small64l (by omega)), ?_⟩
      refine ⟨_, rfl, s1.atFresh hd, _, upd_same, Nat.le_trans (length_putK _ _ _) (by omega), fun x hs => ?_⟩
      rw [valV_put] at hs
      rw [take_succ_of hz, List.mem_append]
      by_cases e : (Sum.inr x : Key) = Sum.inr z
      · exact .inr (by rw [Sum.inr.inj e]; exact List.mem_singleton.mpr rfl)
      · rw [if_neg e] at hs
        exact .inl (hx x hs)
    · rintro σ H' ⟨v, rfl, s1, _⟩
      exact k H' s1
theorem ok_need_ports (T : Txt K mg) : DOk P w K mg base CX0 1 a_need_ports P_need_ports sp_need_ports := by
  refine DOk.mk0 T.f_need_ports sc_need_ports sz_need_ports (fun vs H Q E h => ?_) (fun cdv A outer s H vs Q E hr h => ?_)
  · obtain ⟨a, b, xs, ys, rfl, _⟩ := h; rfl
  · obtain ⟨a, b, xs, ys, rfl, ha, hb, hx, k⟩ := h
    refine ⟨_, (pss_one (ps_for PassesOwn.never rfl (pi_list (pv 0)) (pg_name (i := 2) sc_need_ports.nd rfl (Or.inl rfl))
      (pss_one (ps_if (pt_cmpR (op_notInK K) (pv 2) (pv 1) (by rfl)) (pss_one ps_never) pss_nil)))), ?_⟩
    refine ⟨_, rfl, a, rfl, ⟨_, .of ha⟩, for_list (K := K) (a := a) (xs := xs.map V.str) (fun i σ H' => ∃ v, σ = [some (.ref a), some (.ref b), v] ∧ H' = H) ⟨none, rfl, rfl⟩ (fun i σ H' _ ⟨_, _, e⟩ => .of (by rw [e]; exact ha)) ?_ ?_⟩
    · rintro i y σ H' hi ⟨v, rfl, rfl⟩
      obtain ⟨z, hz, rfl⟩ := map_at hi
      refine ⟨_, rfl, _, rfl, b, _, rfl, .inl (.of hb), rfl, all_flat_str ys, _, rfl, ?_⟩
      refine ifF ?_ ⟨_, rfl, rfl⟩
      show (!inV (V.str z) (ys.map V.str)) = false
      rw [in_strs (hx z (List.mem_of_getElem? hz))]
      rfl
    · rintro σ H' ⟨v, rfl, rfl⟩
      exact k
theorem all_rep (n : Nat) : (List.replicate n true).all id = true := by
  rw [List.all_replicate]; split <;> rfl
theorem ok_need_kinds (T : Txt K mg) (D_is_list : DOk P w K mg base CX0 1 a_is_list P_is_list sp_is_list) (D_is_name : DOk P w K mg base CX0 1 a_is_name P_is_name sp_is_name) :
    DOk P w K mg base CX0 2 a_need_kinds P_need_kinds sp_need_kinds := by
  refine DOk.mk0 T.f_need_kinds sc_need_kinds sz_need_kinds (fun vs H Q E h => ?_) (fun cdv A outer s H vs Q E hr h => ?_)
  · obtain ⟨wd, lp, lc, lb, ls, rfl, _⟩ := h; rfl
  · obtain ⟨wd, lp, lc, lb, ls, rfl, L, O, k⟩ := h
    obtain ⟨gp, ⟨xc, gc, pc⟩, ⟨xb, gb, pb⟩, ⟨xs, gs, ps⟩⟩ := L
    refine ⟨_, (pss_cons (ps_if (PW.pt (pw_or (pt_not (pt_val (pe_fn D_is_list T.g_is_list hr (pa_cons (pv 0) (pa_cons pe_int (pa_cons (pe_num T.i_MOST_PORTS) pa_nil)))))) (pw_or1 (pt_not (pt_val (pe_callB (cr_allK K rfl) (by rfl) T.z_all bt_all (pa_cons (pe_lc (own := [("port", 4)]) (g := (gName 4)) rfl sc_need_kinds.nd (pi_list (pv 0)) (blkOk_by (own := [("port", 4)]) (N := N_need_kinds) (sc := Z_need_kinds) (by decide +kernel)) (fun _ _ _ _ _ => (pg_name (i := 4) sc_need_kinds.nd rfl (Or.inl rfl))) (fun _ _ _ _ _ => pts_nil) (fun _ _ _ _ _ => (pe_fn D_is_name T.g_is_name hr (pa_cons (pv 4) pa_nil)))) pa_nil))))))) (pss_one ps_never) pss_nil)
    (pss_cons (ps_if (PW.pt (pw_or (pt_not (pt_val (pe_fn D_is_list T.g_is_list hr (pa_cons (pv 1) (pa_cons pe_int (pa_cons (pe_num T.i_MOST_CHANNELS) pa_nil)))))) (pw_or1 (pt_not (pt_val (pe_callB (cr_allK K rfl) (by rfl) T.z_all bt_all (pa_cons (pe_lc (own := [("one", 5)]) (g := (gName 5)) rfl sc_need_kinds.nd (pi_list (pv 1)) (blkOk_by (own := [("one", 5)]) (N := N_need_kinds) (sc := Z_need_kinds) (by decide +kernel)) (fun _ _ _ _ _ => (pg_name (i := 5) sc_need_kinds.nd rfl (Or.inl rfl))) (fun _ _ _ _ _ => pts_nil) (fun _ _ _ _ _ => (pe_callB (call_isiK K) (by rfl) T.z_isinstance bt_isinstance (pa_cons (pv 5) (pa_cons (pe_cls T.g_Channel) pa_nil))))) pa_nil))))))) (pss_one ps_never) pss_nil)
    (pss_cons (ps_if (PW.pt (pw_or (pt_not (pt_val (pe_fn D_is_list T.g_is_list hr (pa_cons (pv 2) (pa_cons pe_int (pa_cons (pe_num T.i_MOST_BREAKERS) pa_nil)))))) (pw_or1 (pt_not (pt_val (pe_callB (cr_allK K rfl) (by rfl) T.z_all bt_all (pa_cons (pe_lc (own := [("one", 5)]) (g := (gName 5)) rfl sc_need_kinds.nd (pi_list (pv 2)) (blkOk_by (own := [("one", 5)]) (N := N_need_kinds) (sc := Z_need_kinds) (by decide +kernel)) (fun _ _ _ _ _ => (pg_name (i := 5) sc_need_kinds.nd rfl (Or.inl rfl))) (fun _ _ _ _ _ => pts_nil) (fun _ _ _ _ _ => (pe_callB (call_isiK K) (by rfl) T.z_isinstance bt_isinstance (pa_cons (pv 5) (pa_cons (pe_cls T.g_Breaker) pa_nil))))) pa_nil))))))) (pss_one ps_never) pss_nil)
    (pss_one (ps_if (PW.pt (pw_or (pt_not (pt_val (pe_fn D_is_list T.g_is_list hr (pa_cons (pv 3) (pa_cons pe_int (pa_cons (pe_num T.i_MOST_SHIPS) pa_nil)))))) (pw_or1 (pt_not (pt_val (pe_callB (cr_allK K rfl) (by rfl) T.z_all bt_all (pa_cons (pe_lc (own := [("one", 5)]) (g := (gName 5)) rfl sc_need_kinds.nd (pi_list (pv 3)) (blkOk_by (own := [("one", 5)]) (N := N_need_kinds) (sc := Z_need_kinds) (by decide +kernel)) (fun _ _ _ _ _ => (pg_name (i := 5) sc_need_kinds.nd rfl (Or.inl rfl))) (fun _ _ _ _ _ => pts_nil) (fun _ _ _ _ _ => (pe_callB (call_isiK K) (by rfl) T.z_isinstance bt_isinstance (pa_cons (pv 5) (pa_cons (pe_cls T.g_Ship) pa_nil))))) pa_nil))))))) (pss_one ps_never) pss_nil))))), ?_⟩
    -- ports
    refine ⟨_, rfl, lp, _, 1, 8, rfl, gp, ?_, ?_, ?_, fun H1 s1 => ⟨true, rfl, iteF ?_⟩⟩
    · rw [List.length_map]; have := O.p1; omega
    · rw [List.length_map]; have := O.p0; omega
    · rw [List.length_map]; have := O.p1; omega
    refine ⟨_, rfl, lp, rfl, ⟨_, .of (s1 _ _ gp)⟩, fun D hD => lc_mapV (K := K) (ys := List.replicate wd.ports.length (V.bl true)) (s1 _ _ gp) hD (by rw [List.length_map]; have := O.p1; omega) (by rw [List.length_map, List.length_replicate]) ?_ gName_m fun H2 s2 gD => ?_⟩
    · intro i x y H' h1 h2 s' Q' q
      obtain ⟨z, hz, rfl⟩ := map_at h1
      obtain rfl : y = V.bl true := (List.mem_replicate.mp (List.mem_of_getElem? h2)).2
      exact ⟨rfl, _, rfl, z, rfl, O.pn z (List.mem_of_getElem? hz), q⟩
    refine ⟨D, List.replicate wd.ports.length true, rfl, .of (by rw [List.map_replicate]; exact gD), ?_⟩
    rw [all_rep]
    refine ⟨true, rfl, iteF ?_⟩
    have s2 := s1.trans s2
    -- channels
    have lc_ := Paired.length pc
    have lb_ := Paired.length pb
    have ls_ := Paired.length ps
    have oc := O.c1
    have ob := O.r1
    have os := O.s1
    refine ⟨_, rfl, lc, xc, 0, 12, rfl, s2 _ _ gc, by omega, by omega, by omega, fun H3 s3 => ⟨true, rfl, iteF ?_⟩⟩
    have s3 := s2.trans s3
    refine ⟨_, rfl, lc, rfl, ⟨_, .of (s3 _ _ gc)⟩, fun D3 hD3 => lc_mapV (K := K) (ys := List.replicate xc.length (V.bl true)) (s3 _ _ gc) hD3 (by omega) (by rw [List.length_replicate]) ?_ gName_m fun H4 s4 gD => ?_⟩
    · intro i x y H' h1 h2 s' Q' q
      obtain ⟨c, hc, p, rfl, dx, hp⟩ := pair_l pc h1
      obtain rfl : y = V.bl true := (List.mem_replicate.mp (List.mem_of_getElem? h2)).2
      exact ⟨rfl, _, rfl, _, _, _, _, _, rfl, .own _, .base (.ins ((s3.trans s') _ _ hp) T.cl_Channel T.in_Channel.ha T.in_Channel.hn T.in_Channel.ht T.in_Channel.hm), (rfl : PySem.W.kitOne _ (.ref cChannel) (.ref cChannel) = some true), q H' (Same.refl _)⟩
    refine ⟨D3, List.replicate xc.length true, rfl, .of (by rw [List.map_replicate]; exact gD), ?_⟩
    rw [all_rep]
    refine ⟨true, rfl, iteF ?_⟩
    have s4 := s3.trans s4
    -- breakers
    refine ⟨_, rfl, lb, xb, 0, 4, rfl, s4 _ _ gb, by omega, by omega, by omega, fun H5 s5 => ⟨true, rfl, iteF ?_⟩⟩
    have s5 := s4.trans s5
    refine ⟨_, rfl, lb, rfl, ⟨_, .of (s5 _ _ gb)⟩, fun D5 hD5 => lc_mapV (K := K) (ys := List.replicate xb.length (V.bl true)) (s5 _ _ gb) hD5 (by omega) (by rw [List.length_replicate]) ?_ gName_m fun H6 s6 gD => ?_⟩
    · intro i x y H' h1 h2 s' Q' q
      obtain ⟨v, hv, p, rfl, dx, hp⟩ := pair_l pb h1
      obtain rfl : y = V.bl true := (List.mem_replicate.mp (List.mem_of_getElem? h2)).2
      have ec : v.cls = cBreaker := by unfold Ves.cls; rw [(O.rn v (List.mem_of_getElem? hv)).1]
      rw [ec] at hp
      exact ⟨rfl, _, rfl, _, _, _, _, _, rfl, .own _, .base (.ins ((s5.trans s') _ _ hp) T.cl_Breaker T.in_Breaker.ha T.in_Breaker.hn T.in_Breaker.ht T.in_Breaker.hm), (rfl : PySem.W.kitOne _ (.ref cBreaker) (.ref cBreaker) = some true), q H' (Same.refl _)⟩
    refine ⟨D5, List.replicate xb.length true, rfl, .of (by rw [List.map_replicate]; exact gD), ?_⟩
    rw [all_rep]
    refine ⟨true, rfl, iteF ?_⟩
    have s6 := s5.trans s6
    -- ships
    refine ⟨_, rfl, ls, xs, 0, 6, rfl, s6 _ _ gs, by omega, by omega, by omega, fun H7 s7 => ⟨true, rfl, iteF ?_⟩⟩
    have s7 := s6.trans s7
    refine ⟨_, rfl, ls, rfl, ⟨_, .of (s7 _ _ gs)⟩, fun D7 hD7 => lc_mapV (K := K) (ys := List.replicate xs.length (V.bl true)) (s7 _ _ gs) hD7 (by omega) (by rw [List.length_replicate]) ?_ gName_m fun H8 s8 gD => ?_⟩
    · intro i x y H' h1 h2 s' Q' q
      obtain ⟨v, hv, p, rfl, dx, hp⟩ := pair_l ps h1
      obtain rfl : y = V.bl true := (List.mem_replicate.mp (List.mem_of_getElem? h2)).2
      have ec : v.cls = cShip := by unfold Ves.cls; rw [(O.sn v (List.mem_of_getElem? hv)).1]
      rw [ec] at hp
      exact ⟨rfl, _, rfl, _, _, _, _, _, rfl, .own _, .base (.ins ((s7.trans s') _ _ hp) T.cl_Ship T.in_Ship.ha T.in_Ship.hn T.in_Ship.ht T.in_Ship.hm), (rfl : PySem.W.kitOne _ (.ref cShip) (.ref cShip) = some true), q H' (Same.refl _)⟩
    refine ⟨D7, List.replicate xs.length true, rfl, .of (by rw [List.map_replicate]; exact gD), ?_⟩
    rw [all_rep]
    exact ⟨true, rfl, iteF (k _ (s7.trans s8))⟩
theorem ok_begin_hour (T : Txt K mg) : DOk P w K mg base CX0 1 a_World_begin_hour P_World_begin_hour sp_begin_hour := by
  refine DOk.mk0 T.f_World_begin_hour sc_World_begin_hour sz_World_begin_hour (fun vs H Q E h => ?_) (fun cdv A outer s H vs Q E hr h => ?_)
  · obtain ⟨a, wd, rfl, _⟩ := h; rfl
  · obtain ⟨a, wd, rfl, ⟨dx, lp, lc, lb, ls, ha, L⟩, k⟩ := h
    refine ⟨_, (pss_one (ps_ret (pe_fldK K (pv 0)))), ?_⟩
    exact ⟨_, rfl, a, _, _, _, _, rfl, ha, T.cl_World, T.na_World_beginning, rfl, k⟩
theorem ok_channels (T : Txt K mg) : DOk P w K mg base CX0 1 a_World_channels P_World_channels sp_channels := by
  refine DOk.mk0 T.f_World_channels sc_World_channels sz_World_channels (fun vs H Q E h => ?_) (fun cdv A outer s H vs Q E hr h => ?_)
  · obtain ⟨a, wd, rfl, _⟩ := h; rfl
  · obtain ⟨a, wd, rfl, ⟨dx, lp, lc, lb, ls, ha, L⟩, k⟩ := h
    obtain ⟨xs, gc, pc⟩ := L.hc
    refine ⟨_, (pss_one (ps_ret (pe_callTy (call_listK K) (by rfl) T.z_list bt_list (pa_cons (pe_fldK K (pv 0)) pa_nil)))), ?_⟩
    refine ⟨_, rfl, a, _, _, _, _, rfl, ha, T.cl_World, T.na_World_all_channels, rfl, lc, xs, rfl, .inl (.of gc), fun l hl => ?_⟩
    exact k _ l xs (same_new hl) hl upd_same (pc.to fun _ _ q => q.mono (same_new hl))
theorem ok_vessels (T : Txt K mg) : DOk P w K mg base CX0 1 a_World_vessels P_World_vessels sp_vessels := by
  refine DOk.mk0 T.f_World_vessels sc_World_vessels sz_World_vessels (fun vs H Q E h => ?_) (fun cdv A outer s H vs Q E hr h => ?_)
  · obtain ⟨a, wd, rfl, _⟩ := h; rfl
  · obtain ⟨a, wd, rfl, ⟨dx, lp, lc, lb, ls, ha, L⟩, O, k⟩ := h
    obtain ⟨xb, gb, pb⟩ := L.hb
    obtain ⟨xs, gs, ps⟩ := L.hs
    refine ⟨_, (pss_one (ps_ret (pe_op op_cat (pe_fldK K (pv 0)) (pe_fldK K (pv 0))))), ?_⟩
    refine ⟨_, rfl, a, _, _, _, _, rfl, ha, T.cl_World, T.na_World_all_breakers, rfl, _, rfl, a, _, _, _, _, rfl, ha, T.cl_World, T.na_World_all_ships, rfl, lb, ls, xb, xs, rfl, rfl, gb, gs, ?_, fun l hl => ?_⟩
    · rw [Paired.length pb, Paired.length ps]
      have := O.r1; have := O.s1
      exact small64k (by omega)
    · exact k _ l _ (same_new hl) hl upd_same (pair_app (pb.to fun _ _ q => q.mono (same_new hl)) (ps.to fun _ _ q => q.mono (same_new hl)))
theorem ok_channel (T : Txt K mg) : DOk P w K mg base CX0 1 a_World_channel P_World_channel sp_channel := by
  refine DOk.mk0 T.f_World_channel sc_World_channel sz_World_channel (fun vs H Q E h => ?_) (fun cdv A outer s H vs Q E hr h => ?_)
  · obtain ⟨a, wd, c, rfl, _⟩ := h; rfl
  · obtain ⟨a, wd, c, rfl, ⟨dx, lp, lc, lb, ls, ha, L⟩, O, hc, k⟩ := h
    obtain ⟨xs, gc, pc⟩ := L.hc
    refine ⟨_, (pss_cons (ps_for PassesOwn.never rfl (pi_list (pe_fldK K (pv 0))) (pg_name (i := 2) sc_World_channel.nd rfl (Or.inl rfl))
      (pss_one (ps_if (pt_cmpR op_eq (pe_fldK K (pv 2)) (pv 1) (nomark _)) (pss_one (ps_ret (pv 2))) pss_nil)))
    (pss_one ps_never)), ?_⟩
    refine ⟨_, rfl, a, _, _, _, _, rfl, ha, T.cl_World, T.na_World_all_channels, rfl, lc, rfl, ⟨_, .of gc⟩, for_list (K := K) (a := lc) (xs := xs) (fun i σ H' => ∃ v, σ = [some (.ref a), some (.str c.name), v] ∧ H' = H ∧ c ∈ wd.chans.drop i) ⟨none, rfl, rfl, by rw [List.drop_zero]; exact hc⟩ (fun i σ H' _ ⟨_, _, e, _⟩ => .of (by rw [e]; exact gc)) ?_ ?_⟩
    · rintro i y σ H' hi ⟨v, rfl, rfl, hm⟩
      obtain ⟨c2, hc2, p, rfl, dy, hp⟩ := pair_l pc hi
      refine ⟨_, rfl, p, _, _, _, _, rfl, hp, T.cl_Channel, T.na_Channel_name, rfl, _, rfl, rfl, _, rfl, ?_⟩
      obtain ⟨hi2, e2⟩ := List.getElem?_eq_some_iff.mp hc2
      by_cases e : c2.name = c.name
      · refine ifT (decT (congrArg V.str e)) ?_
        have ec : c2 = c := nodup_name O.cd (List.mem_of_getElem? hc2) hc e
        rw [ec] at hp
        exact ⟨_, rfl, k p ⟨dy, hp⟩⟩
      · refine ifF (decF fun z => e (V.str.inj z)) ⟨_, rfl, rfl, ?_⟩
        rw [List.drop_eq_getElem_cons hi2, e2] at hm
        exact (List.mem_cons.mp hm).resolve_left fun z => e (by rw [z])
    · rintro σ H' ⟨v, rfl, rfl, hm⟩
      rw [Paired.length pc, List.drop_length] at hm
      cases hm
theorem ok_vessel (T : Txt K mg) (D_World_vessels : DOk P w K mg base CX0 1 a_World_vessels P_World_vessels sp_vessels) : DOk P w K mg base CX0 2 a_World_vessel P_World_vessel sp_vessel := by
  refine DOk.mk0 T.f_World_vessel sc_World_vessel sz_World_vessel (fun vs H Q E h => ?_) (fun cdv A outer s H vs Q E hr h => ?_)
  · obtain ⟨a, wd, c, rfl, _⟩ := h; rfl
  · obtain ⟨a, wd, c, rfl, W, O, hc, k⟩ := h
    obtain ⟨dx, lp, lc, lb, ls, ha, L⟩ := id W
    refine ⟨_, (pss_cons (ps_for PassesOwn.never rfl (pi_list (pe_me0 D_World_vessels T.cl_World T.me_World_vessels hr (pv 0))) (pg_name (i := 2) sc_World_vessel.nd rfl (Or.inl rfl))
      (pss_one (ps_if (pt_cmpR op_eq (pe_fldK K (pv 2)) (pv 1) (nomark _)) (pss_one (ps_ret (pv 2))) pss_nil)))
    (pss_one ps_never)), ?_⟩
    refine ⟨_, rfl, a, dx, _, rfl, ha, rfl, a, wd, rfl, W, O, fun H1 l xs s1 hl gl pc => ?_⟩
    refine ⟨l, rfl, ⟨_, .of gl⟩, for_list (K := K) (a := l) (xs := xs) (fun i σ H' => ∃ v, σ = [some (.ref a), some (.str c.name), v] ∧ H' = H1 ∧ c ∈ wd.ves.drop i) ⟨none, rfl, rfl, by rw [List.drop_zero]; exact hc⟩ (fun i σ H' _ ⟨_, _, e, _⟩ => .of (by rw [e]; exact gl)) ?_ ?_⟩
    · rintro i y σ H' hi ⟨v, rfl, rfl, hm⟩
      obtain ⟨c2, hc2, p, rfl, dy, hp⟩ := pair_l pc hi
      refine ⟨_, rfl, p, _, _, _, _, rfl, hp, Ves.cl T, Ves.na_name T, c2.l_name, _, rfl, rfl, _, rfl, ?_⟩
      obtain ⟨hi2, e2⟩ := List.getElem?_eq_some_iff.mp hc2
      by_cases e : c2.name = c.name
      · refine ifT (decT (congrArg V.str e)) ?_
        have ec : c2 = c := nodup_name O.vd (List.mem_of_getElem? hc2) hc e
        rw [ec] at hp
        exact ⟨_, rfl, k _ p s1 ⟨dy, hp⟩⟩
      · refine ifF (decF fun z => e (V.str.inj z)) ⟨_, rfl, rfl, ?_⟩
        rw [List.drop_eq_getElem_cons hi2, e2] at hm
        exact (List.mem_cons.mp hm).resolve_left fun z => e (by rw [z])
    · rintro σ H' ⟨v, rfl, rfl, hm⟩
      rw [Paired.length pc, List.drop_length] at hm
      cases hm
theorem ok_from_hour (T : Txt K mg) : DOk P w K mg base CX0 1 a_World_from_hour P_World_from_hour sp_from_hour := by
  refine DOk.mk0 T.f_World_from_hour sc_World_from_hour sz_World_from_hour (fun vs H Q E h => ?_) (fun cdv A outer s H vs Q E hr h => ?_)
  · obtain ⟨a, p, wd, v, rfl, _⟩ := h; rfl
  · obtain ⟨a, p, wd, v, rfl, ⟨dx, lp, lc, lb, ls, ha, L⟩, ⟨dy, hp⟩, k⟩ := h
    refine ⟨_, (pss_one (ps_ret (pe_callB (call_max2 rfl) (by rfl) T.z_max bt_max (pa_cons (pe_fldK K (pv 0)) (pa_cons (pe_fldK K (pv 1)) pa_nil))))), ?_⟩
    refine ⟨_, rfl, a, _, _, _, _, rfl, ha, T.cl_World, T.na_World_beginning, rfl, _, rfl, p, _, _, _, _, rfl, hp, Ves.cl T, Ves.na_hour T, v.l_hour, _, _, rfl, ?_⟩
    refine Eq.subst (motive := fun z => Q (.int z) H) ?_ k
    unfold Wd.from_
    split <;> omega
theorem ok_World_init (T : Txt K mg) (D_is_within : DOk P w K mg base CX0 2 a_is_within P_is_within sp_is_within) (D_need_kinds : DOk P w K mg base CX0 2 a_need_kinds P_need_kinds sp_need_kinds)
    (D_need_unlike : DOk P w K mg base CX0 1 a_need_unlike P_need_unlike sp_need_unlike) (D_need_ports : DOk P w K mg base CX0 1 a_need_ports P_need_ports sp_need_ports) : DOk P w K mg base CX0 3 a_World_init P_World_init sp_World_init := by
  refine DOk.mk0 T.f_World_init sc_World_init sz_World_init (fun vs H Q E h => ?_) (fun cdv A outer s H vs Q E hr h => ?_)
  · obtain ⟨p, dx, wd, lp, lc, lb, ls, rfl, _⟩ := h; rfl
  · obtain ⟨p, dx, wd, lp, lc, lb, ls, rfl, hp, L, O, k⟩ := h
    obtain ⟨gp, ⟨xc, gc, pc⟩, ⟨xb, gb, pb⟩, ⟨xs, gs, ps⟩⟩ := id L
    have lc_ := Paired.length pc
    have lb_ := Paired.length pb
    have ls_ := Paired.length ps
    have op := O.p1
    have oc := O.c1
    have ob := O.r1
    have os := O.s1
    refine ⟨_, (pss_cons (ps_if (pt_not (pt_val (pe_fn D_is_within T.g_is_within hr (pa_cons (pv 1) (pa_cons pe_int (pa_cons (pe_num T.i_MOST_BEGIN) pa_nil)))))) (pss_one ps_never) pss_nil)
    (pss_cons (ps_expr (pe_fn D_need_kinds T.g_need_kinds hr (pa_cons (pv 2) (pa_cons (pv 3) (pa_cons (pv 4) (pa_cons (pv 5) pa_nil))))))
    (pss_cons (ps_expr (pe_fn D_need_unlike T.g_need_unlike hr (pa_cons (pv 2) pa_nil)))
    (pss_cons (ps_expr (pe_fn D_need_unlike T.g_need_unlike hr (pa_cons (pe_lc (own := [("channel", 6)]) (g := (gName 6)) rfl sc_World_init.nd (pi_list (pv 3)) (blkOk_by (own := [("channel", 6)]) (N := N_World_init) (sc := Z_World_init) (by decide +kernel)) (fun _ _ _ _ _ => (pg_name (i := 6) sc_World_init.nd rfl (Or.inl rfl))) (fun _ _ _ _ _ => pts_nil) (fun _ _ _ _ _ => (pe_fldK K (pv 6)))) pa_nil)))
    (pss_cons (ps_expr (pe_fn D_need_unlike T.g_need_unlike hr (pa_cons (pe_lc (own := [("vessel", 8)]) (g := (gName 8)) rfl sc_World_init.nd (pi_list (pe_op op_cat (pe_callTy (call_listK K) (by rfl) T.z_list bt_list (pa_cons (pv 4) pa_nil)) (pe_callTy (call_listK K) (by rfl) T.z_list bt_list (pa_cons (pv 5) pa_nil)))) (blkOk_by (own := [("vessel", 8)]) (N := N_World_init) (sc := Z_World_init) (by decide +kernel)) (fun _ _ _ _ _ => (pg_name (i := 8) sc_World_init.nd rfl (Or.inl rfl))) (fun _ _ _ _ _ => pts_nil) (fun _ _ _ _ _ => (pe_fldK K (pv 8)))) pa_nil)))
    (pss_cons (ps_for PassesOwn.never rfl (pi_list (pv 3)) (pg_name (i := 6) sc_World_init.nd rfl (Or.inl rfl))
      (pss_one (ps_expr (pe_fn D_need_ports T.g_need_ports hr (pa_cons (pe_lst (pa_cons (pe_fldK K (pv 6)) (pa_cons (pe_fldK K (pv 6)) pa_nil))) (pa_cons (pv 2) pa_nil))))))
    (pss_cons (ps_expr (pe_fn D_need_ports T.g_need_ports hr (pa_cons (pe_lc (own := [("breaker", 9)]) (g := (gName 9)) rfl sc_World_init.nd (pi_list (pv 4)) (blkOk_by (own := [("breaker", 9)]) (N := N_World_init) (sc := Z_World_init) (by decide +kernel)) (fun _ _ _ _ _ => (pg_name (i := 9) sc_World_init.nd rfl (Or.inl rfl))) (fun _ _ _ _ _ => pts_nil) (fun _ _ _ _ _ => (pe_fldK K (pv 9)))) (pa_cons (pv 2) pa_nil))))
    (pss_cons (ps_for PassesOwn.never rfl (pi_list (pv 5)) (pg_name (i := 7) sc_World_init.nd rfl (Or.inl rfl))
      (pss_one (ps_expr (pe_fn D_need_ports T.g_need_ports hr (pa_cons (pe_lst (pa_cons (pe_fldK K (pv 7)) (pa_cons (pe_fldK K (pv 7)) pa_nil))) (pa_cons (pv 2) pa_nil))))))
    (pss_cons (ps_fld (pv 0) (pv 1) rfl)
    (pss_cons (ps_fld (pv 0) (pe_callTy (call_listK K) (by rfl) T.z_list bt_list (pa_cons (pv 2) pa_nil)) rfl)
    (pss_cons (ps_fld (pv 0) (pe_callTy (call_listK K) (by rfl) T.z_list bt_list (pa_cons (pv 3) pa_nil)) rfl)
    (pss_cons (ps_fld (pv 0) (pe_callTy (call_listK K) (by rfl) T.z_list bt_list (pa_cons (pv 4) pa_nil)) rfl)
    (pss_one (ps_fld (pv 0) (pe_callTy (call_listK K) (by rfl) T.z_list bt_list (pa_cons (pv 5) pa_nil)) rfl)))))))))))))), ?_⟩
    refine ⟨_, rfl, _, _, _, rfl, O.b0, O.b1, true, rfl, iteF ?_⟩
    refine ⟨_, rfl, _, rfl, _, rfl, _, rfl, wd, lp, lc, lb, ls, rfl, L, O, fun H1 s1 => ?_⟩
    refine ⟨_, rfl, lp, _, rfl, s1 _ _ gp, O.pd, by omega, fun H2 s2 => ?_⟩
    have s2 := s1.trans s2
    -- channels' names
    refine ⟨_, rfl, lc, rfl, ⟨_, .of (s2 _ _ gc)⟩, fun D hD => lc_mapV (K := K) (ys := (wd.chans.map (·.name)).map V.str) (s2 _ _ gc) hD (by omega) (by simp; omega) ?_ gName_m fun H3 s3 gD => ?_⟩
    · intro i x y H' h1 h2 s' Q' q
      obtain ⟨c, hc, r, rfl, dy, hr⟩ := pair_l pc h1
      obtain ⟨z, hz, rfl⟩ := map_at h2
      obtain ⟨c', hc', rfl⟩ := map_at hz
      rw [hc] at hc'; cases hc'
      exact ⟨rfl, _, rfl, r, _, _, _, _, rfl, (s2.trans s') _ _ hr, T.cl_Channel, T.na_Channel_name, rfl, q H' (Same.refl _)⟩
    have s3 := s2.trans s3
    refine ⟨D, _, rfl, gD, O.cd, by simp; omega, fun H4 s4 => ?_⟩
    have s4 := s3.trans s4
    -- vessels' names
    refine ⟨_, rfl, lb, xb, rfl, .inl (.of (s4 _ _ gb)), fun l1 h1 => ?_⟩
    have t1 := same_new (o := .lst xb) h1
    refine ⟨_, rfl, ls, xs, rfl, .inl (.of ((s4.trans t1) _ _ gs)), fun l2 h2 => ?_⟩
    have t2 := t1.trans (same_new (o := .lst xs) h2)
    refine ⟨l1, l2, xb, xs, rfl, rfl, (same_new h2) _ _ upd_same, upd_same, small64k (by omega), fun l3 h3 => ?_⟩
    have t3 := s4.trans (t2.trans (same_new (o := .lst (xb ++ xs)) h3))
    have pv := pair_app pb ps
    refine ⟨l3, rfl, ⟨_, .of upd_same⟩, fun D5 hD5 => lc_mapV (K := K) (ys := (wd.ves.map (·.name)).map V.str) upd_same hD5 (by simp; omega) (by unfold Wd.ves; simp; omega) ?_ gName_m fun H5 s5 gD5 => ?_⟩
    · intro i x y H' h1 h2 s' Q' q
      obtain ⟨c, hc, r, rfl, dy, hr⟩ := pair_l pv h1
      obtain ⟨z, hz, rfl⟩ := map_at h2
      obtain ⟨c', hc', rfl⟩ := map_at hz
      rw [show wd.ves = wd.brs ++ wd.shs from rfl, hc] at hc'; cases hc'
      exact ⟨rfl, _, rfl, r, _, _, _, _, rfl, (t3.trans s') _ _ hr, Ves.cl T, Ves.na_name T, c.l_name, q H' (Same.refl _)⟩
    have s5 := t3.trans s5
    refine ⟨D5, _, rfl, gD5, O.vd, by have := O.vl; simp; omega, fun H6 s6 => ?_⟩
    have s6 := s5.trans s6
    -- channels' ends
    refine ⟨_, rfl, lc, rfl, ⟨_, .of (s6 _ _ gc)⟩, for_list (K := K) (a := lc) (xs := xc) (fun i σ H' => ∃ v, σ = [some (.ref p), some (.int wd.begin_), some (.ref lp), some (.ref lc), some (.ref lb), some (.ref ls), v, none, none, none] ∧ Same H H') ⟨none, rfl, s6⟩ (fun i σ H' _ ⟨_, _, e⟩ => .of (e _ _ gc)) ?_ ?_⟩
    · rintro i y σ H' hi ⟨v, rfl, s7⟩
      obtain ⟨c, hc, r, rfl, dy, hr⟩ := pair_l pc hi
      have ce := O.ce c (List.mem_of_getElem? hc)
      refine ⟨_, rfl, r, _, _, _, _, rfl, s7 _ _ hr, T.cl_Channel, T.na_Channel_one, rfl, _, rfl, r, _, _, _, _, rfl, s7 _ _ hr, T.cl_Channel, T.na_Channel_other, rfl, szOf rfl, fun l hl => ?_⟩
      refine ⟨_, rfl, l, lp, [c.one, c.other], wd.ports, rfl, upd_same, (s7.atNew hl) _ _ gp, ?_, _, rfl, s7.atNew hl⟩
      intro x hx
      simp only [List.mem_cons, List.not_mem_nil, or_false] at hx
      rcases hx with rfl | rfl
      · exact ce.1
      · exact ce.2
    · rintro σ H7 ⟨v, rfl, s7⟩
      -- breakers' ports
      refine ⟨_, rfl, lb, rfl, ⟨_, .of (s7 _ _ gb)⟩, fun D8 hD8 => lc_mapV (K := K) (ys := (wd.brs.map (·.port)).map V.str) (s7 _ _ gb) hD8 (by omega) (by simp; omega) ?_ gName_m fun H8 s8 gD8 => ?_⟩
      · intro i x y H' h1 h2 s' Q' q
        obtain ⟨c, hc, r, rfl, dy, hr⟩ := pair_l pb h1
        obtain ⟨z, hz, rfl⟩ := map_at h2
        obtain ⟨c', hc', rfl⟩ := map_at hz
        rw [hc] at hc'; cases hc'
        exact ⟨rfl, _, rfl, r, _, _, _, _, rfl, (s7.trans s') _ _ hr, Ves.cl T, Ves.na_port T, c.l_port, q H' (Same.refl _)⟩
      have s8 := s7.trans s8
      refine ⟨_, rfl, D8, lp, _, wd.ports, rfl, gD8, s8 _ _ gp, ?_, ?_⟩
      · intro x hx
        obtain ⟨v, hv, rfl⟩ := List.mem_map.mp hx
        exact (O.rn v hv).2.2
      -- ships
      refine ⟨_, rfl, ls, rfl, ⟨_, .of (s8 _ _ gs)⟩, for_list (K := K) (a := ls) (xs := xs) (fun i σ H' => ∃ v', σ = [some (.ref p), some (.int wd.begin_), some (.ref lp), some (.ref lc), some (.ref lb), some (.ref ls), v, v', none, none] ∧ Same H H') ⟨none, rfl, s8⟩ (fun i σ H' _ ⟨_, _, e⟩ => .of (e _ _ gs)) ?_ ?_⟩
      · rintro i y σ H' hi ⟨v', rfl, s9⟩
        obtain ⟨c, hc, r, rfl, dy, hr⟩ := pair_l ps hi
        obtain ⟨cB, _, cp, cg⟩ := O.sn c (List.mem_of_getElem? hc)
        have lg : c.fs.lookup ("goal" : Str) = some (.str c.goal) := by unfold Ves.fs; rw [cB]; rfl
        have ng : NoAttr K c.cls "goal" := by
          have ec : c.cls = cShip := by unfold Ves.cls; rw [cB]
          rw [ec]; exact T.na_Ship_goal
        refine ⟨_, rfl, r, _, _, _, _, rfl, s9 _ _ hr, Ves.cl T, Ves.na_port T, c.l_port, _, rfl, r, _, _, _, _, rfl, s9 _ _ hr, Ves.cl T, ng, lg, szOf rfl, fun l hl => ?_⟩
        refine ⟨_, rfl, l, lp, [c.port, c.goal], wd.ports, rfl, upd_same, (s9.atNew hl) _ _ gp, ?_, _, rfl, s9.atNew hl⟩
        intro x hx
        simp only [List.mem_cons, List.not_mem_nil, or_false] at hx
        rcases hx with rfl | rfl
        · exact cp
        · exact cg
      · rintro σ H9 ⟨v', rfl, s9⟩
        -- the fields
        refine ⟨_, rfl, _, rfl, p, cWorld, dx, _, rfl, s9 _ _ hp, T.cl_World, T.na_World_beginning, szOf rfl, ?_⟩
        have np : ∀ {a : Addr} {ys : List V}, H a = some (.lst ys) → a ≠ p := fun e z => by rw [z, hp] at e; cases e
        have b0 : But p H (upd H9 p (.ins cWorld dx (putF "beginning" (.int wd.begin_) []))) := .of s9 fun b n => upd_ne n
        refine ⟨_, rfl, lp, _, rfl, .inl (.of (b0 _ _ gp (np gp))), fun l1 h1 => ?_⟩
        refine ⟨_, rfl, p, cWorld, dx, _, rfl, same_new h1 _ _ upd_same, T.cl_World, T.na_World_all_ports, szOf rfl, ?_⟩
        obtain ⟨b1, i1, g1, c1, n1⟩ := stepF (fs' := (putF "all_ports" (.ref l1) (putF "beginning" (.int wd.begin_) []))) (ys := wd.ports.map V.str) b0 upd_same h1
        refine ⟨_, rfl, lc, _, rfl, .inl (.of (b1 _ _ gc (np gc))), fun l2 h2 => ?_⟩
        refine ⟨_, rfl, p, cWorld, dx, _, rfl, same_new h2 _ _ i1, T.cl_World, T.na_World_all_channels, szOf rfl, ?_⟩
        obtain ⟨b2, i2, g2, c2, n2⟩ := stepF (fs' := (putF "all_channels" (.ref l2) (putF "all_ports" (.ref l1) (putF "beginning" (.int wd.begin_) [])))) (ys := xc) b1 i1 h2
        refine ⟨_, rfl, lb, _, rfl, .inl (.of (b2 _ _ gb (np gb))), fun l3 h3 => ?_⟩
        refine ⟨_, rfl, p, cWorld, dx, _, rfl, same_new h3 _ _ i2, T.cl_World, T.na_World_all_breakers, szOf rfl, ?_⟩
        obtain ⟨b3, i3, g3, c3, n3⟩ := stepF (fs' := (putF "all_breakers" (.ref l3) (putF "all_channels" (.ref l2) (putF "all_ports" (.ref l1) (putF "beginning" (.int wd.begin_) []))))) (ys := xb) b2 i2 h3
        refine ⟨_, rfl, ls, _, rfl, .inl (.of (b3 _ _ gs (np gs))), fun l4 h4 => ?_⟩
        refine ⟨_, rfl, p, cWorld, dx, _, rfl, same_new h4 _ _ i3, T.cl_World, T.na_World_all_ships, szOf rfl, ?_⟩
        obtain ⟨b4, i4, g4, c4, n4⟩ := stepF (fs' := (worldF wd.begin_ l1 l2 l3 l4)) (ys := xs) b3 i3 h4
        have cr : ∀ v c, ChanR H v c → ChanR _ v c := fun v c ⟨r, e, dy, hr⟩ => ⟨r, e, dy, b4 _ _ hr fun z => by
          rw [z, hp] at hr
          injection Option.some.inj hr with e1
          exact absurd e1 (by decide)⟩
        have vr : ∀ v c, VesR H v c → VesR _ v c := fun v c ⟨r, e, dy, hr⟩ => ⟨r, e, dy, b4 _ _ hr fun z => by
          rw [z, hp] at hr
          injection Option.some.inj hr with e1
          unfold Ves.cls at e1
          split at e1 <;> exact absurd e1 (by decide)⟩
        exact k _ b4 ⟨dx, l1, l2, l3, l4, i4, c4 _ _ n1 (c3 _ _ n1 (c2 _ _ n1 g1)), ⟨xc, c4 _ _ n2 (c3 _ _ n2 g2), pc.to cr⟩, ⟨xb, c4 _ _ n3 g3, pb.to vr⟩, ⟨xs, g4, ps.to vr⟩⟩
end
end Ik


namespace Ik
open PySem PySem.Spec L2
open PySem.W (Frag)
/-! ### waters: for each channel its Ice, whose dict of cuts is at d -/
def WP (b : Int) (H : Hp) (kv : Key × V) (c : Chan × Addr) : Prop := kv.1 = .inr c.1.name ∧ ∃ i, kv.2 = .ref i ∧ IceS H i c.2 c.1 b
theorem WP.mono {b : Int} {H H' : Hp} {kv : Key × V} {c : Chan × Addr} (h : WP b H kv c) (s : Same H H') : WP b H' kv c := let ⟨e, i, e2, g⟩ := h; ⟨e, i, e2, g.mono s⟩
/-- an Ice stays when what is no instance is stored -/
theorem IceS.other {H : Hp} {i d F : Addr} {c : Chan} {b : Int} {o u : HO} (h : IceS H i d c b) (hF : H F = some u) (hu : ∀ C dx fs, u ≠ .ins C dx fs) : IceS (upd H F o) i d c b := by
  obtain ⟨dx, q, e, dy, g⟩ := h
  refine ⟨dx, q, ?_, dy, ?_⟩
  · rw [upd_ne fun z => by rw [z, hF] at e; exact hu _ _ _ (Option.some.inj e)]; exact e
  · rw [upd_ne fun z => by rw [z, hF] at g; exact hu _ _ _ (Option.some.inj g)]; exact g
theorem WP.other {b : Int} {H : Hp} {kv : Key × V} {c : Chan × Addr} {F : Addr} {o u : HO} (h : WP b H kv c) (hF : H F = some u) (hu : ∀ C dx fs, u ≠ .ins C dx fs) : WP b (upd H F o) kv c :=
  let ⟨e, i, e2, g⟩ := h; ⟨e, i, e2, g.other hF hu⟩
def watersF (q D : Addr) : List (Str × V) := [("of_world", .ref q), ("by_name", .ref D)]
def WatersS (H : Hp) (a : Addr) (b : Int) (cs : List (Chan × Addr)) : Prop := ∃ dx q D kvs, H a = some (.ins cWaters dx (watersF q D)) ∧ H D = some (.dK kvs) ∧ Paired (WP b H) kvs cs
theorem WatersS.mono {H H' : Hp} {a : Addr} {b : Int} {cs : List (Chan × Addr)} (h : WatersS H a b cs) (s : Same H H') : WatersS H' a b cs :=
  let ⟨dx, q, D, kvs, e, g, p⟩ := h; ⟨dx, q, D, kvs, s _ _ e, s _ _ g, p.to fun _ _ r => r.mono s⟩
theorem wp_get {b : Int} {H : Hp} : ∀ {kvs : List (Key × V)} {cs : List (Chan × Addr)} {c : Chan} {d : Addr}, Paired (WP b H) kvs cs → (cs.map (·.1.name)).Nodup → (c, d) ∈ cs → ∃ i, valV kvs (Sum.inr c.name : Key) = some (.ref i) ∧ IceS H i d c b
  | _, _, _, _, .nil, _, h => by cases h
  | _, _, c, d, .cons (a := kv) (b := p) (l₁ := kvs) (l₂ := cs) hp ht, nd, h => by
    obtain ⟨e1, i, e2, g⟩ := hp
    rw [List.map_cons, List.nodup_cons] at nd
    rcases List.mem_cons.mp h with h | h
    · subst h
      exact ⟨i, by rw [valV_pos e1, e2], g⟩
    · have ne : ¬ kv.1 = (Sum.inr c.name : Key) := by
        rw [e1]
        intro z
        exact nd.1 (List.mem_map.mpr ⟨(c, d), h, (Sum.inr.inj z).symm⟩)
      rw [valV_neg ne]
      exact wp_get ht nd.2 h
theorem wp_none {b : Int} {H : Hp} {x : Str} : ∀ {kvs : List (Key × V)} {cs : List (Chan × Addr)}, Paired (WP b H) kvs cs → x ∉ cs.map (·.1.name) → valV kvs (Sum.inr x : Key) = none
  | _, _, .nil, _ => rfl
  | _, _, .cons (a := kv) (b := p) hp ht, h => by
    rw [List.map_cons, List.mem_cons, not_or] at h
    rw [valV_neg (by rw [hp.1]; exact fun z => h.1 (Sum.inr.inj z).symm)]
    exact wp_none ht h.2
/-! ### promises -/
def sp_Waters_init : Sp := fun vs H Q _ => ∃ (p dx q : Addr) (wd : Wd), vs = [.ref p, .ref q] ∧ H p = some (.ins cWaters dx []) ∧ WorldAt H q wd ∧ wd.Ok ∧
  ∀ cs H', But p H H' → WatersS H' p wd.begin_ cs → cs.map (·.1) = wd.chans → (cs.map (·.2)).Nodup → (∀ d ∈ cs.map (·.2), H d = none ∧ H' d = some (.dK [])) → Q .non H'
def sp_Waters_ice : Sp := fun vs H Q _ => ∃ (a d : Addr) (b : Int) (cs : List (Chan × Addr)) (c : Chan), vs = [.ref a, .str c.name] ∧ WatersS H a b cs ∧ (cs.map (·.1.name)).Nodup ∧ (c, d) ∈ cs ∧ ∀ i, IceS H i d c b → Q (.ref i) H
def sp_Waters_thick : Sp := fun vs H Q _ => ∃ (a d : Addr) (b h : Int) (cs : List (Chan × Addr)) (c : Chan) (kvs : List (Key × V)) (cuts : Cuts), vs = [.ref a, .str c.name, .int h] ∧ WatersS H a b cs ∧ (cs.map (·.1.name)).Nodup ∧ (c, d) ∈ cs ∧ c.Ok ∧
  CutsIn H d b kvs cuts ∧ b ≤ h ∧ h ≤ 1000000000 ∧ ∀ H', Same H H' → Q (.int (c.ice cuts b h)) H'
def Z_Waters_init : Scope := { kind := .function, names := [("self", .local), ("world", .local), ("channel", .local), ("Ice", .globalImplicit)], isGenerator := false, isCoroutine := false, more := (defScope S_Waters_init).more }
abbrev N_Waters_init : List Str := ["self", "world", "channel"]
abbrev P_Waters_init : List Str := ["self", "world"]
theorem sc_Waters_init : FnScope N_Waters_init P_Waters_init Z_Waters_init := ⟨rfl, rfl, rfl, by decide +kernel, rfl, by decide +kernel, by decide +kernel⟩
theorem sz_Waters_init : defScope S_Waters_init = Z_Waters_init := rfl
def Z_Waters_ice : Scope := { kind := .function, names := [("self", .local), ("name", .local), ("isinstance", .globalImplicit), ("str", .globalImplicit), ("NoChannel", .globalImplicit)], isGenerator := false, isCoroutine := false, more := (defScope S_Waters_ice).more }
abbrev N_Waters_ice : List Str := ["self", "name"]
abbrev P_Waters_ice : List Str := ["self", "name"]
theorem sc_Waters_ice : FnScope N_Waters_ice P_Waters_ice Z_Waters_ice := ⟨rfl, rfl, rfl, by decide +kernel, rfl, by decide +kernel, by decide +kernel⟩
theorem sz_Waters_ice : defScope S_Waters_ice = Z_Waters_ice := rfl
def Z_Waters_thick : Scope := { kind := .function, names := [("self", .local), ("name", .local), ("hour", .local)], isGenerator := false, isCoroutine := false, more := (defScope S_Waters_thick).more }
abbrev N_Waters_thick : List Str := ["self", "name", "hour"]
abbrev P_Waters_thick : List Str := ["self", "name", "hour"]
theorem sc_Waters_thick : FnScope N_Waters_thick P_Waters_thick Z_Waters_thick := ⟨rfl, rfl, rfl, by decide +kernel, rfl, by decide +kernel, by decide +kernel⟩
theorem sz_Waters_thick : defScope S_Waters_thick = Z_Waters_thick := rfl
section
variable {P : Program} {w : World} {K : Frag} {mg : Str → Option Value} {base : Heap}
theorem ok_Waters_ice (T : Txt K mg) : DOk P w K mg base CX0 1 a_Waters_ice P_Waters_ice sp_Waters_ice := by
  refine DOk.mk0 T.f_Waters_ice sc_Waters_ice sz_Waters_ice (fun vs H Q E h => ?_) (fun cdv A outer s H vs Q E hr h => ?_)
  · obtain ⟨a, d, b, cs, c, rfl, _⟩ := h; rfl
  · obtain ⟨a, d, b, cs, c, rfl, ⟨dx, q, D, kvs, ha, hD, pr⟩, nd, hm, k⟩ := h
    have hu := hu_of hr
    refine ⟨_, (pss_cons (ps_if (PW.pt (pw_or (pt_not (pt_val (pe_callB (call_isiK K) (by rfl) T.z_isinstance bt_isinstance (pa_cons (pv 1) (pa_cons (pe_bltn (v := .ty "str") (by rfl) T.z_str bt_str rfl) pa_nil))))) (pw_or1 (pt_cmp (pc_dnotin hu (pv 1) (pe_fldK K (pv 0))) (by rfl))))) (pss_one ps_never) pss_nil)
    (pss_one (ps_ret (pe_dget hu (pe_fldK K (pv 0)) (pv 1) (fun _ _ => rfl))))), ?_⟩
    obtain ⟨i, e, g⟩ := wp_get pr nd hm
    have dg := DGet.k (k := (Sum.inr c.name : Key)) hD
    rw [e] at dg
    refine ⟨_, rfl, _, _, _, _, _, rfl, .ty _, .base (.str _), (rfl : PySem.W.kitOne _ (.type "str") (.type "str") = some true), true, rfl, iteF ?_⟩
    refine ⟨_, rfl, _, rfl, a, _, _, _, _, rfl, ha, T.cl_Waters, T.na_Waters_by_name, rfl, D, _, rfl, dg, _, rfl, iteF ?_⟩
    exact ⟨_, rfl, a, _, _, _, _, rfl, ha, T.cl_Waters, T.na_Waters_by_name, rfl, _, rfl, D, _, rfl, dg, k i g⟩
theorem ok_Waters_thick (T : Txt K mg) (D_Waters_ice : DOk P w K mg base CX0 1 a_Waters_ice P_Waters_ice sp_Waters_ice) (D_Ice_thick : DOk P w K mg base CX0 4 a_Ice_thick P_Ice_thick sp_Ice_thick) :
    DOk P w K mg base CX0 5 a_Waters_thick P_Waters_thick sp_Waters_thick := by
  refine DOk.mk0 T.f_Waters_thick sc_Waters_thick sz_Waters_thick (fun vs H Q E h => ?_) (fun cdv A outer s H vs Q E hr h => ?_)
  · obtain ⟨a, d, b, h, cs, c, kvs, cuts, rfl, _⟩ := h; rfl
  · obtain ⟨a, d, b, h, cs, c, kvs, cuts, rfl, W, nd, hm, O, C, b0, b1, k⟩ := h
    obtain ⟨dx, q, D, kvs', ha, _⟩ := id W
    refine ⟨_, (pss_one (ps_ret (pe_me D_Ice_thick T.cl_Ice T.me_Ice_thick hr (pe_me D_Waters_ice T.cl_Waters T.me_Waters_ice hr (pv 0) (pa_cons (pv 1) pa_nil)) (pa_cons (pv 2) pa_nil)))), ?_⟩
    refine ⟨_, rfl, a, dx, _, rfl, ha, rfl, _, rfl, a, d, b, cs, c, rfl, W, nd, hm, fun i S => ?_⟩
    obtain ⟨dy, r, hi, hq⟩ := id S
    exact ⟨i, dy, _, rfl, hi, rfl, _, rfl, i, d, c, b, h, kvs, cuts, rfl, S, O, C, b0, b1, k⟩
theorem ok_Waters_init (T : Txt K mg) (D_World_channels : DOk P w K mg base CX0 1 a_World_channels P_World_channels sp_channels) (D_World_begin_hour : DOk P w K mg base CX0 1 a_World_begin_hour P_World_begin_hour sp_begin_hour)
    (D_Ice_init : DOk P w K mg base CX0 3 a_Ice_init P_Ice_init sp_Ice_init) : DOk P w K mg base CX0 5 a_Waters_init P_Waters_init sp_Waters_init := by
  refine DOk.mk0 T.f_Waters_init sc_Waters_init sz_Waters_init (fun vs H Q E h => ?_) (fun cdv A outer s H vs Q E hr h => ?_)
  · obtain ⟨p, dx, q, wd, rfl, _⟩ := h; rfl
  · obtain ⟨p, dx, q, wd, rfl, hp, W, O, k⟩ := h
    have hu := hu_of hr
    refine ⟨_, (pss_cons (ps_fld (pv 0) (pv 1) rfl)
    (pss_cons (ps_fld (pv 0) pe_dnewK rfl)
    (pss_one (ps_for PassesOwn.never rfl (pi_list (pe_me0 D_World_channels T.cl_World T.me_World_channels hr (pv 1))) (pg_name (i := 2) sc_Waters_init.nd rfl (Or.inl rfl))
      (pss_one (ps_dput hu (pe_fldK K (pv 0)) (pe_fldK K (pv 2)) (pe_mkc D_Ice_init T.mk_Ice T.g_Ice hr (pa_cons (pv 2) (pa_cons (pe_me0 D_World_begin_hour T.cl_World T.me_World_begin_hour hr (pv 1)) pa_nil))) rfl)))))), ?_⟩
    have np : ∀ {a : Addr} {o : HO}, H a = some o → (∀ fs, o ≠ .ins cWaters dx fs) → a ≠ p := fun e n z => by rw [z, hp] at e; exact n _ (Option.some.inj e).symm
    have chn : ∀ {G : Hp} {v : V} {c : Chan}, But p H G → ChanR H v c → ChanR G v c := fun b ⟨r, e, dy, g⟩ => ⟨r, e, dy, b _ _ g (np g fun fs z => by injection z with z1; exact absurd z1 (by decide))⟩
    have vsn : ∀ {G : Hp} {v : V} {c : Ves}, But p H G → VesR H v c → VesR G v c := fun b ⟨r, e, dy, g⟩ => ⟨r, e, dy, b _ _ g (np g fun fs z => by
      injection z with z1
      unfold Ves.cls at z1
      split at z1 <;> exact absurd z1 (by decide))⟩
    have wdn : ∀ {G : Hp}, But p H G → WorldAt G q wd := fun {G} b => by
      obtain ⟨dw, lp, lc, lb, ls, e, L⟩ := W
      obtain ⟨gp, ⟨xc, gc, pc⟩, ⟨xb, gb, pb⟩, ⟨xs, gs, ps⟩⟩ := L
      have nl : ∀ {a : Addr} {ys : List V}, H a = some (.lst ys) → G a = some (.lst ys) := fun e => b _ _ e (np e fun fs z => by cases z)
      exact ⟨dw, lp, lc, lb, ls, b _ _ e (np e fun fs z => by injection z with z1; exact absurd z1 (by decide)), nl gp, ⟨xc, nl gc, pc.to fun _ _ r => chn b r⟩, ⟨xb, nl gb, pb.to fun _ _ r => vsn b r⟩, ⟨xs, nl gs, ps.to fun _ _ r => vsn b r⟩⟩
    have b0 : But p H (upd H p (.ins cWaters dx (putF "of_world" (.ref q) []))) := .of (Same.refl H) fun b n => upd_ne n
    refine ⟨_, rfl, _, rfl, p, cWaters, dx, _, rfl, hp, T.cl_Waters, T.na_Waters_of_world, szOf rfl, ?_⟩
    intro D hD
    have b1 := b0.new (o := .dK []) hD
    have nD : D ≠ p := (ne_of_none upd_same hD).symm
    have hDH : H D = none := by rw [upd_ne nD] at hD; exact hD
    refine ⟨_, rfl, p, cWaters, dx, _, rfl, same_new hD _ _ upd_same, T.cl_Waters, T.na_Waters_by_name, szOf rfl, ?_⟩
    have b2 := b1.st (o := .ins cWaters dx (watersF q D))
    have gD : upd (upd (upd H p (.ins cWaters dx (putF "of_world" (.ref q) []))) D (.dK [])) p (.ins cWaters dx (watersF q D)) D = some (.dK []) := by rw [upd_ne nD, upd_same]
    obtain ⟨dw, _, _, _, _, e, _⟩ := wdn b2
    refine ⟨_, rfl, q, dw, _, rfl, e, rfl, q, wd, rfl, wdn b2, fun H1 l xs s1 hl gl pc => ?_⟩
    have lc_ := Paired.length pc
    have oc := O.c1
    refine ⟨l, rfl, ⟨_, .of gl⟩, for_list (K := K) (a := l) (xs := xs) (fun i σ H' => ∃ v, σ = [some (.ref p), some (.ref q), v] ∧ But p H H' ∧ H' p = some (.ins cWaters dx (watersF q D)) ∧ H' l = some (.lst xs) ∧ Paired (ChanR H') xs wd.chans ∧
      ∃ cs kvs, H' D = some (.dK kvs) ∧ Paired (WP wd.begin_ H') kvs cs ∧ cs.map (·.1) = wd.chans.take i ∧ (cs.map (·.2)).Nodup ∧ D ∉ cs.map (·.2) ∧ ∀ d ∈ cs.map (·.2), H d = none ∧ H' d = some (.dK []))
      ⟨none, rfl, fun b o e n => s1 _ _ (b2 b o e n), s1 _ _ upd_same, gl, pc, [], [], s1 _ _ gD, .nil, rfl, List.nodup_nil, by simp, by simp⟩ (fun i σ H' _ ⟨_, _, _, _, e, _⟩ => .of e) ?_ ?_⟩
    · rintro i y σ H' hi ⟨v, rfl, bu, ip, gl, pc, cs, kvs, gD, pr, ec, nd, nDc, fr⟩
      obtain ⟨c, hc, r, rfl, hr⟩ := pair_l pc hi
      have hi2 := (List.getElem?_eq_some_iff.mp hi).1
      obtain ⟨dw', _, _, _, _, e', _⟩ := wdn bu
      refine ⟨_, rfl, _, rfl, q, dw', _, rfl, e', rfl, q, wd, rfl, wdn bu, ?_⟩
      intro x dz hx hdz ne
      have sx : Same H' (upd (upd H' dz (.own x)) x (.ins cIce dz [])) := (same_new hdz).atFresh hx
      refine ⟨x, dz, r, c, wd.begin_, rfl, upd_same, hr.mono sx, O.b0, O.b1, fun d H2 hd bu2 ix gd nn => ⟨rfl, ?_⟩⟩
      have s2 : Same H' H2 := fun b o e => bu2 b o (sx b o e) (ne_of_none e hx)
      have bu' : But p H H2 := fun b o e n => s2 _ _ (bu b o e n)
      have hd' : H' d = none := sx.noneAt hd
      have hdH : H d = none := by
        cases e : H d with
        | none => rfl
        | some o =>
          by_cases z : d = p
          · rw [z, ip] at hd'; cases hd'
          · rw [bu d o e z] at hd'; cases hd'
      obtain ⟨dr, hr2⟩ := hr
      refine ⟨_, rfl, p, _, _, _, _, rfl, s2 _ _ ip, T.cl_Waters, T.na_Waters_by_name, rfl, _, rfl, r, _, _, _, _, rfl, s2 _ _ hr2, T.cl_Channel, T.na_Channel_name, rfl, D, _, rfl, DPut.k (k := (Sum.inr c.name : Key)) (s2 _ _ gD) ?_, ?_⟩
      · rw [Paired.length pr, ← List.length_map (f := (·.1)), ec, List.length_take]
        exact small64l (by omega)
      have hnm : c.name ∉ cs.map (·.1.name) := fun z => by
        have e2 : cs.map (·.1.name) = (wd.chans.take i).map (·.name) := by rw [← ec, List.map_map]; rfl
        rw [e2] at z
        obtain ⟨c2, h2, h3⟩ := List.mem_map.mp z
        obtain ⟨j, hj, ej⟩ := List.mem_iff_getElem.mp h2
        rw [List.length_take] at hj
        obtain ⟨hci, ec2⟩ := List.getElem?_eq_some_iff.mp hc
        rw [List.getElem_take] at ej
        refine List.pairwise_iff_getElem.mp O.cd j i (by rw [List.length_map]; omega) (by rw [List.length_map]; exact hci) (by omega) ?_
        rw [List.getElem_map, List.getElem_map, ej, ec2]
        exact h3
      have hvn := wp_none pr hnm
      have nDd : D ≠ d := fun z => by rw [← z] at hd'; rw [gD] at hd'; cases hd'
      refine ⟨_, rfl, fun b o e n => ?_, ?_, ?_, ?_, cs ++ [(c, d)], kvs ++ [(Sum.inr c.name, .ref x)], ?_, ?_, ?_, ?_, ?_, ?_⟩
      · rw [upd_ne fun z => by rw [z, hDH] at e; cases e]
        exact bu' _ _ e n
      · rw [upd_ne nD.symm]; exact s2 _ _ ip
      · rw [upd_ne fun z => by rw [z, gD] at gl; cases gl]; exact s2 _ _ gl
      · refine pc.to fun _ _ ⟨r', er, dy, g⟩ => ⟨r', er, dy, ?_⟩
        rw [upd_ne fun z => by rw [z, gD] at g; cases g]
        exact s2 _ _ g
      · rw [upd_same, putK_new _ hvn]
      · refine Paired.snoc (pr.to fun _ _ q => (q.mono s2).other (s2 _ _ gD) fun _ _ _ z => by cases z) ⟨rfl, x, rfl, ?_⟩
        exact IceS.other ⟨dz, r, ix, dr, s2 _ _ hr2⟩ (s2 _ _ gD) fun _ _ _ z => by cases z
      · rw [List.map_append, ec, take_succ_of hc]; rfl
      · rw [List.map_append, List.nodup_append]
        refine ⟨nd, by simp, ?_⟩
        intro a ha b hb
        simp only [List.map_cons, List.map_nil, List.mem_singleton] at hb
        subst hb
        intro z
        rw [z] at ha
        have := (fr _ ha).2
        rw [hd'] at this
        cases this
      · rw [List.map_append, List.mem_append, not_or]
        exact ⟨nDc, by simp; exact nDd⟩
      · intro d2 h2
        rw [List.map_append, List.mem_append] at h2
        rcases h2 with h2 | h2
        · refine ⟨(fr _ h2).1, ?_⟩
          rw [upd_ne fun z => nDc (by rw [← z]; exact h2)]
          exact s2 _ _ (fr _ h2).2
        · simp only [List.map_cons, List.map_nil, List.mem_singleton] at h2
          subst h2
          refine ⟨hdH, ?_⟩
          rw [upd_ne nDd.symm]
          exact gd
    · rintro σ H' ⟨v, rfl, bu, ip, gl, pc, cs, kvs, gD, pr, ec, nd, nDc, fr⟩
      rw [lc_, List.take_length] at ec
      exact k cs H' bu ⟨dx, q, D, kvs, ip, gD, pr⟩ ec nd fr
end
end Ik


namespace Ik
open PySem PySem.Spec L2
open PySem.W (Frag)
/-! ### tables -/
abbrev Ent := Int × Str
abbrev Tbl := List (Str × List Ent)
def look (tbl : Tbl) (x : Str) : List Ent := match tbl.find? fun p => decide (p.1 = x) with
  | some p => p.2
  | none => []
theorem look_nil (x : Str) : look [] x = [] := rfl
theorem look_cons (p : Str × List Ent) (t : Tbl) (x : Str) : look (p :: t) x = if p.1 = x then p.2 else look t x := by
  unfold look
  rw [List.find?_cons]
  by_cases e : p.1 = x
  · rw [decide_eq_true e, if_pos e]
  · rw [decide_eq_false e, if_neg e]
theorem look_mem {t : Tbl} {x : Str} {e : Ent} (h : e ∈ look t x) : ∃ p ∈ t, p.1 = x ∧ look t x = p.2 := by
  induction t with
  | nil => cases h
  | cons p t ih =>
    rw [look_cons] at h ⊢
    by_cases z : p.1 = x
    · rw [if_pos z]
      exact ⟨p, List.mem_cons_self .., z, rfl⟩
    · rw [if_neg z] at h ⊢
      obtain ⟨q, h1, h2, h3⟩ := ih h
      exact ⟨q, List.mem_cons_of_mem _ h1, h2, h3⟩
def toldL (tbl : Tbl) : List Ves → Tbl
  | [] => []
  | v :: vs => if look tbl v.name = [] then toldL tbl vs else (v.name, look tbl v.name) :: toldL tbl vs
theorem toldL_cons (tbl : Tbl) (v : Ves) (vs : List Ves) : toldL tbl (v :: vs) = if look tbl v.name = [] then toldL tbl vs else (v.name, look tbl v.name) :: toldL tbl vs := rfl
theorem toldL_app (tbl : Tbl) : ∀ a b : List Ves, toldL tbl (a ++ b) = toldL tbl a ++ toldL tbl b
  | [], _ => rfl
  | v :: vs, b => by
    rw [List.cons_append, toldL_cons, toldL_cons, toldL_app tbl vs b]
    by_cases e : look tbl v.name = []
    · rw [if_pos e, if_pos e]
    · rw [if_neg e, if_neg e]; rfl
theorem toldL_keys (tbl : Tbl) : ∀ (vs : List Ves) {p : Str × List Ent}, p ∈ toldL tbl vs → p.1 ∈ vs.map (·.name) ∧ p.2 = look tbl p.1
  | [], _, h => by cases h
  | v :: vs, p, h => by
    unfold toldL at h
    split at h
    · exact ⟨List.mem_cons_of_mem _ (toldL_keys tbl vs h).1, (toldL_keys tbl vs h).2⟩
    · rcases List.mem_cons.mp h with h | h
      · rw [h]; exact ⟨List.mem_cons_self .., rfl⟩
      · exact ⟨List.mem_cons_of_mem _ (toldL_keys tbl vs h).1, (toldL_keys tbl vs h).2⟩
theorem toldL_look (tbl : Tbl) (x : Str) : ∀ vs : List Ves, x ∈ vs.map (·.name) → look (toldL tbl vs) x = look tbl x
  | [], h => by cases h
  | v :: vs, h => by
    unfold toldL
    by_cases hx : x ∈ vs.map (·.name)
    · by_cases e : look tbl v.name = []
      · rw [if_pos e]; exact toldL_look tbl x vs hx
      · rw [if_neg e, look_cons, toldL_look tbl x vs hx]
        by_cases z : v.name = x
        · rw [if_pos z, z]
        · rw [if_neg z]
    · have z : x = v.name := (List.mem_cons.mp h).resolve_right hx
      have nn : look (toldL tbl vs) x = [] := by
        unfold look
        split
        · rename_i p e
          have e1 : decide (p.1 = x) = true := List.find?_some (p := fun p : Str × List Ent => decide (p.1 = x)) e
          exact absurd (by rw [← of_decide_eq_true e1]; exact (toldL_keys tbl vs (List.mem_of_find?_eq_some e)).1) hx
        · rfl
      by_cases e : look tbl v.name = []
      · rw [if_pos e, nn, z, e]
      · rw [if_neg e, look_cons, if_pos z.symm, z]
structure EntsOk (b : Int) (chs : List Str) (es : List Ent) : Prop where
  rise : es.Pairwise (fun x y => x.1 < y.1)
  ok : ∀ e ∈ es, b ≤ e.1 ∧ e.1 ≤ 100000000 ∧ e.2 ∈ chs
  few : es.length ≤ 60
structure TblOk (w : Wd) (tbl : Tbl) : Prop where
  nd : (tbl.map (·.1)).Nodup
  few : tbl.length ≤ 20
  ok : ∀ p ∈ tbl, p.1 ∈ w.ves.map (·.name) ∧ EntsOk w.begin_ (w.chans.map (·.name)) p.2
theorem TblOk.ents {w : Wd} {tbl : Tbl} (O : TblOk w tbl) (x : Str) : EntsOk w.begin_ (w.chans.map (·.name)) (look tbl x) := by
  cases h : look tbl x with
  | nil => exact ⟨List.Pairwise.nil, fun e he => (nomatch he), Nat.zero_le _⟩
  | cons e es =>
    obtain ⟨p, h1, _, h3⟩ := look_mem (t := tbl) (x := x) (e := e) (by rw [h]; exact List.mem_cons_self ..)
    rw [← h, h3]
    exact (O.ok p h1).2
/-! ### on the heap -/
def EntR (H : Hp) (v : V) (e : Ent) : Prop := ∃ t, v = .ref t ∧ H t = some (.tup [.int e.1, .str e.2])
theorem EntR.mono {H H' : Hp} {v : V} {e : Ent} (h : EntR H v e) (s : Same H H') : EntR H' v e := let ⟨t, e1, g⟩ := h; ⟨t, e1, s _ _ g⟩
def EntsAt (H : Hp) (l : Addr) (es : List Ent) : Prop := ∃ xs, H l = some (.lst xs) ∧ Paired (EntR H) xs es
theorem EntsAt.mono {H H' : Hp} {l : Addr} {es : List Ent} (h : EntsAt H l es) (s : Same H H') : EntsAt H' l es := let ⟨xs, g, p⟩ := h; ⟨xs, s _ _ g, p.to fun _ _ q => q.mono s⟩
theorem EntsAt.other {H : Hp} {l F : Addr} {es : List Ent} {o u : HO} (h : EntsAt H l es) (hF : H F = some u) (h1 : ∀ xs, u ≠ .lst xs) (h2 : ∀ xs, u ≠ .tup xs) : EntsAt (upd H F o) l es := by
  obtain ⟨xs, g, p⟩ := h
  refine ⟨xs, ?_, p.to fun _ _ ⟨t, e, q⟩ => ⟨t, e, tup_stays hF h2 q⟩⟩
  rw [upd_ne fun z => by rw [z, hF] at g; exact h1 _ (Option.some.inj g)]
  exact g
def TP (H : Hp) (kv : Key × V) (p : Str × List Ent) : Prop := kv.1 = .inr p.1 ∧ ∃ l, kv.2 = .ref l ∧ EntsAt H l p.2
theorem TP.mono {H H' : Hp} {kv : Key × V} {p : Str × List Ent} (h : TP H kv p) (s : Same H H') : TP H' kv p := let ⟨e, l, e2, g⟩ := h; ⟨e, l, e2, g.mono s⟩
def TableAt (H : Hp) (t : Addr) (tbl : Tbl) : Prop := ∃ kvs, H t = some (.dK kvs) ∧ Paired (TP H) kvs tbl
theorem TableAt.mono {H H' : Hp} {t : Addr} {tbl : Tbl} (h : TableAt H t tbl) (s : Same H H') : TableAt H' t tbl := let ⟨kvs, g, p⟩ := h; ⟨kvs, s _ _ g, p.to fun _ _ q => q.mono s⟩
theorem tb_get {H : Hp} (x : Str) : ∀ {kvs : List (Key × V)} {tbl : Tbl}, Paired (TP H) kvs tbl → (valV kvs (Sum.inr x : Key) = none ∧ look tbl x = []) ∨ ∃ l, valV kvs (Sum.inr x : Key) = some (.ref l) ∧ EntsAt H l (look tbl x)
  | _, _, .nil => .inl ⟨rfl, rfl⟩
  | _, _, .cons (a := kv) (b := p) hp ht => by
    obtain ⟨e1, l, e2, g⟩ := hp
    by_cases e : p.1 = x
    · exact .inr ⟨l, by rw [valV_pos (by rw [e1, e]), e2], by rw [look_cons, if_pos e]; exact g⟩
    · rw [valV_neg (by rw [e1]; exact fun z => e (Sum.inr.inj z)), look_cons, if_neg e]
      exact tb_get x ht
/-! ### promises -/
def sp_is_entry : Sp := fun vs H Q _ => ∃ (t c : Addr) (b : Int) (chs : List Str) (e : Ent), vs = [.int b, .ref c, .ref t] ∧ H t = some (.tup [.int e.1, .str e.2]) ∧ H c = some (.lst (chs.map V.str)) ∧ b ≤ e.1 ∧ e.1 ≤ 100000000 ∧ e.2 ∈ chs ∧ Q (.bl true) H
def sp_are_entries : Sp := fun vs H Q _ => ∃ (l c : Addr) (b : Int) (chs : List Str) (es : List Ent), vs = [.int b, .ref c, .ref l] ∧ EntsAt H l es ∧ H c = some (.lst (chs.map V.str)) ∧ EntsOk b chs es ∧ ∀ H', Same H H' → Q (.bl true) H'
def sp_is_table : Sp := fun vs H Q _ => ∃ (a t : Addr) (wd : Wd) (tbl : Tbl), vs = [.ref a, .ref t] ∧ WorldAt H a wd ∧ wd.Ok ∧ TableAt H t tbl ∧ TblOk wd tbl ∧ ∀ H', Same H H' → Q (.bl true) H'
def sp_table_told : Sp := fun vs H Q _ => ∃ (a t : Addr) (wd : Wd) (tbl : Tbl), vs = [.ref a, .ref t] ∧ WorldAt H a wd ∧ wd.Ok ∧ TableAt H t tbl ∧ TblOk wd tbl ∧ ∀ H' f, Same H H' → TableAt H' f (toldL tbl wd.ves) → Q (.ref f) H'
def Z_is_entry : Scope := { kind := .function, names := [("begin", .local), ("channels", .local), ("thing", .local), ("isinstance", .globalImplicit), ("tuple", .globalImplicit), ("len", .globalImplicit), ("is_within", .globalImplicit), ("LAST_HOUR_tables", .globalImplicit), ("str", .globalImplicit)], isGenerator := false, isCoroutine := false, more := (defScope S_is_entry).more }
abbrev N_is_entry : List Str := ["begin", "channels", "thing"]
abbrev P_is_entry : List Str := ["begin", "channels", "thing"]
theorem sc_is_entry : FnScope N_is_entry P_is_entry Z_is_entry := ⟨rfl, rfl, rfl, by decide +kernel, rfl, by decide +kernel, by decide +kernel⟩
theorem sz_is_entry : defScope S_is_entry = Z_is_entry := rfl
def Z_are_entries : Scope := { kind := .function, names := [("begin", .local), ("channels", .local), ("thing", .local), ("ahead", .local), ("entry", .local), ("isinstance", .globalImplicit), ("list", .globalImplicit), ("tuple", .globalImplicit), ("is_entry", .globalImplicit)], isGenerator := false, isCoroutine := false, more := (defScope S_are_entries).more }
abbrev N_are_entries : List Str := ["begin", "channels", "thing", "ahead", "entry"]
abbrev P_are_entries : List Str := ["begin", "channels", "thing"]
theorem sc_are_entries : FnScope N_are_entries P_are_entries Z_are_entries := ⟨rfl, rfl, rfl, by decide +kernel, rfl, by decide +kernel, by decide +kernel⟩
theorem sz_are_entries : defScope S_are_entries = Z_are_entries := rfl
def Z_is_table : Scope := { kind := .function, names := [("world", .local), ("thing", .local), ("names", .local), ("channels", .local), ("name", .local), ("entries", .local), ("isinstance", .globalImplicit), ("dict", .globalImplicit), ("str", .globalImplicit), ("are_entries", .globalImplicit)], isGenerator := false, isCoroutine := false, more := (defScope S_is_table).more }
abbrev N_is_table : List Str := ["world", "thing", "names", "channels", "name", "entries", "vessel", "channel"]
abbrev P_is_table : List Str := ["world", "thing"]
theorem sc_is_table : FnScope N_is_table P_is_table Z_is_table := ⟨rfl, rfl, rfl, by decide +kernel, rfl, by decide +kernel, by decide +kernel⟩
theorem sz_is_table : defScope S_is_table = Z_is_table := rfl
def Z_table_told : Scope := { kind := .function, names := [("world", .local), ("table", .local), ("found", .local), ("vessel", .local), ("entries", .local), ("is_table", .globalImplicit), ("NoTable", .globalImplicit), ("list", .globalImplicit)], isGenerator := false, isCoroutine := false, more := (defScope S_table_told).more }
abbrev N_table_told : List Str := ["world", "table", "found", "vessel", "entries"]
abbrev P_table_told : List Str := ["world", "table"]
theorem sc_table_told : FnScope N_table_told P_table_told Z_table_told := ⟨rfl, rfl, rfl, by decide +kernel, rfl, by decide +kernel, by decide +kernel⟩
theorem sz_table_told : defScope S_table_told = Z_table_told := rfl
section
variable {P : Program} {w : World} {K : Frag} {mg : Str → Option Value} {base : Heap}
theorem ok_is_entry (T : Txt K mg) (D_is_within : DOk P w K mg base CX0 2 a_is_within P_is_within sp_is_within) : DOk P w K mg base CX0 3 a_is_entry P_is_entry sp_is_entry := by
  refine DOk.mk0 T.f_is_entry sc_is_entry sz_is_entry (fun vs H Q E h => ?_) (fun cdv A outer s H vs Q E hr h => ?_)
  · obtain ⟨t, c, b, chs, e, rfl, _⟩ := h; rfl
  · obtain ⟨t, c, b, chs, e, rfl, ht, hc, b0, b1, hm, k⟩ := h
    refine ⟨_, (pss_cons (ps_if (PW.pt (pw_or (pt_not (pt_val (pe_callB (call_isiK K) (by rfl) T.z_isinstance bt_isinstance (pa_cons (pv 2) (pa_cons (pe_bltn (v := .ty "tuple") (by rfl) T.z_tuple bt_tuple rfl) pa_nil))))) (pw_or1 (pt_cmpR op_ne (pe_callB (call_lenK K) (by rfl) T.z_len bt_len (pa_cons (pv 2) pa_nil)) pe_int (nomark _))))) (pss_one (ps_ret pe_bl)) pss_nil)
    (pss_one (ps_ret (pe_and (pe_fn D_is_within T.g_is_within hr (pa_cons (pe_ix (ix_tupK K) (pv 2) pe_int (fun _ _ => rfl)) (pa_cons (pv 0) (pa_cons (pe_num T.i_LAST_HOUR_tables) pa_nil)))) (pe_and (pe_callB (call_isiK K) (by rfl) T.z_isinstance bt_isinstance (pa_cons (pe_ix (ix_tupK K) (pv 2) pe_int (fun _ _ => rfl)) (pa_cons (pe_bltn (v := .ty "str") (by rfl) T.z_str bt_str rfl) pa_nil))) (pe_one (pe_cmpR (op_inK K) (pe_ix (ix_tupK K) (pv 2) pe_int (fun _ _ => rfl)) (pv 1) (by rfl)))))))), ?_⟩
    refine ⟨_, rfl, _, _, _, _, _, rfl, .ty _, .base (.tup ht), (rfl : PySem.W.kitOne _ (.type "tuple") (.type "tuple") = some true), true, rfl, iteF ?_⟩
    refine ⟨_, rfl, _, 2, rfl, .inr ⟨_, .of ht, rfl⟩, rfl, _, rfl, ifF (decNT rfl) ?_⟩
    refine ⟨_, rfl, t, _, _, _, rfl, rfl, .of ht, rfl, _, rfl, _, _, _, rfl, b0, b1, true, rfl, iteT ?_⟩
    refine ⟨_, rfl, t, _, _, _, rfl, rfl, .of ht, rfl, _, _, _, _, _, rfl, .ty _, .base (.str _), (rfl : PySem.W.kitOne _ (.type "str") (.type "str") = some true), true, rfl, iteT ?_⟩
    refine ⟨_, rfl, t, _, _, _, rfl, rfl, .of ht, rfl, _, rfl, c, _, rfl, .inl (.of hc), rfl, all_flat_str chs, ?_⟩
    show Q (.bl (inV (V.str e.2) (chs.map V.str))) H
    rw [in_strs hm]
    exact k
theorem ok_are_entries (T : Txt K mg) (D_is_entry : DOk P w K mg base CX0 3 a_is_entry P_is_entry sp_is_entry) : DOk P w K mg base CX0 4 a_are_entries P_are_entries sp_are_entries := by
  refine DOk.mk0 T.f_are_entries sc_are_entries sz_are_entries (fun vs H Q E h => ?_) (fun cdv A outer s H vs Q E hr h => ?_)
  · obtain ⟨l, c, b, chs, es, rfl, _⟩ := h; rfl
  · obtain ⟨l, c, b, chs, es, rfl, ⟨xs, hl, pr⟩, hc, O, k⟩ := h
    refine ⟨_, (pss_cons (ps_if (pt_not (pt_val (pe_callB (call_isiTK K) (by rfl) T.z_isinstance bt_isinstance (pa_cons (pv 2) (pa_cons (pe_tup (pa_cons (pe_bltn (v := .ty "list") (by rfl) T.z_list bt_list rfl) (pa_cons (pe_bltn (v := .ty "tuple") (by rfl) T.z_tuple bt_tuple rfl) pa_nil))) pa_nil))))) (pss_one (ps_ret pe_bl)) pss_nil)
    (pss_cons (ps_set (i := 3) sc_are_entries.nd rfl (Or.inl rfl) (pe_op op_sub (pv 0) pe_int))
    (pss_cons (ps_for PassesOwn.never rfl (pi_list (pv 2)) (pg_name (i := 4) sc_are_entries.nd rfl (Or.inl rfl))
      (pss_cons (ps_if (PW.pt (pw_or (pt_not (pt_val (pe_fn D_is_entry T.g_is_entry hr (pa_cons (pv 0) (pa_cons (pv 1) (pa_cons (pv 4) pa_nil)))))) (pw_or1 (pt_cmpR op_le (pe_ix (ix_tupK K) (pv 4) pe_int (fun _ _ => rfl)) (pv 3) (nomark _))))) (pss_one (ps_ret pe_bl)) pss_nil)
    (pss_one (ps_set (i := 3) sc_are_entries.nd rfl (Or.inl rfl) (pe_ix (ix_tupK K) (pv 4) pe_int (fun _ _ => rfl))))))
    (pss_one (ps_ret pe_bl))))), ?_⟩
    refine ⟨_, rfl, szOf rfl, fun t ht => ?_⟩
    have s1 := same_new (o := .tup [.ty "list", .ty "tuple"]) ht
    refine ⟨_, t, _, _, _, true, rfl, upd_same, .cons (.ty _) (.cons (.ty _) .nil), .base (.lst (s1 _ _ hl)), kit_li _, true, rfl, iteF ?_⟩
    refine ⟨_, rfl, _, _, rfl, rfl, ?_⟩
    refine ⟨_, rfl, l, rfl, ⟨_, .of (s1 _ _ hl)⟩, for_list (K := K) (a := l) (xs := xs) (fun i σ H' => ∃ v z, σ = [some (.int b), some (.ref c), some (.ref l), some (.int z), v] ∧ Same H H' ∧ ∀ e ∈ es.drop i, z < e.1) ⟨none, b - 1, rfl, s1, fun e he => ?_⟩ (fun i σ H' _ ⟨_, _, _, s, _⟩ => .of (s _ _ hl)) ?_ ?_⟩
    · have := (O.ok e (List.mem_of_mem_drop he)).1
      omega
    · rintro i y σ H' hi ⟨v, z, rfl, s2, hz⟩
      obtain ⟨e, he, u, rfl, hu⟩ := pair_l pr hi
      obtain ⟨hi2, ee⟩ := List.getElem?_eq_some_iff.mp he
      have hm := List.mem_of_getElem? he
      have o := O.ok e hm
      have hd := List.drop_eq_getElem_cons hi2
      rw [ee] at hd
      have hlt : z < e.1 := hz e (by rw [hd]; exact List.mem_cons_self ..)
      refine ⟨_, rfl, _, rfl, _, rfl, u, c, b, chs, e, rfl, s2 _ _ hu, s2 _ _ hc, o.1, o.2.1, o.2.2, true, rfl, iteF ?_⟩
      refine ⟨_, rfl, u, _, _, _, rfl, rfl, .of (s2 _ _ hu), rfl, _, rfl, _, _, rfl, rfl, _, rfl, ifF (decF (by omega)) ?_⟩
      refine ⟨_, rfl, u, _, _, _, rfl, rfl, .of (s2 _ _ hu), rfl, _, _, rfl, s2, fun e2 h2 => ?_⟩
      obtain ⟨j, hj, ej⟩ := List.mem_iff_getElem.mp h2
      rw [List.getElem_drop] at ej
      rw [List.length_drop] at hj
      have := List.pairwise_iff_getElem.mp O.rise i (i + 1 + j) hi2 (by omega) (by omega)
      rw [ee, ej] at this
      exact this
    · rintro σ H' ⟨v, z, rfl, s2, _⟩
      exact k H' s2
theorem ok_is_table (T : Txt K mg) (D_World_vessels : DOk P w K mg base CX0 1 a_World_vessels P_World_vessels sp_vessels) (D_World_channels : DOk P w K mg base CX0 1 a_World_channels P_World_channels sp_channels)
    (D_World_begin_hour : DOk P w K mg base CX0 1 a_World_begin_hour P_World_begin_hour sp_begin_hour) (D_are_entries : DOk P w K mg base CX0 4 a_are_entries P_are_entries sp_are_entries) : DOk P w K mg base CX0 5 a_is_table P_is_table sp_is_table := by
  refine DOk.mk0 T.f_is_table sc_is_table sz_is_table (fun vs H Q E h => ?_) (fun cdv A outer s H vs Q E hr h => ?_)
  · obtain ⟨a, t, wd, tbl, rfl, _⟩ := h; rfl
  · obtain ⟨a, t, wd, tbl, rfl, W, O, ⟨kvs, ht, pr⟩, TO, k⟩ := h
    obtain ⟨dx, lp, lc, lb, ls, ha, L⟩ := id W
    refine ⟨_, (pss_cons (ps_if (pt_not (pt_val (pe_callB (call_isiK K) (by rfl) T.z_isinstance bt_isinstance (pa_cons (pv 1) (pa_cons (pe_bltn (v := .ty "dict") (by rfl) T.z_dict bt_dict rfl) pa_nil))))) (pss_one (ps_ret pe_bl)) pss_nil)
    (pss_cons (ps_setLc (i := 2) (own := [("vessel", 6)]) (g := (gName 6)) rfl sc_is_table.nd rfl rfl (sw_true rfl rfl rfl (by decide +kernel)) (pi_list (pe_me0 D_World_vessels T.cl_World T.me_World_vessels hr (pv 0))) (blkOk_by (own := [("vessel", 6)]) (N := N_is_table) (sc := Z_is_table) (by decide +kernel)) (fun _ _ _ _ _ => (pg_name (i := 6) sc_is_table.nd rfl (Or.inl rfl))) (fun _ _ _ _ _ => pts_nil) (fun _ _ _ _ _ => (pe_fldK K (pv 6))))
    (pss_cons (ps_setLc (i := 3) (own := [("channel", 7)]) (g := (gName 7)) rfl sc_is_table.nd rfl rfl (sw_true rfl rfl rfl (by decide +kernel)) (pi_list (pe_me0 D_World_channels T.cl_World T.me_World_channels hr (pv 0))) (blkOk_by (own := [("channel", 7)]) (N := N_is_table) (sc := Z_is_table) (by decide +kernel)) (fun _ _ _ _ _ => (pg_name (i := 7) sc_is_table.nd rfl (Or.inl rfl))) (fun _ _ _ _ _ => pts_nil) (fun _ _ _ _ _ => (pe_fldK K (pv 7))))
    (pss_cons (ps_lock (ps_for PassesOwn.never rfl (pi_items (pv 1)) (pg_tup rfl (pgs_cons (pg_name (i := 4) sc_is_table.nd rfl (Or.inl rfl)) (pgs_cons (pg_name (i := 5) sc_is_table.nd rfl (Or.inl rfl)) pgs_nil)))
      (pss_cons (ps_if (PW.pt (pw_or (pt_not (pt_val (pe_callB (call_isiK K) (by rfl) T.z_isinstance bt_isinstance (pa_cons (pv 4) (pa_cons (pe_bltn (v := .ty "str") (by rfl) T.z_str bt_str rfl) pa_nil))))) (pw_or1 (pt_cmpR (op_notInK K) (pv 4) (pv 2) (by rfl))))) (pss_one (ps_ret pe_bl)) pss_nil)
    (pss_one (ps_if (pt_not (pt_val (pe_fn D_are_entries T.g_are_entries hr (pa_cons (pe_me0 D_World_begin_hour T.cl_World T.me_World_begin_hour hr (pv 0)) (pa_cons (pv 3) (pa_cons (pv 5) pa_nil)))))) (pss_one (ps_ret pe_bl)) pss_nil)))))
    (pss_one (ps_ret pe_bl)))))), ?_⟩
    refine ⟨_, rfl, _, _, _, _, _, rfl, .ty _, .base (.dK ht), (rfl : PySem.W.kitOne _ (.type "dict") (.type "dict") = some true), true, rfl, iteF ?_⟩
    -- names
    refine ⟨_, rfl, a, dx, _, rfl, ha, rfl, a, wd, rfl, W, O, fun H1 l1 x1 s1 _ g1 p1 => ?_⟩
    have vl := O.vl
    have pl1 := Paired.length p1
    refine ⟨l1, rfl, ⟨_, .of g1⟩, fun D1 hD1 => lc_mapV (K := K) (ys := (wd.ves.map (·.name)).map V.str) g1 hD1 (by omega) (by simp; omega) ?_ gName_m fun H2 s2 gD1 => ?_⟩
    · intro i x y H' h1 h2 s' Q' q
      obtain ⟨c, hc, r, rfl, dy, hr⟩ := pair_l p1 h1
      obtain ⟨z, hz, rfl⟩ := map_at h2
      obtain ⟨c', hc', rfl⟩ := map_at hz
      rw [hc] at hc'; cases hc'
      exact ⟨rfl, _, rfl, r, _, _, _, _, rfl, s' _ _ hr, Ves.cl T, Ves.na_name T, c.l_name, q H' (Same.refl _)⟩
    have s2 := s1.trans s2
    -- channels
    refine ⟨_, rfl, a, dx, _, rfl, s2 _ _ ha, rfl, a, wd, rfl, W.mono s2, fun H3 l3 x3 s3 _ g3 p3 => ?_⟩
    have cl := O.c1
    have pl3 := Paired.length p3
    refine ⟨l3, rfl, ⟨_, .of g3⟩, fun D3 hD3 => lc_mapV (K := K) (ys := (wd.chans.map (·.name)).map V.str) g3 hD3 (by omega) (by simp; omega) ?_ gName_m fun H4 s4 gD3 => ?_⟩
    · intro i x y H' h1 h2 s' Q' q
      obtain ⟨c, hc, r, rfl, dy, hr⟩ := pair_l p3 h1
      obtain ⟨z, hz, rfl⟩ := map_at h2
      obtain ⟨c', hc', rfl⟩ := map_at hz
      rw [hc] at hc'; cases hc'
      exact ⟨rfl, _, rfl, r, _, _, _, _, rfl, s' _ _ hr, T.cl_Channel, T.na_Channel_name, rfl, q H' (Same.refl _)⟩
    have gD1 := (s3.trans s4) _ _ gD1
    have s4 := s2.trans (s3.trans s4)
    -- the table, locked
    have ht4 := s4 _ _ ht
    refine ⟨t, .dK kvs, ht4, trivial, fun od => ?_⟩
    have oth : ∀ {b : Addr} {o : HO}, H4 b = some o → (∀ kk, o ≠ .dK kk) → upd H4 t (.frz od (.dK kvs)) b = some o := fun {b o} e n => by
      rw [upd_ne fun z => by rw [z, ht4] at e; exact n _ (Option.some.inj e).symm]; exact e
    have W5 : WorldAt (upd H4 t (.frz od (.dK kvs))) a wd := by
      obtain ⟨gp, ⟨xc, gc, pc⟩, ⟨xb, gb, pb⟩, ⟨xs, gs, ps⟩⟩ := L
      have nl : ∀ {a : Addr} {ys : List V}, H a = some (.lst ys) → upd H4 t (.frz od (.dK kvs)) a = some (.lst ys) := fun e => oth (s4 _ _ e) fun _ z => by cases z
      have ni : ∀ {a C dx : Addr} {fs : List (Str × V)}, H a = some (.ins C dx fs) → upd H4 t (.frz od (.dK kvs)) a = some (.ins C dx fs) := fun e => oth (s4 _ _ e) fun _ z => by cases z
      exact ⟨dx, lp, lc, lb, ls, ni ha, nl gp, ⟨xc, nl gc, pc.to fun _ _ ⟨r, e, dy, q⟩ => ⟨r, e, dy, ni q⟩⟩, ⟨xb, nl gb, pb.to fun _ _ ⟨r, e, dy, q⟩ => ⟨r, e, dy, ni q⟩⟩, ⟨xs, nl gs, ps.to fun _ _ ⟨r, e, dy, q⟩ => ⟨r, e, dy, ni q⟩⟩⟩
    have ht5 : upd H4 t (.frz od (.dK kvs)) t = some (.frz od (.dK kvs)) := upd_same
    have fin : ∀ {H'}, Same (upd H4 t (.frz od (.dK kvs))) H' → H' t = some (.frz od (.dK kvs)) ∧ Same H (upd H' t (.dK kvs)) := fun {H'} sH => by
      refine ⟨sH _ _ ht5, fun b o e => ?_⟩
      by_cases z : b = t
      · rw [z, upd_same, ← ht, z.symm, e]
      · rw [upd_ne z]
        exact sH _ _ (by rw [upd_ne z]; exact s4 _ _ e)
    have lk := Paired.length pr
    refine ⟨_, rfl, t, od, kvs, rfl, upd_same, for_it (n := kvs.length) (fun i σ H' => ∃ u v, σ = [some (.ref a), some (.ref t), some (.ref D1), some (.ref D3), u, v, none, none] ∧ Same (upd H4 t (.frz od (.dK kvs))) H') ⟨none, none, rfl, Same.refl _⟩ ?_ ?_⟩
    · rintro σ H' ⟨u, v, rfl, s5⟩
      have f := fin s5
      exact ⟨⟨f.1, Nat.le_refl _⟩, f.1, k _ f.2⟩
    · rintro i σ H' hi ⟨u, v, rfl, s5⟩
      refine ⟨⟨s5 _ _ ht5, hi⟩, ?_⟩
      rintro y H6 ⟨X, key, val, hk, rfl, hX, rfl⟩
      obtain ⟨p, hp, e1, l, e2, ea⟩ := pair_l pr hk
      obtain rfl : key = .inr p.1 := e1
      obtain rfl : val = .ref l := e2
      have po := TO.ok p (List.mem_of_getElem? hp)
      have s6 := s5.atNew (o := .tup [kV (.inr p.1), .ref l]) hX
      refine ⟨X, _, rfl, .of upd_same, rfl, _, _, rfl, _, _, rfl, rfl, ?_⟩
      refine ⟨_, rfl, _, _, _, _, _, rfl, .ty _, .base (.str p.1), (rfl : PySem.W.kitOne _ (.type "str") (.type "str") = some true), true, rfl, iteF ?_⟩
      refine ⟨_, rfl, _, rfl, D1, _, rfl, .inl (.of (s6 _ _ (oth gD1 fun _ z => by cases z))), rfl, all_flat_str _, _, rfl, ifF ?_ ?_⟩
      · show (!inV (V.str p.1) ((wd.ves.map (·.name)).map V.str)) = false
        rw [in_strs po.1]; rfl
      obtain ⟨dw, _, _, _, _, gw, _⟩ := W5.mono s6
      refine ⟨_, rfl, a, dw, _, rfl, gw, rfl, a, wd, rfl, W5.mono s6, _, rfl, _, rfl, l, D3, wd.begin_, _, p.2, rfl, ?_, s6 _ _ (oth gD3 fun _ z => by cases z), po.2, fun H7 s7 => ⟨true, rfl, iteF ?_⟩⟩
      · exact (EntsAt.other (ea.mono s4) ht4 (fun _ z => by cases z) fun _ z => by cases z).mono s6
      · exact ⟨_, _, rfl, s6.trans s7⟩
theorem ok_table_told (T : Txt K mg) (D_World_vessels : DOk P w K mg base CX0 1 a_World_vessels P_World_vessels sp_vessels) (D_is_table : DOk P w K mg base CX0 5 a_is_table P_is_table sp_is_table) : DOk P w K mg base CX0 6 a_table_told P_table_told sp_table_told := by
  refine DOk.mk0 T.f_table_told sc_table_told sz_table_told (fun vs H Q E h => ?_) (fun cdv A outer s H vs Q E hr h => ?_)
  · obtain ⟨a, t, wd, tbl, rfl, _⟩ := h; rfl
  · obtain ⟨a, t, wd, tbl, rfl, W, O, TA, TO, k⟩ := h
    have hu := hu_of hr
    refine ⟨_, (pss_cons (ps_if (pt_not (pt_val (pe_fn D_is_table T.g_is_table hr (pa_cons (pv 0) (pa_cons (pv 1) pa_nil))))) (pss_one ps_never) pss_nil)
    (pss_cons (ps_set (i := 2) sc_table_told.nd rfl (Or.inl rfl) pe_dnewK)
    (pss_cons (ps_for PassesOwn.never rfl (pi_list (pe_me0 D_World_vessels T.cl_World T.me_World_vessels hr (pv 0))) (pg_name (i := 3) sc_table_told.nd rfl (Or.inl rfl))
      (pss_cons (ps_set (i := 4) sc_table_told.nd rfl (Or.inl rfl) (pe_callTy (call_listK K) (by rfl) T.z_list bt_list (pa_cons (pe_dget2 hu (pv 1) (pe_fldK K (pv 3)) (pe_tup pa_nil) ⟨rfl, rfl, rfl, rfl⟩) pa_nil)))
    (pss_one (ps_if (pt_cmpR (op_neNilK K hr) (pv 4) (pe_lst pa_nil) (nomark _)) (pss_one (ps_dput hu (pv 2) (pe_fldK K (pv 3)) (pv 4) rfl)) pss_nil))))
    (pss_one (ps_ret (pv 2)))))), ?_⟩
    refine ⟨_, rfl, _, rfl, a, t, wd, tbl, rfl, W, O, TA, TO, fun H1 s1 => ⟨true, rfl, iteF ?_⟩⟩
    intro f hf
    have s2 := s1.atNew (o := .dK []) hf
    obtain ⟨dx, lp, lc, lb, ls, ha, L⟩ := W.mono s2
    refine ⟨_, rfl, a, dx, _, rfl, ha, rfl, a, wd, rfl, W.mono s2, O, fun H3 l xs s3 hl gl pv => ?_⟩
    have vl := O.vl
    have pl := Paired.length pv
    have fH : H f = none := s1.noneAt hf
    have s3' := s2.trans s3
    have gf3 := s3 _ _ (upd_same (H := H1) (a := f) (o := .dK []))
    refine ⟨l, rfl, ⟨_, .of gl⟩, for_list (K := K) (a := l) (xs := xs) (fun i σ H' => ∃ u v, σ = [some (.ref a), some (.ref t), some (.ref f), u, v] ∧ Same H H' ∧ H' l = some (.lst xs) ∧ Paired (VesR H') xs wd.ves ∧
      ∃ kvs, H' f = some (.dK kvs) ∧ Paired (TP H') kvs (toldL tbl (wd.ves.take i))) ⟨none, none, rfl, s3', gl, pv, [], gf3, .nil⟩ (fun i σ H' _ ⟨_, _, _, _, e, _⟩ => .of e) ?_ ?_⟩
    · rintro i y σ H' hi ⟨u, v, rfl, s4, gl, pv, kvs, gf, pr⟩
      obtain ⟨x, hx, r, rfl, dy, hr'⟩ := pair_l pv hi
      have hi2 := (List.getElem?_eq_some_iff.mp hx).1
      obtain ⟨kv2, gt, pt⟩ := TA.mono s4
      have nft : t ≠ f := fun z => by rw [z] at TA; obtain ⟨_, g, _⟩ := TA; rw [fH] at g; cases g
      have hnm : x.name ∉ (wd.ves.take i).map (·.name) := fun z => by
        obtain ⟨c2, h2, h3⟩ := List.mem_map.mp z
        obtain ⟨j, hj, ej⟩ := List.mem_iff_getElem.mp h2
        rw [List.length_take] at hj
        obtain ⟨hci, ec2⟩ := List.getElem?_eq_some_iff.mp hx
        rw [List.getElem_take] at ej
        refine List.pairwise_iff_getElem.mp O.vd j i (by rw [List.length_map]; omega) (by rw [List.length_map]; exact hci) (by omega) ?_
        rw [List.getElem_map, List.getElem_map, ej, ec2]
        exact h3
      have hvn : valV kvs (Sum.inr x.name : Key) = none := by
        rcases tb_get x.name pr with ⟨g, _⟩ | ⟨l', g, _⟩
        · exact g
        · exfalso
          have hin : x.name ∈ (toldL tbl (wd.ves.take i)).map (·.1) := by
            have hs : (kvs.find? fun kv => decide (kv.1 = (Sum.inr x.name : Key))).isSome = true := by
              unfold valV at g
              cases q : kvs.find? fun kv => decide (kv.1 = (Sum.inr x.name : Key)) with
              | none => rw [q] at g; cases g
              | some _ => rfl
            obtain ⟨kv, h1, h2⟩ := List.find?_isSome.mp hs
            obtain ⟨j, hj, ej⟩ := List.mem_iff_getElem.mp h1
            obtain ⟨p, h3, h4⟩ := pair_l pr (i := j) (x := kv) (by rw [List.getElem?_eq_getElem hj, ej])
            have e5 : (Sum.inr p.1 : Key) = Sum.inr x.name := h4.1.symm.trans (of_decide_eq_true h2)
            exact List.mem_map.mpr ⟨p, List.mem_of_getElem? h3, Sum.inr.inj e5⟩
          obtain ⟨p, h1, h2⟩ := List.mem_map.mp hin
          exact hnm (by rw [← h2]; exact (toldL_keys tbl _ h1).1)
      have step : ∀ {H5 : Hp} {l5 : Addr}, Same H' H5 → H5 l5 = none → EntsAt (upd H5 l5 (.lst [])) l5 (look tbl x.name) → True := fun _ _ _ => trivial
      -- entries = list(table.get(vessel.name, ()))
      refine ⟨_, rfl, t, rfl, .inl ⟨_, .inl gt⟩, _, rfl, r, _, _, _, _, rfl, hr', Ves.cl T, Ves.na_name T, x.l_name, szOf rfl, fun z hz => ?_⟩
      have s5 := same_new (o := .tup []) hz
      refine ⟨_, DGet.k (k := (Sum.inr x.name : Key)) (s5 _ _ gt), ?_⟩
      obtain ⟨q, ys, hq, hg, he⟩ : ∃ q ys, (valV kv2 (Sum.inr x.name : Key)).getD (.ref z) = .ref q ∧ (SqL K (upd H' z (.tup [])) q ys ∨ SqT K (upd H' z (.tup [])) q ys) ∧ Paired (EntR (upd H' z (.tup []))) ys (look tbl x.name) := by
        rcases tb_get x.name pt with ⟨g1, g2⟩ | ⟨q, g1, ys, g2, g3⟩
        · rw [g1, g2]
          exact ⟨z, [], rfl, .inr (.of upd_same), .nil⟩
        · rw [g1]
          exact ⟨q, ys, rfl, .inl (.of (s5 _ _ g2)), g3.to fun _ _ r => r.mono s5⟩
      refine ⟨q, ys, by rw [← hq], hg, fun l5 hl5 => ?_⟩
      have s6 := s5.trans (same_new (o := .lst ys) hl5)
      have E6 : EntsAt (upd (upd H' z (.tup [])) l5 (.lst ys)) l5 (look tbl x.name) := ⟨ys, upd_same, he.to fun _ _ r => r.mono (same_new hl5)⟩
      refine ⟨_, rfl, szOf rfl, fun n hn => ?_⟩
      have s7 := s6.trans (same_new (o := .lst []) hn)
      refine ⟨l5, n, ys, rfl, rfl, .of (same_new hn _ _ upd_same), .of upd_same, _, rfl, ?_⟩
      have E7 := E6.mono (same_new (o := .lst []) hn)
      cases hy : look tbl x.name with
      | nil =>
        have : ys = [] := by
          rw [hy] at he
          cases he
          rfl
        subst this
        refine iteF ?_
        refine ⟨_, _, rfl, s4.trans s7, s7 _ _ gl, pv.to fun _ _ r => r.mono s7, kvs, s7 _ _ gf, ?_⟩
        rw [take_succ_of hx, toldL_app]
        have e0 : toldL tbl [x] = [] := by unfold toldL; rw [if_pos hy]; rfl
        rw [e0, List.append_nil]
        exact pr.to fun _ _ r => r.mono s7
      | cons e es =>
        have hne : ys ≠ [] := fun z => by
          rw [hy, z] at he
          cases he
        refine ifT (by cases ys with | nil => exact absurd rfl hne | cons _ _ => rfl) ?_
        refine ⟨_, rfl, _, rfl, _, rfl, r, _, _, _, _, rfl, s7 _ _ hr', Ves.cl T, Ves.na_name T, x.l_name, f, _, rfl, DPut.k (k := (Sum.inr x.name : Key)) (s7 _ _ gf) ?_, ?_⟩
        · rw [Paired.length pr]
          have : (toldL tbl (wd.ves.take i)).length ≤ (wd.ves.take i).length := by
            generalize wd.ves.take i = m
            induction m with
            | nil => exact Nat.le_refl _
            | cons v m ih =>
              unfold toldL
              split
              · exact Nat.le_trans ih (Nat.le_succ _)
              · exact Nat.succ_le_succ ih
          rw [List.length_take] at this
          exact small64l (by omega)
        have gf7 := s7 _ _ gf
        have nL : ∀ {b : Addr} {o : HO}, upd (upd (upd H' z (.tup [])) l5 (.lst ys)) n (.lst []) b = some o → (∀ kk, o ≠ .dK kk) → upd (upd (upd (upd H' z (.tup [])) l5 (.lst ys)) n (.lst [])) f (.dK (putK kvs (Sum.inr x.name) (.ref l5))) b = some o := fun {b o} e nn => by
          rw [upd_ne fun z => by rw [z, gf7] at e; exact nn _ (Option.some.inj e).symm]; exact e
        refine ⟨_, _, rfl, (s4.trans s7).atFresh fH, nL (s7 _ _ gl) (fun _ z => by cases z), pv.to fun _ _ ⟨r', er, dz, g⟩ => ⟨r', er, dz, nL (s7 _ _ g) (fun _ z => by cases z)⟩, _, by rw [upd_same, putK_new _ hvn], ?_⟩
        rw [take_succ_of hx, toldL_app]
        have e0 : toldL tbl [x] = [(x.name, look tbl x.name)] := by unfold toldL; rw [if_neg (by rw [hy]; exact List.cons_ne_nil _ _)]; rfl
        rw [e0]
        exact Paired.snoc (pr.to fun _ _ ⟨a1, l1, a2, a3⟩ => ⟨a1, l1, a2, (a3.mono s7).other gf7 (fun _ z => by cases z) fun _ z => by cases z⟩) ⟨rfl, l5, rfl, E7.other gf7 (fun _ z => by cases z) fun _ z => by cases z⟩
    · rintro σ H' ⟨u, v, rfl, s4, gl, pv, kvs, gf, pr⟩
      rw [pl, List.take_length] at pr
      exact ⟨_, rfl, k H' f s4 ⟨kvs, gf, pr⟩⟩
end
end Ik


namespace Ik
open PySem PySem.Spec L2
open PySem.W (Frag)
/-! ### sorted rows, each headed by a key of ints -/
structure SRow where
  key : List Int
  name : Str
  num : Int
  hour : Int
  chan : Str
abbrev klt (a b : List Int) : Bool := HT.lexLt a b
theorem klt_irr : ∀ a : List Int, klt a a = false
  | [] => rfl
  | x :: a => by rw [klt, HT.lexLt_cons, if_pos rfl]; exact klt_irr a
theorem klt_asym : ∀ a b : List Int, klt a b = true → klt b a = false
  | [], [], h => by cases h
  | [], _ :: _, _ => rfl
  | _ :: _, [], h => by cases h
  | x :: a, y :: b, h => by
    rw [klt, HT.lexLt_cons] at h ⊢
    by_cases e : x = y
    · rw [if_pos e] at h
      rw [if_pos e.symm]
      exact klt_asym a b h
    · rw [if_neg e] at h
      rw [if_neg fun z => e z.symm]
      have := of_decide_eq_true h
      exact decide_eq_false (by omega)
theorem klt_tr : ∀ a b c : List Int, klt b a = false → klt c b = false → klt c a = false
  | [], [], [], _, _ => rfl
  | [], [], _ :: _, _, _ => rfl
  | [], _ :: _, [], _, h => by cases h
  | [], _ :: _, _ :: _, _, _ => rfl
  | _ :: _, [], _, h, _ => by cases h
  | _ :: _, _ :: _, [], _, h => by cases h
  | x :: a, y :: b, z :: c, h1, h2 => by
    rw [klt, HT.lexLt_cons] at h1 h2 ⊢
    by_cases e1 : y = x
    · by_cases e2 : z = y
      · rw [if_pos e1] at h1
        rw [if_pos e2] at h2
        rw [if_pos (e2.trans e1)]
        exact klt_tr a b c h1 h2
      · rw [if_neg e2] at h2
        have := of_decide_eq_false h2
        rw [if_neg (by omega)]
        exact decide_eq_false (by omega)
    · rw [if_neg e1] at h1
      have q1 := of_decide_eq_false h1
      by_cases e2 : z = y
      · rw [if_neg (by omega)]
        exact decide_eq_false (by omega)
      · rw [if_neg e2] at h2
        have := of_decide_eq_false h2
        rw [if_neg (by omega)]
        exact decide_eq_false (by omega)
theorem klt_eq : ∀ a b : List Int, klt a b = false → klt b a = false → a = b
  | [], [], _, _ => rfl
  | [], _ :: _, h, _ => by cases h
  | _ :: _, [], _, h => by cases h
  | x :: a, y :: b, h1, h2 => by
    rw [klt, HT.lexLt_cons] at h1 h2
    by_cases e : x = y
    · rw [if_pos e] at h1
      rw [if_pos e.symm] at h2
      rw [e, klt_eq a b h1 h2]
    · rw [if_neg e] at h1
      rw [if_neg fun z => e z.symm] at h2
      have := of_decide_eq_false h1
      have := of_decide_eq_false h2
      exact absurd (by omega) e
theorem klt_swo {α : Type} (k : α → List Int) : SrtO.Swo fun x y => klt (k x) (k y) := ⟨fun x y h => klt_asym _ _ h, fun x y z h1 h2 => klt_tr _ _ _ h1 h2⟩
/-! ### raw -/
def RawRow (h : Heap) (v : Value) (r : SRow) : Prop := ∃ (a k : Addr) (t1 t2 t3 t4 : Tok) (its : Array Value), v = .ref a ∧ PyProof.Rows.IsTup h a #[.ref k, .str r.name t1, .int r.num t2, .int r.hour t3, .str r.chan t4] ∧
  PyProof.Rows.IsTup h k its ∧ PyProof.Rows.IntsAre its.toList r.key
theorem RawRow.keeps {h h' : Heap} {v : Value} {r : SRow} (x : RawRow h v r) (kp : ∀ b o, h.get? b = some o → o.cls = .type "tuple" → h'.get? b = some o) : RawRow h' v r := by
  obtain ⟨a, k, t1, t2, t3, t4, its, e, ⟨o, ho, hc, q⟩, ⟨o2, ho2, hc2, q2⟩, i⟩ := x
  exact ⟨a, k, t1, t2, t3, t4, its, e, ⟨o, kp _ _ ho hc, hc, q⟩, ⟨o2, kp _ _ ho2 hc2, hc2, q2⟩, i⟩
theorem items_int {P : Program} {w : World} : ∀ {us : List Value} {ns : List Int}, PyProof.Rows.IntsAre us ns → ItemsAre (intKind P w) ns us
  | _, _, .nil => .nil
  | _, _, .cons n t h => .cons (by show Value.isInt n (.int n t) = true; simp [Value.isInt]) (items_int h)
section
variable {prog : Program} {w : World} {A : Around} {E : Value → Shared → Prop} {s : Shared}
theorem row_firsts {h : Heap} {k : Value → SRow} : ∀ vs : List Value, (∀ v ∈ vs, RawRow h v (k v)) → ∃ fs : List Value, PySem.W.KatTups h vs fs ∧ fs.length = vs.length ∧ ∀ f ∈ fs, ∃ (q : Addr) (o : Obj), f = Value.ref q ∧ h.get? q = some o ∧ o.cls = .type "tuple"
  | [], _ => ⟨[], PySem.W.KatTups.nil, rfl, fun f hf => (nomatch hf)⟩
  | v :: vs, x => by
    obtain ⟨fs, kt, hl, hi⟩ := row_firsts vs fun u hu => x u (List.mem_cons_of_mem _ hu)
    obtain ⟨a, q, _, _, _, _, _, e, ⟨o, ho, hc, n, hd⟩, ⟨o2, ho2, hc2, _⟩, _⟩ := x v (List.mem_cons_self ..)
    rw [e]
    refine ⟨.ref q :: fs, PySem.W.KatTups.cons ho hc hd rfl kt, by rw [List.length_cons, List.length_cons, hl], fun f hf => ?_⟩
    rcases List.mem_cons.mp hf with rfl | hf
    · exact ⟨q, o2, rfl, ho2, hc2⟩
    · exact hi f hf
theorem row_cmp {vs : List Value} {k : Value → SRow} (hu : A.units < cLine) (hp : ∀ v ∈ vs, RawRow s.heap v (k v)) (inj : ∀ v ∈ vs, ∀ u ∈ vs, (k v).key = (k u).key → k v = k u) :
    SrtO.Cmp prog w A s (PyProof.Rows.tuples' false) (fun p => p.1 ∈ vs) (SrtO.lt2 fun v u => klt (k v).key (k u).key) := by
  intro p q hm hm'
  have h1 := hp _ hm
  have h2 := hp _ hm'
  have hj := inj _ hm _ hm'
  show wpAny (model prog w) A (PyProof.Rows.keyLt' (PyProof.Rows.tuples' false) p.1 q.1) (fun r s' => s' = s ∧ r = klt (k p.1).key (k q.1).key) (fun _ _ => False) s
  generalize k p.1 = x at h1 hj ⊢
  generalize k q.1 = y at h2 hj ⊢
  obtain ⟨a, ka, t1, t2, t3, t4, its, e1, ⟨o, ho, hc, n, hd⟩, t5, i1⟩ := h1
  obtain ⟨b, kb, u1, u2, u3, u4, jts, e2, ⟨o', ho', hc', n', hd'⟩, u5, i2⟩ := h2
  rw [e1, e2]
  refine PySem.W.kat_lt ho hd ho' hd' ?_
  show PySem.W.KatLex prog w A false (decide (5 < 5)) _ [(.ref ka, .ref kb), (.str x.name t1, .str y.name u1), (.int x.num t2, .int y.num u2), (.int x.hour t3, .int y.hour u3), (.str x.chan t4, .str y.chan u4)] 0 s
  have k1 : IsTupleKey (intKind prog w) s.heap x.key ka := by
    obtain ⟨ok, hok, ck, nk, dk⟩ := t5
    exact ⟨ok, _, nk, hok, ck, dk, items_int i1⟩
  have k2 : IsTupleKey (intKind prog w) s.heap y.key kb := by
    obtain ⟨ok, hok, ck, nk, dk⟩ := u5
    exact ⟨ok, _, nk, hok, ck, dk, items_int i2⟩
  refine PySem.W.kat_cons (wpAny_eqBool_tuple hu k1 k2 ?_)
  refine PySem.W.kat_go (fun e => ?_) (fun e => ?_)
  · have e := of_decide_eq_true e
    have ee := hj e
    subst ee
    refine PySem.W.kat_yes (PySem.W.kat_cons (PySem.SeqAt.EqAt.str_str _ _ _ _ prog w _ _ ?_))
    refine PySem.W.kat_go (fun _ => ?_) (fun z => absurd z (by simp))
    refine PySem.W.kat_yes (PySem.W.kat_cons (PySem.SeqAt.EqAt.int_int _ _ _ _ prog w _ _ ?_))
    refine PySem.W.kat_go (fun _ => ?_) (fun z => absurd z (by simp))
    refine PySem.W.kat_yes (PySem.W.kat_cons (PySem.SeqAt.EqAt.int_int _ _ _ _ prog w _ _ ?_))
    refine PySem.W.kat_go (fun _ => ?_) (fun z => absurd z (by simp))
    refine PySem.W.kat_yes (PySem.W.kat_cons (PySem.SeqAt.EqAt.str_str _ _ _ _ prog w _ _ ?_))
    refine PySem.W.kat_go (fun _ => ?_) (fun z => absurd z (by simp))
    exact PySem.W.kat_yes (PySem.W.kat_nil ⟨rfl, (klt_irr _).symm⟩)
  · refine PySem.W.kat_no ?_
    show wpAny _ _ (PyProof.Rows.oneLt' false _ _) _ _ _
    exact PySem.W.kat_one _ _ (HT.lt_tupInts t5 u5 i1 i2 hu ⟨rfl, rfl⟩)
theorem rows_sortable {a : Addr} {vs : List Value} {k : Value → SRow} (hu : A.units < cLine) (h0 : 0 < vs.length) (hp : ∀ v ∈ vs, RawRow s.heap v (k v)) (inj : ∀ v ∈ vs, ∀ u ∈ vs, (k v).key = (k u).key → k v = k u)
    (ha : ∀ o, s.heap.get? a = some o → o.cls ≠ .type "tuple") : SrtO.SortableO prog w A s a vs fun v u => klt (k v).key (k u).key := by
  intro h' keep
  have hp' : ∀ v ∈ vs, RawRow h' v (k v) := fun v hm => (hp v hm).keeps fun b o e c => keep b o (fun z => by subst z; exact ha o e c) e
  obtain ⟨fs, h1, h2, h3⟩ := row_firsts vs hp'
  refine ⟨PyProof.Rows.tuples' false, fun Q E hq => ?_, row_cmp hu hp' inj⟩
  refine PySem.W.kat_kind (T := .type "tuple") h1 (by omega) (fun f hm => ?_) (by rfl) ?_
  · obtain ⟨q, o, rfl, ho, hc⟩ := h3 f hm
    have z : PySem.W.Looks (model prog w) h' (typeOf (.ref q)) o.cls := (PySem.W.Looks.ld ho).andThen .now
    rw [hc] at z
    exact z
  · have e : (Value.type "tuple" != Value.type "tuple") = false := by first | decide +kernel | rfl | decide
    rw [e]
    exact hq
theorem sorted_rows {l : Addr} {vs : List Value} {k : Value → SRow} {Q : Value → Shared → Prop} (hu : A.in1.in1.units < cLine) (hl : s.heap.IsList l vs.toArray) (hz : vs.length ≤ sizeLine) (hp : ∀ v ∈ vs, RawRow s.heap v (k v))
    (inj : ∀ v ∈ vs, ∀ u ∈ vs, (k v).key = (k u).key → k v = k u)
    (h : ∀ (h' : Heap) (d : Addr) (out : List Value), SrtO.Srtd (fun v u => klt (k v).key (k u).key) out → out.Perm vs → (∀ b o, s.heap.get? b = some o → h'.get? b = some o) → s.heap.objs.size ≤ d → (∃ n, h'.get? d = some (PyProof.Rows.seqObj "list" out.toArray n)) → Q (.ref d) { s with heap := h' }) :
    wpAny (model prog w) A (call (.builtin "sorted") [.ref l]) Q E s := by
  refine SrtO.sorted_ord (klt_swo fun v => (k v).key) hl hz (fun h2 h₁ a ha kk => ?_) fun out hs hb => ?_
  · refine rows_sortable (s := { s with heap := h₁ }) hu (by omega) (fun v hm => (hp v hm).keeps fun b o e _ => (kk b o e).2) inj fun o e => ?_
    have e' : some o = some (PyProof.Rows.seqObj "list" vs.toArray 0) := e.symm.trans ha
    cases e'
    intro c
    exact absurd (Value.type.inj c) (by decide)
  · exact h _ _ out hs hb.perm (fun b o e => PyProof.Rows.sortedAll_old e) (Nat.le_succ _) (PyProof.Rows.sortedAll_at s.heap vs out.toArray)
end
/-! ### by values -/
def RowAt (H : Hp) (v : V) (r : SRow) : Prop := ∃ t k, v = .ref t ∧ H t = some (.tup [.ref k, .str r.name, .int r.num, .int r.hour, .str r.chan]) ∧ H k = some (.tup (r.key.map V.int))
theorem RowAt.mono {H H' : Hp} {v : V} {r : SRow} (h : RowAt H v r) (s : Same H H') : RowAt H' v r := let ⟨t, k, e, g, g2⟩ := h; ⟨t, k, e, s _ _ g, s _ _ g2⟩
theorem vint_inj : ∀ {a b : List Int}, a.map V.int = b.map V.int → a = b
  | [], [], _ => rfl
  | [], _ :: _, h => by cases h
  | _ :: _, [], h => by cases h
  | x :: a, y :: b, h => by
    rw [List.map_cons, List.map_cons] at h
    injection h with h1 h2
    injection h1 with h1
    rw [h1, vint_inj h2]
theorem RowAt.inj {H : Hp} {v : V} {r r' : SRow} (h : RowAt H v r) (h' : RowAt H v r') : r = r' := by
  obtain ⟨t, k, e, g, g2⟩ := h
  obtain ⟨t', k', e', g', g2'⟩ := h'
  rw [e] at e'
  cases e'
  rw [g] at g'
  injection g' with z
  injection z with z
  injection z with z1 z
  injection z with z2 z
  injection z with z3 z
  injection z with z4 z
  injection z with z5 _
  injection z1 with z1
  injection z2 with z2
  injection z3 with z3
  injection z4 with z4
  injection z5 with z5
  rw [← z1, g2] at g2'
  injection g2' with y
  injection y with y
  have y := vint_inj y
  cases r
  cases r'
  simp only at *
  subst y z2 z3 z4 z5
  rfl
theorem paired_perm {α β : Type} {F : α → β → Prop} {xs ys : List α} (p : ys.Perm xs) : ∀ {rs : List β}, Paired F xs rs → ∃ rs', rs'.Perm rs ∧ Paired F ys rs' := by
  induction p with
  | nil => intro rs h; cases h; exact ⟨[], .nil, .nil⟩
  | cons x _ ih =>
    intro rs h
    cases h with
    | cons e t =>
      obtain ⟨rs', p', q⟩ := ih t
      exact ⟨_ :: rs', p'.cons _, .cons e q⟩
  | swap x y l =>
    intro rs h
    cases h with
    | cons e t =>
      cases t with
      | cons e' t => exact ⟨_, List.Perm.swap .., .cons e' (.cons e t)⟩
  | trans _ _ ih1 ih2 =>
    intro rs h
    obtain ⟨r1, p1, q1⟩ := ih2 h
    obtain ⟨r2, p2, q2⟩ := ih1 q1
    exact ⟨r2, p2.trans p1, q2⟩
theorem paired_mem {α β : Type} {F : α → β → Prop} {xs : List α} {rs : List β} (h : Paired F xs rs) : ∀ x ∈ xs, ∃ r ∈ rs, F x r := by
  induction h with
  | nil => intro x hx; cases hx
  | cons e _ ih =>
    intro x hx
    rcases List.mem_cons.mp hx with z | hx
    · rw [z]; exact ⟨_, List.mem_cons_self .., e⟩
    · obtain ⟨r, h1, h2⟩ := ih x hx
      exact ⟨r, List.mem_cons_of_mem _ h1, h2⟩
theorem paired_with {α β : Type} {F : α → β → Prop} {P : α → Prop} {xs : List α} {rs : List β} (h : Paired F xs rs) : (∀ x ∈ xs, P x) → Paired (fun x r => P x ∧ F x r) xs rs := by
  induction h with
  | nil => intro _; exact .nil
  | cons e _ ih => intro all; exact .cons ⟨all _ (List.mem_cons_self ..), e⟩ (ih fun x hx => all x (List.mem_cons_of_mem _ hx))
theorem paired_memr {α β : Type} {F : α → β → Prop} {xs : List α} {rs : List β} (h : Paired F xs rs) : ∀ r ∈ rs, ∃ x ∈ xs, F x r := by
  induction h with
  | nil => intro x hx; cases hx
  | cons e _ ih =>
    intro x hx
    rcases List.mem_cons.mp hx with z | hx
    · rw [z]; exact ⟨_, List.mem_cons_self .., e⟩
    · obtain ⟨r, h1, h2⟩ := ih x hx
      exact ⟨r, List.mem_cons_of_mem _ h1, h2⟩
theorem paired_pairwise {α β : Type} {F : α → β → Prop} {P : α → α → Prop} {R : β → β → Prop} (f : ∀ a b c d, F a b → F c d → P a c → R b d) {xs : List α} {rs : List β} (h : Paired F xs rs) : xs.Pairwise P → rs.Pairwise R := by
  induction h with
  | nil => intro _; exact .nil
  | cons e t ih =>
    intro p
    obtain ⟨p1, p2⟩ := List.pairwise_cons.mp p
    refine List.pairwise_cons.mpr ⟨fun r hr => ?_, ih p2⟩
    obtain ⟨x, hx, ex⟩ := paired_memr t r hr
    exact f _ _ _ _ e ex (p1 x hx)
/-- sorted(xs), xs a list of such rows: the rows by their keys -/
def rSortKey (K : Frag) : List V → Hp → VK → Prop := fun vs H Q => ∃ (a : Addr) (xs : List V) (rs : List SRow), vs = [V.ref a] ∧ SqL K H a xs ∧ Paired (RowAt H) xs rs ∧ (∀ r ∈ rs, ∀ r' ∈ rs, r.key = r'.key → r = r') ∧
  ∀ ys rs' p, rs'.Perm rs → rs'.Pairwise (fun r r' => klt r'.key r.key = false) → Paired (RowAt H) ys rs' → H p = none → Q (.ref p) (upd H p (.lst ys))
theorem cr_sortKey {X : Cx} (K : Frag) (hu : X.A.units + 64 < cLine) (e : X.K = K := by rfl) : CallR X (.builtin "sorted") (rSortKey K) := by
  subst e
  intro pins s σ H vs us Q I r h
  obtain ⟨a, xs, rs, rfl, hs, pr, inj, q⟩ := h
  obtain ⟨its, rv, hl, hz⟩ := I.list hs
  obtain ⟨u, rfl, ru⟩ := vals1 r
  obtain rfl : u = Value.ref a := ru
  obtain ⟨e1, e2⟩ := refs_back rv fun x m => by
    obtain ⟨r, _, t, _, e, _⟩ := paired_mem pr x m
    exact ⟨t, e⟩
  have hk : ∀ x : V, ∃ r : SRow, x ∈ xs → RowAt H x r ∧ r ∈ rs := fun x => by
    by_cases m : x ∈ xs
    · obtain ⟨r, hr, e⟩ := paired_mem pr x m
      exact ⟨r, fun _ => ⟨e, hr⟩⟩
    · exact ⟨⟨[], Str.ofString "", 0, 0, Str.ofString ""⟩, fun z => absurd z m⟩
  have bm : ∀ v ∈ its, backV v ∈ xs := fun v hv => by rw [e1]; exact List.mem_map.mpr ⟨_, hv, rfl⟩
  refine sorted_rows (k := fun u => Classical.choose (hk (backV u))) (by show X.A.units + 1 + 1 < cLine; omega) hl.isList (by rw [← rv.length]; exact hz) (fun v hv => ?_) (fun v hv u hu' e => ?_) fun h' d out h1 h2 kp hd hn => ?_
  · obtain ⟨⟨t, k, et, ht, hk2⟩, _⟩ := Classical.choose_spec (hk (backV v)) (bm v hv)
    generalize Classical.choose (hk (backV v)) = r at et ht hk2 ⊢
    obtain ⟨b, rfl⟩ := e2 v hv
    cases et
    obtain ⟨_, its2, r2, tt⟩ := I.hok _ _ ht
    obtain ⟨_, its3, r3, tk⟩ := I.hok _ _ hk2
    obtain ⟨v1, v2, v3, v4, v5, rfl, w1, w2, w3, w4, w5⟩ : ∃ v1 v2 v3 v4 v5, its2 = [v1, v2, v3, v4, v5] ∧ RelV (.ref k) v1 ∧ RelV (.str r.name) v2 ∧ RelV (.int r.num) v3 ∧ RelV (.int r.hour) v4 ∧ RelV (.str r.chan) v5 := by
      cases r2 with
      | cons a1 r2 =>
        cases r2 with
        | cons a2 r2 =>
          cases r2 with
          | cons a3 r2 =>
            cases r2 with
            | cons a4 r2 =>
              cases r2 with
              | cons a5 r2 =>
                cases r2
                exact ⟨_, _, _, _, _, rfl, a1, a2, a3, a4, a5⟩
    obtain rfl : v1 = Value.ref k := w1
    obtain ⟨t1, rfl⟩ := w2
    obtain ⟨t2, rfl⟩ := w3
    obtain ⟨t3, rfl⟩ := w4
    obtain ⟨t4, rfl⟩ := w5
    exact ⟨_, k, t1, t2, t3, t4, its3.toArray, rfl, tt, tk, by rw [List.toList_toArray]; exact intsAre_of r3⟩
  · exact inj _ (Classical.choose_spec (hk (backV v)) (bm v hv)).2 _ (Classical.choose_spec (hk (backV u)) (bm u hu')).2 e
  · have h3 : ∀ u ∈ out, ∃ a, u = Value.ref a := fun u hu => e2 u (h2.mem_iff.mp hu)
    obtain ⟨n, hn⟩ := hn
    have hp : (out.map backV).Perm xs := by
      rw [e1]
      exact h2.map backV
    obtain ⟨rs', p1, p2⟩ := paired_perm hp pr
    refine ⟨.ref d, upd H d (.lst (out.map backV)), I.laid (t' := s.toks) kp hd ⟨?_, out, n, vals_back h3, hn⟩, rfl, q _ _ d p1 ?_ p2 (I.hok.fresh hd)⟩
    · rw [hp.length_eq]
      exact hz
    · refine paired_pairwise (F := fun x r => x ∈ xs ∧ RowAt H x r) (P := fun x y => klt (Classical.choose (hk y)).key (Classical.choose (hk x)).key = false) ?_ ?_ (List.pairwise_map.mpr h1)
      · rintro x r y r' ⟨m1, a1⟩ ⟨m2, a2⟩ z
        rw [RowAt.inj a1 (Classical.choose_spec (hk x) m1).1, RowAt.inj a2 (Classical.choose_spec (hk y) m2).1]
        exact z
      · exact paired_with p2 fun x hx => hp.mem_iff.mp hx
end Ik


namespace Ik
open PySem PySem.Spec L2
open PySem.W (Frag)
/-! ### a heap but for one place -/
def er (F : Addr) (H : Hp) : Hp := fun b => if b = F then none else H b
theorem er_at {F : Addr} {H : Hp} : er F H F = none := if_pos rfl
theorem er_ne {F b : Addr} {H : Hp} (n : b ≠ F) : er F H b = H b := if_neg n
theorem er_kind {F b : Addr} {H : Hp} {o u : HO} (hF : H F = some u) (e : H b = some o) (n : u ≠ o) : er F H b = some o := by
  rw [er_ne fun z => n (by rw [z, hF] at e; exact Option.some.inj e)]; exact e
theorem er_sub {F : Addr} {H : Hp} : Same (er F H) H := fun b o e => by
  by_cases z : b = F
  · rw [z, er_at] at e; cases e
  · rw [er_ne z] at e; exact e
theorem er_lift {F : Addr} {H0 H : Hp} (s : Same H0 H) (h : H0 F = none) : Same H0 (er F H) := fun b o e => by
  rw [er_ne (ne_of_none e h)]; exact s b o e
theorem er_upd {F : Addr} {H H' : Hp} {o : HO} (s : Same (er F H) H') : Same (er F H) (upd H' F o) := s.atFresh er_at
/-! ### enumerate -/
theorem ite_go {K : Frag} {a : Addr} {i : Nat} {H : Hp} {xs : List V} {x : V} (q : SqL K H a xs) (h : xs[i]? = some x) : (Ite K a).go i H := ⟨xs, x, q, h⟩
theorem for_enum {K : Frag} {a : Addr} {xs : List V} {g : TG} {tb : TS} {D : Ends} {σ : St} {H : Hp} (Pv : Nat → St → Hp → Prop) (h0 : Pv 0 σ H) (hl : ∀ i σ H, i ≤ xs.length → Pv i σ H → SqL K H a xs)
    (hs : ∀ i x σ H T, xs[i]? = some x → Pv i σ H → H T = none → g (.ref T) σ (upd H T (.tup [.int (i : Nat), x])) fun σ2 H2 => tb { D with nx := Pv (i + 1), ct := Pv (i + 1), bk := D.nx } σ2 H2) (hd : ∀ σ H, Pv xs.length σ H → D.nx σ H) :
    ∃ W : Nat → Nat → St → Hp → Prop, (∃ m, W 0 m σ H) ∧ ∀ i m σ H, W i m σ H →
      ((Ite K a).stop i H ∧ D.nx σ H) ∨ ((Ite K a).go i H ∧ ∃ N : St → Hp → Prop, (∀ σ' H', N σ' H' → ∃ m', m' < m ∧ W (i + 1) m' σ' H') ∧ ∀ x H', (Ite K a).yld i H x H' → g x σ H' fun σ2 H2 => tb { D with nx := N, ct := N, bk := D.nx } σ2 H2) := by
  refine for_it (n := xs.length) Pv h0 (fun σ H p => ⟨⟨xs, hl _ σ H (Nat.le_refl _) p, Nat.le_refl _⟩, hd σ H p⟩) fun i σ H hi p => ?_
  have q := hl i σ H (Nat.le_of_lt hi) p
  refine ⟨⟨xs, xs[i], q, List.getElem?_eq_getElem hi⟩, ?_⟩
  rintro v H' ⟨T, x, rfl, hT, rfl, hx⟩
  exact hs i x σ H T (hx xs q) p hT
theorem take_fresh {α : Type} {f : α → Str} {l : List α} (nd : (l.map f).Nodup) {i : Nat} {c : α} (h : l[i]? = some c) : f c ∉ (l.take i).map f := fun z => by
  obtain ⟨c2, h2, h3⟩ := List.mem_map.mp z
  obtain ⟨j, hj, ej⟩ := List.mem_iff_getElem.mp h2
  rw [List.length_take] at hj
  obtain ⟨hci, ec2⟩ := List.getElem?_eq_some_iff.mp h
  rw [List.getElem_take] at ej
  refine List.pairwise_iff_getElem.mp nd j i (by rw [List.length_map]; omega) (by rw [List.length_map]; exact hci) (by omega) ?_
  rw [List.getElem_map, List.getElem_map, ej, ec2]
  exact h3
/-! ### ranks -/
def rankOf (x : Str) : Nat → List Chan → Nat
  | n, [] => n
  | n, c :: cs => if c.name = x then n else rankOf x (n + 1) cs
def rankL : Nat → List Chan → List (Key × V)
  | _, [] => []
  | n, c :: cs => (.inr c.name, .int (n : Nat)) :: rankL (n + 1) cs
theorem rankL_app (c : Chan) : ∀ (n : Nat) (cs : List Chan), rankL n (cs ++ [c]) = rankL n cs ++ [(.inr c.name, .int ((n + cs.length : Nat) : Int))]
  | n, [] => rfl
  | n, d :: cs => by
    rw [List.cons_append]
    show (_, _) :: rankL (n + 1) (cs ++ [c]) = (_, _) :: rankL (n + 1) cs ++ _
    rw [rankL_app c (n + 1) cs, List.length_cons, List.cons_append]
    have : n + 1 + cs.length = n + (cs.length + 1) := by omega
    rw [this]
theorem rankL_len : ∀ (n : Nat) (cs : List Chan), (rankL n cs).length = cs.length
  | _, [] => rfl
  | n, _ :: cs => by show (rankL (n + 1) cs).length + 1 = cs.length + 1; rw [rankL_len]
theorem rankL_get (x : Str) : ∀ (n : Nat) (cs : List Chan), x ∈ cs.map (·.name) → valV (rankL n cs) (Sum.inr x : Key) = some (.int ((rankOf x n cs : Nat) : Int))
  | _, [], h => by cases h
  | n, c :: cs, h => by
    show valV ((_, _) :: _) _ = _
    unfold rankOf
    by_cases e : c.name = x
    · rw [valV_pos (by show (Sum.inr c.name : Key) = _; rw [e]), if_pos e]
    · rw [valV_neg (fun z => e (Sum.inr.inj z)), if_neg e]
      exact rankL_get x (n + 1) cs ((List.mem_cons.mp h).resolve_left fun z => e z.symm)
theorem rankL_none (x : Str) : ∀ (n : Nat) (cs : List Chan), x ∉ cs.map (·.name) → valV (rankL n cs) (Sum.inr x : Key) = none
  | _, [], _ => rfl
  | n, c :: cs, h => by
    rw [List.map_cons, List.mem_cons, not_or] at h
    show valV ((_, _) :: _) _ = _
    rw [valV_neg (fun z => h.1 (Sum.inr.inj z).symm)]
    exact rankL_none x (n + 1) cs h.2
/-! ### turns -/
def mkRow (wd : Wd) (ρ : Nat) (v : Ves) (n : Nat) (e : Ent) : SRow :=
  ⟨if v.isB = true then [e.1, 0, (rankOf e.2 0 wd.chans : Nat), -v.strength, (ρ : Nat)] else [e.1, 1, (ρ : Nat), 0, 0], v.name, (n : Nat), e.1, e.2⟩
def rowsV (wd : Wd) (ρ : Nat) (v : Ves) (es : List Ent) : List SRow := es.zipIdx.map fun p => mkRow wd ρ v p.2 p.1
def rowsW (wd : Wd) (tbl : Tbl) (vs : List Ves) : List SRow := (vs.zipIdx.map fun p => rowsV wd p.2 p.1 (look tbl p.1.name)).flatten
theorem rowsV_app (wd : Wd) (ρ : Nat) (v : Ves) (es : List Ent) (e : Ent) : rowsV wd ρ v (es ++ [e]) = rowsV wd ρ v es ++ [mkRow wd ρ v es.length e] := by
  unfold rowsV
  rw [List.zipIdx_append, List.map_append, Nat.zero_add]
  rfl
theorem rowsW_app (wd : Wd) (tbl : Tbl) (vs : List Ves) (v : Ves) : rowsW wd tbl (vs ++ [v]) = rowsW wd tbl vs ++ rowsV wd vs.length v (look tbl v.name) := by
  unfold rowsW
  rw [List.zipIdx_append, List.map_append, List.flatten_append, Nat.zero_add]
  show _ ++ List.flatten [_] = _
  rw [List.flatten_cons, List.flatten_nil, List.append_nil]
theorem mem_rowsV {wd : Wd} {ρ : Nat} {v : Ves} {es : List Ent} {r : SRow} : r ∈ rowsV wd ρ v es ↔ ∃ n e, es[n]? = some e ∧ r = mkRow wd ρ v n e := by
  unfold rowsV
  rw [List.mem_map]
  constructor
  · rintro ⟨⟨e, n⟩, h, rfl⟩
    exact ⟨n, e, List.mk_mem_zipIdx_iff_getElem?.mp h, rfl⟩
  · rintro ⟨n, e, h, rfl⟩
    exact ⟨(e, n), List.mk_mem_zipIdx_iff_getElem?.mpr h, rfl⟩
theorem mem_rowsW {wd : Wd} {tbl : Tbl} {vs : List Ves} {r : SRow} : r ∈ rowsW wd tbl vs ↔ ∃ ρ v n e, vs[ρ]? = some v ∧ (look tbl v.name)[n]? = some e ∧ r = mkRow wd ρ v n e := by
  unfold rowsW
  rw [List.mem_flatten]
  constructor
  · rintro ⟨l, hl, hr⟩
    obtain ⟨⟨v, ρ⟩, h, rfl⟩ := List.mem_map.mp hl
    obtain ⟨n, e, h1, h2⟩ := mem_rowsV.mp hr
    exact ⟨ρ, v, n, e, List.mk_mem_zipIdx_iff_getElem?.mp h, h1, h2⟩
  · rintro ⟨ρ, v, n, e, h, h1, h2⟩
    exact ⟨_, List.mem_map.mpr ⟨(v, ρ), List.mk_mem_zipIdx_iff_getElem?.mpr h, rfl⟩, mem_rowsV.mpr ⟨n, e, h1, h2⟩⟩
def entNum (tbl : Tbl) (vs : List Ves) : Nat := (vs.map fun v => (look tbl v.name).length).sum
theorem sum_take_le : ∀ (l : List Nat) (i : Nat), (l.take i).sum ≤ l.sum
  | [], i => by rw [List.take_nil]; exact Nat.le_refl _
  | x :: l, 0 => Nat.zero_le _
  | x :: l, i + 1 => by
    rw [List.take_succ_cons, List.sum_cons, List.sum_cons]
    have := sum_take_le l i
    omega
theorem rowsW_len (wd : Wd) (tbl : Tbl) (vs : List Ves) : (rowsW wd tbl vs).length = entNum tbl vs := by
  unfold rowsW entNum
  rw [List.length_flatten, List.map_map]
  have : ∀ (n : Nat) (l : List Ves), ((l.zipIdx n).map (List.length ∘ fun p => rowsV wd p.2 p.1 (look tbl p.1.name))) = l.map fun v => (look tbl v.name).length := by
    intro n l
    induction l generalizing n with
    | nil => rfl
    | cons v l ih =>
      rw [List.zipIdx_cons, List.map_cons, List.map_cons, ih]
      show (rowsV wd n v _).length :: _ = _
      unfold rowsV
      rw [List.length_map, List.length_zipIdx]
  rw [this]
theorem ents_inj {es : List Ent} (h : es.Pairwise fun x y => x.1 < y.1) {n m : Nat} {e e' : Ent} (h1 : es[n]? = some e) (h2 : es[m]? = some e') (q : e.1 = e'.1) : n = m := by
  obtain ⟨a1, b1⟩ := List.getElem?_eq_some_iff.mp h1
  obtain ⟨a2, b2⟩ := List.getElem?_eq_some_iff.mp h2
  rcases Nat.lt_trichotomy n m with z | z | z
  · have := List.pairwise_iff_getElem.mp h n m a1 a2 z
    rw [b1, b2] at this
    omega
  · exact z
  · have := List.pairwise_iff_getElem.mp h m n a2 a1 z
    rw [b1, b2] at this
    omega
theorem rows_inj {wd : Wd} {tbl : Tbl} {vs : List Ves} (h : ∀ x, (look tbl x).Pairwise fun x y => x.1 < y.1) {r r' : SRow} (h1 : r ∈ rowsW wd tbl vs) (h2 : r' ∈ rowsW wd tbl vs) (e : r.key = r'.key) : r = r' := by
  obtain ⟨ρ, v, n, x, a1, a2, rfl⟩ := mem_rowsW.mp h1
  obtain ⟨ρ', v', n', x', b1, b2, rfl⟩ := mem_rowsW.mp h2
  have two : x.1 = x'.1 ∧ ρ = ρ' := by
    unfold mkRow at e
    simp only at e
    by_cases c : v.isB = true
    · by_cases c' : v'.isB = true
      · rw [if_pos c, if_pos c'] at e
        simp only [List.cons.injEq] at e
        exact ⟨e.1, by omega⟩
      · rw [if_pos c, if_neg c'] at e
        simp only [List.cons.injEq] at e
        omega
    · by_cases c' : v'.isB = true
      · rw [if_neg c, if_pos c'] at e
        simp only [List.cons.injEq] at e
        omega
      · rw [if_neg c, if_neg c'] at e
        simp only [List.cons.injEq] at e
        exact ⟨e.1, by omega⟩
  obtain ⟨e1, rfl⟩ := two
  rw [a1] at b1
  cases b1
  obtain rfl := ents_inj (h _) a2 b2 e1
  rw [a2] at b2
  cases b2
  rfl
structure IsTurns (wd : Wd) (tbl : Tbl) (ts : List SRow) : Prop where
  perm : ts.Perm (rowsW wd tbl wd.ves)
  srt : ts.Pairwise fun r r' => klt r'.key r.key = false
def TurnAt (H : Hp) (v : V) (r : SRow) : Prop := ∃ t, v = .ref t ∧ H t = some (.tup [.str r.name, .int r.num, .int r.hour, .str r.chan])
theorem TurnAt.mono {H H' : Hp} {v : V} {r : SRow} (h : TurnAt H v r) (s : Same H H') : TurnAt H' v r := let ⟨t, e, g⟩ := h; ⟨t, e, s _ _ g⟩
theorem RowAt.other {H : Hp} {v : V} {r : SRow} {F : Addr} {o u : HO} (h : RowAt H v r) (hF : H F = some u) (hu : ∀ ys, u ≠ .tup ys) : RowAt (upd H F o) v r :=
  let ⟨t, k, e, g, g2⟩ := h; ⟨t, k, e, tup_stays hF hu g, tup_stays hF hu g2⟩
def sp_turns_of : Sp := fun vs H Q _ => ∃ (a t : Addr) (wd : Wd) (tbl : Tbl), vs = [.ref a, .ref t] ∧ WorldAt H a wd ∧ wd.Ok ∧ TableAt H t tbl ∧ TblOk wd tbl ∧ entNum tbl wd.ves ≤ 64 ∧
  ∀ H' l xs ts, Same H H' → H l = none → H' l = some (.lst xs) → Paired (TurnAt H') xs ts → IsTurns wd tbl ts → Q (.ref l) H'
def Z_turns_of : Scope := { kind := .function, names := [("world", .local), ("table", .local), ("ranks", .local), ("rank", .local), ("channel", .local), ("found", .local), ("vessel", .local), ("number", .local), ("hour", .local), ("key", .local), ("enumerate", .globalImplicit), ("isinstance", .globalImplicit), ("Breaker", .globalImplicit), ("sorted", .globalImplicit)], isGenerator := false, isCoroutine := false, more := (defScope S_turns_of).more }
abbrev N_turns_of : List Str := ["world", "table", "ranks", "rank", "channel", "found", "vessel", "number", "hour", "key", "row"]
abbrev P_turns_of : List Str := ["world", "table"]
theorem sc_turns_of : FnScope N_turns_of P_turns_of Z_turns_of := ⟨rfl, rfl, rfl, by decide +kernel, rfl, by decide +kernel, by decide +kernel⟩
theorem sz_turns_of : defScope S_turns_of = Z_turns_of := rfl
section
variable {P : Program} {w : World} {K : Frag} {mg : Str → Option Value} {base : Heap}
theorem ok_turns_of (T : Txt K mg) (D_World_vessels : DOk P w K mg base CX0 1 a_World_vessels P_World_vessels sp_vessels) (D_World_channels : DOk P w K mg base CX0 1 a_World_channels P_World_channels sp_channels) :
    DOk P w K mg base CX0 2 a_turns_of P_turns_of sp_turns_of := by
  refine DOk.mk0 T.f_turns_of sc_turns_of sz_turns_of (fun vs H Q E h => ?_) (fun cdv A outer s H vs Q E hr h => ?_)
  · obtain ⟨a, t, wd, tbl, rfl, _⟩ := h; rfl
  · obtain ⟨a, t, wd, tbl, rfl, W, O, TA, TO, E64, k⟩ := h
    have hu := hu_of hr
    refine ⟨_, (pss_cons (ps_set (i := 2) sc_turns_of.nd rfl (Or.inl rfl) pe_dnewK)
    (pss_cons (ps_for PassesOwn.never rfl (pi_enum rfl T.z_enumerate (pa_cons (pe_me0 D_World_channels T.cl_World T.me_World_channels hr (pv 0)) pa_nil)) (pg_tup rfl (pgs_cons (pg_name (i := 3) sc_turns_of.nd rfl (Or.inl rfl)) (pgs_cons (pg_name (i := 4) sc_turns_of.nd rfl (Or.inl rfl)) pgs_nil)))
      (pss_one (ps_dput hu (pv 2) (pe_fld (pv 4) rfl) (pv 3) rfl)))
    (pss_cons (ps_set (i := 5) sc_turns_of.nd rfl (Or.inl rfl) (pe_lst pa_nil))
    (pss_cons (ps_for PassesOwn.never rfl (pi_enum rfl T.z_enumerate (pa_cons (pe_me0 D_World_vessels T.cl_World T.me_World_vessels hr (pv 0)) pa_nil)) (pg_tup rfl (pgs_cons (pg_name (i := 3) sc_turns_of.nd rfl (Or.inl rfl)) (pgs_cons (pg_name (i := 6) sc_turns_of.nd rfl (Or.inl rfl)) pgs_nil)))
      (pss_one (ps_for PassesOwn.never rfl (pi_enum rfl T.z_enumerate (pa_cons (pe_dget2 hu (pv 1) (pe_fldK K (pv 6)) (pe_lst pa_nil) ⟨rfl, rfl, rfl, rfl⟩) pa_nil)) (pg_tup rfl (pgs_cons (pg_name (i := 7) sc_turns_of.nd rfl (Or.inl rfl)) (pgs_cons (pg_tup rfl (pgs_cons (pg_name (i := 8) sc_turns_of.nd rfl (Or.inl rfl)) (pgs_cons (pg_name (i := 4) sc_turns_of.nd rfl (Or.inl rfl)) pgs_nil))) pgs_nil)))
      (pss_cons (ps_set (i := 9) sc_turns_of.nd rfl (Or.inl rfl) (pe_tup (pa_cons (pv 8) (pa_cons pe_int (pa_cons (pv 3) (pa_cons pe_int (pa_cons pe_int pa_nil)))))))
    (pss_cons (ps_if (pt_val (pe_callB (call_isiK K) (by rfl) T.z_isinstance bt_isinstance (pa_cons (pv 6) (pa_cons (pe_cls T.g_Breaker) pa_nil)))) (pss_one (ps_set (i := 9) sc_turns_of.nd rfl (Or.inl rfl) (pe_tup (pa_cons (pv 8) (pa_cons pe_int (pa_cons (pe_dget hu (pv 2) (pv 4) (fun _ _ => rfl)) (pa_cons (pe_un un_neg (pe_fldK K (pv 6))) (pa_cons (pv 3) pa_nil)))))))) pss_nil)
    (pss_one (ps_expr (pe_bm PySem.F.plainAttrs_list PySem.F.slot_list_append PySem.F.type_list_append mt_append (pv 5) (pa_cons (pe_tup (pa_cons (pv 9) (pa_cons (pe_fldK K (pv 6)) (pa_cons (pv 7) (pa_cons (pv 8) (pa_cons (pv 4) pa_nil)))))) pa_nil)))))))))
    (pss_one (ps_ret (pe_lc (own := [("row", 10)]) (g := (gName 10)) rfl sc_turns_of.nd (pi_list (pe_callB (cr_sortKey K hr.units) (by rfl) T.z_sorted bt_sorted (pa_cons (pv 5) pa_nil))) (blkOk_by (own := [("row", 10)]) (N := N_turns_of) (sc := Z_turns_of) (by decide +kernel)) (fun _ _ _ _ _ => (pg_name (i := 10) sc_turns_of.nd rfl (Or.inl rfl))) (fun _ _ _ _ _ => pts_nil) (fun _ _ _ _ _ => (pe_slice (sl_tupK K) (pv 10) (po_some pe_int) po_none))))))))), ?_⟩
    intro rk hrk
    have s1 := same_new (o := .dK []) hrk
    obtain ⟨dx, _, _, _, _, ha, _⟩ := W.mono s1
    refine ⟨_, rfl, a, dx, _, rfl, ha, rfl, a, wd, rfl, W.mono s1, fun H2 l1 x1 s2 hl1 g1 p1 => ?_⟩
    have pl1 := Paired.length p1
    have c1 := O.c1
    have grk := s2 _ _ (upd_same (H := H) (a := rk) (o := .dK []))
    have sE := er_lift (s1.trans s2) hrk
    have n1 : l1 ≠ rk := fun z => by rw [z, grk] at g1; cases g1
    have g1E : er rk H2 l1 = some (.lst x1) := er_kind grk g1 fun z => by cases z
    have p1E : Paired (ChanR (er rk H2)) x1 wd.chans := p1.to fun _ _ ⟨r, e, dy, q⟩ => ⟨r, e, dy, er_kind grk q fun z => by cases z⟩
    refine ⟨l1, _, rfl, .of g1, for_enum (K := K) (a := l1) (xs := x1) (fun i σ H' => ∃ u v, σ = [some (.ref a), some (.ref t), some (.ref rk), u, v, none, none, none, none, none, none] ∧ Same (er rk H2) H' ∧ H' rk = some (.dK (rankL 0 (wd.chans.take i))))
      ⟨none, none, rfl, er_sub, grk⟩ (fun i σ H' _ ⟨_, _, _, s, _⟩ => .of (s _ _ g1E)) ?_ ?_⟩
    · rintro i y σ H' X hi ⟨u, v, rfl, s3, gk⟩ hX
      obtain ⟨c, hc, r, rfl, dy, hr'⟩ := pair_l p1E hi
      have hi2 := (List.getElem?_eq_some_iff.mp hc).1
      have s4 := s3.atNew (o := .tup [.int (i : Nat), .ref r]) hX
      have gk4 := same_new (o := .tup [.int (i : Nat), .ref r]) hX _ _ gk
      refine ⟨X, _, rfl, .of upd_same, rfl, _, _, rfl, _, _, rfl, rfl, ?_⟩
      refine ⟨_, rfl, _, rfl, _, rfl, r, _, _, _, _, rfl, s4 _ _ hr', T.cl_Channel, T.na_Channel_name, rfl, rk, _, rfl, DPut.k (k := (Sum.inr c.name : Key)) gk4 (by rw [rankL_len, List.length_take]; exact small64l (by omega)), ?_⟩
      refine ⟨_, _, rfl, er_upd s4, ?_⟩
      rw [upd_same, take_succ_of hc, rankL_app, putK_new _ (rankL_none _ _ _ (take_fresh O.cd hc)), List.length_take, Nat.zero_add, Nat.min_eq_left (Nat.le_of_lt hi2)]
    · rintro σ H' ⟨u, v, rfl, s3, gk⟩
      rw [pl1, List.take_length] at gk
      have sH : Same H H' := sE.trans s3
      refine ⟨szOf rfl, fun fd hfd => ?_⟩
      have s5 := sH.atNew (o := .lst []) hfd
      obtain ⟨dx', _, _, _, _, ha', _⟩ := W.mono s5
      refine ⟨_, rfl, a, dx', _, rfl, ha', rfl, a, wd, rfl, W.mono s5, O, fun H4 l2 x2 s6 hl2 g2 p2 => ?_⟩
      have pl2 := Paired.length p2
      have vl := O.vl
      have gfd := s6 _ _ (upd_same (H := H') (a := fd) (o := .lst []))
      have gk4 := s6 _ _ (same_new (o := .lst []) hfd _ _ gk)
      have fE : Same H (er fd H4) := er_lift (s5.trans s6) (sH.noneAt hfd)
      have nfl : fd ≠ l2 := fun z => by rw [← z] at hl2; rw [upd_same] at hl2; cases hl2
      have g2E : er fd H4 l2 = some (.lst x2) := by rw [er_ne nfl.symm]; exact g2
      have p2E : Paired (VesR (er fd H4)) x2 wd.ves := p2.to fun _ _ ⟨r, e, dy, q⟩ => ⟨r, e, dy, er_kind gfd q fun z => by cases z⟩
      have gkE : er fd H4 rk = some (.dK (rankL 0 wd.chans)) := er_kind gfd gk4 fun z => by cases z
      have WE := W.mono fE
      have TE := TA.mono fE
      refine ⟨l2, _, rfl, .of g2, for_enum (K := K) (a := l2) (xs := x2) (fun i σ H' => ∃ c1 c2 c3 c4 c5 c6, σ = [some (.ref a), some (.ref t), some (.ref rk), c1, c2, some (.ref fd), c3, c4, c5, c6, none] ∧ Same (er fd H4) H' ∧
        ∃ fs, H' fd = some (.lst fs) ∧ Paired (RowAt H') fs (rowsW wd tbl (wd.ves.take i)))
        ⟨_, _, _, _, _, _, rfl, er_sub, [], gfd, .nil⟩ (fun i σ H' _ ⟨_, _, _, _, _, _, _, s, _⟩ => .of (s _ _ g2E)) ?_ ?_⟩
      · rintro i y σ H5 X hi ⟨_, _, _, _, _, _, rfl, s7, fs, gf, pf⟩ hX
        obtain ⟨v, hv, r, rfl, dy, hr'⟩ := pair_l p2E hi
        have hi2 := (List.getElem?_eq_some_iff.mp hv).1
        have s8 := s7.atNew (o := .tup [.int (i : Nat), .ref r]) hX
        refine ⟨X, _, rfl, .of upd_same, rfl, _, _, rfl, _, _, rfl, rfl, ?_⟩
        have s9 := s8
        obtain ⟨kv2, gt, pt⟩ := TE.mono s8
        have hr8 := s8 _ _ hr'
        refine ⟨_, rfl, t, rfl, .inl ⟨_, .inl gt⟩, _, rfl, r, _, _, _, _, rfl, hr8, Ves.cl T, Ves.na_name T, v.l_name, szOf rfl, fun z hz => ?_⟩
        refine ⟨_, DGet.k (k := (Sum.inr v.name : Key)) (same_new hz _ _ gt), ?_⟩
        generalize hG6 : upd (upd H5 X (.tup [.int (i : Nat), .ref r])) z (.lst []) = H6
        have s6' : Same (upd H5 X (.tup [.int (i : Nat), .ref r])) H6 := by rw [← hG6]; exact same_new hz
        have sG : Same (er fd H4) (er fd H6) := er_lift (s8.trans s6') er_at
        have gf8 := same_new (o := .tup [.int (i : Nat), .ref r]) hX _ _ gf
        have gf6 := s6' _ _ gf8
        have nz : z ≠ fd := fun e => by rw [e] at hz; rw [gf8] at hz; cases hz
        have gz : H6 z = some (.lst []) := by rw [← hG6]; exact upd_same
        obtain ⟨q, ys, hq, hg, he⟩ : ∃ q ys, (valV kv2 (Sum.inr v.name : Key)).getD (.ref z) = .ref q ∧ er fd H6 q = some (.lst ys) ∧ Paired (EntR (er fd H6)) ys (look tbl v.name) := by
          obtain ⟨kv3, gt3, pt3⟩ := TE
          have e3 := s8 _ _ gt3
          rw [gt] at e3
          cases e3
          rcases tb_get v.name pt3 with ⟨g1, g2⟩ | ⟨q, g1, ys, g2, g3⟩
          · rw [g1, g2]
            exact ⟨z, [], rfl, by rw [er_ne nz]; exact gz, .nil⟩
          · rw [g1]
            exact ⟨q, ys, rfl, sG _ _ g2, g3.to fun _ _ r => r.mono sG⟩
        have es := TO.ents v.name
        have ple := Paired.length he
        have ef := es.few
        refine ⟨q, ys, by rw [← hq], .of (er_sub _ _ hg), for_enum (K := K) (a := q) (xs := ys) (fun j σ H' => ∃ c1 c2 c3 c4, σ = [some (.ref a), some (.ref t), some (.ref rk), some (.int (i : Nat)), c1, some (.ref fd), some (.ref r), c2, c3, c4, none] ∧ Same (er fd H6) H' ∧
          ∃ fs, H' fd = some (.lst fs) ∧ Paired (RowAt H') fs (rowsW wd tbl (wd.ves.take i) ++ rowsV wd i v ((look tbl v.name).take j)))
          ⟨_, _, _, _, rfl, er_sub, fs, gf6, ?_⟩ (fun j σ H' _ ⟨_, _, _, _, _, s, _⟩ => .of (s _ _ hg)) ?_ ?_⟩
        · rw [List.take_zero]
          show Paired _ _ (_ ++ [])
          rw [List.append_nil]
          exact pf.to fun _ _ q => (q.mono (same_new hX)).mono s6'
        · rintro j y σ H7 Y hj ⟨_, _, _, _, rfl, s10, fs', gf', pf'⟩ hY
          obtain ⟨e, hje, u, rfl, hu'⟩ := pair_l he hj
          have s11 := s10.atNew (o := .tup [.int (j : Nat), .ref u]) hY
          have gf11 := same_new (o := .tup [.int (j : Nat), .ref u]) hY _ _ gf'
          have pf11 := pf'.to fun _ _ (q : RowAt H7 _ _) => q.mono (same_new (o := .tup [.int (j : Nat), .ref u]) hY)
          have hu11 := s11 _ _ hu'
          have hr11 : upd H7 Y (.tup [.int (j : Nat), .ref u]) r = some (.ins v.cls dy v.fs) := (sG.trans s11) _ _ hr'
          have gk11 := (sG.trans s11) _ _ gkE
          have hji := (List.getElem?_eq_some_iff.mp hje).1
          have hch : e.2 ∈ wd.chans.map (·.name) := (es.ok e (List.mem_of_getElem? hje)).2.2
          have e64 : (rowsW wd tbl (wd.ves.take i) ++ rowsV wd i v ((look tbl v.name).take j)).length ≤ 4000 := by
            rw [List.length_append, rowsW_len]
            unfold rowsV
            rw [List.length_map, List.length_zipIdx, List.length_take]
            have : entNum tbl (wd.ves.take i) ≤ entNum tbl wd.ves := by
              unfold entNum
              rw [List.map_take]
              exact sum_take_le _ _
            omega
          -- the row is stored
          have store : ∀ {H8 : Hp} {kt : Addr}, Same (upd H7 Y (.tup [.int (j : Nat), .ref u])) H8 → H8 kt = some (.tup ((mkRow wd i v j e).key.map V.int)) → ∀ {R : Addr}, H8 R = none →
              ∀ fs2, (upd H8 R (.tup [.ref kt, .str v.name, .int (j : Nat), .int e.1, .str e.2])) fd = some (.lst fs2) → fs2 = fs' ∧ ∃ fs3, upd (upd H8 R (.tup [.ref kt, .str v.name, .int (j : Nat), .int e.1, .str e.2])) fd (.lst (fs2 ++ [.ref R])) fd = some (.lst fs3) ∧
              Paired (RowAt (upd (upd H8 R (.tup [.ref kt, .str v.name, .int (j : Nat), .int e.1, .str e.2])) fd (.lst (fs2 ++ [.ref R])))) fs3 (rowsW wd tbl (wd.ves.take i) ++ rowsV wd i v ((look tbl v.name).take (j + 1))) := by
            intro H8 kt s12 hkt R hR fs2 hf2
            have sR := same_new (o := .tup [.ref kt, .str v.name, .int (j : Nat), .int e.1, .str e.2]) hR
            have gfR := sR _ _ (s12 _ _ gf11)
            rw [gfR] at hf2
            cases hf2
            refine ⟨rfl, _, upd_same, ?_⟩
            rw [take_succ_of hje, rowsV_app, ← List.append_assoc, List.length_take, Nat.min_eq_left (Nat.le_of_lt hji)]
            refine Paired.snoc (pf11.to fun _ _ q => ((q.mono s12).mono sR).other gfR fun _ z => by cases z) (RowAt.other ?_ gfR fun _ z => by cases z)
            exact ⟨R, kt, rfl, upd_same, sR _ _ hkt⟩
          refine ⟨Y, _, rfl, .of upd_same, rfl, _, _, rfl, ?_⟩
          refine ⟨_, _, rfl, u, _, rfl, .of hu11, rfl, _, _, rfl, _, _, rfl, rfl, rfl, ?_⟩
          refine ⟨_, rfl, _, rfl, szOf rfl, fun k1 hk1 => ?_⟩
          have s12 := same_new (o := .tup [.int e.1, .int 1, .int (i : Nat), .int 0, .int 0]) hk1
          cases hB : v.isB with
          | true =>
            have hcl : v.cls = cBreaker := by unfold Ves.cls; rw [hB]
            rw [hcl] at hr11
            refine ⟨_, rfl, _, _, _, _, _, rfl, .own _, .base (.ins (s12 _ _ hr11) T.cl_Breaker T.in_Breaker.ha T.in_Breaker.hn T.in_Breaker.ht T.in_Breaker.hm), (rfl : PySem.W.kitOne _ (.ref cBreaker) (.ref cBreaker) = some true), true, rfl, iteT ?_⟩
            have dg := DGet.k (k := (Sum.inr e.2 : Key)) (s12 _ _ gk11)
            rw [rankL_get _ _ _ hch] at dg
            refine ⟨_, rfl, _, rfl, _, rfl, rk, _, rfl, dg, _, rfl, r, _, _, _, _, rfl, s12 _ _ hr11, T.cl_Breaker, T.na_Breaker_strength, v.l_strength, _, rfl, _, rfl, szOf rfl, fun k2 hk2 => ?_⟩
            have s13 := s12.trans (same_new (o := .tup [.int e.1, .int 0, .int ((rankOf e.2 0 wd.chans : Nat) : Int), .int (-v.strength), .int (i : Nat)]) hk2)
            refine ⟨_, rfl, .inl ⟨rfl, _, .of (s13 _ _ gf11)⟩, _, rfl, _, rfl, r, _, _, _, _, rfl, s13 _ _ hr11, T.cl_Breaker, T.na_Breaker_name, v.l_name, _, rfl, _, rfl, _, rfl, szOf rfl, fun R hR => ?_⟩
            have S := store s13 (kt := k2) (by rw [upd_same]; unfold mkRow; rw [hB]; rfl) hR _ (same_new hR _ _ (s13 _ _ gf11))
            refine ⟨fd, fs', _, rfl, rfl, same_new hR _ _ (s13 _ _ gf11), small64l (by rw [Paired.length pf']; omega), ?_⟩
            exact ⟨_, _, _, _, rfl, er_upd ((s11.trans s13).atNew hR), S.2⟩
          | false =>
            have hcl : v.cls = cShip := by unfold Ves.cls; rw [hB]
            rw [hcl] at hr11
            refine ⟨_, rfl, _, _, _, _, _, rfl, .own _, .base (.ins (s12 _ _ hr11) T.cl_Ship T.in_Ship.ha T.in_Ship.hn T.in_Ship.ht T.in_Ship.hm), T.k_SB, false, rfl, iteF ?_⟩
            refine ⟨_, rfl, .inl ⟨rfl, _, .of (s12 _ _ gf11)⟩, _, rfl, _, rfl, r, _, _, _, _, rfl, s12 _ _ hr11, T.cl_Ship, T.na_Ship_name, v.l_name, _, rfl, _, rfl, _, rfl, szOf rfl, fun R hR => ?_⟩
            have S := store s12 (kt := k1) (by rw [upd_same]; unfold mkRow; rw [hB]; rfl) hR _ (same_new hR _ _ (s12 _ _ gf11))
            refine ⟨fd, fs', _, rfl, rfl, same_new hR _ _ (s12 _ _ gf11), small64l (by rw [Paired.length pf']; omega), ?_⟩
            exact ⟨_, _, _, _, rfl, er_upd ((s11.trans s12).atNew hR), S.2⟩
        · rintro σ H7 ⟨_, _, _, _, rfl, s10, fs', gf', pf'⟩
          refine ⟨_, _, _, _, _, _, rfl, sG.trans s10, fs', gf', ?_⟩
          rw [ple, List.take_length] at pf'
          rw [take_succ_of hv, rowsW_app, List.length_take, Nat.min_eq_left (Nat.le_of_lt hi2)]
          exact pf'
      · rintro σ H5 ⟨_, _, _, _, _, _, rfl, s7, fs, gf, pf⟩
        rw [pl2, List.take_length] at pf
        have sH5 := fE.trans s7
        refine ⟨_, rfl, fd, fs, _, rfl, .of gf, pf, fun r h1 r' h2 e => rows_inj (fun x => (TO.ents x).rise) h1 h2 e, fun ys ts p h1 h2 h3 hp => ?_⟩
        have sp := same_new (o := .lst ys) hp
        have lts : ts.length ≤ 64 := by
          have := h1.length_eq
          rw [rowsW_len] at this
          omega
        have lys := Paired.length h3
        refine ⟨p, rfl, ⟨_, .of upd_same⟩, fun D hD => lc_mapR (K := K) (R := TurnAt) (bs := ts) (fun _ _ _ _ s q => q.mono s) (fun H F ys zs v b hF ⟨t, e, g⟩ => ⟨t, e, tup_lst hF _ _ g⟩) upd_same hD (by omega) lys ?_ gName_m ?_⟩
        · intro j x b H' hx hb s' Q' q
          obtain ⟨b', hb', t', kk, rfl, ht', hkk⟩ := pair_l h3 hx
          rw [hb] at hb'
          cases hb'
          exact ⟨rfl, _, rfl, 1, rfl, t', [.ref kk, .str b.name, .int b.num, .int b.hour, .str b.chan], rfl, .of (s' _ _ (sp _ _ ht')), (by show ¬ (HT.sIx 5 0 (some 1) = 0 ∧ HT.sIx 5 5 none = 5); decide), fun p hp => q _ _ (same_new hp) ⟨p, rfl, upd_same⟩⟩
        · intro H' zs s' gD pz
          exact k H' D zs ts (sH5.trans (sp.trans s')) ((sH5.trans sp).noneAt hD) gD pz ⟨h1, h2⟩
end
end Ik


namespace Ik
open PySem PySem.Spec L2
open PySem.W (Frag)
/-! ### a heap but for some places -/
def erL (F : List Addr) (H : Hp) : Hp := fun b => if b ∈ F then none else H b
theorem erL_at {F : List Addr} {H : Hp} {b : Addr} (h : b ∈ F) : erL F H b = none := if_pos h
theorem erL_ne {F : List Addr} {H : Hp} {b : Addr} (h : b ∉ F) : erL F H b = H b := if_neg h
theorem erL_sub {F : List Addr} {H : Hp} : Same (erL F H) H := fun b o e => by
  by_cases z : b ∈ F
  · rw [erL_at z] at e; cases e
  · rw [erL_ne z] at e; exact e
theorem erL_mono {F : List Addr} {H H' : Hp} (s : Same H H') : Same (erL F H) (erL F H') := fun b o e => by
  by_cases z : b ∈ F
  · rw [erL_at z] at e; cases e
  · rw [erL_ne z] at e ⊢; exact s b o e
theorem erL_lift {F : List Addr} {H H' : Hp} (s : Same (erL F H) H') : Same (erL F H) (erL F H') := fun b o e => by
  by_cases z : b ∈ F
  · rw [erL_at z] at e; cases e
  · rw [erL_ne (H := H') z]; exact s b o e
theorem erL_st {F : List Addr} {H H' : Hp} (s : Same (erL F H) H') {f : Addr} {o : HO} (h : f ∈ F) : Same (erL F H) (upd H' f o) := s.atFresh (erL_at h)
theorem erL_upd {F : List Addr} {H : Hp} {f : Addr} {o : HO} (h : f ∈ F) : erL F (upd H f o) = erL F H := by
  funext b
  by_cases z : b ∈ F
  · rw [erL_at z, erL_at z]
  · rw [erL_ne z, erL_ne z, upd_ne fun e => z (by rw [e]; exact h)]
/-! ### legs, the state of a walk -/
structure LegM where
  goes : Int
  ch : Chan
  beg : Str
structure WS where
  legs : Str → List LegM
  cuts : Str → Cuts
  wrong : List (Str × Int × Str)
  gone : List (Int × Str × Str × Str × Int)
def WS.init : WS := ⟨fun _ => [], fun _ => [], [], []⟩
def LegM.port (l : LegM) : Str := l.ch.over l.beg
def LegM.since (l : LegM) : Int := l.goes + l.ch.hours
def spotOf (wd : Wd) (v : Ves) (ls : List LegM) : Str × Int := match ls.getLast? with
  | none => (v.port, wd.from_ v)
  | some l => (l.port, l.since)
theorem paired_last {α β : Type} {F : α → β → Prop} {xs : List α} {ls : List β} (h : Paired F xs ls) {y : α} (e : xs.getLast? = some y) : ∃ l, ls.getLast? = some l ∧ F y l := by
  rw [List.getLast?_eq_getElem?] at e ⊢
  obtain ⟨l, h1, h2⟩ := pair_l h e
  exact ⟨l, by rw [← Paired.length h]; exact h1, h2⟩
def wordOf (v : Ves) (c : Chan) (hour : Int) (sp : Str × Int) (met : Int) : Option Str :=
  if hour < sp.2 then some "early" else if ¬ (sp.1 = c.one ∨ sp.1 = c.other) then some "place" else if ¬ v.draught ≤ c.depth then some "deep" else if met > v.strength then some "ice" else none
def stepW (wd : Wd) (st : WS) (v : Ves) (num hour : Int) (c : Chan) : WS :=
  match wordOf v c hour (spotOf wd v (st.legs v.name)) (c.ice (st.cuts c.name) wd.begin_ hour) with
  | some x => { st with wrong := st.wrong ++ [(v.name, num, x)] }
  | none => { st with
      gone := st.gone ++ [(hour, v.name, c.name, (spotOf wd v (st.legs v.name)).1, c.ice (st.cuts c.name) wd.begin_ hour)]
      legs := fun x => if x = v.name then st.legs x ++ [⟨hour, c, (spotOf wd v (st.legs v.name)).1⟩] else st.legs x
      cuts := if v.isB = true then fun x => if x = c.name then addCut (st.cuts x) hour v.cut else st.cuts x else st.cuts }
structure StOk (wd : Wd) (st : WS) (n : Nat) : Prop where
  ends : ∀ x, ∀ l ∈ st.legs x, l.beg = l.ch.one ∨ l.beg = l.ch.other
  cok : ∀ x, CutsOk wd.begin_ (st.cuts x)
  few : ∀ x, (st.cuts x).length ≤ n
  num : ∀ x, cutNum (st.cuts x) ≤ n
  legs : ∀ x, (st.legs x).length ≤ n
  wr : st.wrong.length ≤ n
  gn : st.gone.length ≤ n
/-! ### on the heap -/
def legF (h : Int) (q : Addr) (x : Str) : List (Str × V) := [("goes", .int h), ("through", .ref q), ("begins", .str x)]
def LegR (H : Hp) (v : V) (l : LegM) : Prop := ∃ r dx q, v = .ref r ∧ H r = some (.ins cLeg dx (legF l.goes q l.beg)) ∧ ChanAt H q l.ch
theorem LegR.mono {H H' : Hp} {v : V} {l : LegM} (h : LegR H v l) (s : Same H H') : LegR H' v l := let ⟨r, dx, q, e, g, c⟩ := h; ⟨r, dx, q, e, s _ _ g, c.mono s⟩
def WrongR (H : Hp) (v : V) (r : Str × Int × Str) : Prop := ∃ t, v = .ref t ∧ H t = some (.tup [.str r.1, .int r.2.1, .str r.2.2])
theorem WrongR.mono {H H' : Hp} {v : V} {r : Str × Int × Str} (h : WrongR H v r) (s : Same H H') : WrongR H' v r := let ⟨t, e, g⟩ := h; ⟨t, e, s _ _ g⟩
def GoneR (H : Hp) (v : V) (r : Int × Str × Str × Str × Int) : Prop := ∃ t, v = .ref t ∧ H t = some (.tup [.int r.1, .str r.2.1, .str r.2.2.1, .str r.2.2.2.1, .int r.2.2.2.2])
theorem GoneR.mono {H H' : Hp} {v : V} {r : Int × Str × Str × Str × Int} (h : GoneR H v r) (s : Same H H') : GoneR H' v r := let ⟨t, e, g⟩ := h; ⟨t, e, s _ _ g⟩
structure Sk where
  dx : Addr
  q : Addr
  D : Addr
  sea : Addr
  wr : Addr
  gn : Addr
  ls : List (Ves × Addr)
  cs : List (Chan × Addr)
def Sk.F (k : Sk) : List Addr := k.wr :: k.gn :: (k.ls.map (·.2) ++ k.cs.map (·.2))
def walkF (k : Sk) : List (Str × V) := [("of_world", .ref k.q), ("legs", .ref k.D), ("seas", .ref k.sea), ("wrong", .ref k.wr), ("gone", .ref k.gn)]
def LP (kv : Key × V) (va : Ves × Addr) : Prop := kv.1 = .inr va.1.name ∧ kv.2 = .ref va.2
theorem lp_get : ∀ {kvs : List (Key × V)} {ls : List (Ves × Addr)} {v : Ves} {a : Addr}, Paired LP kvs ls → (ls.map (·.1.name)).Nodup → (v, a) ∈ ls → valV kvs (Sum.inr v.name : Key) = some (.ref a)
  | _, _, _, _, .nil, _, h => by cases h
  | _, _, v, a, .cons (a := kv) (b := p) (l₁ := kvs) (l₂ := ls) hp ht, nd, h => by
    obtain ⟨e1, e2⟩ := hp
    rw [List.map_cons, List.nodup_cons] at nd
    rcases List.mem_cons.mp h with h | h
    · subst h
      rw [valV_pos e1, e2]
    · have ne : ¬ kv.1 = (Sum.inr v.name : Key) := by
        rw [e1]
        intro z
        exact nd.1 (List.mem_map.mpr ⟨(v, a), h, (Sum.inr.inj z).symm⟩)
      rw [valV_neg ne]
      exact lp_get ht nd.2 h
theorem lp_none {x : Str} : ∀ {kvs : List (Key × V)} {ls : List (Ves × Addr)}, Paired LP kvs ls → x ∉ ls.map (·.1.name) → valV kvs (Sum.inr x : Key) = none
  | _, _, .nil, _ => rfl
  | _, _, .cons (a := kv) (b := p) hp ht, h => by
    rw [List.map_cons, List.mem_cons, not_or] at h
    rw [valV_neg (by rw [hp.1]; exact fun z => h.1 (Sum.inr.inj z).symm)]
    exact lp_none ht h.2
structure WalkT (H : Hp) (p : Addr) (wd : Wd) (k : Sk) : Prop where
  at_ : H p = some (.ins cWalk k.dx (walkF k))
  wo : WorldAt H k.q wd
  lg : ∃ kvs, H k.D = some (.dK kvs) ∧ Paired LP kvs k.ls
  ws : WatersS H k.sea wd.begin_ k.cs
theorem WalkT.mono {H H' : Hp} {p : Addr} {wd : Wd} {k : Sk} (h : WalkT H p wd k) (s : Same H H') : WalkT H' p wd k :=
  ⟨s _ _ h.at_, h.wo.mono s, let ⟨kvs, e, g⟩ := h.lg; ⟨kvs, s _ _ e, g⟩, h.ws.mono s⟩
structure SkOk (wd : Wd) (k : Sk) : Prop where
  ok : wd.Ok
  lv : k.ls.map (·.1) = wd.ves
  cv : k.cs.map (·.1) = wd.chans
  nd : k.F.Nodup
theorem SkOk.ln {wd : Wd} {k : Sk} (h : SkOk wd k) : (k.ls.map (·.1.name)).Nodup := by
  have := h.ok.vd
  rw [← h.lv, List.map_map] at this
  exact this
theorem SkOk.cn {wd : Wd} {k : Sk} (h : SkOk wd k) : (k.cs.map (·.1.name)).Nodup := by
  have := h.ok.cd
  rw [← h.cv, List.map_map] at this
  exact this
theorem SkOk.ves {wd : Wd} {k : Sk} (h : SkOk wd k) {v : Ves} (m : v ∈ wd.ves) : ∃ a, (v, a) ∈ k.ls := by
  rw [← h.lv] at m
  obtain ⟨⟨v', a⟩, m', rfl⟩ := List.mem_map.mp m
  exact ⟨a, m'⟩
theorem SkOk.chan {wd : Wd} {k : Sk} (h : SkOk wd k) {c : Chan} (m : c ∈ wd.chans) : ∃ a, (c, a) ∈ k.cs := by
  rw [← h.cv] at m
  obtain ⟨⟨v', a⟩, m', rfl⟩ := List.mem_map.mp m
  exact ⟨a, m'⟩
theorem SkOk.vesm {wd : Wd} {k : Sk} (h : SkOk wd k) {va : Ves × Addr} (m : va ∈ k.ls) : va.1 ∈ wd.ves := by rw [← h.lv]; exact List.mem_map.mpr ⟨va, m, rfl⟩
theorem SkOk.wrF {k : Sk} : k.wr ∈ k.F := List.mem_cons_self ..
theorem SkOk.gnF {k : Sk} : k.gn ∈ k.F := List.mem_cons_of_mem _ (List.mem_cons_self ..)
theorem SkOk.lsF {k : Sk} {va : Ves × Addr} (m : va ∈ k.ls) : va.2 ∈ k.F := List.mem_cons_of_mem _ (List.mem_cons_of_mem _ (List.mem_append_left _ (List.mem_map.mpr ⟨va, m, rfl⟩)))
theorem SkOk.csF {k : Sk} {ca : Chan × Addr} (m : ca ∈ k.cs) : ca.2 ∈ k.F := List.mem_cons_of_mem _ (List.mem_cons_of_mem _ (List.mem_append_right _ (List.mem_map.mpr ⟨ca, m, rfl⟩)))
section
variable {wd : Wd} {k : Sk}
theorem SkOk.n1 (h : SkOk wd k) : k.wr ≠ k.gn := fun z => by
  have := (List.nodup_cons.mp h.nd).1
  exact this (by rw [z]; exact List.mem_cons_self ..)
theorem SkOk.n2 (h : SkOk wd k) {va : Ves × Addr} (m : va ∈ k.ls) : k.wr ≠ va.2 := fun z => (List.nodup_cons.mp h.nd).1 (by rw [z]; exact List.mem_cons_of_mem _ (List.mem_append_left _ (List.mem_map.mpr ⟨va, m, rfl⟩)))
theorem SkOk.n3 (h : SkOk wd k) {va : Chan × Addr} (m : va ∈ k.cs) : k.wr ≠ va.2 := fun z => (List.nodup_cons.mp h.nd).1 (by rw [z]; exact List.mem_cons_of_mem _ (List.mem_append_right _ (List.mem_map.mpr ⟨va, m, rfl⟩)))
theorem SkOk.n4 (h : SkOk wd k) {va : Ves × Addr} (m : va ∈ k.ls) : k.gn ≠ va.2 := fun z => (List.nodup_cons.mp (List.nodup_cons.mp h.nd).2).1 (by rw [z]; exact (List.mem_append_left _ (List.mem_map.mpr ⟨va, m, rfl⟩)))
theorem SkOk.n5 (h : SkOk wd k) {va : Chan × Addr} (m : va ∈ k.cs) : k.gn ≠ va.2 := fun z => (List.nodup_cons.mp (List.nodup_cons.mp h.nd).2).1 (by rw [z]; exact (List.mem_append_right _ (List.mem_map.mpr ⟨va, m, rfl⟩)))
theorem SkOk.n6 (h : SkOk wd k) {va : Ves × Addr} {ca : Chan × Addr} (m : va ∈ k.ls) (m' : ca ∈ k.cs) : va.2 ≠ ca.2 :=
  (List.nodup_append.mp (List.nodup_cons.mp (List.nodup_cons.mp h.nd).2).2).2.2 _ (List.mem_map.mpr ⟨va, m, rfl⟩) _ (List.mem_map.mpr ⟨ca, m', rfl⟩)
theorem nodup_map_inj {α β : Type} {f : α → β} {l : List α} (nd : (l.map f).Nodup) {a b : α} (ha : a ∈ l) (hb : b ∈ l) (e : f a = f b) : a = b := by
  obtain ⟨i, hi, rfl⟩ := List.mem_iff_getElem.mp ha
  obtain ⟨j, hj, rfl⟩ := List.mem_iff_getElem.mp hb
  rcases Nat.lt_trichotomy i j with h | h | h
  · exact absurd (by rw [List.getElem_map, List.getElem_map]; exact e) (List.pairwise_iff_getElem.mp nd i j (by rw [List.length_map]; exact hi) (by rw [List.length_map]; exact hj) h)
  · subst h; rfl
  · exact absurd (by rw [List.getElem_map, List.getElem_map]; exact e.symm) (List.pairwise_iff_getElem.mp nd j i (by rw [List.length_map]; exact hj) (by rw [List.length_map]; exact hi) h)
theorem SkOk.n7 (h : SkOk wd k) {va vb : Ves × Addr} (m : va ∈ k.ls) (m' : vb ∈ k.ls) (e : va.2 = vb.2) : va = vb :=
  nodup_map_inj (List.nodup_append.mp (List.nodup_cons.mp (List.nodup_cons.mp h.nd).2).2).1 m m' e
theorem SkOk.n8 (h : SkOk wd k) {va vb : Chan × Addr} (m : va ∈ k.cs) (m' : vb ∈ k.cs) (e : va.2 = vb.2) : va = vb :=
  nodup_map_inj (List.nodup_append.mp (List.nodup_cons.mp (List.nodup_cons.mp h.nd).2).2).2.1 m m' e
end
structure WalkS (H : Hp) (p : Addr) (wd : Wd) (k : Sk) (st : WS) : Prop where
  stt : WalkT (erL k.F H) p wd k
  wr : ∃ xs, H k.wr = some (.lst xs) ∧ Paired (WrongR (erL k.F H)) xs st.wrong
  gn : ∃ xs, H k.gn = some (.lst xs) ∧ Paired (GoneR (erL k.F H)) xs st.gone
  lg : ∀ va ∈ k.ls, ∃ xs, H va.2 = some (.lst xs) ∧ Paired (LegR (erL k.F H)) xs (st.legs va.1.name)
  ct : ∀ ca ∈ k.cs, ∃ kvs, H ca.2 = some (.dK kvs) ∧ Paired (CutP (erL k.F H)) kvs (st.cuts ca.1.name)
section
variable {H H' : Hp} {p : Addr} {wd : Wd} {k : Sk} {st : WS}
theorem WalkS.mono (h : WalkS H p wd k st) (s : Same H H') : WalkS H' p wd k st :=
  have e := erL_mono (F := k.F) s
  ⟨h.stt.mono e, let ⟨xs, g, q⟩ := h.wr; ⟨xs, s _ _ g, q.to fun _ _ r => r.mono e⟩, let ⟨xs, g, q⟩ := h.gn; ⟨xs, s _ _ g, q.to fun _ _ r => r.mono e⟩,
    fun va m => let ⟨xs, g, q⟩ := h.lg va m; ⟨xs, s _ _ g, q.to fun _ _ r => r.mono e⟩, fun ca m => let ⟨xs, g, q⟩ := h.ct ca m; ⟨xs, s _ _ g, q.to fun _ _ r => r.mono e⟩⟩
theorem WalkS.T (h : WalkS H p wd k st) : WalkT H p wd k := h.stt.mono erL_sub
theorem WalkS.cuts (h : WalkS H p wd k st) {n : Nat} (O : StOk wd st n) (hn : n < 64) {ca : Chan × Addr} (m : ca ∈ k.cs) : ∃ kvs, CutsIn H ca.2 wd.begin_ kvs (st.cuts ca.1.name) := by
  obtain ⟨kvs, g, q⟩ := h.ct ca m
  exact ⟨kvs, g, q.to fun _ _ r => r.mono erL_sub, O.cok _, Nat.lt_of_le_of_lt (O.few _) hn, Nat.lt_of_le_of_lt (O.num _) hn⟩
theorem WalkS.notF (h : WalkS H p wd k st) {b : Addr} (e : H b = none) : b ∉ k.F := fun m => by
  rcases List.mem_cons.mp m with z | m
  · obtain ⟨_, g, _⟩ := h.wr; rw [← z, e] at g; cases g
  · rcases List.mem_cons.mp m with z | m
    · obtain ⟨_, g, _⟩ := h.gn; rw [← z, e] at g; cases g
    · rcases List.mem_append.mp m with m | m
      · obtain ⟨va, m', rfl⟩ := List.mem_map.mp m
        obtain ⟨_, g, _⟩ := h.lg va m'; rw [e] at g; cases g
      · obtain ⟨va, m', rfl⟩ := List.mem_map.mp m
        obtain ⟨_, g, _⟩ := h.ct va m'; rw [e] at g; cases g
theorem WalkS.insF (h : WalkS H p wd k st) {b C dx : Addr} {fs : List (Str × V)} (e : H b = some (.ins C dx fs)) : b ∉ k.F := fun m => by
  rcases List.mem_cons.mp m with z | m
  · obtain ⟨_, g, _⟩ := h.wr; rw [← z, e] at g; cases g
  · rcases List.mem_cons.mp m with z | m
    · obtain ⟨_, g, _⟩ := h.gn; rw [← z, e] at g; cases g
    · rcases List.mem_append.mp m with m | m
      · obtain ⟨va, m', rfl⟩ := List.mem_map.mp m
        obtain ⟨_, g, _⟩ := h.lg va m'; rw [e] at g; cases g
      · obtain ⟨va, m', rfl⟩ := List.mem_map.mp m
        obtain ⟨_, g, _⟩ := h.ct va m'; rw [e] at g; cases g
theorem WalkS.addWrong (h : WalkS H p wd k st) (o : SkOk wd k) {xs : List V} (hx : H k.wr = some (.lst xs)) {y : V} {r : Str × Int × Str} (hy : WrongR (erL k.F H) y r) :
    WalkS (upd H k.wr (.lst (xs ++ [y]))) p wd k { st with wrong := st.wrong ++ [r] } := by
  obtain ⟨a, ⟨xs', g, b⟩, c, d, e⟩ := h
  rw [hx] at g
  cases g
  have ee := erL_upd (H := H) (o := .lst (xs ++ [y])) (SkOk.wrF (k := k))
  refine ⟨by rw [ee]; exact a, ⟨_, upd_same, by rw [ee]; exact Paired.snoc b hy⟩, ?_, fun va m => ?_, fun ca m => ?_⟩
  · rw [ee, upd_ne o.n1.symm]; exact c
  · rw [ee, upd_ne (o.n2 m).symm]; exact d va m
  · rw [ee, upd_ne (o.n3 m).symm]; exact e ca m
theorem WalkS.addGone (h : WalkS H p wd k st) (o : SkOk wd k) {xs : List V} (hx : H k.gn = some (.lst xs)) {y : V} {r : Int × Str × Str × Str × Int} (hy : GoneR (erL k.F H) y r) :
    WalkS (upd H k.gn (.lst (xs ++ [y]))) p wd k { st with gone := st.gone ++ [r] } := by
  obtain ⟨a, c, ⟨xs', g, b⟩, d, e⟩ := h
  rw [hx] at g
  cases g
  have ee := erL_upd (H := H) (o := .lst (xs ++ [y])) (SkOk.gnF (k := k))
  refine ⟨by rw [ee]; exact a, ?_, ⟨_, upd_same, by rw [ee]; exact Paired.snoc b hy⟩, fun va m => ?_, fun ca m => ?_⟩
  · rw [ee, upd_ne o.n1]; exact c
  · rw [ee, upd_ne (o.n4 m).symm]; exact d va m
  · rw [ee, upd_ne (o.n5 m).symm]; exact e ca m
theorem WalkS.addLeg (h : WalkS H p wd k st) (o : SkOk wd k) {v : Ves} {a : Addr} (m : (v, a) ∈ k.ls) {xs : List V} (hx : H a = some (.lst xs)) {y : V} {r : LegM} (hy : LegR (erL k.F H) y r) :
    WalkS (upd H a (.lst (xs ++ [y]))) p wd k { st with legs := fun x => if x = v.name then st.legs x ++ [r] else st.legs x } := by
  obtain ⟨b, c, g, d, e⟩ := h
  have ee := erL_upd (H := H) (o := .lst (xs ++ [y])) (SkOk.lsF m)
  refine ⟨by rw [ee]; exact b, ?_, ?_, fun va m' => ?_, fun ca m' => ?_⟩
  · rw [ee, upd_ne (o.n2 m)]; exact c
  · rw [ee, upd_ne (o.n4 m)]; exact g
  · by_cases z : va.2 = a
    · obtain rfl := o.n7 m' m z
      obtain ⟨xs', g1, g2⟩ := d _ m'
      rw [hx] at g1
      cases g1
      refine ⟨_, upd_same, ?_⟩
      show Paired _ _ (if v.name = v.name then _ else _)
      rw [if_pos rfl, ee]
      exact Paired.snoc g2 hy
    · have nn : va.1.name ≠ v.name := fun q => z (by
        have := nodup_map_inj o.ln m' m q
        rw [this])
      show ∃ xs', _ ∧ Paired _ _ (if va.1.name = v.name then _ else _)
      rw [if_neg nn, ee, upd_ne z]
      exact d va m'
  · rw [ee, upd_ne (o.n6 m m').symm]; exact e ca m'
theorem WalkS.addCut (h : WalkS H p wd k st) (o : SkOk wd k) {c : Chan} {d l : Addr} (m : (c, d) ∈ k.cs) {hour x : Int} {kvs : List (Key × V)} (hd : H d = some (.dK kvs)) (hl : H l = none) (bu : But d H H')
    (gd : H' d = some (.dK (putK kvs (Sum.inl hour) (.ref l)))) (gl : H' l = some (.lst ((cutsAt (st.cuts c.name) hour ++ [x]).map V.int))) :
    WalkS H' p wd k { st with cuts := fun y => if y = c.name then Ik.addCut (st.cuts y) hour x else st.cuts y } := by
  have nF := h.notF hl
  obtain ⟨b, w, g, lg, ct⟩ := h
  have ee : Same (erL k.F H) (erL k.F H') := fun b u e => by
    by_cases z : b ∈ k.F
    · rw [erL_at z] at e; cases e
    · rw [erL_ne z] at e ⊢
      exact bu b u e fun q => z (by rw [q]; exact SkOk.csF m)
  refine ⟨b.mono ee, ?_, ?_, fun va m' => ?_, fun ca m' => ?_⟩
  · obtain ⟨xs, g, q⟩ := w
    exact ⟨xs, bu _ _ g (o.n3 m), q.to fun _ _ r => r.mono ee⟩
  · obtain ⟨xs, g, q⟩ := g
    exact ⟨xs, bu _ _ g (o.n5 m), q.to fun _ _ r => r.mono ee⟩
  · obtain ⟨xs, g, q⟩ := lg va m'
    exact ⟨xs, bu _ _ g (o.n6 m' m), q.to fun _ _ r => r.mono ee⟩
  · obtain ⟨ks, g, q⟩ := ct ca m'
    by_cases z : ca.2 = d
    · obtain rfl := o.n8 m' m z
      rw [hd] at g
      cases g
      refine ⟨_, gd, ?_⟩
      show Paired _ _ (if c.name = c.name then _ else _)
      rw [if_pos rfl]
      exact cut_put q ee (by rw [erL_ne nF]; exact gl)
    · have nn : ca.1.name ≠ c.name := fun q => z (by
        have := nodup_map_inj o.cn m' m q
        rw [this])
      refine ⟨ks, bu _ _ g z, ?_⟩
      show Paired _ _ (if ca.1.name = c.name then _ else _)
      rw [if_neg nn]
      exact q.to fun _ _ r => r.mono ee
end
/-! ### promises -/
def sp_Leg_init : Sp := fun vs H Q _ => ∃ (p dx q : Addr) (h : Int) (x : Str), vs = [.ref p, .int h, .ref q, .str x] ∧ H p = some (.ins cLeg dx []) ∧ ∀ H', (∀ b, b ≠ p → H' b = H b) → H' p = some (.ins cLeg dx (legF h q x)) → Q .non H'
def sp_Leg_arrives : Sp := fun vs H Q _ => ∃ (p : Addr) (l : LegM), vs = [.ref p] ∧ LegR H (.ref p) l ∧ Q (.int l.since) H
def sp_Leg_lands : Sp := fun vs H Q _ => ∃ (p : Addr) (l : LegM), vs = [.ref p] ∧ LegR H (.ref p) l ∧ (l.beg = l.ch.one ∨ l.beg = l.ch.other) ∧ Q (.str l.port) H
def sp_at_end : Sp := fun vs H Q _ => ∃ (p : Addr) (wd : Wd) (k : Sk) (st : WS) (n : Nat) (v : Ves), vs = [.ref p, .str v.name] ∧ WalkS H p wd k st ∧ SkOk wd k ∧ StOk wd st n ∧ v ∈ wd.ves ∧
  ∀ H' t, Same H H' → H' t = some (.tup [.str (spotOf wd v (st.legs v.name)).1, .int (spotOf wd v (st.legs v.name)).2]) → Q (.ref t) H'
def optV : Option Str → V
  | none => .non
  | some x => .str x
def sp_word_for : Sp := fun vs H Q _ => ∃ (p a q : Addr) (wd : Wd) (k : Sk) (st : WS) (n : Nat) (v : Ves) (c : Chan) (hour met : Int), vs = [.ref p, .ref a, .int hour, .ref q, .int met] ∧ WalkS H p wd k st ∧ SkOk wd k ∧ StOk wd st n ∧ v ∈ wd.ves ∧ VesAt H a v ∧ ChanAt H q c ∧
  ∀ H', Same H H' → Q (optV (wordOf v c hour (spotOf wd v (st.legs v.name)) met)) H'
def sp_faults : Sp := fun vs H Q _ => ∃ (p : Addr) (wd : Wd) (k : Sk) (st : WS), vs = [.ref p] ∧ WalkS H p wd k st ∧ ∀ l xs, H l = none → Paired (WrongR H) xs st.wrong → Q (.ref l) (upd H l (.lst xs))
def DoneAt (H : Hp) (p : Addr) (g : List (Int × Str × Str × Str × Int)) : Prop := ∃ k xs, H p = some (.ins cWalk k.dx (walkF k)) ∧ H k.gn = some (.lst xs) ∧ Paired (GoneR H) xs g
theorem DoneAt.mono {H H' : Hp} {p : Addr} {g : List (Int × Str × Str × Str × Int)} (h : DoneAt H p g) (s : Same H H') : DoneAt H' p g := let ⟨k, xs, a, b, c⟩ := h; ⟨k, xs, s _ _ a, s _ _ b, c.to fun _ _ q => q.mono s⟩
theorem WalkS.done {H : Hp} {p : Addr} {wd : Wd} {k : Sk} {st : WS} (S : WalkS H p wd k st) : DoneAt H p st.gone := let ⟨xs, g, pr⟩ := S.gn; ⟨k, xs, S.T.at_, g, pr.to fun _ _ q => q.mono erL_sub⟩
def sp_done : Sp := fun vs H Q _ => ∃ (p : Addr) (g : List (Int × Str × Str × Str × Int)), vs = [.ref p] ∧ DoneAt H p g ∧ ∀ l xs, H l = none → Paired (GoneR H) xs g → Q (.ref l) (upd H l (.lst xs))
def Z_Leg_init : Scope := { kind := .function, names := [("self", .local), ("hour", .local), ("channel", .local), ("start", .local)], isGenerator := false, isCoroutine := false, more := (defScope S_Leg_init).more }
abbrev N_Leg_init : List Str := ["self", "hour", "channel", "start"]
abbrev P_Leg_init : List Str := ["self", "hour", "channel", "start"]
theorem sc_Leg_init : FnScope N_Leg_init P_Leg_init Z_Leg_init := ⟨rfl, rfl, rfl, by decide +kernel, rfl, by decide +kernel, by decide +kernel⟩
theorem sz_Leg_init : defScope S_Leg_init = Z_Leg_init := rfl
def Z_Leg_arrives : Scope := { kind := .function, names := [("self", .local)], isGenerator := false, isCoroutine := false, more := (defScope S_Leg_arrives).more }
abbrev N_Leg_arrives : List Str := ["self"]
abbrev P_Leg_arrives : List Str := ["self"]
theorem sc_Leg_arrives : FnScope N_Leg_arrives P_Leg_arrives Z_Leg_arrives := ⟨rfl, rfl, rfl, by decide +kernel, rfl, by decide +kernel, by decide +kernel⟩
theorem sz_Leg_arrives : defScope S_Leg_arrives = Z_Leg_arrives := rfl
def Z_Leg_lands : Scope := { kind := .function, names := [("self", .local)], isGenerator := false, isCoroutine := false, more := (defScope S_Leg_lands).more }
abbrev N_Leg_lands : List Str := ["self"]
abbrev P_Leg_lands : List Str := ["self"]
theorem sc_Leg_lands : FnScope N_Leg_lands P_Leg_lands Z_Leg_lands := ⟨rfl, rfl, rfl, by decide +kernel, rfl, by decide +kernel, by decide +kernel⟩
theorem sz_Leg_lands : defScope S_Leg_lands = Z_Leg_lands := rfl
def Z_Walk_at_end : Scope := { kind := .function, names := [("self", .local), ("name", .local), ("vessel", .local), ("legs", .local)], isGenerator := false, isCoroutine := false, more := (defScope S_Walk_at_end).more }
abbrev N_Walk_at_end : List Str := ["self", "name", "vessel", "legs"]
abbrev P_Walk_at_end : List Str := ["self", "name"]
theorem sc_Walk_at_end : FnScope N_Walk_at_end P_Walk_at_end Z_Walk_at_end := ⟨rfl, rfl, rfl, by decide +kernel, rfl, by decide +kernel, by decide +kernel⟩
theorem sz_Walk_at_end : defScope S_Walk_at_end = Z_Walk_at_end := rfl
def Z_Walk_word_for : Scope := { kind := .function, names := [("self", .local), ("vessel", .local), ("hour", .local), ("channel", .local), ("met", .local), ("port", .local), ("since", .local)], isGenerator := false, isCoroutine := false, more := (defScope S_Walk_word_for).more }
abbrev N_Walk_word_for : List Str := ["self", "vessel", "hour", "channel", "met", "port", "since"]
abbrev P_Walk_word_for : List Str := ["self", "vessel", "hour", "channel", "met"]
theorem sc_Walk_word_for : FnScope N_Walk_word_for P_Walk_word_for Z_Walk_word_for := ⟨rfl, rfl, rfl, by decide +kernel, rfl, by decide +kernel, by decide +kernel⟩
theorem sz_Walk_word_for : defScope S_Walk_word_for = Z_Walk_word_for := rfl
def Z_Walk_faults : Scope := { kind := .function, names := [("self", .local), ("list", .globalImplicit)], isGenerator := false, isCoroutine := false, more := (defScope S_Walk_faults).more }
abbrev N_Walk_faults : List Str := ["self"]
abbrev P_Walk_faults : List Str := ["self"]
theorem sc_Walk_faults : FnScope N_Walk_faults P_Walk_faults Z_Walk_faults := ⟨rfl, rfl, rfl, by decide +kernel, rfl, by decide +kernel, by decide +kernel⟩
theorem sz_Walk_faults : defScope S_Walk_faults = Z_Walk_faults := rfl
def Z_Walk_done : Scope := { kind := .function, names := [("self", .local), ("list", .globalImplicit)], isGenerator := false, isCoroutine := false, more := (defScope S_Walk_done).more }
abbrev N_Walk_done : List Str := ["self"]
abbrev P_Walk_done : List Str := ["self"]
theorem sc_Walk_done : FnScope N_Walk_done P_Walk_done Z_Walk_done := ⟨rfl, rfl, rfl, by decide +kernel, rfl, by decide +kernel, by decide +kernel⟩
theorem sz_Walk_done : defScope S_Walk_done = Z_Walk_done := rfl
section
variable {P : Program} {w : World} {K : Frag} {mg : Str → Option Value} {base : Heap}
theorem ok_Leg_init (T : Txt K mg) : DOk P w K mg base CX0 1 a_Leg_init P_Leg_init sp_Leg_init := by
  refine DOk.mk0 T.f_Leg_init sc_Leg_init sz_Leg_init (fun vs H Q E h => ?_) (fun cdv A outer s H vs Q E hr h => ?_)
  · obtain ⟨p, dx, q, h, x, rfl, _⟩ := h; rfl
  · obtain ⟨p, dx, q, h, x, rfl, hp, k⟩ := h
    refine ⟨_, (pss_cons (ps_fld (pv 0) (pv 1) rfl)
    (pss_cons (ps_fld (pv 0) (pv 2) rfl)
    (pss_one (ps_fld (pv 0) (pv 3) rfl)))), ?_⟩
    refine ⟨_, rfl, _, rfl, p, cLeg, dx, _, rfl, hp, T.cl_Leg, T.na_Leg_goes, szOf rfl, ?_⟩
    refine ⟨_, rfl, _, rfl, p, cLeg, dx, _, rfl, upd_same, T.cl_Leg, T.na_Leg_through, szOf rfl, ?_⟩
    refine ⟨_, rfl, _, rfl, p, cLeg, dx, _, rfl, upd_same, T.cl_Leg, T.na_Leg_begins, szOf rfl, ?_⟩
    refine k _ (fun b n => ?_) upd_same
    rw [upd_ne n, upd_ne n, upd_ne n]
theorem ok_Leg_arrives (T : Txt K mg) : DOk P w K mg base CX0 1 a_Leg_arrives P_Leg_arrives sp_Leg_arrives := by
  refine DOk.mk0 T.f_Leg_arrives sc_Leg_arrives sz_Leg_arrives (fun vs H Q E h => ?_) (fun cdv A outer s H vs Q E hr h => ?_)
  · obtain ⟨p, l, rfl, _⟩ := h; rfl
  · obtain ⟨p, l, rfl, ⟨r, dx, q, e, hp, dy, hq⟩, k⟩ := h
    cases e
    refine ⟨_, (pss_one (ps_ret (pe_op op_add (pe_fldK K (pv 0)) (pe_fldK K (pe_fldK K (pv 0)))))), ?_⟩
    exact ⟨_, rfl, p, _, _, _, _, rfl, hp, T.cl_Leg, T.na_Leg_goes, rfl, _, rfl, p, _, _, _, _, rfl, hp, T.cl_Leg, T.na_Leg_through, rfl, q, _, _, _, _, rfl, hq, T.cl_Channel, T.na_Channel_hours, rfl, _, _, rfl, rfl, k⟩
theorem ok_Leg_lands (T : Txt K mg) (D_Channel_beyond : DOk P w K mg base CX0 1 a_Channel_beyond P_Channel_beyond sp_Channel_beyond) : DOk P w K mg base CX0 2 a_Leg_lands P_Leg_lands sp_Leg_lands := by
  refine DOk.mk0 T.f_Leg_lands sc_Leg_lands sz_Leg_lands (fun vs H Q E h => ?_) (fun cdv A outer s H vs Q E hr h => ?_)
  · obtain ⟨p, l, rfl, _⟩ := h; rfl
  · obtain ⟨p, l, rfl, ⟨r, dx, q, e, hp, dy, hq⟩, he, k⟩ := h
    cases e
    refine ⟨_, (pss_one (ps_ret (pe_me D_Channel_beyond T.cl_Channel T.me_Channel_beyond hr (pe_fldK K (pv 0)) (pa_cons (pe_fldK K (pv 0)) pa_nil)))), ?_⟩
    exact ⟨_, rfl, p, _, _, _, _, rfl, hp, T.cl_Leg, T.na_Leg_through, rfl, q, dy, _, rfl, hq, rfl, _, rfl, p, _, _, _, _, rfl, hp, T.cl_Leg, T.na_Leg_begins, rfl, q, l.ch, l.beg, rfl, ⟨dy, hq⟩, he, k⟩
theorem ok_faults (T : Txt K mg) : DOk P w K mg base CX0 1 a_Walk_faults P_Walk_faults sp_faults := by
  refine DOk.mk0 T.f_Walk_faults sc_Walk_faults sz_Walk_faults (fun vs H Q E h => ?_) (fun cdv A outer s H vs Q E hr h => ?_)
  · obtain ⟨p, wd, k, st, rfl, _⟩ := h; rfl
  · obtain ⟨p, wd, k, st, rfl, S, q⟩ := h
    refine ⟨_, (pss_one (ps_ret (pe_callTy (call_listK K) (by rfl) T.z_list bt_list (pa_cons (pe_fldK K (pv 0)) pa_nil)))), ?_⟩
    obtain ⟨xs, g, pr⟩ := S.wr
    exact ⟨_, rfl, p, _, _, _, _, rfl, S.T.at_, T.cl_Walk, T.na_Walk_wrong, rfl, k.wr, xs, rfl, .inl (.of g), fun l hl => q l xs hl (pr.to fun _ _ r => r.mono erL_sub)⟩
theorem ok_done (T : Txt K mg) : DOk P w K mg base CX0 1 a_Walk_done P_Walk_done sp_done := by
  refine DOk.mk0 T.f_Walk_done sc_Walk_done sz_Walk_done (fun vs H Q E h => ?_) (fun cdv A outer s H vs Q E hr h => ?_)
  · obtain ⟨p, g, rfl, _⟩ := h; rfl
  · obtain ⟨p, g, rfl, ⟨k, xs, hp, hg, pr⟩, q⟩ := h
    refine ⟨_, (pss_one (ps_ret (pe_callTy (call_listK K) (by rfl) T.z_list bt_list (pa_cons (pe_fldK K (pv 0)) pa_nil)))), ?_⟩
    exact ⟨_, rfl, p, _, _, _, _, rfl, hp, T.cl_Walk, T.na_Walk_gone, rfl, k.gn, xs, rfl, .inl (.of hg), fun l hl => q l xs hl pr⟩
theorem ok_at_end (T : Txt K mg) (D_World_vessel : DOk P w K mg base CX0 2 a_World_vessel P_World_vessel sp_vessel) (D_World_from_hour : DOk P w K mg base CX0 1 a_World_from_hour P_World_from_hour sp_from_hour)
    (D_Leg_lands : DOk P w K mg base CX0 2 a_Leg_lands P_Leg_lands sp_Leg_lands) (D_Leg_arrives : DOk P w K mg base CX0 1 a_Leg_arrives P_Leg_arrives sp_Leg_arrives) : DOk P w K mg base CX0 3 a_Walk_at_end P_Walk_at_end sp_at_end := by
  refine DOk.mk0 T.f_Walk_at_end sc_Walk_at_end sz_Walk_at_end (fun vs H Q E h => ?_) (fun cdv A outer s H vs Q E hr h => ?_)
  · obtain ⟨p, wd, k, st, n, v, rfl, _⟩ := h; rfl
  · obtain ⟨p, wd, k, st, n, v, rfl, S, O, SO, hv, q⟩ := h
    have hu := hu_of hr
    refine ⟨_, (pss_cons (ps_set (i := 2) sc_Walk_at_end.nd rfl (Or.inl rfl) (pe_me D_World_vessel T.cl_World T.me_World_vessel hr (pe_fldK K (pv 0)) (pa_cons (pv 1) pa_nil)))
    (pss_cons (ps_set (i := 3) sc_Walk_at_end.nd rfl (Or.inl rfl) (pe_dget hu (pe_fldK K (pv 0)) (pe_fldK K (pv 2)) (fun _ _ => rfl)))
    (pss_cons (ps_if (pt_cmpR (op_eqNilK K hr) (pv 3) (pe_lst pa_nil) (nomark _)) (pss_one (ps_ret (pe_tup (pa_cons (pe_fldK K (pv 2)) (pa_cons (pe_me D_World_from_hour T.cl_World T.me_World_from_hour hr (pe_fldK K (pv 0)) (pa_cons (pv 2) pa_nil)) pa_nil))))) pss_nil)
    (pss_one (ps_ret (pe_tup (pa_cons (pe_me0 D_Leg_lands T.cl_Leg T.me_Leg_lands hr (pe_ix (ix_listK K) (pv 3) (pe_un un_neg pe_int) (fun _ _ => rfl))) (pa_cons (pe_me0 D_Leg_arrives T.cl_Leg T.me_Leg_arrives hr (pe_ix (ix_listK K) (pv 3) (pe_un un_neg pe_int) (fun _ _ => rfl))) pa_nil)))))))), ?_⟩
    obtain ⟨dw, _, _, _, _, gw, _⟩ := S.T.wo
    refine ⟨_, rfl, p, _, _, _, _, rfl, S.T.at_, T.cl_Walk, T.na_Walk_of_world, rfl, k.q, dw, _, rfl, gw, rfl, _, rfl, k.q, wd, v, rfl, S.T.wo, O.ok, hv, fun H1 r s1 hr1 => ?_⟩
    have S1 := S.mono s1
    obtain ⟨a, ha⟩ := O.ves hv
    obtain ⟨kvs, gD, pD⟩ := S1.T.lg
    have dg := DGet.k (k := (Sum.inr v.name : Key)) gD
    rw [lp_get pD O.ln ha] at dg
    obtain ⟨dr, hr2⟩ := id hr1
    refine ⟨_, rfl, p, _, _, _, _, rfl, S1.T.at_, T.cl_Walk, T.na_Walk_legs, rfl, _, rfl, r, _, _, _, _, rfl, hr2, Ves.cl T, Ves.na_name T, v.l_name, k.D, _, rfl, dg, ?_⟩
    obtain ⟨xs, ga, pa⟩ := S1.lg _ ha
    refine ⟨_, rfl, szOf rfl, fun z hz => ?_⟩
    have s2 := same_new (o := .lst []) hz
    refine ⟨a, z, xs, rfl, rfl, .of (s2 _ _ ga), .of upd_same, _, rfl, ?_⟩
    have S2 := S1.mono s2
    cases hx : xs with
    | nil =>
      have hl : st.legs v.name = [] := by
        rw [hx] at pa
        revert pa
        generalize st.legs v.name = m
        intro pa
        cases pa
        rfl
      obtain ⟨dw2, _, _, _, _, gw2, _⟩ := S2.T.wo
      refine iteT ?_
      refine ⟨_, rfl, r, _, _, _, _, rfl, s2 _ _ hr2, Ves.cl T, Ves.na_port T, v.l_port, _, rfl, p, _, _, _, _, rfl, S2.T.at_, T.cl_Walk, T.na_Walk_of_world, rfl, k.q, dw2, _, rfl, gw2, rfl, _, rfl, k.q, r, wd, v, rfl, S2.T.wo, hr1.mono s2, szOf rfl, fun t ht => ?_⟩
      refine q _ t ((s1.trans s2).atNew ht) ?_
      rw [hl, upd_same]
      rfl
    | cons y0 ys =>
      rw [← hx]
      refine ifF (by rw [hx]; rfl) ?_
      obtain ⟨y, hy⟩ : ∃ y, xs.getLast? = some y := by
        rw [hx, List.getLast?_cons]
        exact ⟨_, rfl⟩
      obtain ⟨l, hl, hyl⟩ := paired_last pa hy
      have hyl2 := (hyl.mono erL_sub).mono s2
      obtain ⟨rr, dl, ql, rfl, gl, gc⟩ := id hyl2
      have ends := SO.ends v.name l (List.mem_of_getLast? hl)
      refine ⟨_, rfl, _, rfl, a, _, _, _, rfl, rfl, .of (s2 _ _ ga), atI_getLast hy, rr, dl, _, rfl, gl, rfl, rr, l, rfl, hyl2, ends, ?_⟩
      refine ⟨_, rfl, _, rfl, a, _, _, _, rfl, rfl, .of (s2 _ _ ga), atI_getLast hy, rr, dl, _, rfl, gl, rfl, rr, l, rfl, hyl2, szOf rfl, fun t ht => ?_⟩
      refine q _ t ((s1.trans s2).atNew ht) ?_
      unfold spotOf
      rw [hl, upd_same]
end
end Ik


namespace Ik
open PySem PySem.Spec L2
open PySem.W (Frag)
theorem wordOf_none {v : Ves} {c : Chan} {hour : Int} {sp : Str × Int} {met : Int} : wordOf v c hour sp met = none ↔ sp.2 ≤ hour ∧ (sp.1 = c.one ∨ sp.1 = c.other) ∧ v.draught ≤ c.depth ∧ met ≤ v.strength := by
  unfold wordOf
  by_cases h1 : hour < sp.2
  · rw [if_pos h1]
    exact ⟨(fun z => by cases z), fun z => absurd z.1 (by omega)⟩
  rw [if_neg h1]
  by_cases h2 : sp.1 = c.one ∨ sp.1 = c.other
  · rw [if_neg (fun z => z h2)]
    by_cases h3 : v.draught ≤ c.depth
    · rw [if_neg (fun z => z h3)]
      by_cases h4 : met > v.strength
      · rw [if_pos h4]
        exact ⟨(fun z => by cases z), fun z => absurd z.2.2.2 (by omega)⟩
      · rw [if_neg h4]
        exact ⟨fun _ => ⟨by omega, h2, h3, by omega⟩, fun _ => rfl⟩
    · rw [if_pos h3]
      exact ⟨(fun z => by cases z), fun z => absurd z.2.2.1 h3⟩
  · rw [if_pos h2]
    exact ⟨(fun z => by cases z), fun z => absurd z.2.1 h2⟩
theorem StOk.init {wd : Wd} : StOk wd WS.init 0 := ⟨fun x l h => (nomatch h), fun x => ⟨List.nodup_nil, fun p h => (nomatch h), fun p h => (nomatch h)⟩, fun _ => Nat.le_refl _, fun _ => Nat.le_refl _, fun _ => Nat.le_refl _, Nat.le_refl _, Nat.le_refl _⟩
theorem StOk.step {wd : Wd} {st : WS} {n : Nat} (O : StOk wd st n) {v : Ves} (hv : v.Ok) {num hour : Int} {c : Chan} (hb : wd.begin_ ≤ hour) : StOk wd (stepW wd st v num hour c) (n + 1) := by
  unfold stepW
  cases e : wordOf v c hour (spotOf wd v (st.legs v.name)) (c.ice (st.cuts c.name) wd.begin_ hour) with
  | some x =>
    exact ⟨O.ends, O.cok, fun x => Nat.le_succ_of_le (O.few x), fun x => Nat.le_succ_of_le (O.num x), fun x => Nat.le_succ_of_le (O.legs x), by rw [List.length_append]; exact Nat.succ_le_succ O.wr, Nat.le_succ_of_le O.gn⟩
  | none =>
    have E := (wordOf_none.mp e).2.1
    refine ⟨fun x l hl => ?_, fun x => ?_, fun x => ?_, fun x => ?_, fun x => ?_, Nat.le_succ_of_le O.wr, by rw [List.length_append]; exact Nat.succ_le_succ O.gn⟩
    · dsimp only at hl
      split at hl
      · rcases List.mem_append.mp hl with hl | hl
        · exact O.ends x l hl
        · rw [List.mem_singleton.mp hl]
          exact E
      · exact O.ends x l hl
    · dsimp only
      split
      · dsimp only
        split
        · exact addCut_ok (O.cok x) hb (Int.le_trans (by decide) (hv.c0 ‹_›))
        · exact O.cok x
      · exact O.cok x
    · dsimp only
      split
      · dsimp only
        split
        · exact Nat.le_trans (addCut_len _ _ _) (Nat.succ_le_succ (O.few x))
        · exact Nat.le_succ_of_le (O.few x)
      · exact Nat.le_succ_of_le (O.few x)
    · dsimp only
      split
      · dsimp only
        split
        · rw [cutNum_add (O.cok x).nd]
          exact Nat.succ_le_succ (O.num x)
        · exact Nat.le_succ_of_le (O.num x)
      · exact Nat.le_succ_of_le (O.num x)
    · dsimp only
      split
      · rw [List.length_append]
        exact Nat.succ_le_succ (O.legs x)
      · exact Nat.le_succ_of_le (O.legs x)
def sp_look : Sp := fun vs H Q _ => ∃ (p q : Addr) (wd : Wd) (k : Sk) (st : WS) (n : Nat) (v : Ves) (c : Chan) (num hour : Int), vs = [.ref p, .str v.name, .int num, .int hour, .ref q] ∧ WalkS H p wd k st ∧ SkOk wd k ∧ StOk wd st n ∧ n < 60 ∧ v ∈ wd.ves ∧ c ∈ wd.chans ∧
  ChanAt (erL k.F H) q c ∧ wd.begin_ ≤ hour ∧ hour ≤ 100000000 ∧ ∀ H', Same (erL k.F H) H' → WalkS H' p wd k (stepW wd st v num hour c) → Q .non H'
def Z_Walk_look : Scope := { kind := .function, names := [("self", .local), ("name", .local), ("number", .local), ("hour", .local), ("channel", .local), ("vessel", .local), ("port", .local), ("since", .local), ("met", .local), ("word", .local), ("Leg", .globalImplicit)], isGenerator := false, isCoroutine := false, more := (defScope S_Walk_look).more }
abbrev N_Walk_look : List Str := ["self", "name", "number", "hour", "channel", "vessel", "port", "since", "met", "word"]
abbrev P_Walk_look : List Str := ["self", "name", "number", "hour", "channel"]
theorem sc_Walk_look : FnScope N_Walk_look P_Walk_look Z_Walk_look := ⟨rfl, rfl, rfl, by decide +kernel, rfl, by decide +kernel, by decide +kernel⟩
theorem sz_Walk_look : defScope S_Walk_look = Z_Walk_look := rfl
section
variable {P : Program} {w : World} {K : Frag} {mg : Str → Option Value} {base : Heap}
theorem in_two {x a b : Str} : inV (V.str x) [.str a, .str b] = decide (x = a ∨ x = b) := by
  have e := inV_str x [a, b]
  rw [List.map_cons, List.map_cons, List.map_nil] at e
  rw [e]
  simp
theorem ok_word_for (T : Txt K mg) (D_Walk_at_end : DOk P w K mg base CX0 3 a_Walk_at_end P_Walk_at_end sp_at_end) (D_Channel_ends : DOk P w K mg base CX0 1 a_Channel_ends P_Channel_ends sp_Channel_ends)
    (D_Vessel_lets : DOk P w K mg base CX0 1 a_Vessel_lets P_Vessel_lets sp_Vessel_lets) : DOk P w K mg base CX0 4 a_Walk_word_for P_Walk_word_for sp_word_for := by
  refine DOk.mk0 T.f_Walk_word_for sc_Walk_word_for sz_Walk_word_for (fun vs H Q E h => ?_) (fun cdv A outer s H vs Q E hr h => ?_)
  · obtain ⟨p, a, q, wd, k, st, n, v, c, hour, met, rfl, _⟩ := h; rfl
  · obtain ⟨p, a, q, wd, k, st, n, v, c, hour, met, rfl, S, O, SO, hv, ha, hq, kk⟩ := h
    refine ⟨_, (pss_cons (ps_asg (pe_me D_Walk_at_end T.cl_Walk T.me_Walk_at_end hr (pv 0) (pa_cons (pe_fldK K (pv 1)) pa_nil)) (pg_tup rfl (pgs_cons (pg_name (i := 5) sc_Walk_word_for.nd rfl (Or.inl rfl)) (pgs_cons (pg_name (i := 6) sc_Walk_word_for.nd rfl (Or.inl rfl)) pgs_nil))))
    (pss_cons (ps_if (pt_cmpR op_lt (pv 2) (pv 6) (nomark _)) (pss_one (ps_ret pe_str)) pss_nil)
    (pss_cons (ps_if (pt_cmpR (op_notInK K) (pv 5) (pe_me0 D_Channel_ends T.cl_Channel T.me_Channel_ends hr (pv 3)) (by rfl)) (pss_one (ps_ret pe_str)) pss_nil)
    (pss_cons (ps_if (pt_not (pt_val (pe_or2 (pe_me D_Vessel_lets T.cl_Breaker T.me_Breaker_lets hr (pv 1) (pa_cons (pv 3) pa_nil)) (pe_me D_Vessel_lets T.cl_Ship T.me_Ship_lets hr (pv 1) (pa_cons (pv 3) pa_nil))))) (pss_one (ps_ret pe_str)) pss_nil)
    (pss_cons (ps_if (pt_cmpR op_gt (pv 4) (pe_fldK K (pv 1)) (nomark _)) (pss_one (ps_ret pe_str)) pss_nil)
    (pss_one (ps_ret pe_non))))))), ?_⟩
    obtain ⟨da, ga⟩ := id ha
    refine ⟨_, rfl, p, _, _, rfl, S.T.at_, rfl, _, rfl, a, _, _, _, _, rfl, ga, Ves.cl T, Ves.na_name T, v.l_name, p, wd, k, st, n, v, rfl, S, O, SO, hv, fun H1 t s1 ht => ?_⟩
    generalize spotOf wd v (st.legs v.name) = sp at ht kk
    refine ⟨t, _, rfl, .of ht, rfl, _, _, rfl, _, _, rfl, rfl, ?_⟩
    have ga1 := s1 _ _ ga
    obtain ⟨dq, gq⟩ := hq.mono s1
    unfold wordOf at kk
    refine ⟨_, rfl, _, rfl, _, _, rfl, rfl, _, rfl, ?_⟩
    by_cases h1 : hour < sp.2
    · rw [if_pos h1] at kk
      exact ifT (decT h1) (kk H1 s1)
    rw [if_neg h1] at kk
    refine ifF (decF h1) ?_
    refine ⟨_, rfl, _, rfl, q, dq, _, rfl, gq, rfl, q, c, rfl, ⟨dq, gq⟩, fun e he => ⟨e, _, rfl, .inr (.of upd_same), rfl, rfl, _, rfl, ?_⟩⟩
    have s2 := s1.atNew (o := .tup [.str c.one, .str c.other]) he
    have ga2 := same_new (o := .tup [.str c.one, .str c.other]) he _ _ ga1
    have gq2 := same_new (o := .tup [.str c.one, .str c.other]) he _ _ gq
    by_cases h2 : sp.1 = c.one ∨ sp.1 = c.other
    · rw [if_neg (fun z => z h2)] at kk
      refine ifF (by show (!inV (V.str sp.1) [.str c.one, .str c.other]) = false; rw [in_two, decide_eq_true h2]; rfl) ?_
      cases hB : v.isB with
      | true =>
        have hcl : v.cls = cBreaker := by unfold Ves.cls; rw [hB]
        have gb := ga2
        rw [hcl] at gb
        refine .inl ⟨_, rfl, a, da, _, rfl, gb, by unfold Ves.fs; rw [hB]; rfl, _, rfl, a, q, v, c, rfl, ⟨da, ga2⟩, ⟨dq, gq2⟩, _, rfl, ?_⟩
        by_cases h3 : v.draught ≤ c.depth
        · rw [if_neg (fun z => z h3)] at kk
          refine ifF (decNT h3) ?_
          refine ⟨_, rfl, _, rfl, a, _, _, _, _, rfl, ga2, Ves.cl T, Ves.na_strength T, v.l_strength, _, _, rfl, rfl, _, rfl, ?_⟩
          by_cases h4 : met > v.strength
          · rw [if_pos h4] at kk
            exact ifT (decT h4) (kk _ s2)
          · rw [if_neg h4] at kk
            exact ifF (decF h4) (kk _ s2)
        · rw [if_pos h3] at kk
          exact ifT (decNF h3) (kk _ s2)
      | false =>
        have hcl : v.cls = cShip := by unfold Ves.cls; rw [hB]
        have gb := ga2
        rw [hcl] at gb
        refine .inr ⟨_, rfl, a, da, _, rfl, gb, by unfold Ves.fs; rw [hB]; rfl, _, rfl, a, q, v, c, rfl, ⟨da, ga2⟩, ⟨dq, gq2⟩, _, rfl, ?_⟩
        by_cases h3 : v.draught ≤ c.depth
        · rw [if_neg (fun z => z h3)] at kk
          refine ifF (decNT h3) ?_
          refine ⟨_, rfl, _, rfl, a, _, _, _, _, rfl, ga2, Ves.cl T, Ves.na_strength T, v.l_strength, _, _, rfl, rfl, _, rfl, ?_⟩
          by_cases h4 : met > v.strength
          · rw [if_pos h4] at kk
            exact ifT (decT h4) (kk _ s2)
          · rw [if_neg h4] at kk
            exact ifF (decF h4) (kk _ s2)
        · rw [if_pos h3] at kk
          exact ifT (decNF h3) (kk _ s2)
    · rw [if_pos h2] at kk
      exact ifT (by show (!inV (V.str sp.1) [.str c.one, .str c.other]) = true; rw [in_two, decide_eq_false h2]; rfl) (kk _ s2)
theorem ok_look (T : Txt K mg) (D_World_vessel : DOk P w K mg base CX0 2 a_World_vessel P_World_vessel sp_vessel) (D_Walk_at_end : DOk P w K mg base CX0 3 a_Walk_at_end P_Walk_at_end sp_at_end)
    (D_Waters_thick : DOk P w K mg base CX0 5 a_Waters_thick P_Waters_thick sp_Waters_thick) (D_Walk_word_for : DOk P w K mg base CX0 4 a_Walk_word_for P_Walk_word_for sp_word_for)
    (D_Leg_init : DOk P w K mg base CX0 1 a_Leg_init P_Leg_init sp_Leg_init) (D_Breaker_thins : DOk P w K mg base CX0 1 a_Breaker_thins P_Breaker_thins sp_Breaker_thins)
    (D_Vessel_thins : DOk P w K mg base CX0 1 a_Vessel_thins P_Vessel_thins sp_Vessel_thins) (D_Waters_ice : DOk P w K mg base CX0 1 a_Waters_ice P_Waters_ice sp_Waters_ice)
    (D_Ice_break_at : DOk P w K mg base CX0 4 a_Ice_break_at P_Ice_break_at sp_break_at) : DOk P w K mg base CX0 6 a_Walk_look P_Walk_look sp_look := by
  refine DOk.mk0 T.f_Walk_look sc_Walk_look sz_Walk_look (fun vs H Q E h => ?_) (fun cdv A outer s H vs Q E hr h => ?_)
  · obtain ⟨p, q, wd, k, st, n, v, c, num, hour, rfl, _⟩ := h; rfl
  · obtain ⟨p, q, wd, k, st, n, v, c, num, hour, rfl, S, O, SO, hn, hv, hc, hqE, hb0, hb1, kk⟩ := h
    have hu := hu_of hr
    refine ⟨_, (pss_cons (ps_set (i := 5) sc_Walk_look.nd rfl (Or.inl rfl) (pe_me D_World_vessel T.cl_World T.me_World_vessel hr (pe_fldK K (pv 0)) (pa_cons (pv 1) pa_nil)))
    (pss_cons (ps_asg (pe_me D_Walk_at_end T.cl_Walk T.me_Walk_at_end hr (pv 0) (pa_cons (pv 1) pa_nil)) (pg_tup rfl (pgs_cons (pg_name (i := 6) sc_Walk_look.nd rfl (Or.inl rfl)) (pgs_cons (pg_name (i := 7) sc_Walk_look.nd rfl (Or.inl rfl)) pgs_nil))))
    (pss_cons (ps_set (i := 8) sc_Walk_look.nd rfl (Or.inl rfl) (pe_me D_Waters_thick T.cl_Waters T.me_Waters_thick hr (pe_fldK K (pv 0)) (pa_cons (pe_fldK K (pv 4)) (pa_cons (pv 3) pa_nil))))
    (pss_cons (ps_set (i := 9) sc_Walk_look.nd rfl (Or.inl rfl) (pe_me D_Walk_word_for T.cl_Walk T.me_Walk_word_for hr (pv 0) (pa_cons (pv 5) (pa_cons (pv 3) (pa_cons (pv 4) (pa_cons (pv 8) pa_nil))))))
    (pss_cons (ps_if (pt_cmpR op_notN (pv 9) pe_non (nomark _)) (pss_cons (ps_expr (pe_bm PySem.F.plainAttrs_list PySem.F.slot_list_append PySem.F.type_list_append mt_append (pe_fldK K (pv 0)) (pa_cons (pe_tup (pa_cons (pv 1) (pa_cons (pv 2) (pa_cons (pv 9) pa_nil)))) pa_nil)))
    (pss_one ps_retN)) pss_nil)
    (pss_cons (ps_expr (pe_bm PySem.F.plainAttrs_list PySem.F.slot_list_append PySem.F.type_list_append mt_append (pe_fldK K (pv 0)) (pa_cons (pe_tup (pa_cons (pv 3) (pa_cons (pv 1) (pa_cons (pe_fldK K (pv 4)) (pa_cons (pv 6) (pa_cons (pv 8) pa_nil)))))) pa_nil)))
    (pss_cons (ps_expr (pe_bm PySem.F.plainAttrs_list PySem.F.slot_list_append PySem.F.type_list_append mt_append (pe_dget hu (pe_fldK K (pv 0)) (pv 1) (fun _ _ => rfl)) (pa_cons (pe_mkc D_Leg_init T.mk_Leg T.g_Leg hr (pa_cons (pv 3) (pa_cons (pv 4) (pa_cons (pv 6) pa_nil)))) pa_nil)))
    (pss_one (ps_if (pt_cmpR op_gt (pe_or2 (pe_me0 D_Breaker_thins T.cl_Breaker T.me_Breaker_thins hr (pv 5)) (pe_me0 D_Vessel_thins T.cl_Ship T.me_Ship_thins hr (pv 5))) pe_int (nomark _)) (pss_one (ps_expr (pe_me D_Ice_break_at T.cl_Ice T.me_Ice_break_at hr (pe_me D_Waters_ice T.cl_Waters T.me_Waters_ice hr (pe_fldK K (pv 0)) (pa_cons (pe_fldK K (pv 4)) pa_nil)) (pa_cons (pv 3) (pa_cons (pe_or2 (pe_me0 D_Breaker_thins T.cl_Breaker T.me_Breaker_thins hr (pv 5)) (pe_me0 D_Vessel_thins T.cl_Ship T.me_Ship_thins hr (pv 5))) pa_nil))))) pss_nil))))))))), ?_⟩
    obtain ⟨d, hd⟩ := O.chan hc
    obtain ⟨a, ha⟩ := O.ves hv
    have cok := O.ok.cn c hc
    have vok := (O.ok.vn hv).1
    have hq := hqE.mono erL_sub
    obtain ⟨dw, _, _, _, _, gw, _⟩ := S.T.wo
    refine ⟨_, rfl, p, _, _, _, _, rfl, S.T.at_, T.cl_Walk, T.na_Walk_of_world, rfl, k.q, dw, _, rfl, gw, rfl, _, rfl, k.q, wd, v, rfl, S.T.wo, O.ok, hv, fun H1 r s1 hr1 => ?_⟩
    have S1 := S.mono s1
    refine ⟨_, rfl, p, _, _, rfl, S1.T.at_, rfl, _, rfl, p, wd, k, st, n, v, rfl, S1, O, SO, hv, fun H2 t s2 ht => ?_⟩
    have S2 := S1.mono s2
    have hr2 := hr1.mono s2
    have s12 := s1.trans s2
    obtain ⟨dq, gq2⟩ := hq.mono s12
    refine ⟨t, _, rfl, .of ht, rfl, _, _, rfl, _, _, rfl, rfl, ?_⟩
    obtain ⟨ds, qs, Ds, ks, gs, _⟩ := id S2.T.ws
    obtain ⟨kvs, C2⟩ := S2.cuts SO (by omega) hd
    refine ⟨_, rfl, p, _, _, _, _, rfl, S2.T.at_, T.cl_Walk, T.na_Walk_seas, rfl, k.sea, ds, _, rfl, gs, rfl, _, rfl, q, _, _, _, _, rfl, gq2, T.cl_Channel, T.na_Channel_name, rfl, _, rfl, k.sea, d, wd.begin_, hour, k.cs, c, kvs, _, rfl, S2.T.ws, O.cn, hd, cok, C2, hb0, by omega, fun H3 s3 => ?_⟩
    have S3 := S2.mono s3
    have hr3 := hr2.mono s3
    have s13 := s12.trans s3
    refine ⟨_, rfl, p, _, _, rfl, S3.T.at_, rfl, _, rfl, _, rfl, _, rfl, _, rfl, p, r, q, wd, k, st, n, v, c, hour, _, rfl, S3, O, SO, hv, hr3, hq.mono s13, fun H4 s4 => ?_⟩
    have S4 := S3.mono s4
    have s14 := s13.trans s4
    have hr4 := hr3.mono s4
    unfold stepW at kk
    refine ⟨_, rfl, ?_⟩
    cases e : wordOf v c hour (spotOf wd v (st.legs v.name)) (c.ice (st.cuts c.name) wd.begin_ hour) with
    | some x =>
      rw [e] at kk
      refine ⟨rfl, _, rfl, iteT ?_⟩
      obtain ⟨xs, gw4, pw4⟩ := S4.wr
      refine ⟨_, rfl, p, _, _, _, _, rfl, S4.T.at_, T.cl_Walk, T.na_Walk_wrong, rfl, .inl ⟨rfl, _, .of gw4⟩, _, rfl, _, rfl, _, rfl, szOf rfl, fun t2 ht2 => ?_⟩
      have s5 := same_new (o := .tup [.str v.name, .int num, .str x]) ht2
      have S5 := S4.mono s5
      have lx := Paired.length pw4
      have := SO.wr
      refine ⟨k.wr, xs, _, rfl, rfl, s5 _ _ gw4, small64l (by omega), ?_⟩
      refine kk _ ?_ (S5.addWrong O (s5 _ _ gw4) ⟨t2, rfl, ?_⟩)
      · exact erL_st ((erL_mono (F := k.F) (s14.trans s5)).trans erL_sub) SkOk.wrF
      · rw [erL_ne (S4.notF ht2), upd_same]
    | none =>
      rw [e] at kk
      refine ⟨rfl, _, rfl, iteF ?_⟩
      obtain ⟨gs4, gg4, pg4⟩ := S4.gn
      obtain ⟨dq4, gq4⟩ := hq.mono s14
      refine ⟨_, rfl, p, _, _, _, _, rfl, S4.T.at_, T.cl_Walk, T.na_Walk_gone, rfl, .inl ⟨rfl, _, .of gg4⟩, _, rfl, _, rfl, _, rfl, q, _, _, _, _, rfl, gq4, T.cl_Channel, T.na_Channel_name, rfl, _, rfl, _, rfl, szOf rfl, fun t2 ht2 => ?_⟩
      generalize hsp : (spotOf wd v (st.legs v.name)).1 = port at kk ht2 ⊢
      generalize hmet : c.ice (st.cuts c.name) wd.begin_ hour = met at kk ht2 ⊢
      have s5 := same_new (o := .tup [.int hour, .str v.name, .str c.name, .str port, .int met]) ht2
      have S5 := S4.mono s5
      have lx := Paired.length pg4
      have := SO.gn
      refine ⟨k.gn, gs4, _, rfl, rfl, s5 _ _ gg4, small64l (by omega), ?_⟩
      have S6 := S5.addGone O (s5 _ _ gg4) (y := .ref t2) (r := (hour, v.name, c.name, port, met)) ⟨t2, rfl, by rw [erL_ne (S4.notF ht2), upd_same]⟩
      generalize hH6 : upd _ k.gn _ = H6 at S6 ⊢
      have e6 : Same (erL k.F H) H6 := by
        rw [← hH6]
        exact erL_st ((erL_mono (F := k.F) (s14.trans s5)).trans erL_sub) SkOk.gnF
      have e46 : ∀ b o, H4 b = some o → b ∉ k.F → H6 b = some o := fun b o e m => by
        rw [← hH6, upd_ne fun y => m (by rw [y]; exact SkOk.gnF)]; exact s5 b o e
      obtain ⟨xl, gl6, pl6⟩ := S6.lg _ ha
      obtain ⟨kD, gD6, pD6⟩ := S6.T.lg
      have dg := DGet.k (k := (Sum.inr v.name : Key)) gD6
      rw [lp_get pD6 O.ln ha] at dg
      refine ⟨_, rfl, p, _, _, _, _, rfl, S6.T.at_, T.cl_Walk, T.na_Walk_legs, rfl, _, rfl, k.D, _, rfl, dg, .inl ⟨rfl, _, .of gl6⟩, _, rfl, _, rfl, _, rfl, ?_⟩
      intro x dz hx hdz ne
      refine ⟨x, dz, q, hour, port, rfl, upd_same, fun H8 n8 g8 => ⟨rfl, ?_⟩⟩
      have s68 : Same H6 H8 := fun b o e => by
        rw [n8 b (ne_of_none e hx)]
        exact ((same_new hdz).atFresh hx) b o e
      have S8 := S6.mono s68
      have e8 : Same (erL k.F H) H8 := e6.trans s68
      have ll := Paired.length pl6
      have := SO.legs v.name
      have ll2 : xl.length = (st.legs v.name).length := ll
      refine ⟨a, xl, _, rfl, rfl, s68 _ _ gl6, small64l (by omega), ?_⟩
      have S9 := S8.addLeg O ha (s68 _ _ gl6) (y := .ref x) (r := ⟨hour, c, port⟩) ⟨x, dz, q, rfl, by rw [erL_ne (S6.notF hx)]; exact g8, hqE.mono (erL_lift e8)⟩
      have e9 : Same (erL k.F H) (upd H8 a (.lst (xl ++ [.ref x]))) := erL_st e8 (SkOk.lsF ha)
      obtain ⟨dr, gr4⟩ := id hr4
      have rF := S4.insF gr4
      have hr9 : upd H8 a (.lst (xl ++ [.ref x])) r = some (.ins v.cls dr v.fs) := by
        rw [upd_ne fun y => rF (by rw [y]; exact SkOk.lsF ha)]
        exact s68 _ _ (e46 _ _ gr4 rF)
      generalize upd H8 a (.lst (xl ++ [.ref x])) = H9 at S9 e9 hr9 ⊢
      cases hB : v.isB with
      | false =>
        rw [hB] at kk
        have hcl : v.cls = cShip := by unfold Ves.cls; rw [hB]
        have gb := hr9
        rw [hcl] at gb
        refine .inr ⟨_, rfl, r, dr, _, rfl, gb, by unfold Ves.fs; rw [hB]; rfl, r, rfl, _, _, rfl, rfl, _, rfl, iteF ?_⟩
        exact kk H9 e9 S9
      | true =>
        rw [hB] at kk
        have hcl : v.cls = cBreaker := by unfold Ves.cls; rw [hB]
        have gb := hr9
        rw [hcl] at gb
        have c0 := vok.c0 hB
        refine .inl ⟨_, rfl, r, dr, _, rfl, gb, by unfold Ves.fs; rw [hB]; rfl, r, v, rfl, hB, ⟨dr, hr9⟩, _, _, rfl, rfl, _, rfl, ifT (decT (by omega)) ?_⟩
        obtain ⟨ds9, qs9, Ds9, ks9, gs9, _⟩ := id S9.T.ws
        obtain ⟨dq9, gq9⟩ := hqE.mono e9
        refine ⟨_, rfl, p, _, _, _, _, rfl, S9.T.at_, T.cl_Walk, T.na_Walk_seas, rfl, k.sea, ds9, _, rfl, gs9, rfl, _, rfl, q, _, _, _, _, rfl, gq9, T.cl_Channel, T.na_Channel_name, rfl, k.sea, d, wd.begin_, k.cs, c, rfl, S9.T.ws, O.cn, hd, fun i hi => ?_⟩
        obtain ⟨kv9, g9, p9⟩ := S9.ct _ hd
        have C9 : CutsIn H9 d wd.begin_ kv9 (st.cuts c.name) := ⟨g9, p9.to fun _ _ r => r.mono erL_sub, SO.cok _, Nat.lt_of_le_of_lt (SO.few _) (by omega), Nat.lt_of_le_of_lt (SO.num _) (by omega)⟩
        obtain ⟨di, qi, gi, _⟩ := id hi
        refine ⟨i, di, _, rfl, gi, rfl, _, rfl, .inl ⟨_, rfl, r, dr, _, rfl, gb, by unfold Ves.fs; rw [hB]; rfl, r, v, rfl, hB, ⟨dr, hr9⟩, i, d, c, wd.begin_, hour, v.cut, kv9, _, rfl, hi, C9, hb0, hb1, c0, vok.c1 hB, fun l H' hl bu gd gl => ?_⟩⟩
        refine kk H' (fun b o e => ?_) (S9.addCut O hd g9 hl bu gd gl)
        exact bu b o (e9 b o e) fun y => by rw [y, erL_at (SkOk.csF hd)] at e; cases e
end
end Ik


namespace Ik
open PySem PySem.Spec L2
open PySem.W (Frag)
/-! ### defs that raise -/
theorem DOk.mkX {P : Program} {w : World} {K : Frag} {mg : Str → Option Value} {base : Heap} {x qual : Str} {st : Stmt} {f : Addr} {N ps : List Str} {k : Nat} {sp : Sp} {sc : Scope}
    (F : ∃ fd, Fun K x qual st f fd ∧ Binds K fd ps []) (S : FnScope N ps sc) (hz : defScope st = sc) (len : ∀ vs H Q E, sp vs H Q E → vs.length = ps.length)
    (hbody : ∀ (cdv : Value) (A : Around) (outer : List Env) (s : Shared) (H : Hp) (vs : List V) (Q : VK) (E : XK), Room k (A.deeper (PyProof.Rows.envOfC qual sc s.heap.objs.size f cdv)) → sp vs H Q E →
      ∃ t, PSs (cxOf (L2.CX P w) P w K mg base N qual sc f cdv A outer s H E) (defBody st) t ∧ t { nx := fun _ H' => Q .non H', rt := Q } (start N vs) H) : DOk P w K mg base (L2.CX P w) (k + 1) f ps sp := by
  subst hz
  obtain ⟨fd, F, b⟩ := F
  exact ⟨⟨fd, F.okX S len hbody, b⟩, F.kp⟩
section
variable {X : Cx} {x : Str} {p p1 p2 pos : Pos} {e : Expr} {es : List Expr} {ta : TA}
/-- C.__init__(self, ..), where the class C has it of ValueError -/
theorem pe_veinitC {C0 : Addr} {pl : Sem Bool} (c : ClsFn X.K C0 "__init__" (.builtin "ValueError.__init__")) (hm : X.mg x = some (.ref C0)) (ha : PA X (e :: es) ta) (hg : Gl X x := by rfl) (hdb : (x == ("__debug__" : Str)) = false := by decide)
    (hc : eval (.Call (.Attribute (.Name x p1) "__init__" p2) (e :: es) [] pos) X.env = (do
      let cv ← eval (.Name x p1) X.env
      standAt p2.atName
      let (fn, fst) ← holding [cv] (getMethod cv "__init__" pl)
      callWith pos fn fst (backTo pos (starEach (e :: es) X.env)) (backToKw pos (keywordEach [] X.env))) := by rfl)
    (he : starEach (e :: es) X.env = (false, eval e X.env) :: starEach es X.env := by rfl) (hpl : (backTo pos (starEach es X.env)).any (·.1) = false := by rfl) :
    PE X (.Call (.Attribute (.Name x p1) "__init__" p2) (e :: es) [] pos) (tVeI X.K ta) := by
  refine ⟨fun pins s σ H Q I h => ?_⟩
  refine PySem.W.methodCall_KW (pl := pl) (ld_glob I hg hm ?_ hdb) hc
  refine PySem.W.method_cls I.kIn c.ga (PySem.W.cls_value I.kIn c.rd c.at_ rfl ?_)
  show wpAny _ _ (callWith pos (.builtin "ValueError.__init__") [] (backTo pos (starEach (e :: es) X.env)) []) _ _ _
  refine PyProof.Rows.callWith_method1 (thn (ha.run pos pins _ σ H _ (I.tok _) h) fun us s1 ⟨vs, H1, I1, rr, a, C, ws, ev, hl, TT, ea, q⟩ => ?_) he hpl
  subst ev
  cases rr with
  | @cons _ u0 _ ur ra rw' =>
    obtain rfl : u0 = Value.ref a := ra
    refine oinit_ok TT I1 ea (by rw [← Paired.length rw', sizeLine_eq]; omega) fun s' J => ⟨.non, H1, J, rfl, q⟩
end
def tRaise (mk : St → Hp → XK → Prop) (W : WX) : TS := fun _ σ H => mk σ H fun cls d H' => W cls d σ H'
theorem ps_raiseN {X : Cx} {W : WX} {e : Expr} {t : St → Hp → XK → Prop} {pos : Pos} (hc : X.calm = true) (tk : Takes X W) (he : PMk X e t) : PS X (.Raise (some e) none pos) (tRaise t W) := L2.ps_raise hc tk he
/-! ### try .. except x as n: .. and further clauses that are never reached -/
def wAs1 (K : Frag) (c : Value) (i : Nat) (ts : Addr → Value → Option Addr → TS) (D : Ends) : WX := fun cls d σ H =>
  PySem.W.exmOne K cls c = some true ∧ ∀ a, H a = none → ts a cls d { nx := fun τ G => D.nx (τ.set i none) G, rt := D.rt, bk := fun τ G => D.bk (τ.set i none) G, ct := fun τ G => D.ct (τ.set i none) G } (σ.set i (some (.ref a))) H
theorem ps_try_as1 {X : Cx} {x n : Str} {c : Value} {i : Nat} {body suite : List Stmt} {b₀ : Stmt} {hds : List ExceptHandler} {np pos pos' : Pos} {tb : WX → TS} {ts : Addr → Value → Option Addr → TS}
    (hs : X.stack = X.env :: X.outer) (hf : X.env.frame = some X.env.locals) (hN : X.N.Nodup) (hi : X.N[i]? = some n) (hln : X.env.kindOf n = some .local) (hc : Names X x c)
    (hb : ∀ (W : WX) (pn : List (Addr × Obj)) (xe : Value → Shared → Prop), Takes (X.tr pn xe) W → PSs (X.tr pn xe) body (tb W))
    (hsu : ∀ (a : Addr) (oe : Obj) (cls : Value) (d : Option Addr) (pn : List (Addr × Obj)), Zc cls d oe → (∃ vs, oe.data = .fields vs) → PSs (X.suite a ((a, oe) :: pn)) (b₀ :: suite) (ts a cls d)) :
    PS X (.Try body (.ExceptHandler (some (.Name x np)) (some n) (b₀ :: suite) pos' :: hds) [] [] pos) (fun D σ H => tb (wAs1 X.K c i ts D) D σ H) := by
  refine ⟨fun pins s σ H D I h => ?_⟩
  have ok := I.ok
  have fr : X.A.frames = some (X.env :: X.outer) := by rw [ok.frames, hs]
  refine wpAny_Try_except ?_
  refine wpAny_mono ((hb (wAs1 X.K c i ts D) (X.pn ++ pins) (fun e t₁ => wpAny (model X.prog X.w) X.A (noteFrame e X.env) (fun _ t₂ => wpAny (model X.prog X.w) X.A (setFlight e none) (fun _ t₃ =>
    wpAny (model X.prog X.w) X.A (handleBy e X.env (.ExceptHandler (some (.Name x np)) (some n) (b₀ :: suite) pos' :: hds)) (SP X pins D) X.xe t₃) X.xe t₂) X.xe t₁) (fun u s' xx => ?_)).run [] s σ H D (I.toTry _) h) (fun f s1 sp => ?_) (fun e s1 he => he)
  · obtain ⟨a, B, sI, pins', τ, G, cls, d, rfl, J0, nb, up, sky, na, os, ag, hb1, hyes⟩ := xx
    have J : Inv X pins τ G sI := J0.ofTry ok
    have sk : Sky B (X.env :: X.outer) a (Zc cls d) X.env.locals s'.heap := hs ▸ sky
    show wpAny (model X.prog X.w) X.A (noteFrame (.ref a) X.env) _ _ _
    refine Sky.land Zc.steady fr hf sk fun h3 f3 u3 => ?_
    have J3 : Inv X pins τ G { s' with heap := h3 } := J.landed nb f3.1 (up.trans u3) os ag
    obtain ⟨oe3, vs3, he3, hz3, hd3⟩ := f3.there
    have nfr : a ∉ frs (X.env :: X.outer) := fun hm => by
      obtain ⟨_, o', e', hn⟩ := f3.2.2.1.mem hm
      rw [he3] at e'; cases e'
      exact hn _ hd3
    have nL : a ≠ X.env.locals := fun z => nfr (List.mem_filterMap.mpr ⟨X.env, List.mem_cons_self, z ▸ hf⟩)
    have nF : a ∉ X.fs := fun hm => by
      obtain ⟨e, he, q⟩ := List.mem_filterMap.mp hm
      exact nfr (List.mem_filterMap.mpr ⟨e, List.mem_cons_of_mem _ he, q⟩)
    have S3 := J3.suite he3 hd3 na nL nF
    refine wpAny_handleBy_cons (codeAny_handlers_test ?_) (by intro q; cases q)
    have LT : PySem.W.Looks (model X.prog X.w) h3 (typeOf (.ref a)) cls := fun A Q E s k q => wpAny_typeOf_ref (k _ _ he3) (hz3.1.symm ▸ q)
    have LM := PySem.W.exm_one (M := model X.prog X.w) (J3.kIn) LT hb1
    have test : ∀ {Q : Value → Shared → Prop} {E : Value → Shared → Prop}, Q c { s' with heap := h3 } → wpAny (model X.prog X.w) (X.A.mark (some (.ref a))) (eval (.Name x np) X.env) Q E { s' with heap := h3 } := fun {Q E} q => by
      rcases hc with ⟨hg, hdb, hm | ⟨hm, hv, hnn⟩⟩
      · exact ld_glob (X := X.suite a ((a, oe3) :: (X.pn ++ pins))) S3 hg hm q hdb
      · exact ld_blt (X := X.suite a ((a, oe3) :: (X.pn ++ pins))) S3 hg hm hv q hnn hdb
    refine test (LM.here ?_)
    refine codeAny_handlers_suite_as ?_
    refine HandSPX.lands_againZ f3 fun h4 f4 u4 => ?_
    have J4 : Inv X pins τ G { s' with heap := h4 } := J.landed nb f4.1 ((up.trans u3).trans u4) os ag
    obtain ⟨oe4, vs4, he4, hz4, hd4⟩ := f4.there
    refine store_ok (X := X.suite a ((a, oe4) :: (X.pn ++ pins))) (v := .ref a) (J4.suite he4 hd4 na nL nF) hN hi (.inl hln) rfl (fun s5 S5 => ?_) (.inr hln)
    refine wpAny_mono ((hsu a oe4 cls d (X.pn ++ pins) hz4 ⟨_, hd4⟩).run [] s5 _ G _ S5 (hyes a na)) (fun f s6 sp => ?_) (fun _ _ z => z.elim)
    have fin : ∀ {τ6 : St} {G6 : Hp} {Q : Shared → Prop}, Inv (X.suite a ((a, oe4) :: (X.pn ++ pins))) [] τ6 G6 s6 → (∀ s7, Inv X pins (τ6.set i none) G6 s7 → Q s7) →
        wpAny (model X.prog X.w) X.A (do bindName X.env n .none; unbindBehindTheSuite X.env n pos') (fun _ s7 => Q s7) X.xe s6 := fun {τ6 G6 Q} S6 hq => gone_ok (S6.unsuite ok) hN hi hln hq
    cases f with
    | ret u =>
      obtain ⟨v6, τ6, G6, S6, r6, q6⟩ := sp
      exact fin S6 fun s7 J7 => ⟨_, _, _, J7, r6, q6⟩
    | next => obtain ⟨τ6, G6, S6, q6⟩ := sp; exact fin S6 fun s7 J7 => ⟨_, _, J7, q6⟩
    | brk => obtain ⟨τ6, G6, S6, q6⟩ := sp; exact fin S6 fun s7 J7 => ⟨_, _, J7, q6⟩
    | cont => obtain ⟨τ6, G6, S6, q6⟩ := sp; exact fin S6 fun s7 J7 => ⟨_, _, J7, q6⟩
  · cases f with
    | ret u =>
      obtain ⟨v, τ, G, J, r, q⟩ := sp
      exact ⟨v, τ, G, J.ofTry ok, r, q⟩
    | next =>
      obtain ⟨τ, G, J, q⟩ := sp
      exact wpAny_execs_nil ⟨τ, G, J.ofTry ok, q⟩
    | brk => obtain ⟨τ, G, J, q⟩ := sp; exact ⟨τ, G, J.ofTry ok, q⟩
    | cont => obtain ⟨τ, G, J, q⟩ := sp; exact ⟨τ, G, J.ofTry ok, q⟩
/-- a call in such a body -/
theorem pe_fnS {X : Cx} {j k : Nat} {f : Addr} {ps : List Str} {sp : Sp} {x : Str} {p pos : Pos} {e : Expr} {es : List Expr} {t : TA} {W : WX} (D : DOk X.prog X.w X.K X.mg X.base (L2.CX X.prog X.w) j f ps sp) (hm : X.mg x = some (.ref f)) (hr : Room k X.A)
    (tk : Takes X W) (ha : PA X (e :: es) t) (hj : j ≤ k := by decide) (hg : Gl X x := by rfl)
    (hdb : (x == ("__debug__" : Str)) = false := by decide) (he : starEach (e :: es) X.env = (false, eval e X.env) :: starEach es X.env := by rfl) (hpl : (backTo pos (starEach es X.env)).any (·.1) = false := by rfl) :
    PE X (.Call (.Name x p) (e :: es) [] pos) (tCallS sp (WE W) t) := by
  obtain ⟨⟨fd, F, b⟩, kp⟩ := D
  exact pe_callS F (hr.mono hj) hg hm kp b (fun σ => passAt tk σ) ha hdb he hpl
end Ik


namespace Ik
open PySem PySem.Spec L2
open PySem.W (Frag)
/-! ### the whole walk, plain -/
def vesOf (wd : Wd) (x : Str) : Option Ves := wd.ves.find? fun v => decide (v.name = x)
def chanOf (wd : Wd) (x : Str) : Option Chan := wd.chans.find? fun c => decide (c.name = x)
def stepR (wd : Wd) (st : WS) (r : SRow) : WS := match vesOf wd r.name, chanOf wd r.chan with
  | some v, some c => stepW wd st v r.num r.hour c
  | _, _ => st
def walkT (wd : Wd) (ts : List SRow) : WS := ts.foldl (stepR wd) WS.init
theorem find_name {α : Type} {f : α → Str} : ∀ {l : List α} (nd : (l.map f).Nodup) {v : α}, v ∈ l → (l.find? fun u => decide (f u = f v)) = some v
  | [], _, _, h => by cases h
  | u :: l, nd, v, h => by
    rw [List.map_cons, List.nodup_cons] at nd
    rcases List.mem_cons.mp h with e | h
    · rw [← e, List.find?_cons, decide_eq_true rfl]
    · rw [List.find?_cons, decide_eq_false fun z => nd.1 (by rw [z]; exact List.mem_map.mpr ⟨v, h, rfl⟩)]
      exact find_name nd.2 h
theorem vesOf_mem {wd : Wd} (O : wd.Ok) {v : Ves} (h : v ∈ wd.ves) : vesOf wd v.name = some v := find_name O.vd h
theorem chanOf_mem {wd : Wd} (O : wd.Ok) {c : Chan} (h : c ∈ wd.chans) : chanOf wd c.name = some c := find_name O.cd h
theorem mkRow_name (wd : Wd) (ρ : Nat) (v : Ves) (n : Nat) (e : Ent) : (mkRow wd ρ v n e).name = v.name := rfl
/-- what a turn is -/
theorem turn_is {wd : Wd} {tbl : Tbl} (TO : TblOk wd tbl) {ts : List SRow} (it : IsTurns wd tbl ts) {r : SRow} (h : r ∈ ts) :
    ∃ v ∈ wd.ves, ∃ c ∈ wd.chans, r.name = v.name ∧ r.chan = c.name ∧ wd.begin_ ≤ r.hour ∧ r.hour ≤ 100000000 := by
  obtain ⟨ρ, v, n, e, h1, h2, rfl⟩ := mem_rowsW.mp (it.perm.mem_iff.mp h)
  obtain ⟨b0, b1, hc⟩ := (TO.ents v.name).ok e (List.mem_of_getElem? h2)
  obtain ⟨c, hc, e2⟩ := List.mem_map.mp hc
  exact ⟨v, List.mem_of_getElem? h1, c, hc, rfl, e2.symm, b0, b1⟩
theorem stepR_is {wd : Wd} (O : wd.Ok) {st : WS} {r : SRow} {v : Ves} {c : Chan} (hv : v ∈ wd.ves) (hc : c ∈ wd.chans) (e1 : r.name = v.name) (e2 : r.chan = c.name) : stepR wd st r = stepW wd st v r.num r.hour c := by
  unfold stepR
  rw [e1, e2, vesOf_mem O hv, chanOf_mem O hc]
theorem toldL_sub (tbl : Tbl) : ∀ vs : List Ves, ((toldL tbl vs).map (·.1)).Sublist (vs.map (·.name))
  | [] => List.Sublist.refl _
  | v :: vs => by
    rw [toldL_cons]
    split
    · exact (toldL_sub tbl vs).cons _
    · exact (toldL_sub tbl vs).cons₂ _
theorem look_none {tbl : Tbl} {x : Str} (h : x ∉ tbl.map (·.1)) : look tbl x = [] := by
  unfold look
  cases e : tbl.find? fun p => decide (p.1 = x) with
  | none => rfl
  | some p =>
    have e1 : decide (p.1 = x) = true := List.find?_some (p := fun p : Str × List Ent => decide (p.1 = x)) e
    exact absurd (List.mem_map.mpr ⟨p, List.mem_of_find?_eq_some e, of_decide_eq_true e1⟩) h
theorem TblOk.told {wd : Wd} {tbl : Tbl} (O : wd.Ok) (TO : TblOk wd tbl) : TblOk wd (toldL tbl wd.ves) := by
  refine ⟨(toldL_sub tbl wd.ves).nodup O.vd, ?_, fun p hp => ?_⟩
  · have := (toldL_sub tbl wd.ves).length_le
    rw [List.length_map, List.length_map] at this
    have := O.vl
    omega
  · obtain ⟨h1, h2⟩ := toldL_keys tbl wd.ves hp
    exact ⟨h1, h2 ▸ TO.ents p.1⟩
theorem told_num (tbl : Tbl) (vs : List Ves) : ∀ us : List Ves, (∀ v ∈ us, v ∈ vs) → entNum (toldL tbl vs) us = entNum tbl us
  | [], _ => rfl
  | v :: us, h => by
    have ih := told_num tbl vs us fun u hu => h u (List.mem_cons_of_mem _ hu)
    unfold entNum at ih ⊢
    rw [List.map_cons, List.map_cons, List.sum_cons, List.sum_cons, ih, toldL_look tbl v.name vs (List.mem_map.mpr ⟨v, h v (List.mem_cons_self ..), rfl⟩)]
/-- the table that a walk tells -/
def entsOf (ls : List LegM) : List Ent := ls.map fun l => (l.goes, l.ch.name)
def tabOf (st : WS) : List Ves → Tbl
  | [] => []
  | v :: vs => if st.legs v.name = [] then tabOf st vs else (v.name, entsOf (st.legs v.name)) :: tabOf st vs
theorem tabOf_cons (st : WS) (v : Ves) (vs : List Ves) : tabOf st (v :: vs) = if st.legs v.name = [] then tabOf st vs else (v.name, entsOf (st.legs v.name)) :: tabOf st vs := rfl
theorem tabOf_app (st : WS) : ∀ a b : List Ves, tabOf st (a ++ b) = tabOf st a ++ tabOf st b
  | [], _ => rfl
  | v :: vs, b => by
    rw [List.cons_append, tabOf_cons, tabOf_cons, tabOf_app st vs b]
    by_cases e : st.legs v.name = []
    · rw [if_pos e, if_pos e]
    · rw [if_neg e, if_neg e]; rfl
theorem tabOf_sub (st : WS) : ∀ vs : List Ves, ((tabOf st vs).map (·.1)).Sublist (vs.map (·.name))
  | [] => List.Sublist.refl _
  | v :: vs => by
    rw [tabOf_cons]
    split
    · exact (tabOf_sub st vs).cons _
    · exact (tabOf_sub st vs).cons₂ _
/-! ### promises -/
def sp_Walk_init : Sp := fun vs H Q _ => ∃ (p dx q t : Addr) (wd : Wd) (tbl : Tbl), vs = [.ref p, .ref q, .ref t] ∧ H p = some (.ins cWalk dx []) ∧ WorldAt H q wd ∧ wd.Ok ∧ TableAt H t tbl ∧ TblOk wd tbl ∧ entNum tbl wd.ves ≤ 60 ∧
  ∀ H' k ts, But p H H' → SkOk wd k → IsTurns wd (toldL tbl wd.ves) ts → WalkS H' p wd k (walkT wd ts) → StOk wd (walkT wd ts) ts.length → Q .non H'
def sp_Walk_table : Sp := fun vs H Q _ => ∃ (p : Addr) (wd : Wd) (k : Sk) (st : WS) (n : Nat), vs = [.ref p] ∧ WalkS H p wd k st ∧ SkOk wd k ∧ StOk wd st n ∧ n ≤ 64 ∧ ∀ H' f, Same H H' → TableAt H' f (tabOf st wd.ves) → Q (.ref f) H'
def faultF (r : Str × Int × Str) : List (Str × V) := [("word", .str r.2.2), ("number", .int r.2.1), ("name", .str r.1)]
def sp_Faulty_init : Sp := fun vs H Q _ => ∃ (p : Addr) (r : Str × Int × Str), vs = [.ref p, .str r.1, .int r.2.1, .str r.2.2] ∧ H p = some (exo p cFaulty none) ∧
  ∀ H' dx, H dx = none → dx ≠ p → (∀ b, b ≠ dx → b ≠ p → H' b = H b) → H' p = some (exo p cFaulty (some dx)) → H' dx = some (exd dx (faultF r)) → Q .non H'
def sp_good_walk : Sp := fun vs H Q E => ∃ (q t : Addr) (wd : Wd) (tbl : Tbl), vs = [.ref q, .ref t] ∧ WorldAt H q wd ∧ wd.Ok ∧ TableAt H t tbl ∧ TblOk wd tbl ∧ entNum tbl wd.ves ≤ 60 ∧
  (∀ H' p k ts, Same H H' → SkOk wd k → IsTurns wd (toldL tbl wd.ves) ts → WalkS H' p wd k (walkT wd ts) → (walkT wd ts).wrong = [] → Q (.ref p) H') ∧
  ∀ H' d ts r rs, Same H H' → IsTurns wd (toldL tbl wd.ves) ts → (walkT wd ts).wrong = r :: rs → H' d = some (.xd (faultF r)) → E (.ref cFaulty) (some d) H'
def Z_Walk_init : Scope := { kind := .function, names := [("self", .local), ("world", .local), ("table", .local), ("vessel", .local), ("name", .local), ("number", .local), ("hour", .local), ("channel", .local), ("Waters", .globalImplicit), ("turns_of", .globalImplicit), ("table_told", .globalImplicit)], isGenerator := false, isCoroutine := false, more := (defScope S_Walk_init).more }
abbrev N_Walk_init : List Str := ["self", "world", "table", "vessel", "name", "number", "hour", "channel"]
abbrev P_Walk_init : List Str := ["self", "world", "table"]
theorem sc_Walk_init : FnScope N_Walk_init P_Walk_init Z_Walk_init := ⟨rfl, rfl, rfl, by decide +kernel, rfl, by decide +kernel, by decide +kernel⟩
theorem sz_Walk_init : defScope S_Walk_init = Z_Walk_init := rfl
def Z_Walk_table : Scope := { kind := .function, names := [("self", .local), ("found", .local), ("name", .local), ("legs", .local)], isGenerator := false, isCoroutine := false, more := (defScope S_Walk_table).more }
abbrev N_Walk_table : List Str := ["self", "found", "name", "legs", "leg"]
abbrev P_Walk_table : List Str := ["self"]
theorem sc_Walk_table : FnScope N_Walk_table P_Walk_table Z_Walk_table := ⟨rfl, rfl, rfl, by decide +kernel, rfl, by decide +kernel, by decide +kernel⟩
theorem sz_Walk_table : defScope S_Walk_table = Z_Walk_table := rfl
def Z_Faulty_init : Scope := { kind := .function, names := [("self", .local), ("name", .local), ("number", .local), ("word", .local), ("IceError", .globalImplicit)], isGenerator := false, isCoroutine := false, more := (defScope S_Faulty_init).more }
abbrev N_Faulty_init : List Str := ["self", "name", "number", "word"]
abbrev P_Faulty_init : List Str := ["self", "name", "number", "word"]
theorem sc_Faulty_init : FnScope N_Faulty_init P_Faulty_init Z_Faulty_init := ⟨rfl, rfl, rfl, by decide +kernel, rfl, by decide +kernel, by decide +kernel⟩
theorem sz_Faulty_init : defScope S_Faulty_init = Z_Faulty_init := rfl
def Z_good_walk : Scope := { kind := .function, names := [("world", .local), ("table", .local), ("walk", .local), ("name", .local), ("number", .local), ("word", .local), ("Walk", .globalImplicit), ("Faulty", .globalImplicit)], isGenerator := false, isCoroutine := false, more := (defScope S_good_walk).more }
abbrev N_good_walk : List Str := ["world", "table", "walk", "name", "number", "word"]
abbrev P_good_walk : List Str := ["world", "table"]
theorem sc_good_walk : FnScope N_good_walk P_good_walk Z_good_walk := ⟨rfl, rfl, rfl, by decide +kernel, rfl, by decide +kernel, by decide +kernel⟩
theorem sz_good_walk : defScope S_good_walk = Z_good_walk := rfl
section
variable {P : Program} {w : World} {K : Frag} {mg : Str → Option Value} {base : Heap}
theorem ok_Faulty_init (T : Txt K mg) : DOk P w K mg base CX0 1 a_Faulty_init P_Faulty_init sp_Faulty_init := by
  refine DOk.mk0 T.f_Faulty_init sc_Faulty_init sz_Faulty_init (fun vs H Q E h => ?_) (fun cdv A outer s H vs Q E hr h => ?_)
  · obtain ⟨p, r, rfl, _⟩ := h; rfl
  · obtain ⟨p, r, rfl, hp, k⟩ := h
    refine ⟨_, (pss_cons (ps_expr (pe_veinitC T.cf_IceError T.g_IceError (pa_cons (pv 0) (pa_cons pe_str pa_nil))))
    (pss_cons (ps_ost (pv 0) (pv 1))
    (pss_cons (ps_ost (pv 0) (pv 2))
    (pss_one (ps_ost (pv 0) (pv 3)))))), ?_⟩
    refine ⟨_, rfl, p, cFaulty, _, rfl, by decide, T.ex_Faulty.ox, hp, ?_⟩
    refine ⟨_, rfl, _, rfl, p, cFaulty, rfl, T.ex_Faulty.ox, T.na_Faulty_name, .inl ⟨hp, fun dx hdx ne => ?_⟩⟩
    refine ⟨_, rfl, _, rfl, p, cFaulty, rfl, T.ex_Faulty.ox, T.na_Faulty_number, .inr ⟨dx, _, upd_same, by rw [upd_ne ne, upd_same], (by show 1 ≤ 900; decide), ?_⟩⟩
    refine ⟨_, rfl, _, rfl, p, cFaulty, rfl, T.ex_Faulty.ox, T.na_Faulty_word, .inr ⟨dx, _, by rw [upd_ne ne.symm, upd_same], upd_same, (by show 2 ≤ 900; decide), ?_⟩⟩
    refine k _ dx hdx ne (fun b n1 n2 => ?_) ?_ upd_same
    · rw [upd_ne n1, upd_ne n1, upd_ne n2, upd_ne n1]
    · rw [upd_ne ne.symm, upd_ne ne.symm, upd_same]
theorem ok_Walk_init (T : Txt K mg) (D_World_vessels : DOk P w K mg base CX0 1 a_World_vessels P_World_vessels sp_vessels) (D_Waters_init : DOk P w K mg base CX0 5 a_Waters_init P_Waters_init sp_Waters_init)
    (D_turns_of : DOk P w K mg base CX0 2 a_turns_of P_turns_of sp_turns_of) (D_table_told : DOk P w K mg base CX0 6 a_table_told P_table_told sp_table_told) (D_Walk_look : DOk P w K mg base CX0 6 a_Walk_look P_Walk_look sp_look)
    (D_World_channel : DOk P w K mg base CX0 1 a_World_channel P_World_channel sp_channel) : DOk P w K mg base CX0 7 a_Walk_init P_Walk_init sp_Walk_init := by
  refine DOk.mk0 T.f_Walk_init sc_Walk_init sz_Walk_init (fun vs H Q E h => ?_) (fun cdv A outer s H vs Q E hr h => ?_)
  · obtain ⟨p, dx, q, t, wd, tbl, rfl, _⟩ := h; rfl
  · obtain ⟨p, dx, q, t, wd, tbl, rfl, hp, W, O, TA, TO, E60, kk⟩ := h
    have hu := hu_of hr
    refine ⟨_, (pss_cons (ps_fld (pv 0) (pv 1) rfl)
    (pss_cons (ps_fld (pv 0) pe_dnewK rfl)
    (pss_cons (ps_for PassesOwn.never rfl (pi_list (pe_me0 D_World_vessels T.cl_World T.me_World_vessels hr (pv 1))) (pg_name (i := 3) sc_Walk_init.nd rfl (Or.inl rfl))
      (pss_one (ps_dput hu (pe_fldK K (pv 0)) (pe_fldK K (pv 3)) (pe_lst pa_nil) rfl)))
    (pss_cons (ps_fld (pv 0) (pe_mkc D_Waters_init T.mk_Waters T.g_Waters hr (pa_cons (pv 1) pa_nil)) rfl)
    (pss_cons (ps_fld (pv 0) (pe_lst pa_nil) rfl)
    (pss_cons (ps_fld (pv 0) (pe_lst pa_nil) rfl)
    (pss_one (ps_for PassesOwn.never rfl (pi_list (pe_fn D_turns_of T.g_turns_of hr (pa_cons (pv 1) (pa_cons (pe_fn D_table_told T.g_table_told hr (pa_cons (pv 1) (pa_cons (pv 2) pa_nil))) pa_nil)))) (pg_tup rfl (pgs_cons (pg_name (i := 4) sc_Walk_init.nd rfl (Or.inl rfl)) (pgs_cons (pg_name (i := 5) sc_Walk_init.nd rfl (Or.inl rfl)) (pgs_cons (pg_name (i := 6) sc_Walk_init.nd rfl (Or.inl rfl)) (pgs_cons (pg_name (i := 7) sc_Walk_init.nd rfl (Or.inl rfl)) pgs_nil)))))
      (pss_one (ps_expr (pe_me D_Walk_look T.cl_Walk T.me_Walk_look hr (pv 0) (pa_cons (pv 4) (pa_cons (pv 5) (pa_cons (pv 6) (pa_cons (pe_me D_World_channel T.cl_World T.me_World_channel hr (pv 1) (pa_cons (pv 7) pa_nil)) pa_nil))))))))))))))), ?_⟩
    -- the heap but for p
    have W0 : WorldAt (er p H) q wd := by
      obtain ⟨dw, lp, lc, lb, ls, e, gp, ⟨xc, gc, pc⟩, ⟨xb, gb, pb⟩, ⟨xs, gs, ps⟩⟩ := W
      have nl : ∀ {a : Addr} {ys : List V}, H a = some (.lst ys) → er p H a = some (.lst ys) := fun e => er_kind hp e fun z => by cases z
      have vr : ∀ {v : V} {c : Ves}, VesR H v c → VesR (er p H) v c := fun ⟨r, e, dy, g⟩ => ⟨r, e, dy, er_kind hp g fun z => by
        injection z with z1
        unfold Ves.cls at z1
        split at z1 <;> exact absurd z1 (by decide)⟩
      exact ⟨dw, lp, lc, lb, ls, er_kind hp e fun z => by injection z with z1; exact absurd z1 (by decide), nl gp, ⟨xc, nl gc, pc.to fun _ _ ⟨r, e, dy, g⟩ => ⟨r, e, dy, er_kind hp g fun z => by injection z with z1; exact absurd z1 (by decide)⟩⟩, ⟨xb, nl gb, pb.to fun _ _ r => vr r⟩, ⟨xs, nl gs, ps.to fun _ _ r => vr r⟩⟩
    have TA0 : TableAt (er p H) t tbl := by
      obtain ⟨kvs, e, pr⟩ := TA
      exact ⟨kvs, er_kind hp e (fun z => by cases z), pr.to fun _ _ ⟨e1, l, e2, xs, g, pg⟩ => ⟨e1, l, e2, xs, er_kind hp g (fun z => by cases z), pg.to fun _ _ ⟨u, e3, g3⟩ => ⟨u, e3, er_kind hp g3 (fun z => by cases z)⟩⟩⟩
    have s0 : Same (er p H) H := er_sub
    generalize hH0 : er p H = H0 at W0 TA0 s0
    have p0 : H0 p = none := by rw [← hH0]; exact er_at
    have fr0 : ∀ {a : Addr}, H a = none → H0 a = none := fun e => s0.noneAt e
    refine ⟨_, rfl, _, rfl, p, cWalk, dx, _, rfl, hp, T.cl_Walk, T.na_Walk_of_world, szOf rfl, ?_⟩
    have s1 : Same H0 (upd H p (.ins cWalk dx (putF "of_world" (.ref q) []))) := s0.atFresh p0
    intro D hD
    have nD : D ≠ p := (ne_of_none upd_same hD).symm
    refine ⟨_, rfl, p, cWalk, dx, _, rfl, same_new hD _ _ upd_same, T.cl_Walk, T.na_Walk_legs, szOf rfl, ?_⟩
    have s2 : Same H0 (upd (upd (upd H p (.ins cWalk dx (putF "of_world" (.ref q) []))) D (.dK [])) p (.ins cWalk dx (putF "legs" (.ref D) (putF "of_world" (.ref q) [])))) := (s1.atNew hD).atFresh p0
    have D0 : H0 D = none := s1.noneAt hD
    have gD2 : upd (upd (upd H p (.ins cWalk dx (putF "of_world" (.ref q) []))) D (.dK [])) p (.ins cWalk dx (putF "legs" (.ref D) (putF "of_world" (.ref q) []))) D = some (.dK []) := by rw [upd_ne nD, upd_same]
    have gp2 : upd (upd (upd H p (.ins cWalk dx (putF "of_world" (.ref q) []))) D (.dK [])) p (.ins cWalk dx (putF "legs" (.ref D) (putF "of_world" (.ref q) []))) p = some (.ins cWalk dx [("of_world", .ref q), ("legs", .ref D)]) := upd_same
    have bu2 : But p H (upd (upd (upd H p (.ins cWalk dx (putF "of_world" (.ref q) []))) D (.dK [])) p (.ins cWalk dx (putF "legs" (.ref D) (putF "of_world" (.ref q) [])))) := fun b o e n => by
      rw [upd_ne n, upd_ne (ne_of_none (show upd H p _ b = some o by rw [upd_ne n]; exact e) hD), upd_ne n]; exact e
    generalize upd (upd (upd H p (.ins cWalk dx (putF "of_world" (.ref q) []))) D (.dK [])) p (.ins cWalk dx (putF "legs" (.ref D) (putF "of_world" (.ref q) []))) = H2 at s2 gD2 gp2 bu2 ⊢
    obtain ⟨dw, _, _, _, _, gw, _⟩ := W0.mono s2
    refine ⟨_, rfl, q, dw, _, rfl, gw, rfl, q, wd, rfl, W0.mono s2, O, fun H3 l x3 s3 hl g3 p3 => ?_⟩
    have pl3 := Paired.length p3
    have vl := O.vl
    have gD3 := s3 _ _ gD2
    have gp3 := s3 _ _ gp2
    have g3E : er D H3 l = some (.lst x3) := er_kind gD3 g3 fun z => by cases z
    have p3E : Paired (VesR (er D H3)) x3 wd.ves := p3.to fun _ _ ⟨r, e, dy, g⟩ => ⟨r, e, dy, er_kind gD3 g fun z => by cases z⟩
    have gp3E : er D H3 p = some (.ins cWalk dx [("of_world", .ref q), ("legs", .ref D)]) := er_kind gD3 gp3 fun z => by cases z
    refine ⟨l, rfl, ⟨_, .of g3⟩, for_list (K := K) (a := l) (xs := x3) (fun i σ H' => ∃ v, σ = [some (.ref p), some (.ref q), some (.ref t), v, none, none, none, none] ∧ Same (er D H3) H' ∧
      ∃ ls kvs, H' D = some (.dK kvs) ∧ Paired LP kvs ls ∧ ls.map (·.1) = wd.ves.take i ∧ (ls.map (·.2)).Nodup ∧ ∀ va ∈ ls, er D H3 va.2 = none ∧ H' va.2 = some (.lst []))
      ⟨none, rfl, er_sub, [], [], gD3, .nil, rfl, List.nodup_nil, fun va h => (nomatch h)⟩ (fun i σ H' _ ⟨_, _, s, _⟩ => .of (s _ _ g3E)) ?_ ?_⟩
    · rintro i y σ H' hi ⟨v, rfl, s4, ls, kvs, gD, pL, el, nd, fr⟩
      obtain ⟨x, hx, r, rfl, dy, hr'⟩ := pair_l p3E hi
      have hi2 := (List.getElem?_eq_some_iff.mp hx).1
      refine ⟨szOf rfl, fun a ha => ?_⟩
      have s5 := same_new (o := .lst []) ha
      have lsl : ls.length ≤ i := by
        have := congrArg List.length el
        rw [List.length_map, List.length_take] at this
        omega
      refine ⟨_, rfl, p, _, _, _, _, rfl, (s4.trans s5) _ _ gp3E, T.cl_Walk, T.na_Walk_legs, rfl, _, rfl, r, _, _, _, _, rfl, (s4.trans s5) _ _ hr', Ves.cl T, Ves.na_name T, x.l_name, D, _, rfl, DPut.k (k := (Sum.inr x.name : Key)) (s5 _ _ gD) (by rw [Paired.length pL]; exact small64l (by omega)), ?_⟩
      have hnm : x.name ∉ ls.map (·.1.name) := by
        have e2 : ls.map (·.1.name) = (wd.ves.take i).map (·.name) := by rw [← el, List.map_map]; rfl
        rw [e2]
        exact take_fresh O.vd hx
      have nDa : a ≠ D := fun z => by rw [z, gD] at ha; cases ha
      refine ⟨_, rfl, er_upd (s4.trans s5), ls ++ [(x, a)], _, by rw [upd_same, putK_new _ (lp_none pL hnm)], Paired.snoc pL ⟨rfl, rfl⟩, ?_, ?_, ?_⟩
      · rw [List.map_append, el, take_succ_of hx]; rfl
      · rw [List.map_append, List.nodup_append]
        refine ⟨nd, by simp, ?_⟩
        intro b hb c hc z
        simp only [List.map_cons, List.map_nil, List.mem_singleton] at hc
        subst hc
        subst z
        obtain ⟨va, hva, rfl⟩ := List.mem_map.mp hb
        rw [(fr va hva).2] at ha
        cases ha
      · intro va hva
        rcases List.mem_append.mp hva with h | h
        · refine ⟨(fr va h).1, ?_⟩
          rw [upd_ne fun z => by have := (fr va h).2; rw [z, gD] at this; cases this]
          exact s5 _ _ (fr va h).2
        · rw [List.mem_singleton.mp h]
          refine ⟨s4.noneAt ha, ?_⟩
          rw [upd_ne nDa]
          exact upd_same
    · rintro σ H4 ⟨v, rfl, s4, ls, kvs, gD4, pL, el, nd, fr⟩
      rw [pl3, List.take_length] at el
      have sE : Same H0 (er D H3) := er_lift (s2.trans s3) D0
      have s04 := sE.trans s4
      have gp4 := s4 _ _ gp3E
      have bu4 : But p H H4 := fun b o e n => by
        by_cases z : b = D
        · rw [z] at e
          have : H D = none := by
            cases h : H D with
            | none => rfl
            | some o2 =>
              have e2 := s1.noneAt hD
              rw [← hH0, er_ne nD, h] at e2
              cases e2
          rw [this] at e; cases e
        · exact s4 b o (by rw [er_ne z]; exact s3 b o (bu2 b o e n))
      obtain ⟨dw4, _, _, _, _, gw4, _⟩ := W0.mono s04
      refine ⟨_, rfl, ?_⟩
      intro x dz hx hdz ne
      have sx : Same H4 (upd (upd H4 dz (.own x)) x (.ins cWaters dz [])) := (same_new hdz).atFresh hx
      refine ⟨x, dz, q, wd, rfl, upd_same, W0.mono (s04.trans sx), O, fun cs H5 bu ws ecs ndc frc => ⟨rfl, ?_⟩⟩
      have s5 : Same H4 H5 := fun b o e => bu b o (sx b o e) (ne_of_none e hx)
      have gp5 := s5 _ _ gp4
      refine ⟨_, rfl, p, cWalk, dx, _, rfl, gp5, T.cl_Walk, T.na_Walk_seas, szOf rfl, ?_⟩
      have px : x ≠ p := fun z => by rw [z, gp4] at hx; cases hx
      refine ⟨szOf rfl, fun wr hwr => ⟨_, rfl, p, cWalk, dx, _, rfl, same_new hwr _ _ upd_same, T.cl_Walk, T.na_Walk_wrong, szOf rfl, ?_⟩⟩
      have nwp : wr ≠ p := (ne_of_none upd_same hwr).symm
      have hwr5 : H5 wr = none := by rw [upd_ne nwp] at hwr; exact hwr
      refine ⟨szOf rfl, fun gn hgn => ⟨_, rfl, p, cWalk, dx, _, rfl, same_new hgn _ _ upd_same, T.cl_Walk, T.na_Walk_gone, szOf rfl, ?_⟩⟩
      have ngp : gn ≠ p := (ne_of_none upd_same hgn).symm
      have ngw : gn ≠ wr := fun z => by rw [z, upd_ne nwp, upd_same] at hgn; cases hgn
      have hgn5 : H5 gn = none := by rw [upd_ne ngp, upd_ne ngw, upd_ne ngp] at hgn; exact hgn
      generalize hH6 : upd _ p _ = H6
      have gp6 : H6 p = some (.ins cWalk dx [("of_world", .ref q), ("legs", .ref D), ("seas", .ref x), ("wrong", .ref wr), ("gone", .ref gn)]) := by rw [← hH6]; exact upd_same
      have gn6 : H6 gn = some (.lst []) := by rw [← hH6, upd_ne ngp, upd_same]
      have wr6 : H6 wr = some (.lst []) := by rw [← hH6, upd_ne nwp, upd_ne ngw.symm, upd_ne nwp, upd_same]
      have k6 : ∀ b o, H5 b = some o → b ≠ p → H6 b = some o := fun b o e n => by
        rw [← hH6, upd_ne n, upd_ne (ne_of_none e hgn5), upd_ne n, upd_ne (ne_of_none e hwr5), upd_ne n]
        exact e
      clear hH6
      -- the walk as it begins
      have ls4 : ∀ va ∈ ls, H4 va.2 = some (.lst []) := fun va h => (fr va h).2
      let k : Sk := ⟨dx, q, D, x, wr, gn, ls, cs⟩
      have kF : ∀ b, b ∈ k.F → b = wr ∨ b = gn ∨ (∃ va ∈ ls, va.2 = b) ∨ ∃ ca ∈ cs, ca.2 = b := fun b h => by
        rcases List.mem_cons.mp h with z | h
        · exact .inl z
        · rcases List.mem_cons.mp h with z | h
          · exact .inr (.inl z)
          · rcases List.mem_append.mp h with h | h
            · exact .inr (.inr (.inl (List.mem_map.mp h)))
            · exact .inr (.inr (.inr (List.mem_map.mp h)))
      have cs5 : ∀ ca ∈ cs, upd (upd H4 dz (.own x)) x (.ins cWaters dz []) ca.2 = none ∧ H5 ca.2 = some (.dK []) := fun ca h => frc _ (List.mem_map.mpr ⟨ca, h, rfl⟩)
      have kF6 : ∀ b, b ∈ k.F → H6 b = some (.lst []) ∨ H6 b = some (.dK []) := fun b h => by
        rcases kF b h with z | z | ⟨va, h, z⟩ | ⟨ca, h, z⟩
        · rw [z]; exact .inl wr6
        · rw [z]; exact .inl gn6
        · rw [← z]
          exact .inl (k6 _ _ (s5 _ _ (ls4 va h)) fun y => by have := ls4 va h; rw [y, gp4] at this; cases this)
        · rw [← z]
          exact .inr (k6 _ _ (cs5 ca h).2 fun y => by have := (cs5 ca h).2; rw [y, gp5] at this; cases this)
      have nF : ∀ {b : Addr} {o : HO}, H6 b = some o → o ≠ .lst [] → o ≠ .dK [] → b ∉ k.F := fun {b o} e n1 n2 h => by
        rcases kF6 b h with z | z
        · rw [e] at z; exact n1 (Option.some.inj z)
        · rw [e] at z; exact n2 (Option.some.inj z)
      have e6 : ∀ {b : Addr} {o : HO}, H6 b = some o → o ≠ .lst [] → o ≠ .dK [] → erL k.F H6 b = some o := fun {b o} e n1 n2 => by rw [erL_ne (nF e n1 n2)]; exact e
      have F0 : ∀ b, b ∈ k.F → H0 b = none := fun b h => by
        rcases kF b h with z | z | ⟨va, h, z⟩ | ⟨ca, h, z⟩
        · rw [z]; exact (s04.trans s5).noneAt hwr5
        · rw [z]; exact (s04.trans s5).noneAt hgn5
        · rw [← z]; exact sE.noneAt (fr va h).1
        · rw [← z]; exact s04.noneAt (sx.noneAt (cs5 ca h).1)
      have s06 : Same H0 (erL k.F H6) := fun b o e => by
        rw [erL_ne fun m => by rw [F0 b m] at e; cases e]
        exact k6 _ _ ((s04.trans s5) _ _ e) fun z => by rw [z, p0] at e; cases e
      have gD5 := s5 _ _ gD4
      have gD6 := k6 _ _ gD5 nD
      have SO : SkOk wd k := ⟨O, el, ecs, by
        show (wr :: gn :: (ls.map (·.2) ++ cs.map (·.2))).Nodup
        have present : ∀ b, b ∈ ls.map (·.2) ++ cs.map (·.2) → ∃ o, H5 b = some o := fun b h => by
          rcases List.mem_append.mp h with h | h
          · obtain ⟨va, h', rfl⟩ := List.mem_map.mp h; exact ⟨_, s5 _ _ (ls4 va h')⟩
          · obtain ⟨va, h', rfl⟩ := List.mem_map.mp h; exact ⟨_, (cs5 va h').2⟩
        refine List.nodup_cons.mpr ⟨fun h => ?_, List.nodup_cons.mpr ⟨fun h => ?_, List.nodup_append.mpr ⟨nd, ndc, fun b hb c hc z => ?_⟩⟩⟩
        · rcases List.mem_cons.mp h with z | h
          · exact ngw z.symm
          · obtain ⟨o, e⟩ := present _ h; rw [hwr5] at e; cases e
        · obtain ⟨o, e⟩ := present _ h; rw [hgn5] at e; cases e
        · obtain ⟨va, h, rfl⟩ := List.mem_map.mp hb
          obtain ⟨ca, h2, rfl⟩ := List.mem_map.mp hc
          have e1 := sx _ _ (ls4 va h)
          rw [z, (cs5 ca h2).1] at e1
          cases e1⟩
      have gD6E : erL k.F H6 D = some (.dK kvs) := by
        rw [erL_ne fun m => ?_]
        · exact gD6
        · rcases kF D m with z | z | ⟨va, h, z⟩ | ⟨ca, h, z⟩
          · rw [← z, gD5] at hwr5; cases hwr5
          · rw [← z, gD5] at hgn5; cases hgn5
          · have := ls4 va h; rw [z, gD4] at this; cases this
          · have e1 := sx _ _ gD4
            rw [← z, (cs5 ca h).1] at e1
            cases e1
      have S6 : WalkS H6 p wd k WS.init := by
        refine ⟨⟨e6 gp6 (fun z => by cases z) (fun z => by cases z), W0.mono s06, ⟨kvs, gD6E, pL⟩, ?_⟩, ⟨[], wr6, .nil⟩, ⟨[], gn6, .nil⟩, fun va h => ⟨[], ?_, .nil⟩, fun ca h => ⟨[], ?_, .nil⟩⟩
        · obtain ⟨dxw, qw, Dw, kw, e, g, pr⟩ := ws
          have insE : ∀ {b C dx : Addr} {fs : List (Str × V)}, H5 b = some (.ins C dx fs) → b ≠ p → erL k.F H6 b = some (.ins C dx fs) := fun e n => e6 (k6 _ _ e n) (fun z => by cases z) fun z => by cases z
          have np : ∀ {b C dx : Addr} {fs : List (Str × V)}, H5 b = some (.ins C dx fs) → C ≠ cWalk → b ≠ p := fun e n z => by
            rw [z, gp5] at e
            injection e with e
            injection e with e1
            exact n e1.symm
          refine ⟨dxw, qw, Dw, kw, insE e px, ?_, pr.to fun _ _ ⟨e1, i, e2, di, qi, g1, dq, g2⟩ => ⟨e1, i, e2, di, qi, insE g1 (np g1 (by decide)), dq, insE g2 (np g2 (by decide))⟩⟩
          have ndp : Dw ≠ p := fun z => by rw [z, gp5] at g; cases g
          rw [erL_ne fun m => ?_]
          · exact k6 _ _ g ndp
          · rcases kF Dw m with z | z | ⟨va, h, z⟩ | ⟨ca, h, z⟩
            · rw [← z, g] at hwr5; cases hwr5
            · rw [← z, g] at hgn5; cases hgn5
            · have := s5 _ _ (ls4 va h); rw [z, g] at this; cases this
            · have := (cs5 ca h).2
              rw [z, g] at this
              injection this with this
              injection this with this
              rw [this] at pr
              have e0 := Paired.length pr
              have : 0 < cs.length := List.length_pos_of_mem h
              rw [← e0] at this
              exact absurd this (by decide)
        · exact k6 _ _ (s5 _ _ (ls4 va h)) fun y => by have := ls4 va h; rw [y, gp4] at this; cases this
        · exact k6 _ _ (cs5 ca h).2 fun y => by have := (cs5 ca h).2; rw [y, gp5] at this; cases this
      have bu6 : But p H H6 := fun b o e n => k6 _ _ (s5 _ _ (bu4 b o e n)) n
      have W6 := W0.mono (s06.trans erL_sub)
      have TA6 := TA0.mono (s06.trans erL_sub)
      refine ⟨_, rfl, _, rfl, _, rfl, q, t, wd, tbl, rfl, W6, O, TA6, TO, fun H7 f s7 TF => ?_⟩
      have E7 : entNum (toldL tbl wd.ves) wd.ves ≤ 60 := by rw [told_num tbl wd.ves wd.ves fun v h => h]; exact E60
      have W7 := W6.mono s7
      have TT := TO.told O
      refine ⟨q, f, wd, _, rfl, W7, O, TF, TT, Nat.le_trans E7 (by decide), fun H8 lt xs ts s8 hlt glt pts it => ?_⟩
      have S8 := S6.mono (s7.trans s8)
      have nlt : lt ∉ k.F := fun m => by
        rcases kF6 lt m with z | z
        · have := s7 _ _ z; rw [hlt] at this; cases this
        · have := s7 _ _ z; rw [hlt] at this; cases this
      have gltE : erL k.F H8 lt = some (.lst xs) := by rw [erL_ne nlt]; exact glt
      have k8 : ∀ b, b ∈ k.F → H8 b = some (.lst []) ∨ H8 b = some (.dK []) := fun b m => (kF6 b m).elim (fun z => .inl ((s7.trans s8) _ _ z)) fun z => .inr ((s7.trans s8) _ _ z)
      have ptsE : Paired (TurnAt (erL k.F H8)) xs ts := pts.to fun _ _ ⟨u, e, g⟩ => ⟨u, e, by
        rw [erL_ne fun m => by rcases k8 u m with z | z <;> (rw [g] at z; cases z)]; exact g⟩
      have lts : ts.length ≤ 60 := by
        have := it.perm.length_eq
        rw [rowsW_len] at this
        omega
      have lxs := Paired.length pts
      have WE8 : WorldAt (erL k.F H8) q wd := S8.stt.wo
      refine ⟨lt, rfl, ⟨_, .of glt⟩, for_list (K := K) (a := lt) (xs := xs) (fun i σ H' => ∃ u0 u1 u2 u3 u4, σ = [some (.ref p), some (.ref q), some (.ref t), u0, u1, u2, u3, u4] ∧ Same (erL k.F H8) H' ∧ WalkS H' p wd k (walkT wd (ts.take i)) ∧ StOk wd (walkT wd (ts.take i)) i)
        ⟨_, _, _, _, _, rfl, erL_sub, S8, StOk.init⟩ (fun i σ H' _ ⟨_, _, _, _, _, _, s, _⟩ => .of (s _ _ gltE)) ?_ ?_⟩
      · rintro i y σ H' hi ⟨u0, u1, u2, u3, u4, rfl, s9, S9, O9⟩
        obtain ⟨r, hr1, u, rfl, gu⟩ := pair_l ptsE hi
        have hi2 := (List.getElem?_eq_some_iff.mp hr1).1
        obtain ⟨v, hv, c, hc, e1, e2, b0, b1⟩ := turn_is TT it (List.mem_of_getElem? hr1)
        obtain ⟨dw9, _, _, _, _, gw9, _⟩ := WE8.mono s9
        rw [e1, e2] at gu
        refine ⟨u, _, rfl, .of (s9 _ _ gu), rfl, _, _, rfl, _, _, rfl, _, _, rfl, _, _, rfl, rfl, ?_⟩
        refine ⟨_, rfl, p, dx, _, rfl, S9.T.at_, rfl, _, rfl, _, rfl, _, rfl, _, rfl, q, dw9, _, rfl, gw9, rfl, _, rfl, q, wd, c, rfl, WE8.mono s9, O, hc, fun rc hrc => ?_⟩
        obtain ⟨dc, gc⟩ := id hrc
        refine ⟨p, rc, wd, k, _, i, v, c, r.num, r.hour, rfl, S9, SO, O9, by omega, hv, hc, ⟨dc, by rw [erL_ne (S9.insF gc)]; exact gc⟩, b0, b1, fun H9 s10 S10 => ?_⟩
        have est : walkT wd (ts.take (i + 1)) = stepW wd (walkT wd (ts.take i)) v r.num r.hour c := by
          unfold walkT
          rw [take_succ_of hr1, List.foldl_append, List.foldl_cons, List.foldl_nil, stepR_is O hv hc e1 e2]
        refine ⟨_, _, _, _, _, rfl, (erL_lift s9).trans s10, by rw [est]; exact S10, by rw [est]; exact O9.step (O.vn hv).1 b0⟩
      · rintro σ H' ⟨_, _, _, _, _, rfl, s9, S9, O9⟩
        rw [lxs, List.take_length] at S9 O9
        refine kk H' k ts (fun b o e n => ?_) SO it S9 O9
        exact s9 b o (by
          rw [erL_ne fun m => ?_]
          · exact (s7.trans s8) _ _ (bu6 b o e n)
          · have z := F0 b m
            rw [← hH0, er_ne n, e] at z
            cases z)
theorem ok_Walk_table (T : Txt K mg) : DOk P w K mg base CX0 1 a_Walk_table P_Walk_table sp_Walk_table := by
  refine DOk.mk0 T.f_Walk_table sc_Walk_table sz_Walk_table (fun vs H Q E h => ?_) (fun cdv A outer s H vs Q E hr h => ?_)
  · obtain ⟨p, wd, k, st, n, rfl, _⟩ := h; rfl
  · obtain ⟨p, wd, k, st, n, rfl, S, O, SO, hn, kk⟩ := h
    have hu := hu_of hr
    refine ⟨_, (pss_cons (ps_set (i := 1) sc_Walk_table.nd rfl (Or.inl rfl) pe_dnewK)
    (pss_cons (ps_lock (ps_for PassesOwn.never rfl (pi_items (pe_fldK K (pv 0))) (pg_tup rfl (pgs_cons (pg_name (i := 2) sc_Walk_table.nd rfl (Or.inl rfl)) (pgs_cons (pg_name (i := 3) sc_Walk_table.nd rfl (Or.inl rfl)) pgs_nil)))
      (pss_one (ps_if (pt_cmpR (op_neNilK K hr) (pv 3) (pe_lst pa_nil) (nomark _)) (pss_one (ps_dput hu (pv 1) (pv 2) (pe_lc (own := [("leg", 4)]) (g := (gName 4)) rfl sc_Walk_table.nd (pi_list (pv 3)) (blkOk_by (own := [("leg", 4)]) (N := N_Walk_table) (sc := Z_Walk_table) (by decide +kernel)) (fun _ _ _ _ _ => (pg_name (i := 4) sc_Walk_table.nd rfl (Or.inl rfl))) (fun _ _ _ _ _ => pts_nil) (fun _ _ _ _ _ => (pe_tup (pa_cons (pe_fldK K (pv 4)) (pa_cons (pe_fldK K (pe_fldK K (pv 4))) pa_nil))))) rfl)) pss_nil))))
    (pss_one (ps_ret (pv 1))))), ?_⟩
    intro f hf
    have s1 := same_new (o := .dK []) hf
    have S1 := S.mono s1
    obtain ⟨kD, gD, pD⟩ := S1.T.lg
    have gf1 : upd H f (.dK []) f = some (.dK []) := upd_same
    have nfD : f ≠ k.D := fun z => by
      obtain ⟨kD', gD', _⟩ := S.T.lg
      rw [← z, hf] at gD'
      cases gD'
    refine ⟨k.D, .dK kD, gD, trivial, fun od => ?_⟩
    have nfz : ∀ {b : Addr} {o : HO}, upd H f (.dK []) b = some o → b ≠ k.D → upd (upd H f (.dK [])) k.D (.frz od (.dK kD)) b = some o := fun e n => by rw [upd_ne n]; exact e
    have npD : p ≠ k.D := fun z => by have := S1.T.at_; rw [z, gD] at this; cases this
    have gf2 := nfz gf1 nfD
    -- what stands while the dict is locked
    have gpE : er f (upd (upd H f (.dK [])) k.D (.frz od (.dK kD))) p = some (.ins cWalk k.dx (walkF k)) := er_kind gf2 (nfz S1.T.at_ npD) fun z => by cases z
    have gDE : er f (upd (upd H f (.dK [])) k.D (.frz od (.dK kD))) k.D = some (.frz od (.dK kD)) := er_kind gf2 upd_same fun z => by cases z
    have lgE : ∀ va ∈ k.ls, ∃ xs, er f (upd (upd H f (.dK [])) k.D (.frz od (.dK kD))) va.2 = some (.lst xs) ∧ Paired (LegR (er f (upd (upd H f (.dK [])) k.D (.frz od (.dK kD))))) xs (st.legs va.1.name) := fun va m => by
      obtain ⟨xs, g, pr⟩ := S1.lg va m
      refine ⟨xs, er_kind gf2 (nfz g fun z => by rw [z, gD] at g; cases g) (fun z => by cases z), pr.to fun _ _ ⟨r, dl, q, e, g1, dc, g2⟩ => ⟨r, dl, q, e, ?_, dc, ?_⟩⟩
      · have g1 := erL_sub _ _ g1
        exact er_kind gf2 (nfz g1 fun z => by rw [z, gD] at g1; cases g1) fun z => by cases z
      · have g2 := erL_sub _ _ g2
        exact er_kind gf2 (nfz g2 fun z => by rw [z, gD] at g2; cases g2) fun z => by cases z
    have back : ∀ {H' : Hp}, Same (er f (upd (upd H f (.dK [])) k.D (.frz od (.dK kD)))) H' → H' k.D = some (.frz od (.dK kD)) ∧ Same H (upd H' k.D (.dK kD)) := fun {H'} s => by
      refine ⟨s _ _ gDE, fun b o e => ?_⟩
      by_cases z : b = k.D
      · have gD0 := s1 _ _ e
        rw [z, gD] at gD0
        rw [z, upd_same, gD0]
      · rw [upd_ne z]
        exact s _ _ (by rw [er_ne (ne_of_none e hf), upd_ne z]; exact s1 _ _ e)
    generalize hG : upd (upd H f (.dK [])) k.D (.frz od (.dK kD)) = G at gf2 gpE gDE lgE back ⊢
    have gpG := er_sub _ _ gpE
    have gDG := er_sub _ _ gDE
    have lk := Paired.length pD
    have vl := O.ok.vl
    have lls : k.ls.length = wd.ves.length := by rw [← O.lv, List.length_map]
    refine ⟨_, rfl, p, _, _, _, _, rfl, gpG, T.cl_Walk, T.na_Walk_legs, rfl, k.D, od, kD, rfl, gDG, for_it (n := kD.length) (fun i σ H' => ∃ u v, σ = [some (.ref p), some (.ref f), u, v, none] ∧ Same (er f G) H' ∧
      ∃ kvs, H' f = some (.dK kvs) ∧ Paired (TP H') kvs (tabOf st (wd.ves.take i))) ⟨none, none, rfl, er_sub, [], gf2, .nil⟩ ?_ ?_⟩
    · rintro σ H' ⟨u, v, rfl, s5, kvs, gf, pr⟩
      have b := back s5
      refine ⟨⟨b.1, Nat.le_refl _⟩, b.1, ?_⟩
      refine ⟨_, rfl, kk _ f b.2 ⟨kvs, ?_, ?_⟩⟩
      · rw [upd_ne nfD]; exact gf
      · rw [lk, lls, List.take_length] at pr
        refine pr.to fun _ _ ⟨e1, l, e2, xs, g1, pg⟩ => ⟨e1, l, e2, xs, ?_, pg.to fun _ _ ⟨u, e3, g3⟩ => ⟨u, e3, ?_⟩⟩
        · rw [upd_ne fun z => by rw [z, b.1] at g1; cases g1]; exact g1
        · rw [upd_ne fun z => by rw [z, b.1] at g3; cases g3]; exact g3
    · rintro i σ H' hi ⟨u, v, rfl, s5, kvs, gf, pr⟩
      refine ⟨⟨(back s5).1, hi⟩, ?_⟩
      rintro y H6 ⟨X, key, val, hk, rfl, hX, rfl⟩
      obtain ⟨⟨x, a⟩, hva, e1, e2⟩ := pair_l pD hk
      obtain rfl : key = .inr x.name := e1
      obtain rfl : val = .ref a := e2
      have s6 := s5.atNew (o := .tup [kV (.inr x.name), .ref a]) hX
      have gf6 := same_new (o := .tup [kV (.inr x.name), .ref a]) hX _ _ gf
      have hxv : wd.ves[i]? = some x := by rw [← O.lv, List.getElem?_map, hva]; rfl
      have hi2 := (List.getElem?_eq_some_iff.mp hxv).1
      obtain ⟨xs, ga, pa⟩ := lgE _ (List.mem_of_getElem? hva)
      refine ⟨X, _, rfl, .of upd_same, rfl, _, _, rfl, _, _, rfl, rfl, ?_⟩
      refine ⟨_, rfl, szOf rfl, fun m hm => ?_⟩
      have s7 := s6.trans (same_new (o := .lst []) hm)
      have gf7 := same_new (o := .lst []) hm _ _ gf6
      refine ⟨a, m, xs, rfl, rfl, .of (s7 _ _ ga), .of upd_same, _, rfl, ?_⟩
      have prS : ∀ {H7 : Hp}, Same H' H7 → Paired (TP H7) kvs (tabOf st (wd.ves.take i)) := fun s => pr.to fun _ _ q => q.mono s
      have s67 := (same_new (o := .tup [kV (.inr x.name), .ref a]) hX).trans (same_new (o := .lst []) hm)
      have pla := Paired.length pa
      cases hy : st.legs x.name with
      | nil =>
        have hxs : xs = [] := by
          revert pa
          show Paired _ xs (st.legs x.name) → _
          rw [hy]
          intro pa
          cases pa
          rfl
        refine ifF (by rw [hxs]; rfl) ?_
        refine ⟨_, _, rfl, s7, kvs, gf7, ?_⟩
        rw [take_succ_of hxv, tabOf_app]
        have e0 : tabOf st [x] = [] := by rw [tabOf_cons, if_pos hy]; rfl
        rw [e0, List.append_nil]
        exact prS s67
      | cons l0 ll =>
        have hne : xs ≠ [] := fun z => by
          have pl2 : xs.length = (st.legs x.name).length := pla
          rw [z, hy] at pl2
          cases pl2
        refine ifT (by cases xs with | nil => exact absurd rfl hne | cons _ _ => rfl) ?_
        have slx := SO.legs x.name
        have pl2 : xs.length = (st.legs x.name).length := pla
        refine ⟨_, rfl, a, rfl, ⟨_, .of (s7 _ _ ga)⟩, fun D hD => lc_mapR (K := K) (R := EntR) (bs := entsOf (st.legs x.name)) (fun _ _ _ _ s q => q.mono s) (fun H F ys zs v b hF ⟨t, e, g⟩ => ⟨t, e, tup_lst hF _ _ g⟩) (s7 _ _ ga) hD (by omega) (by unfold entsOf; rw [List.length_map]; exact pl2) ?_ gName_m ?_⟩
        · intro j y b H8 hj hb s8 Q' q
          obtain ⟨l, hl, r, dl, ql, rfl, gl, dc, gc⟩ := pair_l pa hj
          obtain ⟨l', hl', rfl⟩ := map_at hb
          have el : some l = some l' := hl.symm.trans hl'
          cases el
          have s78 := s7.trans s8
          exact ⟨rfl, _, rfl, r, _, _, _, _, rfl, s78 _ _ gl, T.cl_Leg, T.na_Leg_goes, rfl, _, rfl, r, _, _, _, _, rfl, s78 _ _ gl, T.cl_Leg, T.na_Leg_through, rfl, ql, _, _, _, _, rfl, s78 _ _ gc, T.cl_Channel, T.na_Channel_name, rfl, szOf rfl, fun t ht => q _ _ (same_new ht) ⟨t, rfl, upd_same⟩⟩
        · intro H8 zs s8 gz pz
          have gf8 := s8 _ _ gf7
          have hvn : valV kvs (Sum.inr x.name : Key) = none := by
            rcases tb_get x.name pr with ⟨g, _⟩ | ⟨l', g, _⟩
            · exact g
            · exfalso
              have hin : x.name ∈ (tabOf st (wd.ves.take i)).map (·.1) := by
                cases q : kvs.find? fun kv => decide (kv.1 = (Sum.inr x.name : Key)) with
                | none => unfold valV at g; rw [q] at g; cases g
                | some kv =>
                  obtain ⟨p', h3, h4⟩ := paired_mem pr kv (List.mem_of_find?_eq_some q)
                  have h5 : decide (kv.1 = (Sum.inr x.name : Key)) = true := List.find?_some (p := fun kv : Key × V => decide (kv.1 = (Sum.inr x.name : Key))) q
                  exact List.mem_map.mpr ⟨p', h3, Sum.inr.inj (h4.1.symm.trans (of_decide_eq_true h5))⟩
              exact take_fresh O.ok.vd hxv ((tabOf_sub st _).subset hin)
          have lt2 := (tabOf_sub st (wd.ves.take i)).length_le
          rw [List.length_map, List.length_map, List.length_take] at lt2
          refine ⟨_, rfl, _, rfl, f, _, rfl, DPut.k (k := (Sum.inr x.name : Key)) gf8 (by rw [Paired.length pr]; exact small64l (by omega)), ?_⟩
          refine ⟨_, _, rfl, er_upd (s7.trans s8), _, by rw [upd_same, putK_new _ hvn], ?_⟩
          rw [take_succ_of hxv, tabOf_app]
          have e0 : tabOf st [x] = [(x.name, entsOf (st.legs x.name))] := by rw [tabOf_cons, if_neg (by rw [hy]; exact List.cons_ne_nil _ _)]; rfl
          rw [e0]
          refine Paired.snoc ((prS (s67.trans s8)).to fun _ _ ⟨a1, l1, a2, a3⟩ => ⟨a1, l1, a2, a3.other gf8 (fun _ z => by cases z) fun _ z => by cases z⟩) ⟨rfl, D, rfl, EntsAt.other ⟨zs, gz, pz⟩ gf8 (fun _ z => by cases z) fun _ z => by cases z⟩
theorem ok_good_walk (T : Txt K mg) (D_Walk_init : DOk P w K mg base CX0 7 a_Walk_init P_Walk_init sp_Walk_init) (D_Walk_faults : DOk P w K mg base CX0 1 a_Walk_faults P_Walk_faults sp_faults)
    (D_Faulty_init : DOk P w K mg base CX0 1 a_Faulty_init P_Faulty_init sp_Faulty_init) : DOk P w K mg base (L2.CX P w) 9 a_good_walk P_good_walk sp_good_walk := by
  refine DOk.mkX T.f_good_walk sc_good_walk sz_good_walk (fun vs H Q E h => ?_) (fun cdv A outer s H vs Q E hr h => ?_)
  · obtain ⟨q, t, wd, tbl, rfl, _⟩ := h; rfl
  · obtain ⟨q, t, wd, tbl, rfl, W, O, TA, TO, E60, k1, k2⟩ := h
    obtain ⟨⟨fdI, FI, bI⟩, kI⟩ := D_Faulty_init
    refine ⟨_, (pss_cons (ps_set (i := 2) sc_good_walk.nd rfl (Or.inl rfl) (pe_mkc D_Walk_init T.mk_Walk T.g_Walk hr (pa_cons (pv 0) (pa_cons (pv 1) pa_nil))))
    (pss_cons (ps_for (passes_of rfl) rfl (pi_list (pe_me0 D_Walk_faults T.cl_Walk T.me_Walk_faults hr (pv 2))) (pg_tup rfl (pgs_cons (pg_name (i := 3) sc_good_walk.nd rfl (Or.inl rfl)) (pgs_cons (pg_name (i := 4) sc_good_walk.nd rfl (Or.inl rfl)) (pgs_cons (pg_name (i := 5) sc_good_walk.nd rfl (Or.inl rfl)) pgs_nil))))
      (pss_one (ps_raiseN rfl (takes_of rfl rfl rfl rfl) (pmk_oex T.ex_Faulty.ox T.ex_Faulty.ic T.ex_Faulty.ti FI (hr.mono (by decide)) bI .nil pass0 rfl T.g_Faulty (pa_cons (pv 3) (pa_cons (pv 4) (pa_cons (pv 5) pa_nil)))))))
    (pss_one (ps_ret (pv 2))))), ?_⟩
    refine ⟨_, rfl, _, rfl, ?_⟩
    intro p dz hp hdz ne
    have s1 : Same H (upd (upd H dz (.own p)) p (.ins cWalk dz [])) := (same_new hdz).atFresh hp
    refine ⟨p, dz, q, t, wd, tbl, rfl, upd_same, W.mono s1, O, TA.mono s1, TO, E60, fun H1 k ts bu SO it S1 O1 => ⟨rfl, ?_⟩⟩
    have s2 : Same H H1 := fun b o e => bu b o (s1 b o e) (ne_of_none e hp)
    refine ⟨_, rfl, p, k.dx, _, rfl, S1.T.at_, rfl, p, wd, k, _, rfl, S1, fun l xs hl pw => ?_⟩
    have s3 := s2.trans (same_new (o := .lst xs) hl)
    have lx := Paired.length pw
    refine ⟨l, rfl, ⟨_, .of upd_same⟩, for_list (K := K) (a := l) (xs := xs) (fun i σ H' => i = 0 ∧ σ = [some (.ref q), some (.ref t), some (.ref p), none, none, none] ∧ H' = upd H1 l (.lst xs)) ⟨rfl, rfl, rfl⟩ (fun i σ H' _ ⟨_, _, e⟩ => .of (by rw [e]; exact upd_same)) ?_ ?_⟩
    · rintro i y σ H' hi ⟨rfl, rfl, rfl⟩
      obtain ⟨r, hr1, u, rfl, gu⟩ := pair_l pw hi
      obtain ⟨rs, hrs⟩ : ∃ rs, (walkT wd ts).wrong = r :: rs := by
        cases e : (walkT wd ts).wrong with
        | nil => rw [e] at hr1; cases hr1
        | cons a b => rw [e] at hr1; cases hr1; exact ⟨b, rfl⟩
      refine ⟨u, _, rfl, .of (same_new hl _ _ gu), rfl, _, _, rfl, _, _, rfl, _, _, rfl, rfl, ?_⟩
      refine ⟨_, rfl, _, rfl, _, rfl, (by show 3 ≤ 1000; decide), fun a ha => ?_⟩
      refine ⟨a, r, rfl, upd_same, fun H5 dx hdx ne5 fr ga gd => ⟨rfl, dx, faultF r, ga, gd, ?_, ?_⟩⟩
      · exact (upd_none hdx).2
      · refine k2 _ dx ts r rs (fun b o e => ?_) it hrs upd_same
        have n1 : b ≠ dx := ne_of_none (s3 _ _ e) (upd_none hdx).2
        have n2 : b ≠ a := ne_of_none (s3 _ _ e) ha
        rw [upd_ne n1, del_ne n2, fr b n1 n2, upd_ne n2]
        exact s3 _ _ e
    · rintro σ H' ⟨h0, rfl, rfl⟩
      have hw : (walkT wd ts).wrong = [] := List.length_eq_zero_iff.mp (by rw [← lx]; exact h0)
      exact ⟨_, rfl, k1 _ p k ts s3 SO it (S1.mono (same_new hl)) hw⟩
end
end Ik


namespace Ik
open PySem PySem.Spec L2
/-! ### one list sorted by keys -/
theorem uniq {α : Type} {k : α → List Int} : ∀ {l m : List α}, l.Perm m → l.Pairwise (fun a b => klt (k b) (k a) = false) → m.Pairwise (fun a b => klt (k b) (k a) = false) → (∀ a ∈ l, ∀ b ∈ l, k a = k b → a = b) → l = m
  | [], m, p, _, _, _ => (List.Perm.eq_nil p.symm).symm
  | x :: l, [], p, _, _, _ => absurd p.length_eq (by simp)
  | x :: l, y :: m, p, hl, hm, inj => by
    obtain ⟨l1, l2⟩ := List.pairwise_cons.mp hl
    obtain ⟨m1, m2⟩ := List.pairwise_cons.mp hm
    have my : y ∈ x :: l := p.mem_iff.mpr (List.mem_cons_self ..)
    have mx : x ∈ y :: m := p.mem_iff.mp (List.mem_cons_self ..)
    have h1 : klt (k y) (k x) = false := by
      rcases List.mem_cons.mp my with e | h
      · rw [e]; exact klt_irr _
      · exact l1 y h
    have h2 : klt (k x) (k y) = false := by
      rcases List.mem_cons.mp mx with e | h
      · rw [e]; exact klt_irr _
      · exact m1 x h
    have e := inj x (List.mem_cons_self ..) y my (klt_eq _ _ h2 h1)
    subst e
    rw [uniq (List.Perm.cons_inv p) l2 m2 fun a ha b hb => inj a (List.mem_cons_of_mem _ ha) b (List.mem_cons_of_mem _ hb)]
theorem turns_uniq {wd : Wd} {tbl : Tbl} (TO : TblOk wd tbl) {ts ts' : List SRow} (h : IsTurns wd tbl ts) (h' : IsTurns wd tbl ts') : ts = ts' :=
  uniq (k := fun r : SRow => r.key) (h.perm.trans h'.perm.symm) h.srt h'.srt fun a ha b hb e => rows_inj (fun x => (TO.ents x).rise) (h.perm.mem_iff.mp ha) (h.perm.mem_iff.mp hb) e
/-! ### what is done -/
abbrev Gone := Int × Str × Str × Str × Int
def key4 (g : Gone) : List Key := [.inl g.1, .inr g.2.1, .inr g.2.2.1, .inr g.2.2.2.1]
def SafeG (wd : Wd) (g : Gone) : Prop := ∃ v ∈ wd.ves, ∃ c ∈ wd.chans, g.2.1 = v.name ∧ g.2.2.1 = c.name ∧ (g.2.2.2.1 = c.one ∨ g.2.2.2.1 = c.other) ∧ v.draught ≤ c.depth ∧ g.2.2.2.2 ≤ v.strength
abbrev Wt := Str × Int × Str
def wt (r : SRow) : Wt := (r.name, r.hour, r.chan)
def wordR (wd : Wd) (st : WS) (v : Ves) (hour : Int) (c : Chan) : Option Str := wordOf v c hour (spotOf wd v (st.legs v.name)) (c.ice (st.cuts c.name) wd.begin_ hour)
def doneR (wd : Wd) (st : WS) (r : SRow) : Bool := match vesOf wd r.name, chanOf wd r.chan with
  | some v, some c => (wordR wd st v r.hour c).isNone
  | _, _ => false
theorem vesOf_some {wd : Wd} {x : Str} {v : Ves} (h : vesOf wd x = some v) : v ∈ wd.ves ∧ v.name = x :=
  ⟨List.mem_of_find?_eq_some h, of_decide_eq_true (List.find?_some (p := fun v : Ves => decide (v.name = x)) h)⟩
theorem chanOf_some {wd : Wd} {x : Str} {c : Chan} (h : chanOf wd x = some c) : c ∈ wd.chans ∧ c.name = x :=
  ⟨List.mem_of_find?_eq_some h, of_decide_eq_true (List.find?_some (p := fun v : Chan => decide (v.name = x)) h)⟩
/-- what a turn that is done does -/
def addT (wd : Wd) (st : WS) (v : Ves) (hour : Int) (c : Chan) : WS := { st with
  gone := st.gone ++ [(hour, v.name, c.name, (spotOf wd v (st.legs v.name)).1, c.ice (st.cuts c.name) wd.begin_ hour)]
  legs := fun x => if x = v.name then st.legs x ++ [⟨hour, c, (spotOf wd v (st.legs v.name)).1⟩] else st.legs x
  cuts := if v.isB = true then fun x => if x = c.name then addCut (st.cuts x) hour v.cut else st.cuts x else st.cuts }
theorem step_none {wd : Wd} {st : WS} {v : Ves} {num hour : Int} {c : Chan} (h : wordR wd st v hour c = none) : stepW wd st v num hour c = addT wd st v hour c := by
  unfold wordR at h
  unfold stepW addT
  rw [h]
theorem step_some {wd : Wd} {st : WS} {v : Ves} {num hour : Int} {c : Chan} {x : Str} (h : wordR wd st v hour c = some x) : stepW wd st v num hour c = { st with wrong := st.wrong ++ [(v.name, num, x)] } := by
  unfold wordR at h
  unfold stepW
  rw [h]
/-- three kinds of turns -/
theorem step_cases (wd : Wd) (st : WS) (r : SRow) : (doneR wd st r = false ∧ ((vesOf wd r.name = none ∨ chanOf wd r.chan = none) ∧ stepR wd st r = st ∨ ∃ x, stepR wd st r = { st with wrong := st.wrong ++ [(r.name, r.num, x)] })) ∨
    (doneR wd st r = true ∧ ∃ v c, vesOf wd r.name = some v ∧ chanOf wd r.chan = some c ∧ wordR wd st v r.hour c = none ∧ stepR wd st r = addT wd st v r.hour c) := by
  unfold doneR stepR
  cases hv : vesOf wd r.name with
  | none => exact .inl ⟨rfl, .inl ⟨.inl rfl, rfl⟩⟩
  | some v =>
    cases hc : chanOf wd r.chan with
    | none => exact .inl ⟨rfl, .inl ⟨.inr rfl, rfl⟩⟩
    | some c =>
      dsimp only
      cases hw : wordR wd st v r.hour c with
      | none => exact .inr ⟨rfl, v, c, rfl, rfl, hw, step_none hw⟩
      | some x => exact .inl ⟨rfl, .inr ⟨x, by rw [step_some hw, (vesOf_some hv).2]⟩⟩
structure SameB (s s' : WS) : Prop where
  l : s.legs = s'.legs
  c : s.cuts = s'.cuts
  g : s.gone = s'.gone
def dsOf (wd : Wd) : WS → List SRow → List SRow
  | _, [] => []
  | s, r :: ts => if doneR wd s r = true then r :: dsOf wd (stepR wd s r) ts else dsOf wd (stepR wd s r) ts
theorem dsOf_cons (wd : Wd) (s : WS) (r : SRow) (ts : List SRow) : dsOf wd s (r :: ts) = if doneR wd s r = true then r :: dsOf wd (stepR wd s r) ts else dsOf wd (stepR wd s r) ts := rfl
def doneAll (wd : Wd) : WS → List SRow → Prop
  | _, [] => True
  | s, r :: ts => doneR wd s r = true ∧ doneAll wd (stepR wd s r) ts
theorem dsOf_sub (wd : Wd) : ∀ (ts : List SRow) (s : WS), (dsOf wd s ts).Sublist ts
  | [], _ => List.Sublist.refl _
  | r :: ts, s => by
    unfold dsOf
    split
    · exact (dsOf_sub wd ts _).cons₂ _
    · exact (dsOf_sub wd ts _).cons _
theorem SameB.not {wd : Wd} {s : WS} {r : SRow} (h : doneR wd s r = false) : SameB (stepR wd s r) s := by
  rcases step_cases wd s r with ⟨_, ⟨_, e⟩ | ⟨x, e⟩⟩ | ⟨e, _⟩
  · rw [e]; exact ⟨rfl, rfl, rfl⟩
  · rw [e]; exact ⟨rfl, rfl, rfl⟩
  · rw [e] at h; cases h
theorem SameB.yes {wd : Wd} {s s' : WS} {r r' : SRow} (S : SameB s s') (h : doneR wd s r = true) (e : wt r' = wt r) : SameB (stepR wd s r) (stepR wd s' r') ∧ (stepR wd s' r').wrong = s'.wrong ∧ doneR wd s' r' = true := by
  unfold wt at e
  simp only [Prod.mk.injEq] at e
  obtain ⟨e1, e2, e3⟩ := e
  rcases step_cases wd s r with ⟨q, _⟩ | ⟨_, v, c, hv, hc, hw, es⟩
  · rw [q] at h; cases h
  · have hw' : wordR wd s' v r'.hour c = none := by unfold wordR at hw ⊢; rw [← S.l, ← S.c, e2]; exact hw
    have es' : stepR wd s' r' = addT wd s' v r'.hour c := by
      unfold stepR
      rw [e1, e3, hv, hc]
      exact step_none hw'
    rw [es, es', e2]
    refine ⟨⟨?_, ?_, ?_⟩, rfl, ?_⟩
    · unfold addT; dsimp only; rw [S.l]
    · unfold addT; dsimp only; rw [S.c]
    · unfold addT; dsimp only; rw [S.g, S.l, S.c]
    · unfold doneR; rw [e1, e3, hv, hc]; dsimp only; rw [hw']; rfl
theorem run_done (wd : Wd) : ∀ (ts : List SRow) (s s' : WS) (ts' : List SRow), SameB s s' → ts'.map wt = (dsOf wd s ts).map wt → SameB (ts.foldl (stepR wd) s) (ts'.foldl (stepR wd) s') ∧ (ts'.foldl (stepR wd) s').wrong = s'.wrong ∧ doneAll wd s' ts'
  | [], s, s', ts', S, e => by
    have : ts' = [] := List.map_eq_nil_iff.mp e
    subst this
    exact ⟨S, rfl, trivial⟩
  | r :: ts, s, s', ts', S, e => by
    unfold dsOf at e
    by_cases h : doneR wd s r = true
    · rw [if_pos h, List.map_cons] at e
      cases ts' with
      | nil => cases e
      | cons r' ts' =>
        rw [List.map_cons, List.cons.injEq] at e
        obtain ⟨a, b, c⟩ := S.yes h e.1
        obtain ⟨d1, d2, d3⟩ := run_done wd ts _ _ ts' a e.2
        rw [List.foldl_cons, List.foldl_cons]
        exact ⟨d1, d2.trans b, c, d3⟩
    · rw [if_neg h] at e
      have q := SameB.not (wd := wd) (s := s) (r := r) (by simpa using h)
      rw [List.foldl_cons]
      exact run_done wd ts _ s' ts' ⟨q.l.trans S.l, q.c.trans S.c, q.g.trans S.g⟩ e
theorem ents_ds (wd : Wd) (x : Str) : ∀ (ts : List SRow) (s : WS), entsOf ((ts.foldl (stepR wd) s).legs x) = entsOf (s.legs x) ++ ((dsOf wd s ts).filter fun r => decide (r.name = x)).map fun r => (r.hour, r.chan)
  | [], s => by rw [List.foldl_nil]; unfold dsOf; rw [List.filter_nil, List.map_nil, List.append_nil]
  | r :: ts, s => by
    rw [List.foldl_cons, ents_ds wd x ts]
    rw [dsOf_cons]
    rcases step_cases wd s r with ⟨h, e⟩ | ⟨h, v, c, hv, hc, hw, es⟩
    · rw [if_neg (by rw [h]; decide), (SameB.not h).l]
    · rw [if_pos h]
      obtain ⟨_, nv⟩ := vesOf_some hv
      obtain ⟨_, nc⟩ := chanOf_some hc
      by_cases z : r.name = x
      · rw [List.filter_cons_of_pos (by exact decide_eq_true z), List.map_cons]
        have : (stepR wd s r).legs x = s.legs x ++ [⟨r.hour, c, (spotOf wd v (s.legs v.name)).1⟩] := by
          rw [es]
          show (if x = v.name then _ else _) = _
          rw [if_pos (by rw [nv, z])]
        rw [this]
        unfold entsOf
        rw [List.map_append, List.append_assoc, List.map_cons, List.map_nil, nc]
        rfl
      · rw [List.filter_cons_of_neg (by rw [decide_eq_false z]; decide)]
        have : (stepR wd s r).legs x = s.legs x := by
          rw [es]
          show (if x = v.name then _ else _) = _
          rw [if_neg (by rw [nv]; exact fun q => z q.symm)]
        rw [this]
theorem safe_gone (wd : Wd) : ∀ (ts : List SRow) (s : WS), (∀ r ∈ s.gone, SafeG wd r) → ∀ r ∈ (ts.foldl (stepR wd) s).gone, SafeG wd r
  | [], s, h => h
  | r :: ts, s, h => by
    rw [List.foldl_cons]
    refine safe_gone wd ts _ fun g hg => ?_
    rcases step_cases wd s r with ⟨q, _⟩ | ⟨_, v, c, hv, hc, hw, es⟩
    · rw [(SameB.not q).g] at hg; exact h g hg
    · rw [es] at hg
      rcases List.mem_append.mp hg with hg | hg
      · exact h g hg
      · rw [List.mem_singleton.mp hg]
        obtain ⟨w1, w2, w3, w4⟩ := wordOf_none.mp hw
        exact ⟨v, (vesOf_some hv).1, c, (chanOf_some hc).1, rfl, rfl, w2, w3, w4⟩
theorem gone_sub (wd : Wd) : ∀ (ts : List SRow) (s : WS), ((ts.foldl (stepR wd) s).gone.map fun g => (g.1, g.2.1)).Sublist (s.gone.map (fun g => (g.1, g.2.1)) ++ ts.map fun r => (r.hour, r.name))
  | [], s => by rw [List.foldl_nil, List.map_nil, List.append_nil]; exact List.Sublist.refl _
  | r :: ts, s => by
    rw [List.foldl_cons, List.map_cons]
    refine (gone_sub wd ts _).trans ?_
    rcases step_cases wd s r with ⟨q, _⟩ | ⟨_, v, c, hv, hc, hw, es⟩
    · rw [(SameB.not q).g]
      exact List.Sublist.append (List.Sublist.refl _) (List.sublist_cons_self ..)
    · have : (stepR wd s r).gone.map (fun g => (g.1, g.2.1)) = s.gone.map (fun g => (g.1, g.2.1)) ++ [(r.hour, r.name)] := by
        rw [es]
        show (s.gone ++ [_]).map _ = _
        rw [List.map_append, List.map_cons, List.map_nil, (vesOf_some hv).2]
      rw [this, List.append_assoc]
      exact List.Sublist.refl _
end Ik


namespace Ik
open PySem PySem.Spec L2
/-! ### keys from what a turn is -/
def idxV : Nat → List Ves → Str → Nat
  | n, [], _ => n
  | n, v :: vs, x => if v.name = x then n else idxV (n + 1) vs x
theorem idxV_succ (x : Str) : ∀ (n : Nat) (vs : List Ves), idxV (n + 1) vs x = idxV n vs x + 1
  | n, [] => rfl
  | n, v :: vs => by
    unfold idxV
    split
    · rfl
    · exact idxV_succ x (n + 1) vs
theorem idxV_at : ∀ {n : Nat} {vs : List Ves} {ρ : Nat} {v : Ves}, (vs.map (·.name)).Nodup → vs[ρ]? = some v → idxV n vs v.name = n + ρ
  | n, [], ρ, v, _, h => by simp at h
  | n, u :: vs, 0, v, _, h => by
    rw [List.getElem?_cons_zero, Option.some.injEq] at h
    subst h
    unfold idxV
    rw [if_pos rfl]; rfl
  | n, u :: vs, ρ + 1, v, nd, h => by
    rw [List.getElem?_cons_succ] at h
    rw [List.map_cons, List.nodup_cons] at nd
    unfold idxV
    rw [if_neg fun z => nd.1 (by rw [z]; exact List.mem_map.mpr ⟨v, List.mem_of_getElem? h, rfl⟩), idxV_at nd.2 h]
    omega
def kOf (wd : Wd) (x : Wt) : List Int := match vesOf wd x.1 with
  | some v => if v.isB = true then [x.2.1, 0, ((rankOf x.2.2 0 wd.chans : Nat) : Int), -v.strength, ((idxV 0 wd.ves x.1 : Nat) : Int)] else [x.2.1, 1, ((idxV 0 wd.ves x.1 : Nat) : Int), 0, 0]
  | none => []
theorem key_is {wd : Wd} (O : wd.Ok) {tbl : Tbl} {r : SRow} (h : r ∈ rowsW wd tbl wd.ves) : r.key = kOf wd (wt r) := by
  obtain ⟨ρ, v, n, e, h1, h2, rfl⟩ := mem_rowsW.mp h
  unfold kOf
  have e1 : vesOf wd (wt (mkRow wd ρ v n e)).1 = some v := vesOf_mem O (List.mem_of_getElem? h1)
  have e2 : idxV 0 wd.ves (wt (mkRow wd ρ v n e)).1 = ρ := (idxV_at O.vd h1).trans (Nat.zero_add _)
  rw [e1, e2]
  rfl
/-! ### all entries of a table -/
def wtsOf (tbl : Tbl) (vs : List Ves) : List Wt := (vs.map fun v => (look tbl v.name).map fun e => ((v.name, e.1, e.2) : Wt)).flatten
theorem rows_wt (wd : Wd) (tbl : Tbl) (vs : List Ves) : (rowsW wd tbl vs).map wt = wtsOf tbl vs := by
  unfold rowsW wtsOf
  rw [List.map_flatten, List.map_map]
  congr 1
  have inner : ∀ (n ρ : Nat) (v : Ves) (es : List Ent), ((es.zipIdx n).map fun p => mkRow wd ρ v p.2 p.1).map wt = es.map fun e => ((v.name, e.1, e.2) : Wt) := by
    intro n ρ v es
    induction es generalizing n with
    | nil => rfl
    | cons e es ih =>
      rw [List.zipIdx_cons, List.map_cons, List.map_cons, ih, List.map_cons]
      rfl
  have outer : ∀ (n : Nat) (l : List Ves), (l.zipIdx n).map (List.map wt ∘ fun p => rowsV wd p.2 p.1 (look tbl p.1.name)) = l.map fun v => (look tbl v.name).map fun e => ((v.name, e.1, e.2) : Wt) := by
    intro n l
    induction l generalizing n with
    | nil => rfl
    | cons v l ih =>
      rw [List.zipIdx_cons, List.map_cons, List.map_cons, ih]
      congr 1
      exact inner 0 _ _ _
  exact outer 0 vs
theorem wts_len (tbl : Tbl) (vs : List Ves) : (wtsOf tbl vs).length = entNum tbl vs := by
  unfold wtsOf entNum
  rw [List.length_flatten, List.map_map]
  congr 1
  refine List.map_congr_left fun v _ => ?_
  show (List.map _ _).length = _
  rw [List.length_map]
theorem wts_congr {t t' : Tbl} {vs : List Ves} (h : ∀ v ∈ vs, look t v.name = look t' v.name) : wtsOf t vs = wtsOf t' vs := by
  unfold wtsOf
  congr 1
  exact List.map_congr_left fun v hv => by rw [h v hv]
/-- no two entries of a vessel at one hour -/
theorem wts_nodup {wd : Wd} (O : wd.Ok) {tbl : Tbl} (TO : TblOk wd tbl) : ((wtsOf tbl wd.ves).map fun x => (x.2.1, x.1)).Nodup := by
  unfold List.Nodup wtsOf
  rw [List.pairwise_map, List.pairwise_flatten]
  refine ⟨fun l hl => ?_, ?_⟩
  · obtain ⟨v, _, rfl⟩ := List.mem_map.mp hl
    rw [List.pairwise_map]
    refine (TO.ents v.name).rise.imp fun {a b} h z => ?_
    have : a.1 = b.1 := (Prod.mk.inj z).1
    omega
  · rw [List.pairwise_map]
    have nd : wd.ves.Pairwise (fun a b => a.name ≠ b.name) := List.pairwise_map.mp O.vd
    refine nd.imp fun {a b} h x hx y hy z => ?_
    obtain ⟨e, _, rfl⟩ := List.mem_map.mp hx
    obtain ⟨e', _, rfl⟩ := List.mem_map.mp hy
    exact h (Prod.mk.inj z).2
theorem turns_nodup {wd : Wd} (O : wd.Ok) {tbl : Tbl} (TO : TblOk wd tbl) {ts : List SRow} (it : IsTurns wd tbl ts) : (ts.map fun r => (r.hour, r.name)).Nodup := by
  have e : (rowsW wd tbl wd.ves).map (fun r => (r.hour, r.name)) = (wtsOf tbl wd.ves).map fun x => (x.2.1, x.1) := by
    rw [← rows_wt wd, List.map_map]; rfl
  exact (it.perm.map _).nodup_iff.mpr (by rw [e]; exact wts_nodup O TO)
theorem turns_rise {wd : Wd} (O : wd.Ok) {tbl : Tbl} (TO : TblOk wd tbl) {ts : List SRow} (it : IsTurns wd tbl ts) : ts.Pairwise fun r r' => r.name = r'.name → r.hour < r'.hour := by
  have nd : ts.Pairwise (fun a b => (a.hour, a.name) ≠ (b.hour, b.name)) := List.pairwise_map.mp (turns_nodup O TO it)
  refine List.Pairwise.imp_of_mem ?_ (nd.and it.srt)
  rintro a b ha hb ⟨h1, h2⟩ e
  have ka := it.perm.mem_iff.mp ha
  have kb := it.perm.mem_iff.mp hb
  obtain ⟨ρ, v, n, x, _, _, rfl⟩ := mem_rowsW.mp ka
  obtain ⟨ρ', v', n', x', _, _, rfl⟩ := mem_rowsW.mp kb
  have le : x.1 ≤ x'.1 := by
    have hd : ∀ (ρ : Nat) (v : Ves) (n : Nat) (y : Ent), ∃ t, (mkRow wd ρ v n y).key = y.1 :: t := fun ρ v n y => by
      unfold mkRow
      dsimp only
      split
      · exact ⟨_, rfl⟩
      · exact ⟨_, rfl⟩
    obtain ⟨t1, e1⟩ := hd ρ v n x
    obtain ⟨t2, e2⟩ := hd ρ' v' n' x'
    rw [e1, e2, klt, HT.lexLt_cons] at h2
    by_cases z : x'.1 = x.1
    · omega
    · rw [if_neg z] at h2
      have := of_decide_eq_false h2
      omega
  have ne : x.1 ≠ x'.1 := fun z => h1 (by show (x.1, v.name) = (x'.1, v'.name); rw [z]; exact congrArg _ e)
  show x.1 < x'.1
  omega
/-! ### parts of a list by names -/
theorem part_perm {α : Type} (f : α → Str) : ∀ (ns : List Str) (l : List α), ns.Nodup → (∀ r ∈ l, f r ∈ ns) → l.Perm (ns.map fun n => l.filter fun r => decide (f r = n)).flatten
  | [], l, _, h => by
    cases l with
    | nil => exact .nil
    | cons r l => exact absurd (h r (List.mem_cons_self ..)) (by simp)
  | n :: ns, l, nd, h => by
    rw [List.map_cons, List.flatten_cons]
    rw [List.nodup_cons] at nd
    have p := List.filter_append_perm (fun r => decide (f r = n)) l
    have q := part_perm f ns (l.filter fun r => !decide (f r = n)) nd.2 fun r hr => by
      obtain ⟨a, b⟩ := List.mem_filter.mp hr
      rcases List.mem_cons.mp (h r a) with e | e
      · rw [e] at b; simp at b
      · exact e
    refine p.symm.trans (List.Perm.append_left _ (q.trans (List.Perm.of_eq ?_)))
    congr 1
    refine List.map_congr_left fun m hm => ?_
    rw [List.filter_filter]
    refine List.filter_congr fun r _ => ?_
    by_cases e : f r = m
    · have : f r ≠ n := fun z => nd.1 (by rw [← z, e]; exact hm)
      simp [e, this]
      intro z
      exact this (by rw [e, z])
    · simp [e]
theorem look_tabOf (st : WS) : ∀ (vs : List Ves), (vs.map (·.name)).Nodup → ∀ v ∈ vs, look (tabOf st vs) v.name = entsOf (st.legs v.name)
  | [], _, v, h => by cases h
  | u :: vs, nd, v, h => by
    rw [List.map_cons, List.nodup_cons] at nd
    rw [tabOf_cons]
    rcases List.mem_cons.mp h with e | h
    · rw [e]
      by_cases z : st.legs u.name = []
      · rw [if_pos z, z, look_none fun q => nd.1 ((tabOf_sub st vs).subset q)]
        rfl
      · rw [if_neg z, look_cons, if_pos rfl]
    · have ne : u.name ≠ v.name := fun z => nd.1 (by rw [z]; exact List.mem_map.mpr ⟨v, h, rfl⟩)
      by_cases z : st.legs u.name = []
      · rw [if_pos z]; exact look_tabOf st vs nd.2 v h
      · rw [if_neg z, look_cons, if_neg ne]; exact look_tabOf st vs nd.2 v h
theorem tabOf_mem (st : WS) : ∀ (vs : List Ves) {p : Str × List Ent}, p ∈ tabOf st vs → ∃ v ∈ vs, p.1 = v.name ∧ p.2 = entsOf (st.legs v.name)
  | [], _, h => by cases h
  | u :: vs, p, h => by
    rw [tabOf_cons] at h
    split at h
    · obtain ⟨v, a, b⟩ := tabOf_mem st vs h
      exact ⟨v, List.mem_cons_of_mem _ a, b⟩
    · rcases List.mem_cons.mp h with h | h
      · rw [h]; exact ⟨u, List.mem_cons_self .., rfl, rfl⟩
      · obtain ⟨v, a, b⟩ := tabOf_mem st vs h
        exact ⟨v, List.mem_cons_of_mem _ a, b⟩
/-! ### the table of what was done -/
section
variable {wd : Wd} (O : wd.Ok) {T : Tbl} (TO : TblOk wd T) {ts : List SRow} (it : IsTurns wd T ts)
include O TO it
theorem legs_ds (x : Str) : entsOf ((walkT wd ts).legs x) = ((dsOf wd WS.init ts).filter fun r => decide (r.name = x)).map fun r => (r.hour, r.chan) := by
  have := ents_ds wd x ts WS.init
  rw [show entsOf (WS.init.legs x) = [] from rfl, List.nil_append] at this
  exact this
theorem tab_ents (hn : ts.length ≤ 60) (x : Str) : EntsOk wd.begin_ (wd.chans.map (·.name)) (entsOf ((walkT wd ts).legs x)) := by
  rw [legs_ds O TO it]
  have sub : ((dsOf wd WS.init ts).filter fun r => decide (r.name = x)).Sublist ts := (List.filter_sublist ..).trans (dsOf_sub wd ts WS.init)
  refine ⟨?_, fun e he => ?_, ?_⟩
  · rw [List.pairwise_map]
    refine List.Pairwise.imp_of_mem ?_ ((turns_rise O TO it).sublist sub)
    intro a b ha hb h
    have h1 := of_decide_eq_true (List.mem_filter.mp ha).2
    have h2 := of_decide_eq_true (List.mem_filter.mp hb).2
    exact h (h1.trans h2.symm)
  · obtain ⟨r, hr, rfl⟩ := List.mem_map.mp he
    obtain ⟨v, _, c, hc, _, e2, b0, b1⟩ := turn_is TO it (sub.subset hr)
    exact ⟨b0, b1, List.mem_map.mpr ⟨c, hc, e2.symm⟩⟩
  · rw [List.length_map]
    exact Nat.le_trans sub.length_le hn
theorem tab_ok (hn : ts.length ≤ 60) : TblOk wd (tabOf (walkT wd ts) wd.ves) := by
  refine ⟨(tabOf_sub _ _).nodup O.vd, ?_, fun p hp => ?_⟩
  · have := (tabOf_sub (walkT wd ts) wd.ves).length_le
    rw [List.length_map, List.length_map] at this
    have := O.vl
    omega
  · obtain ⟨v, hv, e1, e2⟩ := tabOf_mem _ _ hp
    rw [e1, e2]
    exact ⟨List.mem_map.mpr ⟨v, hv, rfl⟩, tab_ents O TO it hn _⟩
theorem tab_wts : (wtsOf (tabOf (walkT wd ts) wd.ves) wd.ves).Perm ((dsOf wd WS.init ts).map wt) := by
  have names : ∀ r ∈ dsOf wd WS.init ts, r.name ∈ wd.ves.map (·.name) := fun r hr => by
    obtain ⟨v, hv, _, _, e, _⟩ := turn_is TO it ((dsOf_sub wd ts WS.init).subset hr)
    exact List.mem_map.mpr ⟨v, hv, e.symm⟩
  have p := (part_perm (fun r : SRow => r.name) _ _ O.vd names).map wt
  refine (p.trans (List.Perm.of_eq ?_)).symm
  unfold wtsOf
  rw [List.map_flatten, List.map_map, List.map_map]
  congr 1
  refine List.map_congr_left fun v hv => ?_
  show List.map wt (List.filter _ _) = _
  rw [look_tabOf _ _ O.vd v hv, legs_ds O TO it, List.map_map]
  refine List.map_congr_left fun r hr => ?_
  have e := of_decide_eq_true (List.mem_filter.mp hr).2
  show (r.name, r.hour, r.chan) = (v.name, r.hour, r.chan)
  rw [e]
theorem tab_num : entNum (tabOf (walkT wd ts) wd.ves) wd.ves ≤ ts.length := by
  rw [← wts_len, (tab_wts O TO it).length_eq, List.length_map]
  exact (dsOf_sub wd ts WS.init).length_le
/-- turns as what they are, sorted -/
theorem turns_srt : (ts.map wt).Pairwise fun a b => klt (kOf wd b) (kOf wd a) = false := by
  rw [List.pairwise_map]
  refine List.Pairwise.imp_of_mem ?_ it.srt
  intro a b ha hb h
  rw [← key_is O (it.perm.mem_iff.mp ha), ← key_is O (it.perm.mem_iff.mp hb)]
  exact h
theorem turns_inj : ∀ a ∈ ts.map wt, ∀ b ∈ ts.map wt, kOf wd a = kOf wd b → a = b := by
  intro a ha b hb e
  obtain ⟨r, hr, rfl⟩ := List.mem_map.mp ha
  obtain ⟨q, hq, rfl⟩ := List.mem_map.mp hb
  have kr := it.perm.mem_iff.mp hr
  have kq := it.perm.mem_iff.mp hq
  rw [← key_is O kr, ← key_is O kq] at e
  rw [rows_inj (fun x => (TO.ents x).rise) kr kq e]
end
theorem told_wts {wd : Wd} (T : Tbl) : wtsOf (toldL T wd.ves) wd.ves = wtsOf T wd.ves := wts_congr fun v hv => toldL_look T v.name wd.ves (List.mem_map.mpr ⟨v, hv, rfl⟩)
/-- the walk of what was done -/
theorem walk_again {wd : Wd} (O : wd.Ok) {T : Tbl} (TO : TblOk wd T) {ts : List SRow} (it : IsTurns wd T ts) (hn : ts.length ≤ 60) {ts2 : List SRow} (it2 : IsTurns wd (toldL (tabOf (walkT wd ts) wd.ves) wd.ves) ts2) :
    (walkT wd ts2).wrong = [] ∧ (walkT wd ts2).gone = (walkT wd ts).gone ∧ doneAll wd WS.init ts2 ∧ ts2.map wt = (dsOf wd WS.init ts).map wt := by
  have TO2 := (tab_ok O TO it hn).told O
  have e : ts2.map wt = (dsOf wd WS.init ts).map wt := by
    refine uniq (k := kOf wd) ?_ (turns_srt O TO2 it2) ?_ (turns_inj O TO2 it2)
    · have p := it2.perm.map wt
      rw [rows_wt, told_wts] at p
      exact p.trans (tab_wts O TO it)
    · exact (turns_srt O TO it).sublist ((dsOf_sub wd ts WS.init).map wt)
  obtain ⟨S, w, d⟩ := run_done wd ts WS.init WS.init ts2 ⟨rfl, rfl, rfl⟩ e
  exact ⟨w, S.g.symm, d, e⟩
end Ik


namespace Ik
open PySem PySem.Spec L2
/-! ### a breaker more -/
structure More (wd wd2 : Wd) (nv : Ves) : Prop where
  bg : wd2.begin_ = wd.begin_
  ch : wd2.chans = wd.chans
  nB : nv.isB = true
  nn : nv.name ∉ wd.ves.map (·.name)
  pv : wd2.ves.Perm (nv :: wd.ves)
  ix : ∃ sB sS : Nat, ∀ v ∈ wd.ves, idxV 0 wd2.ves v.name = idxV 0 wd.ves v.name + if v.isB = true then sB else sS
theorem More.ves {wd wd2 : Wd} {nv : Ves} (M : More wd wd2 nv) (O2 : wd2.Ok) {v : Ves} (h : v ∈ wd.ves) : vesOf wd2 v.name = some v := vesOf_mem O2 (M.pv.mem_iff.mpr (List.mem_cons_of_mem _ h))
theorem More.old {wd wd2 : Wd} {nv : Ves} (M : More wd wd2 nv) (O : wd.Ok) (O2 : wd2.Ok) {x : Str} (h : x ≠ nv.name) : vesOf wd2 x = vesOf wd x := by
  cases e : vesOf wd x with
  | some v =>
    obtain ⟨a, b⟩ := vesOf_some e
    rw [← b, M.ves O2 a]
  | none =>
    cases e2 : vesOf wd2 x with
    | none => rfl
    | some v =>
      obtain ⟨a, b⟩ := vesOf_some e2
      rcases List.mem_cons.mp (M.pv.mem_iff.mp a) with z | z
      · exact absurd (by rw [← b, z]) h
      · rw [← b, vesOf_mem O z] at e; cases e
theorem klt_sh {h h' r r' s s' : Int} {i j k : Nat} : klt [h, 0, r, s, ((i + k : Nat) : Int)] [h', 0, r', s', ((j + k : Nat) : Int)] = klt [h, 0, r, s, (i : Int)] [h', 0, r', s', (j : Int)] := by
  have e1 : (((i + k : Nat) : Int) = ((j + k : Nat) : Int)) ↔ ((i : Int) = (j : Int)) := by omega
  have e2 : (((i + k : Nat) : Int) < ((j + k : Nat) : Int)) ↔ ((i : Int) < (j : Int)) := by omega
  simp only [klt, HT.lexLt_cons, e1, e2]
theorem klt_sh1 {h h' : Int} {i j k : Nat} : klt [h, 1, ((i + k : Nat) : Int), 0, 0] [h', 1, ((j + k : Nat) : Int), 0, 0] = klt [h, 1, (i : Int), 0, 0] [h', 1, (j : Int), 0, 0] := by
  have e1 : (((i + k : Nat) : Int) = ((j + k : Nat) : Int)) ↔ ((i : Int) = (j : Int)) := by omega
  have e2 : (((i + k : Nat) : Int) < ((j + k : Nat) : Int)) ↔ ((i : Int) < (j : Int)) := by omega
  simp only [klt, HT.lexLt_cons, e1, e2]
theorem klt_01 {h h' a b c d e f : Int} : klt [h, 0, a, b, c] [h', 1, d, e, f] = if h = h' then true else decide (h < h') := by
  simp only [klt, HT.lexLt_cons]
  rfl
theorem klt_10 {h h' a b c d e f : Int} : klt [h, 1, a, b, c] [h', 0, d, e, f] = if h = h' then false else decide (h < h') := by
  simp only [klt, HT.lexLt_cons]
  rfl
theorem More.klt {wd wd2 : Wd} {nv : Ves} (M : More wd wd2 nv) (O : wd.Ok) (O2 : wd2.Ok) {a b : Wt} (ha : a.1 ∈ wd.ves.map (·.name)) (hb : b.1 ∈ wd.ves.map (·.name)) : klt (kOf wd2 a) (kOf wd2 b) = klt (kOf wd a) (kOf wd b) := by
  obtain ⟨sB, sS, ix⟩ := M.ix
  obtain ⟨u, hu, eu⟩ := List.mem_map.mp ha
  obtain ⟨v, hv, ev⟩ := List.mem_map.mp hb
  have iu := ix u hu
  have iv := ix v hv
  unfold kOf
  rw [← eu, ← ev, M.ves O2 hu, M.ves O2 hv, vesOf_mem O hu, vesOf_mem O hv, iu, iv, M.ch]
  dsimp only
  by_cases p : u.isB = true
  · by_cases q : v.isB = true
    · rw [if_pos p, if_pos p, if_pos q, if_pos q, if_pos p, if_pos q, klt_sh]
    · rw [if_pos p, if_pos p, if_neg q, if_neg q, if_pos p, if_neg q, klt_01, klt_01]
  · by_cases q : v.isB = true
    · rw [if_neg p, if_neg p, if_pos q, if_pos q, if_neg p, if_pos q, klt_10, klt_10]
    · rw [if_neg p, if_neg p, if_neg q, if_neg q, if_neg p, if_neg q, klt_sh1]
/-! ### side by side -/
structure Sim (nv : Ves) (s s2 : WS) : Prop where
  lg : ∀ x, x ≠ nv.name → s2.legs x = s.legs x
  ct : ∀ c h, cutSum (s.cuts c) h ≤ cutSum (s2.cuts c) h
  wr : ∀ f ∈ s2.wrong, f.1 = nv.name
  gn : ∀ r ∈ s.gone, ∃ r' ∈ s2.gone, key4 r' = key4 r ∧ r'.2.2.2.2 ≤ r.2.2.2.2
theorem sim_run {wd wd2 : Wd} {nv : Ves} (M : More wd wd2 nv) (O : wd.Ok) (O2 : wd2.Ok) : ∀ (ts4 ds : List SRow) (s s2 : WS), Sim nv s s2 → (ts4.filter fun r => !decide (r.name = nv.name)).map wt = ds.map wt → doneAll wd s ds →
    (∀ r ∈ ts4, ∃ v c, vesOf wd2 r.name = some v ∧ chanOf wd2 r.chan = some c) → Sim nv (ds.foldl (stepR wd) s) (ts4.foldl (stepR wd2) s2)
  | [], ds, s, s2, S, e, _, _ => by
    have : ds = [] := List.map_eq_nil_iff.mp e.symm
    subst this
    exact S
  | r :: ts4, ds, s, s2, S, e, da, res => by
    have res' : ∀ q ∈ ts4, ∃ v c, vesOf wd2 q.name = some v ∧ chanOf wd2 q.chan = some c := fun q h => res q (List.mem_cons_of_mem _ h)
    have nvm : vesOf wd2 nv.name = some nv := vesOf_mem O2 (M.pv.mem_iff.mpr (List.mem_cons_self ..))
    have nvk : 0 ≤ nv.cut := by
      have hm : nv ∈ wd2.ves := M.pv.mem_iff.mpr (List.mem_cons_self ..)
      have := (O2.vn hm).1.c0 M.nB
      omega
    rw [List.foldl_cons]
    by_cases z : r.name = nv.name
    · rw [List.filter_cons_of_neg (by rw [decide_eq_true z]; decide)] at e
      refine sim_run M O O2 ts4 ds s _ ?_ e da res'
      rcases step_cases wd2 s2 r with ⟨q, ⟨_, e1⟩ | ⟨x, e1⟩⟩ | ⟨_, v, c, hv, hc, hw, es⟩
      · rw [e1]; exact S
      · rw [e1]
        refine ⟨S.lg, S.ct, fun f hf => ?_, S.gn⟩
        rcases List.mem_append.mp hf with hf | hf
        · exact S.wr f hf
        · rw [List.mem_singleton.mp hf]; exact z
      · rw [es]
        rw [z, nvm] at hv
        cases hv
        refine ⟨fun x hx => ?_, fun c' h => ?_, S.wr, fun g hg => ?_⟩
        · show (if x = nv.name then _ else _) = _
          rw [if_neg hx]; exact S.lg x hx
        · show _ ≤ cutSum ((if nv.isB = true then fun x => if x = c.name then addCut (s2.cuts x) r.hour nv.cut else s2.cuts x else s2.cuts) c') h
          rw [if_pos M.nB]
          split
          · rw [cutSum_add]
            split
            · rename_i e1; rw [← e1]; have := S.ct c' h; omega
            · exact S.ct c' h
          · exact S.ct c' h
        · obtain ⟨g', a, b⟩ := S.gn g hg
          exact ⟨g', List.mem_append_left _ a, b⟩
    · rw [List.filter_cons_of_pos (by rw [decide_eq_false z]; decide), List.map_cons] at e
      cases ds with
      | nil => cases e
      | cons d ds =>
        rw [List.map_cons, List.cons.injEq] at e
        obtain ⟨e1, e2⟩ := e
        obtain ⟨dd, da⟩ := da
        rw [List.foldl_cons]
        refine sim_run M O O2 ts4 ds _ _ ?_ e2 da res'
        unfold wt at e1
        simp only [Prod.mk.injEq] at e1
        obtain ⟨n1, n2, n3⟩ := e1
        rcases step_cases wd s d with ⟨q, _⟩ | ⟨_, v, c, hv, hc, hw, es⟩
        · rw [q] at dd; cases dd
        · have hv2 : vesOf wd2 r.name = some v := by rw [M.old O O2 z, n1]; exact hv
          have hc2 : chanOf wd2 r.chan = some c := by unfold chanOf; rw [M.ch, n3]; exact hc
          have vn : v.name ≠ nv.name := by rw [(vesOf_some hv2).2]; exact z
          have fr : wd2.from_ v = wd.from_ v := by unfold Wd.from_; rw [M.bg]
          have sp : spotOf wd2 v (s2.legs v.name) = spotOf wd v (s.legs v.name) := by unfold spotOf; rw [S.lg _ vn, fr]
          have ic : c.ice (s2.cuts c.name) wd2.begin_ r.hour ≤ c.ice (s.cuts c.name) wd.begin_ d.hour := by
            rw [M.bg, n2]
            exact ice_mono (fun x => S.ct c.name x) _
          have hw2 : wordR wd2 s2 v r.hour c = none := by
            unfold wordR at hw ⊢
            rw [sp, n2]
            rw [n2] at ic
            obtain ⟨w1, w2, w3, w4⟩ := wordOf_none.mp hw
            exact wordOf_none.mpr ⟨w1, w2, w3, Int.le_trans ic w4⟩
          have es2 : stepR wd2 s2 r = addT wd2 s2 v r.hour c := by
            unfold stepR
            rw [hv2, hc2]
            exact step_none hw2
          rw [es, es2]
          refine ⟨fun x hx => ?_, fun c' h => ?_, S.wr, fun g hg => ?_⟩
          · show (if x = v.name then _ else _) = (if x = v.name then _ else _)
            rw [S.lg x hx, sp, n2]
          · show cutSum ((if v.isB = true then fun x => if x = c.name then addCut (s.cuts x) d.hour v.cut else s.cuts x else s.cuts) c') h ≤ cutSum ((if v.isB = true then fun x => if x = c.name then addCut (s2.cuts x) r.hour v.cut else s2.cuts x else s2.cuts) c') h
            rw [n2]
            by_cases b : v.isB = true
            · rw [if_pos b, if_pos b]
              by_cases y : c' = c.name
              · rw [if_pos y, if_pos y, cutSum_add, cutSum_add]
                by_cases e4 : h = d.hour
                · rw [if_pos e4, if_pos e4, ← e4]
                  have := S.ct c' h
                  omega
                · rw [if_neg e4, if_neg e4]; exact S.ct c' h
              · rw [if_neg y, if_neg y]; exact S.ct c' h
            · rw [if_neg b, if_neg b]; exact S.ct c' h
          · rcases List.mem_append.mp hg with hg | hg
            · obtain ⟨g', a, b⟩ := S.gn g hg
              exact ⟨g', List.mem_append_left _ a, b⟩
            · rw [List.mem_singleton.mp hg]
              refine ⟨_, List.mem_append_right _ (List.mem_singleton.mpr rfl), ?_, ic⟩
              show key4 (r.hour, v.name, c.name, (spotOf wd2 v (s2.legs v.name)).1, _) = key4 (d.hour, v.name, c.name, (spotOf wd v (s.legs v.name)).1, _)
              unfold key4
              dsimp only
              rw [sp, n2]
theorem look_app {a b : Tbl} {x : Str} : look (a ++ b) x = if x ∈ a.map (·.1) then look a x else look b x := by
  induction a with
  | nil => rfl
  | cons p a ih =>
    rw [List.cons_append, look_cons, look_cons, ih, List.map_cons]
    by_cases e : p.1 = x
    · rw [if_pos e, if_pos e, if_pos (by rw [e]; exact List.mem_cons_self ..)]
    · rw [if_neg e, if_neg e]
      by_cases h : x ∈ a.map (·.1)
      · rw [if_pos h, if_pos (List.mem_cons_of_mem _ h)]
      · rw [if_neg h, if_neg fun z => (List.mem_cons.mp z).elim (fun q => e q.symm) h]
/-- the walk of a world with a breaker more -/
theorem walk_more {wd wd2 : Wd} {nv : Ves} (M : More wd wd2 nv) (O : wd.Ok) (O2 : wd2.Ok) {T : Tbl} (TO : TblOk wd T) {es : List Ent} (eo : EntsOk wd.begin_ (wd.chans.map (·.name)) es) {ts : List SRow} (it : IsTurns wd T ts) (hn : ts.length ≤ 60) {ts2 : List SRow}
    (it2 : IsTurns wd (toldL (tabOf (walkT wd ts) wd.ves) wd.ves) ts2) {ts4 : List SRow} (TO4 : TblOk wd2 (tabOf (walkT wd ts) wd.ves ++ [(nv.name, es)])) (it4 : IsTurns wd2 (toldL (tabOf (walkT wd ts) wd.ves ++ [(nv.name, es)]) wd2.ves) ts4) :
    Sim nv (walkT wd ts2) (walkT wd2 ts4) ∧ ((walkT wd2 ts4).gone.map key4).Nodup ∧ ∀ r ∈ (walkT wd2 ts4).gone, SafeG wd2 r := by
  have TO2 := (tab_ok O TO it hn).told O
  have TO4' := TO4.told O2
  obtain ⟨_, _, da, _⟩ := walk_again O TO it hn it2
  have nk : nv.name ∉ (tabOf (walkT wd ts) wd.ves).map (·.1) := fun z => M.nn ((tabOf_sub _ _).subset z)
  -- the old turns, in their order
  have old : ∀ r ∈ ts4, r.name ≠ nv.name → r.name ∈ wd.ves.map (·.name) := fun r hr ne => by
    obtain ⟨v, hv, _, _, e, _⟩ := turn_is TO4' it4 hr
    rcases List.mem_cons.mp (M.pv.mem_iff.mp hv) with z | z
    · exact absurd (by rw [e, z]) ne
    · exact List.mem_map.mpr ⟨v, z, e.symm⟩
  have lk : ∀ v ∈ wd.ves, look (tabOf (walkT wd ts) wd.ves ++ [(nv.name, es)]) v.name = look (tabOf (walkT wd ts) wd.ves) v.name := fun v hv => by
    rw [look_app]
    split
    · rfl
    · rename_i h
      rw [look_none h, look_cons, if_neg fun z => M.nn (by rw [show nv.name = v.name from z]; exact List.mem_map.mpr ⟨v, hv, rfl⟩)]
      rfl
  have e : (ts4.filter fun r => !decide (r.name = nv.name)).map wt = ts2.map wt := by
    refine uniq (k := kOf wd) ?_ ?_ (turns_srt O TO2 it2) fun a ha b hb q => ?_
    · have p := (it4.perm.map wt)
      rw [rows_wt, told_wts] at p
      have f : (ts4.filter fun r => !decide (r.name = nv.name)).map wt = (ts4.map wt).filter fun x => !decide (x.1 = nv.name) := by
        rw [List.filter_map]; rfl
      rw [f]
      refine (p.filter _).trans ?_
      have pw : (wtsOf (tabOf (walkT wd ts) wd.ves ++ [(nv.name, es)]) wd2.ves).Perm (wtsOf (tabOf (walkT wd ts) wd.ves ++ [(nv.name, es)]) (nv :: wd.ves)) := (M.pv.map _).flatten
      refine (pw.filter _).trans ?_
      have split_ : wtsOf (tabOf (walkT wd ts) wd.ves ++ [(nv.name, es)]) (nv :: wd.ves) = ((look (tabOf (walkT wd ts) wd.ves ++ [(nv.name, es)]) nv.name).map fun e => ((nv.name, e.1, e.2) : Wt)) ++ wtsOf (tabOf (walkT wd ts) wd.ves ++ [(nv.name, es)]) wd.ves := rfl
      rw [split_, List.filter_append, wts_congr lk]
      have f1 : (List.map (fun e => ((nv.name, e.1, e.2) : Wt)) (look (tabOf (walkT wd ts) wd.ves ++ [(nv.name, es)]) nv.name)).filter (fun x => !decide (x.1 = nv.name)) = [] := by
        rw [List.filter_eq_nil_iff]
        intro x hx
        obtain ⟨e, _, rfl⟩ := List.mem_map.mp hx
        simp
      have f2 : (wtsOf (tabOf (walkT wd ts) wd.ves) wd.ves).filter (fun x => !decide (x.1 = nv.name)) = wtsOf (tabOf (walkT wd ts) wd.ves) wd.ves := by
        rw [List.filter_eq_self]
        intro x hx
        unfold wtsOf at hx
        obtain ⟨l, hl, hx⟩ := List.mem_flatten.mp hx
        obtain ⟨v, hv, rfl⟩ := List.mem_map.mp hl
        obtain ⟨e, _, rfl⟩ := List.mem_map.mp hx
        have : v.name ≠ nv.name := fun z => M.nn (by rw [← z]; exact List.mem_map.mpr ⟨v, hv, rfl⟩)
        simp [this]
      rw [f1, f2, List.nil_append]
      have p2 := it2.perm.map wt
      rw [rows_wt, told_wts] at p2
      exact p2.symm
    · have s4 := turns_srt O2 TO4' it4
      rw [List.pairwise_map] at s4 ⊢
      refine List.Pairwise.imp_of_mem ?_ (s4.sublist (List.filter_sublist ..))
      intro a b ha hb h
      obtain ⟨a1, a2⟩ := List.mem_filter.mp ha
      obtain ⟨b1, b2⟩ := List.mem_filter.mp hb
      rw [← M.klt O O2 (old b b1 (by simpa using b2)) (old a a1 (by simpa using a2))]
      exact h
    · obtain ⟨r, hr, rfl⟩ := List.mem_map.mp ha
      obtain ⟨r', hr', rfl⟩ := List.mem_map.mp hb
      obtain ⟨a1, a2⟩ := List.mem_filter.mp hr
      obtain ⟨b1, b2⟩ := List.mem_filter.mp hr'
      have oa := old r a1 (by simpa using a2)
      have ob := old r' b1 (by simpa using b2)
      refine turns_inj O2 TO4' it4 _ (List.mem_map.mpr ⟨r, a1, rfl⟩) _ (List.mem_map.mpr ⟨r', b1, rfl⟩) (klt_eq _ _ ?_ ?_)
      · rw [M.klt O O2 oa ob, q]; exact klt_irr _
      · rw [M.klt O O2 ob oa, q]; exact klt_irr _
  have S : Sim nv (walkT wd ts2) (walkT wd2 ts4) := by
    refine sim_run M O O2 ts4 ts2 WS.init WS.init ⟨fun _ _ => rfl, fun _ _ => Int.le_refl _, fun f h => (nomatch h), fun r h => (nomatch h)⟩ e da fun r hr => ?_
    obtain ⟨v, hv, c, hc, e1, e2, _⟩ := turn_is TO4' it4 hr
    exact ⟨v, c, by rw [e1]; exact vesOf_mem O2 hv, by rw [e2]; exact chanOf_mem O2 hc⟩
  refine ⟨S, ?_, safe_gone wd2 ts4 WS.init fun r h => (nomatch h)⟩
  have nd := turns_nodup O2 TO4' it4
  have sub := gone_sub wd2 ts4 WS.init
  have nd2 : ((walkT wd2 ts4).gone.map fun g => (g.1, g.2.1)).Nodup := List.Sublist.nodup sub nd
  unfold List.Nodup at nd2 ⊢
  rw [List.pairwise_map] at nd2 ⊢
  refine nd2.imp fun {a b} h z => h ?_
  unfold key4 at z
  simp only [List.cons.injEq, Sum.inl.injEq, Sum.inr.injEq] at z
  rw [z.1, z.2.1]
end Ik


namespace Ik
open PySem PySem.Spec L2
open PySem.W (Frag)
/-! ### the box of digits -/
def Box (H : Hp) (b : Addr) (n : Nat) : Prop := ∃ x y z : Int, H b = some (.lst [.int x, .int y, .int z]) ∧ 0 ≤ x ∧ 0 ≤ y ∧ y < 2147483629 ∧ 0 ≤ z ∧ z ≤ n
theorem Box.le {H : Hp} {b : Addr} {n m : Nat} (h : Box H b n) (hm : n ≤ m) : Box H b m := let ⟨x, y, z, e, a, c, d, f, g⟩ := h; ⟨x, y, z, e, a, c, d, f, by omega⟩
theorem Box.mono {H H' : Hp} {b : Addr} {n : Nat} (h : Box H b n) (s : Same H H') : Box H' b n := let ⟨x, y, z, e, r⟩ := h; ⟨x, y, z, s _ _ e, r⟩
/-- what is not the box stays -/
theorem Box.kind {H : Hp} {b : Addr} {n : Nat} (h : Box H b n) {a : Addr} {o : HO} (e : H a = some o) (hn : ∀ x y z : Int, o ≠ .lst [.int x, .int y, .int z]) : er b H a = some o := by
  obtain ⟨x, y, z, hb, _⟩ := h
  exact er_kind hb e fun q => hn x y z q.symm
theorem Box.ne {H : Hp} {b : Addr} {n : Nat} (h : Box H b n) {a : Addr} (e : H a = none) : a ≠ b := fun z => by obtain ⟨_, _, _, g, _⟩ := h; rw [z, g] at e; cases e
theorem er_eq {b : Addr} {H H' : Hp} (h : ∀ c, c ≠ b → H' c = H c) : er b H' = er b H := by
  funext c
  by_cases e : c = b
  · rw [e, er_at, er_at]
  · rw [er_ne e, er_ne e, h c e]
theorem er_mono {b : Addr} {H H' : Hp} (s : Same (er b H) H') : Same (er b H) (er b H') := er_lift s er_at
theorem atI_int {α : Type} {xs : List α} {i : Int} {v : α} (h : 0 ≤ i) (e : xs[i.toNat]? = some v) : atI xs i = some v := by
  have := atI_nat e
  rw [Int.toNat_of_nonneg h] at this
  exact this
/-! ### promises -/
def sp_cell (K : Frag) : Sp := fun vs H Q _ => ∃ (a : Addr) (ns : List Int) (k : Int), vs = [.ref a, .int k] ∧ SqL K H a (ns.map V.int) ∧ 0 ≤ k ∧ ∀ i : Int, Q (.int i) H
def sp_box : Sp := fun vs H Q _ => ∃ c : Int, vs = [.int c] ∧ ∀ b H', H b = none → Same H H' → Box H' b 0 → Q (.ref b) H'
def sp_take : Sp := fun vs H Q _ => ∃ (b : Addr) (m : Int) (n : Nat), vs = [.ref b, .int m] ∧ Box H b n ∧ n ≤ 100000 ∧ 1 ≤ m ∧ m ≤ 1000 ∧ ∀ d H', 0 ≤ d → d < m → er b H' = er b H → Box H' b (n + 1) → Q (.int d) H'
def Z_l_cell : Scope := { kind := .function, names := [("_law_script", .local), ("_law_k", .local), ("len", .globalImplicit)], isGenerator := false, isCoroutine := false, more := (defScope S_l_cell).more }
abbrev N_l_cell : List Str := ["_law_script", "_law_k"]
abbrev P_l_cell : List Str := ["_law_script", "_law_k"]
theorem sc_l_cell : FnScope N_l_cell P_l_cell Z_l_cell := ⟨rfl, rfl, rfl, by decide +kernel, rfl, by decide +kernel, by decide +kernel⟩
theorem sz_l_cell : defScope S_l_cell = Z_l_cell := rfl
def Z_l_box : Scope := { kind := .function, names := [("_law_cell_here", .local), ("max", .globalImplicit)], isGenerator := false, isCoroutine := false, more := (defScope S_l_box).more }
abbrev N_l_box : List Str := ["_law_cell_here"]
abbrev P_l_box : List Str := ["_law_cell_here"]
theorem sc_l_box : FnScope N_l_box P_l_box Z_l_box := ⟨rfl, rfl, rfl, by decide +kernel, rfl, by decide +kernel, by decide +kernel⟩
theorem sz_l_box : defScope S_l_box = Z_l_box := rfl
def Z_l_take : Scope := { kind := .function, names := [("_law_box_here", .local), ("_law_many", .local), ("_law_digit", .local), ("_law_one", .local), ("_law_other", .local)], isGenerator := false, isCoroutine := false, more := (defScope S_l_take).more }
abbrev N_l_take : List Str := ["_law_box_here", "_law_many", "_law_digit", "_law_one", "_law_other"]
abbrev P_l_take : List Str := ["_law_box_here", "_law_many"]
theorem sc_l_take : FnScope N_l_take P_l_take Z_l_take := ⟨rfl, rfl, rfl, by decide +kernel, rfl, by decide +kernel, by decide +kernel⟩
theorem sz_l_take : defScope S_l_take = Z_l_take := rfl
section
variable {P : Program} {w : World} {K : Frag} {mg : Str → Option Value} {base : Heap}
theorem ok_l_box (T : Txt K mg) : DOk P w K mg base CX0 1 a_l_box P_l_box sp_box := by
  refine DOk.mk0 T.f_l_box sc_l_box sz_l_box (fun vs H Q E h => ?_) (fun cdv A outer s H vs Q E hr h => ?_)
  · obtain ⟨c, rfl, _⟩ := h; rfl
  · obtain ⟨c, rfl, k⟩ := h
    refine ⟨_, (pss_one (ps_ret (pe_lst (pa_cons (pe_callB (call_max2 rfl) (by rfl) T.z_max bt_max (pa_cons pe_int (pa_cons (pe_op op_sub (pv 0) (pe_op op_pow pe_int pe_int)) pa_nil))) (pa_cons (pe_op op_mod (pv 0) pe_int) (pa_cons pe_int pa_nil)))))), ?_⟩
    refine ⟨_, rfl, _, _, rfl, rfl, ⟨by decide, by decide, by decide⟩, _, _, rfl, rfl, _, _, rfl, _, rfl, _, _, rfl, rfl, (show (0:Int) < 2147483629 by decide), szOf rfl, fun b hb => ?_⟩
    refine k b _ hb (same_new hb) ⟨_, _, _, upd_same, ?_, Int.emod_nonneg _ (by decide), Int.emod_lt_of_pos _ (by decide), Int.le_refl _, Int.le_refl _⟩
    split <;> omega
theorem ok_l_take (T : Txt K mg) : DOk P w K mg base CX0 1 a_l_take P_l_take sp_take := by
  refine DOk.mk0 T.f_l_take sc_l_take sz_l_take (fun vs H Q E h => ?_) (fun cdv A outer s H vs Q E hr h => ?_)
  · obtain ⟨b, m, n, rfl, _⟩ := h; rfl
  · obtain ⟨b, m, n, rfl, ⟨x, y, z, hb, x0, y0, y1, z0, z1⟩, hn, m0, m1, k⟩ := h
    refine ⟨_, (pss_cons (ps_if (pt_cmpR op_gt (pe_ix (ix_listK K) (pv 0) pe_int (fun _ _ => rfl)) pe_int (nomark _)) (pss_cons (ps_set (i := 2) sc_l_take.nd rfl (Or.inl rfl) (pe_op op_mod (pe_ix (ix_listK K) (pv 0) pe_int (fun _ _ => rfl)) (pv 1)))
    (pss_cons (ps_asg (pe_op op_fdiv (pe_ix (ix_listK K) (pv 0) pe_int (fun _ _ => rfl)) (pv 1)) (pg_sub (pv 0) pe_int set_list))
    (pss_one (ps_ret (pv 2))))) pss_nil)
    (pss_cons (ps_asg (pe_op op_add (pe_ix (ix_listK K) (pv 0) pe_int (fun _ _ => rfl)) pe_int) (pg_sub (pv 0) pe_int set_list))
    (pss_cons (ps_set (i := 3) sc_l_take.nd rfl (Or.inl rfl) (pe_op op_mod (pe_op op_pow (pe_op op_add (pe_op op_add (pe_ix (ix_listK K) (pv 0) pe_int (fun _ _ => rfl)) (pe_op op_mul pe_int (pe_ix (ix_listK K) (pv 0) pe_int (fun _ _ => rfl)))) pe_int) pe_int) pe_int))
    (pss_cons (ps_set (i := 4) sc_l_take.nd rfl (Or.inl rfl) (pe_op op_mod (pe_op op_pow (pe_op op_add (pe_op op_add (pe_op op_fdiv (pv 3) pe_int) (pe_op op_mul (pe_op op_mul pe_int (pe_ix (ix_listK K) (pv 0) pe_int (fun _ _ => rfl))) (pe_ix (ix_listK K) (pv 0) pe_int (fun _ _ => rfl)))) pe_int) pe_int) pe_int))
    (pss_one (ps_ret (pe_op op_mod (pe_op op_add (pe_op op_fdiv (pv 3) pe_int) (pe_op op_mul pe_int (pe_op op_fdiv (pv 4) pe_int))) (pv 1)))))))), ?_⟩
    refine ⟨_, rfl, b, _, _, _, rfl, rfl, .of hb, rfl, _, _, rfl, rfl, _, rfl, ?_⟩
    by_cases hx : x > 0
    · refine ifT (decT hx) ?_
      refine ⟨_, rfl, b, _, _, _, rfl, rfl, .of hb, rfl, _, rfl, _, _, rfl, rfl, (show (0:Int) < m by omega), ?_⟩
      refine ⟨_, rfl, b, _, _, _, rfl, rfl, .of hb, rfl, _, rfl, _, _, rfl, rfl, ⟨by omega, by omega⟩, ?_⟩
      refine ⟨_, rfl, b, _, _, _, rfl, rfl, hb, rfl, ?_⟩
      refine ⟨_, rfl, k _ _ (Int.emod_nonneg _ (by omega)) (Int.emod_lt_of_pos _ (by omega)) (er_eq fun c hc => upd_ne hc) ⟨_, _, _, upd_same, Int.ediv_nonneg x0 (by omega), y0, y1, z0, by omega⟩⟩
    · refine ifF (decF hx) ?_
      refine ⟨_, rfl, b, _, _, _, rfl, rfl, .of hb, rfl, _, _, rfl, rfl, ?_⟩
      refine ⟨_, rfl, b, _, _, _, rfl, rfl, hb, rfl, ?_⟩
      have hb2 : upd H b (.lst [.int x, .int y, .int (z + 1)]) b = some (.lst [.int x, .int y, .int (z + 1)]) := upd_same
      refine ⟨_, rfl, b, _, _, _, rfl, rfl, .of hb2, rfl, _, rfl, b, _, _, _, rfl, rfl, .of hb2, rfl, _, _, rfl, rfl, .inl ⟨by decide, by decide⟩, _, _, rfl, rfl, _, _, rfl, rfl, _, _, rfl, rfl, ⟨by decide, by decide, by omega⟩, _, _, rfl, rfl, (show (0:Int) < 2147483647 by decide), ?_⟩
      have o0 := Int.emod_nonneg ((y + 7919 * (z + 1) + 101) ^ Int.toNat 5) (show (2147483647:Int) ≠ 0 by decide)
      have o1 := Int.emod_lt_of_pos ((y + 7919 * (z + 1) + 101) ^ Int.toNat 5) (show (0:Int) < 2147483647 by decide)
      generalize (y + 7919 * (z + 1) + 101) ^ Int.toNat 5 % 2147483647 = one at o0 o1 ⊢
      have zz : 104729 * (z + 1) * (z + 1) ≤ 104729 * 100001 * 100001 := Int.mul_le_mul (by omega) (by omega) (by omega) (by decide)
      have zz0 : 0 ≤ 104729 * (z + 1) * (z + 1) := Int.mul_nonneg (by omega) (by omega)
      refine ⟨_, rfl, _, _, rfl, rfl, ⟨by decide, by decide⟩, _, rfl, b, _, _, _, rfl, rfl, .of hb2, rfl, _, _, rfl, rfl, .inl ⟨by decide, by decide⟩, _, rfl, b, _, _, _, rfl, rfl, .of hb2, rfl, _, _, rfl, rfl, .inr ⟨by omega, by omega⟩, _, _, rfl, rfl, _, _, rfl, rfl, _, _, rfl, rfl, ⟨by decide, by decide, ?_⟩, _, _, rfl, rfl, (show (0:Int) < 2147483629 by decide), ?_⟩
      · have : 0 ≤ one / 8 := Int.ediv_nonneg o0 (by decide)
        have : one / 8 ≤ one := by omega
        omega
      generalize (one / 8 + 104729 * (z + 1) * (z + 1) + 3) ^ Int.toNat 3 % 2147483629 = other
      refine ⟨_, rfl, _, _, rfl, rfl, ⟨by decide, by decide⟩, _, rfl, _, _, rfl, rfl, ⟨by decide, by decide⟩, _, _, rfl, rfl, .inl ⟨by decide, by decide⟩, _, _, rfl, rfl, _, rfl, _, _, rfl, rfl, (show (0:Int) < m by omega), ?_⟩
      exact k _ _ (Int.emod_nonneg _ (by omega)) (Int.emod_lt_of_pos _ (by omega)) (er_eq fun c hc => upd_ne hc) ⟨_, _, _, upd_same, x0, y0, y1, by omega, by omega⟩
theorem ok_l_cell (T : Txt K mg) : DOk P w K mg base CX0 1 a_l_cell P_l_cell (sp_cell K) := by
  refine DOk.mk0 T.f_l_cell sc_l_cell sz_l_cell (fun vs H Q E h => ?_) (fun cdv A outer s H vs Q E hr h => ?_)
  · obtain ⟨a, ns, i, rfl, _⟩ := h; rfl
  · obtain ⟨a, ns, i, rfl, ha, i0, k⟩ := h
    refine ⟨_, (pss_cons (ps_if (pt_cmpR op_lt (pv 1) (pe_callB (call_lenK K) (by rfl) T.z_len bt_len (pa_cons (pv 0) pa_nil)) (nomark _)) (pss_one (ps_ret (pe_ix (ix_listK K) (pv 0) (pv 1) (fun _ _ => rfl)))) pss_nil)
    (pss_one (ps_ret (pe_op op_add (pe_op op_mul pe_int (pv 1)) pe_int)))), ?_⟩
    refine ⟨_, rfl, _, rfl, _, _, rfl, .inl ⟨_, ha, rfl⟩, _, _, rfl, rfl, _, rfl, ?_⟩
    by_cases h : i < (ns.map V.int).length
    · refine ifT (decT h) ?_
      rw [List.length_map] at h
      have h2 : i.toNat < ns.length := by omega
      have h3 : atI (ns.map V.int) i = some (.int ns[i.toNat]) := atI_int i0 (by rw [List.getElem?_map, List.getElem?_eq_getElem h2]; rfl)
      exact ⟨_, rfl, _, rfl, a, _, i, _, rfl, rfl, ha, h3, k _⟩
    · refine ifF (decF h) ?_
      exact ⟨_, rfl, _, _, rfl, rfl, .inl ⟨by decide, by decide⟩, _, _, rfl, rfl, k _⟩
end
end Ik


namespace Ik
open PySem PySem.Spec L2
open PySem.W (Frag)
/-! ### names, plain -/
theorem join_chars : ∀ cs : List Nat, (Txt.join (Str.ofString "") (cs.map fun c => (⟨#[c]⟩ : Str))).cps.toList = cs := by
  intro cs
  rw [TL.join_eq]
  have e1 : (Str.ofString "").cps = #[] := by decide +kernel
  have e0 : ∀ x : Str, x ++ Str.ofString "" = x := fun x => Str.ext' (by rw [Str.cps_append, e1, Array.append_empty])
  induction cs with
  | nil => rfl
  | cons c cs ih =>
    cases cs with
    | nil => rfl
    | cons d cs =>
      rw [List.map_cons, List.map_cons]
      show ((⟨#[c]⟩ : Str) ++ Str.ofString "" ++ Str.join _ (_ :: _)).cps.toList = _
      rw [e0, Str.cps_append, Array.toList_append]
      rw [List.map_cons] at ih
      rw [ih]
      rfl
theorem cut_lo (z : Str) (j : Int) (h0 : 0 ≤ j) : (cutS z none (some j)).cps.toList = z.cps.toList.take j.toNat := by
  unfold cutS
  rw [List.toList_toArray]
  have e : HT.sIx z.length z.length (some j) = min j.toNat z.length := by
    have := HT.sIx_nat z.length z.length j.toNat
    rw [Int.toNat_of_nonneg h0] at this
    exact this
  rw [e, HT.sIx_none, List.drop_zero, Nat.sub_zero]
  have : z.length = z.cps.toList.length := rfl
  rw [this, ← List.take_eq_take_min]
theorem cut_mid (z : Str) (i j : Int) (h0 : 0 ≤ i) (h1 : i ≤ j) (h2 : j ≤ z.length) : (cutS z (some i) (some j)).cps.toList = (z.cps.toList.drop i.toNat).take (j.toNat - i.toNat) := by
  unfold cutS
  rw [List.toList_toArray]
  have e : HT.sIx z.length z.length (some j) = j.toNat := by
    have := HT.sIx_nat z.length z.length j.toNat
    rw [Int.toNat_of_nonneg (by omega)] at this
    rw [this]; omega
  have e2 : HT.sIx z.length 0 (some i) = i.toNat := by
    have := HT.sIx_nat z.length 0 i.toNat
    rw [Int.toNat_of_nonneg h0] at this
    rw [this]; omega
  rw [e, e2]
theorem az_is : az.cps.toList = (List.range 26).map (97 + ·) := by decide +kernel
theorem az_size : az.length ≤ sizeLine := small64k (by decide +kernel)
theorem az_at {i : Int} (h0 : 0 ≤ i) (h1 : i < 26) : atI az.cps.toList i = some (97 + i.toNat) := by
  refine atI_int h0 ?_
  rw [az_is, List.getElem?_map, List.getElem?_range (by omega)]
  rfl
theorem az_mem {i : Int} (h0 : 0 ≤ i) (h1 : i < 26) : 97 + i.toNat ∈ az.cps.toList := by
  rw [az_is]
  exact List.mem_map.mpr ⟨i.toNat, List.mem_range.mpr (by omega), rfl⟩
theorem nodup_range {α : Type} {f : Nat → α} {m : Nat} (h : ∀ i j, i < m → j < m → f i = f j → i = j) : ((List.range m).map f).Nodup := by
  refine List.pairwise_iff_getElem.mpr fun i j hi hj hij e => ?_
  rw [List.length_map, List.length_range] at hi hj
  rw [List.getElem_map, List.getElem_map, List.getElem_range, List.getElem_range] at e
  exact absurd (h i j hi hj e) (by omega)
/-- a name of the first kind: the beginning of eight letters -/
def nmA (z : Str) (first : Int) (k : Nat) : Str := cutS z none (some (1 + (first + 3 * (0 + (k : Nat))) % 8))
theorem nmA_ok {z : Str} (hz : z.length = 8) (ha : ∀ c ∈ z.cps.toList, c ∈ az.cps.toList) (first : Int) (k : Nat) : IsNm (nmA z first k) ∧ (nmA z first k).length = (1 + (first + 3 * (0 + (k : Nat))) % 8).toNat := by
  have hz' : z.cps.toList.length = 8 := hz
  have e := cut_lo z (1 + (first + 3 * (0 + (k : Nat))) % 8) (by omega)
  have l : (nmA z first k).length = (1 + (first + 3 * (0 + (k : Nat))) % 8).toNat := by
    show (cutS z none (some (1 + (first + 3 * (0 + (k : Nat))) % 8))).cps.toList.length = _
    rw [e, List.length_take]
    omega
  refine ⟨⟨by rw [l]; omega, by rw [l]; omega, fun c hc => ha c ?_⟩, l⟩
  have hc' : c ∈ (cutS z none (some (1 + (first + 3 * (0 + (k : Nat))) % 8))).cps.toList := hc
  rw [e] at hc'
  exact List.mem_of_mem_take hc'
/-- a name of the second kind: a letter put in -/
def nmB (z : Str) (at_ size i : Int) : Str := cutS z none (some at_) ++ (⟨#[97 + i.toNat]⟩ : Str) ++ cutS z (some at_) (some size)
theorem nmB_is {z : Str} (hz : z.length = 7) {at_ size i : Int} (h0 : 0 ≤ at_) (h1 : at_ ≤ size) (h2 : size ≤ 7) : (nmB z at_ size i).cps.toList = z.cps.toList.take at_.toNat ++ [97 + i.toNat] ++ (z.cps.toList.drop at_.toNat).take (size.toNat - at_.toNat) := by
  unfold nmB
  rw [Str.cps_append, Str.cps_append, Array.toList_append, Array.toList_append, cut_lo z at_ h0, cut_mid z at_ size h0 h1 (by omega)]
theorem nmB_ok {z : Str} (hz : z.length = 7) (ha : ∀ c ∈ z.cps.toList, c ∈ az.cps.toList) {at_ size i : Int} (h0 : 0 ≤ at_) (h1 : at_ ≤ size) (h2 : size ≤ 7) (i0 : 0 ≤ i) (i1 : i < 26) : IsNm (nmB z at_ size i) := by
  have e := nmB_is hz (i := i) h0 h1 h2
  have hz' : z.cps.toList.length = 7 := hz
  have l : (nmB z at_ size i).length = (size + 1).toNat := by
    show (nmB z at_ size i).cps.toList.length = _
    rw [e, List.length_append, List.length_append, List.length_take, List.length_take, List.length_drop, List.length_singleton]
    omega
  refine ⟨by rw [l]; omega, by rw [l]; omega, fun c hc => ?_⟩
  rw [e] at hc
  rcases List.mem_append.mp hc with hc | hc
  · rcases List.mem_append.mp hc with hc | hc
    · exact ha c (List.mem_of_mem_take hc)
    · rw [List.mem_singleton.mp hc]; exact az_mem i0 i1
  · exact ha c (List.mem_of_mem_drop (List.mem_of_mem_take hc))
theorem nmB_inj {z : Str} (hz : z.length = 7) {at_ size i j : Int} (h0 : 0 ≤ at_) (h1 : at_ ≤ size) (h2 : size ≤ 7) (i0 : 0 ≤ i) (j0 : 0 ≤ j) (e : nmB z at_ size i = nmB z at_ size j) : i = j := by
  have hz' : z.cps.toList.length = 7 := hz
  have e1 : (nmB z at_ size i).cps.toList[at_.toNat]? = (nmB z at_ size j).cps.toList[at_.toNat]? := by rw [e]
  have key : ∀ q : Int, (nmB z at_ size q).cps.toList[at_.toNat]? = some (97 + q.toNat) := fun q => by
    rw [nmB_is hz h0 h1 h2, List.append_assoc, List.getElem?_append_right (by rw [List.length_take]; omega), List.length_take, hz']
    have : at_.toNat - min at_.toNat 7 = 0 := by omega
    rw [this]
    rfl
  rw [key, key] at e1
  injection e1 with e1
  omega
/-! ### promise -/
theorem er_go {b : Addr} {H H0 H' : Hp} (s : Same (er b H) H0) (e : er b H' = er b H0) : Same (er b H) H' := fun a o q => er_sub _ _ (by rw [e]; exact er_mono s a o q)
theorem er_get {b L : Addr} {H0 H' : Hp} (e : er b H' = er b H0) (n : L ≠ b) : H' L = H0 L := by
  rw [← er_ne (H := H') n, e, er_ne n]
def sp_names : Sp := fun vs H Q _ => ∃ (b : Addr) (m : Int) (n : Nat), vs = [.ref b, .int m] ∧ Box H b n ∧ n ≤ 90000 ∧ 1 ≤ m ∧ m ≤ 8 ∧
  ∀ (H' : Hp) (l : Addr) (nm : List Str), Same (er b H) H' → Box H' b (n + 12) → l ≠ b → H' l = some (.lst (nm.map V.str)) → (nm.length : Int) = m → nm.Nodup → (∀ x ∈ nm, IsNm x) → Q (.ref l) H'
def Z_l_names : Scope := { kind := .function, names := [("_law_box_here", .cell), ("_law_many", .local), ("_law_letters", .cell), ("_law_way", .local), ("_law_first", .cell), ("_law_step", .cell), ("_law_at", .cell), ("_law_size", .cell), ("_law_stem", .cell), ("_law_take", .globalImplicit), ("range", .globalImplicit)], isGenerator := false, isCoroutine := false, more := (defScope S_l_names).more }
abbrev N_l_names : List Str := ["_law_box_here", "_law_many", "_law_letters", "_law_way", "_law_first", "_law_step", "_law_at", "_law_size", "_law_stem", "_law_k"]
abbrev P_l_names : List Str := ["_law_box_here", "_law_many"]
theorem sc_l_names : FnScope N_l_names P_l_names Z_l_names := ⟨rfl, rfl, rfl, by decide +kernel, rfl, by decide +kernel, by decide +kernel⟩
theorem sz_l_names : defScope S_l_names = Z_l_names := rfl
section
variable {P : Program} {w : World} {K : Frag} {mg : Str → Option Value} {base : Heap}
theorem ok_l_names (T : Txt K mg) (D_l_take : DOk P w K mg base CX0 1 a_l_take P_l_take sp_take) : DOk P w K mg base CX0 2 a_l_names P_l_names sp_names := by
  refine DOk.mk0 T.f_l_names sc_l_names sz_l_names (fun vs H Q E h => ?_) (fun cdv A outer s H vs Q E hr h => ?_)
  · obtain ⟨b, m, n, rfl, _⟩ := h; rfl
  · obtain ⟨b, m, n, rfl, B0, hn, m0, m1, k⟩ := h
    refine ⟨_, (pss_cons (ps_set (i := 2) sc_l_names.nd rfl (Or.inr rfl) pe_str)
    (pss_cons (ps_set (i := 3) sc_l_names.nd rfl (Or.inl rfl) (pe_fn D_l_take T.g_l_take hr (pa_cons (pv 0) (pa_cons pe_int pa_nil))))
    (pss_cons (ps_set (i := 4) sc_l_names.nd rfl (Or.inr rfl) (pe_fn D_l_take T.g_l_take hr (pa_cons (pv 0) (pa_cons pe_int pa_nil))))
    (pss_cons (ps_set (i := 5) sc_l_names.nd rfl (Or.inr rfl) (pe_ix (ix_listK K) (pe_lst (pa_cons pe_int (pa_cons pe_int (pa_cons pe_int (pa_cons pe_int (pa_cons pe_int (pa_cons pe_int pa_nil))))))) (pe_fn D_l_take T.g_l_take hr (pa_cons (pv 0) (pa_cons pe_int pa_nil))) (fun _ _ => rfl)))
    (pss_cons (ps_set (i := 6) sc_l_names.nd rfl (Or.inr rfl) (pe_fn D_l_take T.g_l_take hr (pa_cons (pv 0) (pa_cons pe_int pa_nil))))
    (pss_cons (ps_set (i := 7) sc_l_names.nd rfl (Or.inr rfl) (pe_op op_add (pv 6) (pe_fn D_l_take T.g_l_take hr (pa_cons (pv 0) (pa_cons (pe_op op_sub pe_int (pv 6)) pa_nil)))))
    (pss_cons (ps_set (i := 8) sc_l_names.nd rfl (Or.inr rfl) (pe_join pe_str (pe_lc (own := [("_law_k", 9)]) (g := (gName 9)) rfl sc_l_names.nd (pi_range1 rfl T.z_range (pa_cons pe_int pa_nil)) (blkOk_by (own := [("_law_k", 9)]) (N := N_l_names) (sc := Z_l_names) (by decide +kernel)) (fun _ _ _ _ _ => (pg_name (i := 9) sc_l_names.nd rfl (Or.inl rfl))) (fun _ _ _ _ _ => pts_nil) (fun _ _ _ _ _ => (pe_ix ix_str (pv 2) (pe_fn D_l_take T.g_l_take hr (pa_cons (pv 0) (pa_cons pe_int pa_nil))) (fun _ _ => rfl))))))
    (pss_cons (ps_if (PW.pt (pw_and (pt_cmpR op_eq (pv 3) pe_int (nomark _)) (pw_and1 (pt_cmpR op_lt (pv 1) pe_int (nomark _))))) (pss_one (ps_ret (pe_lc (own := [("_law_k", 9)]) (g := (gName 9)) rfl sc_l_names.nd (pi_range1 rfl T.z_range (pa_cons (pv 1) pa_nil)) (blkOk_by (own := [("_law_k", 9)]) (N := N_l_names) (sc := Z_l_names) (by decide +kernel)) (fun _ _ _ _ _ => (pg_name (i := 9) sc_l_names.nd rfl (Or.inl rfl))) (fun _ _ _ _ _ => pts_nil) (fun _ _ _ _ _ => (pe_slice sl_str (pe_op op_add_str (pe_ix ix_str (pv 2) (pv 4) (fun _ _ => rfl)) (pv 8)) po_none (po_some (pe_op op_add pe_int (pe_op op_mod (pe_op op_add (pv 4) (pe_op op_mul pe_int (pv 9))) pe_int)))))))) pss_nil)
    (pss_one (ps_ret (pe_lc (own := [("_law_k", 9)]) (g := (gName 9)) rfl sc_l_names.nd (pi_range1 rfl T.z_range (pa_cons (pv 1) pa_nil)) (blkOk_by (own := [("_law_k", 9)]) (N := N_l_names) (sc := Z_l_names) (by decide +kernel)) (fun _ _ _ _ _ => (pg_name (i := 9) sc_l_names.nd rfl (Or.inl rfl))) (fun _ _ _ _ _ => pts_nil) (fun _ _ _ _ _ => (pe_op op_add_str (pe_op op_add_str (pe_slice sl_str (pv 8) po_none (po_some (pv 6))) (pe_ix ix_str (pv 2) (pe_op op_mod (pe_op op_add (pv 4) (pe_op op_mul (pv 5) (pv 9))) pe_int) (fun _ _ => rfl))) (pe_slice sl_str (pv 8) (po_some (pv 6)) (po_some (pv 7)))))))))))))))), ?_⟩
    refine ⟨_, rfl, b, 3, n, rfl, B0, by omega, by decide, by decide, fun way H1 w0 w1 e1 B1 => ?_⟩
    have s1 : Same (er b H) H1 := er_go er_sub e1
    refine ⟨_, rfl, b, 26, n + 1, rfl, B1, by omega, by decide, by decide, fun first H2 f0 f1 e2 B2 => ?_⟩
    have s2 := er_go s1 e2
    refine ⟨szOf rfl, fun L hL => ?_⟩
    have sL := same_new (o := .lst [.int 1, .int 3, .int 5, .int 7, .int 9, .int 11]) hL
    have nLb : L ≠ b := fun z => by obtain ⟨_, _, _, g, _⟩ := B2; rw [z, g] at hL; cases hL
    refine ⟨_, rfl, b, 6, n + 2, rfl, B2.mono sL, by omega, by decide, by decide, fun d H3 d0 d1 e3 B3 => ?_⟩
    have s3 := er_go (s2.trans sL) e3
    have gL : H3 L = some (.lst [.int 1, .int 3, .int 5, .int 7, .int 9, .int 11]) := by rw [er_get e3 nLb, upd_same]
    have hd : atI [V.int 1, .int 3, .int 5, .int 7, .int 9, .int 11] d = some (.int (2 * d + 1)) := by
      have : d = 0 ∨ d = 1 ∨ d = 2 ∨ d = 3 ∨ d = 4 ∨ d = 5 := by omega
      rcases this with rfl | rfl | rfl | rfl | rfl | rfl <;> rfl
    refine ⟨L, _, d, _, rfl, rfl, .of gL, hd, ?_⟩
    refine ⟨_, rfl, b, 4, n + 3, rfl, B3, by omega, by decide, by decide, fun at_ H4 a0 a1 e4 B4 => ?_⟩
    have s4 := er_go s3 e4
    refine ⟨_, rfl, _, rfl, _, rfl, _, _, rfl, rfl, b, 8 - at_, n + 4, rfl, B4, by omega, by omega, by omega, fun t5 H5 t0 t1 e5 B5 => ?_⟩
    have s5 := er_go s4 e5
    refine ⟨_, _, rfl, rfl, ?_⟩
    refine ⟨⟨_, rfl⟩, 7, rfl, by decide, by decide, fun D hD => lc_it (σ := [some (.ref b), some (.int m), some (.str az), some (.int way), some (.int first), some (.int (2 * d + 1)), some (.int at_), some (.int (at_ + t5)), none, none]) (n := 7) (fun i H' => Same (er b H) H' ∧ Box H' b (n + 5 + i) ∧ ∃ cs : List Nat, H' D = some (.lst ((cs.map fun c => (⟨#[c]⟩ : Str)).map V.str)) ∧ cs.length = i ∧ ∀ c ∈ cs, c ∈ az.cps.toList)
      ⟨s5.atNew hD, B5.mono (same_new hD), [], upd_same, rfl, fun c h => (nomatch h)⟩ ?_ ?_⟩
    · rintro H' ⟨s6, B6, cs, gD, lc, ac⟩
      refine ⟨Nat.le_refl _, ?_⟩
      refine ⟨_, D, cs.map fun c => (⟨#[c]⟩ : Str), rfl, rfl, .inl (.of gD), ?_, ?_⟩
      · rw [List.length_map, lc, List.map_map]
        have e2 : (Str.ofString "").length = 0 := by decide +kernel
        show (cs.map fun _ => 1).sum + _ ≤ _
        rw [e2, List.map_const', lc]
        decide
      have js := join_chars cs
      generalize Txt.join (Str.ofString "") (cs.map fun c => (⟨#[c]⟩ : Str)) = stem at js ⊢
      have ls : stem.length = 7 := by
        show stem.cps.toList.length = 7
        rw [js, lc]
      have lz : ((⟨#[97 + first.toNat]⟩ : Str) ++ stem).length = 8 := by rw [Str.length_append, ls]; rfl
      have az_z : ∀ c ∈ ((⟨#[97 + first.toNat]⟩ : Str) ++ stem).cps.toList, c ∈ az.cps.toList := by
        rw [Str.cps_append, Array.toList_append, js]
        intro c hc
        rcases List.mem_append.mp hc with hc | hc
        · rw [List.mem_singleton.mp hc]; exact az_mem f0 f1
        · exact ac c hc
      have as : ∀ c ∈ stem.cps.toList, c ∈ az.cps.toList := by rw [js]; exact ac
      have end_ : ∀ {H9 : Hp} {D9 : Addr} (f : Nat → Str), Same (er b H) H9 → Box H9 b (n + 12) → D9 ≠ b → H9 D9 = some (.lst (((List.range m.toNat).map f).map V.str)) → (∀ i j, i < m.toNat → j < m.toNat → f i = f j → i = j) → (∀ i, IsNm (f i)) → Q (.ref D9) H9 := by
        intro H9 D9 f s9 B9 n9 g9 inj ok
        refine k H9 D9 _ s9 B9 n9 g9 ?_ (nodup_range inj) fun x hx => ?_
        · rw [List.length_map, List.length_range]
          omega
        · obtain ⟨i, _, rfl⟩ := List.mem_map.mp hx
          exact ok i
      refine ⟨_, rfl, rfl, _, rfl, ?_⟩
      by_cases hw : V.int way = V.int 0
      · refine ifT (decT hw) ?_
        refine ⟨_, rfl, _, _, rfl, rfl, _, rfl, ?_⟩
        refine ifT (decT (by omega)) ?_
        refine ⟨_, rfl, m, rfl, by omega, by omega, fun D9 hD9 => lc_it (σ := [some (.ref b), some (.int m), some (.str az), some (.int way), some (.int first), some (.int (2 * d + 1)), some (.int at_), some (.int (at_ + t5)), some (.str stem), none]) (n := m.toNat) (fun i H9 => Same (er b H) H9 ∧ Box H9 b (n + 12) ∧ H9 D9 = some (.lst (((List.range i).map (nmA (⟨#[97 + first.toNat]⟩ ++ stem) first)).map V.str)))
          ⟨s6.atNew hD9, B6.mono (same_new hD9), upd_same⟩ ?_ ?_⟩
        · rintro H9 ⟨s9, B9, g9⟩
          refine ⟨Nat.le_refl _, ?_⟩
          exact end_ _ s9 B9 (B6.ne hD9) g9 (fun i j hi hj e => by
            have e1 := (nmA_ok lz az_z first i).2
            rw [e, (nmA_ok lz az_z first j).2] at e1
            omega) fun i => (nmA_ok lz az_z first i).1
        · rintro i H9 hi ⟨s9, B9, g9⟩
          refine ⟨hi, ?_⟩
          rintro x H6 ⟨rfl, rfl⟩
          refine ⟨rfl, _, rfl, _, rfl, _, first, _, rfl, rfl, az_size, az_at f0 f1, _, rfl, _, _, rfl, rfl, ?_, _, rfl, _, rfl, _, _, rfl, rfl, .inl ⟨by decide, by decide⟩, _, _, rfl, rfl, _, _, rfl, rfl, (show (0:Int) < 8 by decide), _, _, rfl, rfl, _, rfl, _, rfl, ?_, ?_⟩
          · rw [ls]; exact small64k (show 1 + 7 ≤ 4096 by decide)
          · rw [lz]; exact small64k (by decide)
          · refine ⟨_, g9, by rw [List.length_map, List.length_map, List.length_range]; exact small64l (by omega), s9.atFresh (s6.noneAt hD9), ?_, ?_⟩
            · obtain ⟨x, y, z, g, r⟩ := B9
              exact ⟨x, y, z, by rw [upd_ne (B6.ne hD9).symm]; exact g, r⟩
            · rw [upd_same, List.range_succ, List.map_append, List.map_append]
              rfl
      · refine ifF (decF hw) ?_
        refine ⟨_, rfl, m, rfl, by omega, by omega, fun D9 hD9 => lc_it (σ := [some (.ref b), some (.int m), some (.str az), some (.int way), some (.int first), some (.int (2 * d + 1)), some (.int at_), some (.int (at_ + t5)), some (.str stem), none]) (n := m.toNat) (fun i H9 => Same (er b H) H9 ∧ Box H9 b (n + 12) ∧ H9 D9 = some (.lst (((List.range i).map fun k : Nat => nmB stem at_ (at_ + t5) ((first + (2 * d + 1) * (0 + (k : Int))) % 26)).map V.str)))
          ⟨s6.atNew hD9, B6.mono (same_new hD9), upd_same⟩ ?_ ?_⟩
        · rintro H9 ⟨s9, B9, g9⟩
          refine ⟨Nat.le_refl _, ?_⟩
          refine end_ _ s9 B9 (B6.ne hD9) g9 (fun i j hi hj e => ?_) fun i => nmB_ok ls as a0 (by omega) (by omega) (Int.emod_nonneg _ (by decide)) (Int.emod_lt_of_pos _ (by decide))
          have e1 := nmB_inj ls a0 (by omega) (by omega) (Int.emod_nonneg _ (by decide)) (Int.emod_nonneg _ (by decide)) e
          have : d = 0 ∨ d = 1 ∨ d = 2 ∨ d = 3 ∨ d = 4 ∨ d = 5 := by omega
          rcases this with rfl | rfl | rfl | rfl | rfl | rfl <;> omega
        · rintro i H9 hi ⟨s9, B9, g9⟩
          refine ⟨hi, ?_⟩
          rintro x H6 ⟨rfl, rfl⟩
          have z0 : 0 ≤ (first + (2 * d + 1) * (0 + (i : Int))) % 26 := Int.emod_nonneg _ (by decide)
          have z1 : (first + (2 * d + 1) * (0 + (i : Int))) % 26 < 26 := Int.emod_lt_of_pos _ (by decide)
          have l1 : (cutS stem none (some at_)).length ≤ 7 := by rw [← ls]; exact cutS_length _ _ _
          have l2 : (cutS stem (some at_) (some (at_ + t5))).length ≤ 7 := by rw [← ls]; exact cutS_length _ _ _
          have l3 : ((cutS stem none (some at_)) ++ (⟨#[97 + ((first + (2 * d + 1) * (0 + (i : Int))) % 26).toNat]⟩ : Str)).length ≤ 8 := by rw [Str.length_append]; exact Nat.add_le_add l1 (Nat.le_refl 1)
          refine ⟨rfl, _, rfl, _, rfl, _, rfl, stem, rfl, small64k (by rw [ls]; decide), _, rfl, _, rfl, _, rfl, _, rfl, _, _, rfl, rfl, .inl ⟨by omega, by omega⟩, _, _, rfl, rfl, _, _, rfl, rfl, (show (0:Int) < 26 by decide), _, _, _, rfl, rfl, az_size, az_at z0 z1, _, _, rfl, rfl, ?_, _, rfl, _, rfl, _, rfl, _, rfl, _, rfl, stem, rfl, small64k (by rw [ls]; decide), _, _, rfl, rfl, ?_, ?_⟩
          · exact small64k (Nat.le_trans (Nat.add_le_add l1 (Nat.le_refl 1)) (by decide))
          · exact small64k (Nat.le_trans (Nat.add_le_add l3 l2) (by decide))
          · refine ⟨_, g9, by rw [List.length_map, List.length_map, List.length_range]; exact small64l (by omega), s9.atFresh (s6.noneAt hD9), ?_, ?_⟩
            · obtain ⟨x, y, z, g, r⟩ := B9
              exact ⟨x, y, z, by rw [upd_ne (B6.ne hD9).symm]; exact g, r⟩
            · rw [upd_same, List.range_succ, List.map_append, List.map_append]
              rfl
    · rintro i H' hi ⟨s6, B6, cs, gD, lc, ac⟩
      refine ⟨hi, ?_⟩
      rintro x H6 ⟨rfl, rfl⟩
      have nD : D ≠ b := fun z => by obtain ⟨_, _, _, g, _⟩ := B5; rw [z, g] at hD; cases hD
      refine ⟨rfl, _, rfl, _, rfl, b, 26, n + 5 + i, rfl, B6, by omega, by decide, by decide, fun c H7 c0 c1 e7 B7 => ?_⟩
      have gD7 : H7 D = some (.lst ((cs.map fun c => (⟨#[c]⟩ : Str)).map V.str)) := by rw [er_get e7 nD]; exact gD
      refine ⟨_, c, 97 + c.toNat, rfl, rfl, az_size, az_at c0 c1, _, gD7, by rw [List.length_map, List.length_map, lc]; exact small64l (by omega), (er_go s6 e7).atFresh (s5.noneAt hD), ?_, cs ++ [97 + c.toNat], ?_, ?_, ?_⟩
      · obtain ⟨x, y, z, g, r⟩ := B7
        exact ⟨x, y, z, by rw [upd_ne nD.symm]; exact g, r⟩
      · rw [upd_same, List.map_append, List.map_append]; rfl
      · rw [List.length_append, lc]; rfl
      · intro c' hc
        rcases List.mem_append.mp hc with hc | hc
        · exact ac c' hc
        · rw [List.mem_singleton.mp hc]; exact az_mem c0 c1
end
end Ik


namespace Ik
open PySem PySem.Spec L2
open PySem.W (Frag)
/-! ### the law's rows -/
def RowC (H : Hp) (v : V) (c : Chan) : Prop := ∃ t, v = .ref t ∧ H t = some (.tup c.row)
def RowV (H : Hp) (v : V) (x : Ves) : Prop := ∃ t, v = .ref t ∧ H t = some (.tup x.row)
theorem RowC.mono {H H' : Hp} {v : V} {c : Chan} (h : RowC H v c) (s : Same H H') : RowC H' v c := let ⟨t, e, g⟩ := h; ⟨t, e, s _ _ g⟩
theorem RowV.mono {H H' : Hp} {v : V} {c : Ves} (h : RowV H v c) (s : Same H H') : RowV H' v c := let ⟨t, e, g⟩ := h; ⟨t, e, s _ _ g⟩
structure RowsL (H : Hp) (wd : Wd) (lp lc lb ls : Addr) : Prop where
  hp : H lp = some (.lst (wd.ports.map V.str))
  hc : ∃ xs, H lc = some (.lst xs) ∧ Paired (RowC H) xs wd.chans
  hb : ∃ xs, H lb = some (.lst xs) ∧ Paired (RowV H) xs wd.brs
  hs : ∃ xs, H ls = some (.lst xs) ∧ Paired (RowV H) xs wd.shs
theorem RowsL.mono {H H' : Hp} {wd : Wd} {lp lc lb ls : Addr} (h : RowsL H wd lp lc lb ls) (s : Same H H') : RowsL H' wd lp lc lb ls :=
  ⟨s _ _ h.hp, let ⟨xs, e, p⟩ := h.hc; ⟨xs, s _ _ e, p.to fun _ _ q => q.mono s⟩, let ⟨xs, e, p⟩ := h.hb; ⟨xs, s _ _ e, p.to fun _ _ q => q.mono s⟩, let ⟨xs, e, p⟩ := h.hs; ⟨xs, s _ _ e, p.to fun _ _ q => q.mono s⟩⟩
def RowsAt (H : Hp) (R : Addr) (wd : Wd) : Prop := ∃ lp lc lb ls, H R = some (.lst [.int wd.begin_, .ref lp, .ref lc, .ref lb, .ref ls]) ∧ RowsL H wd lp lc lb ls
theorem RowsAt.mono {H H' : Hp} {R : Addr} {wd : Wd} (h : RowsAt H R wd) (s : Same H H') : RowsAt H' R wd := let ⟨lp, lc, lb, ls, e, g⟩ := h; ⟨lp, lc, lb, ls, s _ _ e, g.mono s⟩
def Ves.kind (v : Ves) : Str := if v.isB = true then "breaker" else "ship"
def Ves.cut0 (v : Ves) : Int := if v.isB = true then v.cut else 0
def Wd.vrow (wd : Wd) (x : Ves) : List V := [.str x.name, .str x.kind, .str x.port, .int (wd.from_ x), .int x.strength, .int x.draught, .int x.cut0]
def VRow (wd : Wd) (H : Hp) (v : V) (x : Ves) : Prop := ∃ t, v = .ref t ∧ H t = some (.tup (wd.vrow x))
theorem VRow.mono {wd : Wd} {H H' : Hp} {v : V} {x : Ves} (h : VRow wd H v x) (s : Same H H') : VRow wd H' v x := let ⟨t, e, g⟩ := h; ⟨t, e, s _ _ g⟩
def sp_l_world : Sp := fun vs H Q _ => ∃ (R : Addr) (wd : Wd), vs = [.ref R] ∧ RowsAt H R wd ∧ wd.Ok ∧ ∀ H' a, Same H H' → WorldAt H' a wd → Q (.ref a) H'
def sp_l_vessels : Sp := fun vs H Q _ => ∃ (R : Addr) (wd : Wd), vs = [.ref R] ∧ RowsAt H R wd ∧ wd.Ok ∧ ∀ H' l xs, Same H H' → H l = none → H' l = some (.lst xs) → Paired (VRow wd H') xs wd.ves → Q (.ref l) H'
theorem max_is (b h : Int) : (if h > b then h else b) = max b h := by split <;> omega
def Z_l_world : Scope := { kind := .function, names := [("_law_rows", .local), ("_law_channels", .local), ("_law_breakers", .local), ("_law_ships", .local), ("World", .globalImplicit)], isGenerator := false, isCoroutine := false, more := (defScope S_l_world).more }
abbrev N_l_world : List Str := ["_law_rows", "_law_channels", "_law_breakers", "_law_ships", "_law_one"]
abbrev P_l_world : List Str := ["_law_rows"]
theorem sc_l_world : FnScope N_l_world P_l_world Z_l_world := ⟨rfl, rfl, rfl, by decide +kernel, rfl, by decide +kernel, by decide +kernel⟩
theorem sz_l_world : defScope S_l_world = Z_l_world := rfl
def Z_l_vessels : Scope := { kind := .function, names := [("_law_rows", .local), ("_law_found", .local), ("_law_one", .local), ("max", .globalImplicit)], isGenerator := false, isCoroutine := false, more := (defScope S_l_vessels).more }
abbrev N_l_vessels : List Str := ["_law_rows", "_law_found", "_law_one"]
abbrev P_l_vessels : List Str := ["_law_rows"]
theorem sc_l_vessels : FnScope N_l_vessels P_l_vessels Z_l_vessels := ⟨rfl, rfl, rfl, by decide +kernel, rfl, by decide +kernel, by decide +kernel⟩
theorem sz_l_vessels : defScope S_l_vessels = Z_l_vessels := rfl
section
variable {P : Program} {w : World} {K : Frag} {mg : Str → Option Value} {base : Heap}
theorem ok_l_vessels (T : Txt K mg) : DOk P w K mg base CX0 1 a_l_vessels P_l_vessels sp_l_vessels := by
  refine DOk.mk0 T.f_l_vessels sc_l_vessels sz_l_vessels (fun vs H Q E h => ?_) (fun cdv A outer s H vs Q E hr h => ?_)
  · obtain ⟨R, wd, rfl, _⟩ := h; rfl
  · obtain ⟨R, wd, rfl, RA, O, k⟩ := h
    refine ⟨_, (pss_cons (ps_set (i := 1) sc_l_vessels.nd rfl (Or.inl rfl) (pe_lst pa_nil))
    (pss_cons (ps_for PassesOwn.never rfl (pi_list (pe_ix (ix_listK K) (pv 0) pe_int (fun _ _ => rfl))) (pg_name (i := 2) sc_l_vessels.nd rfl (Or.inl rfl))
      (pss_one (ps_expr (pe_bm PySem.F.plainAttrs_list PySem.F.slot_list_append PySem.F.type_list_append mt_append (pv 1) (pa_cons (pe_tup (pa_cons (pe_ix (ix_tupK K) (pv 2) pe_int (fun _ _ => rfl)) (pa_cons pe_str (pa_cons (pe_ix (ix_tupK K) (pv 2) pe_int (fun _ _ => rfl)) (pa_cons (pe_callB (call_max2 rfl) (by rfl) T.z_max bt_max (pa_cons (pe_ix (ix_listK K) (pv 0) pe_int (fun _ _ => rfl)) (pa_cons (pe_ix (ix_tupK K) (pv 2) pe_int (fun _ _ => rfl)) pa_nil))) (pa_cons (pe_ix (ix_tupK K) (pv 2) pe_int (fun _ _ => rfl)) (pa_cons (pe_ix (ix_tupK K) (pv 2) pe_int (fun _ _ => rfl)) (pa_cons (pe_ix (ix_tupK K) (pv 2) pe_int (fun _ _ => rfl)) pa_nil)))))))) pa_nil)))))
    (pss_cons (ps_for PassesOwn.never rfl (pi_list (pe_ix (ix_listK K) (pv 0) pe_int (fun _ _ => rfl))) (pg_name (i := 2) sc_l_vessels.nd rfl (Or.inl rfl))
      (pss_one (ps_expr (pe_bm PySem.F.plainAttrs_list PySem.F.slot_list_append PySem.F.type_list_append mt_append (pv 1) (pa_cons (pe_tup (pa_cons (pe_ix (ix_tupK K) (pv 2) pe_int (fun _ _ => rfl)) (pa_cons pe_str (pa_cons (pe_ix (ix_tupK K) (pv 2) pe_int (fun _ _ => rfl)) (pa_cons (pe_callB (call_max2 rfl) (by rfl) T.z_max bt_max (pa_cons (pe_ix (ix_listK K) (pv 0) pe_int (fun _ _ => rfl)) (pa_cons (pe_ix (ix_tupK K) (pv 2) pe_int (fun _ _ => rfl)) pa_nil))) (pa_cons (pe_ix (ix_tupK K) (pv 2) pe_int (fun _ _ => rfl)) (pa_cons (pe_ix (ix_tupK K) (pv 2) pe_int (fun _ _ => rfl)) (pa_cons pe_int pa_nil)))))))) pa_nil)))))
    (pss_one (ps_ret (pv 1)))))), ?_⟩
    refine ⟨szOf rfl, fun f hf => ?_⟩
    have r1 := O.r1
    have q1 := O.s1
    have s1 := same_new (o := .lst []) hf
    obtain ⟨lp, lc, lb, ls, gR, _, _, ⟨xb, gb, pb⟩, ⟨xs, gs, ps⟩⟩ := RA.mono s1
    obtain ⟨lp', lc', lb', ls', gR', _, _, ⟨xb', gb', pb'⟩, ⟨xs', gs', ps'⟩⟩ := RA
    have zR := s1 _ _ gR'
    rw [gR] at zR
    simp only [Option.some.injEq, HO.lst.injEq, List.cons.injEq, V.ref.injEq] at zR
    obtain ⟨-, -, -, rfl, rfl, -⟩ := zR
    have zb := s1 _ _ gb'
    rw [gb] at zb
    cases zb
    have zs := s1 _ _ gs'
    rw [gs] at zs
    cases zs
    have lb_ := Paired.length pb
    have ls_ := Paired.length ps
    have grow : ∀ {H' : Hp} {fs : List V} {ys : List Ves} {t : Addr} {x : Ves}, Same H H' → H' f = some (.lst fs) → Paired (VRow wd H') fs ys → H' t = none → Same H (upd (upd H' t (.tup (wd.vrow x))) f (.lst (fs ++ [.ref t]))) ∧
        Paired (VRow wd (upd (upd H' t (.tup (wd.vrow x))) f (.lst (fs ++ [.ref t])))) (fs ++ [.ref t]) (ys ++ [x]) := by
      intro H' fs ys t x s gf pf ht
      have st := same_new (o := .tup (wd.vrow x)) ht
      have gft := st _ _ gf
      refine ⟨(s.trans st).atFresh hf, Paired.snoc (pf.to fun _ _ ⟨u, e, g⟩ => ⟨u, e, tup_lst gft _ _ (st _ _ g)⟩) ⟨t, rfl, tup_lst gft _ _ upd_same⟩⟩
    refine ⟨_, rfl, R, _, _, _, rfl, rfl, .of gR, rfl, lb, rfl, ⟨_, .of gb⟩, for_list (K := K) (a := lb) (xs := xb) (fun i σ H' => ∃ u, σ = [some (.ref R), some (.ref f), u] ∧ Same H H' ∧ ∃ fs, H' f = some (.lst fs) ∧ Paired (VRow wd H') fs (wd.brs.take i))
      ⟨none, rfl, s1, [], upd_same, .nil⟩ (fun i σ H' _ ⟨_, _, s, _⟩ => .of (s _ _ gb')) ?_ ?_⟩
    · rintro i y σ H' hi ⟨u, rfl, s2, fs, gf, pf⟩
      obtain ⟨x, hx, t, rfl, ht⟩ := pair_l pb' hi
      have hi2 := (List.getElem?_eq_some_iff.mp hx).1
      have xB := (O.rn x (List.mem_of_getElem? hx)).1
      have ht2 := s2 _ _ ht
      have er : x.row = [.str x.name, .str x.port, .int x.hour, .int x.strength, .int x.draught, .int x.cut] := by unfold Ves.row; rw [xB]
      rw [er] at ht2
      have ev : wd.vrow x = [.str x.name, .str (Str.ofString "breaker"), .str x.port, .int (wd.from_ x), .int x.strength, .int x.draught, .int x.cut] := by unfold Wd.vrow Ves.kind Ves.cut0; rw [if_pos xB, if_pos xB]
      refine ⟨_, rfl, .inl ⟨rfl, _, .of gf⟩, _, rfl, t, _, _, _, rfl, rfl, .of ht2, rfl, _, rfl, t, _, _, _, rfl, rfl, .of ht2, rfl, _, rfl, R, _, _, _, rfl, rfl, .of (s2 _ _ gR'), rfl, _, rfl, t, _, _, _, rfl, rfl, .of ht2, rfl, _, _, rfl, ?_⟩
      rw [max_is]
      refine ⟨_, rfl, t, _, _, _, rfl, rfl, .of ht2, rfl, _, rfl, t, _, _, _, rfl, rfl, .of ht2, rfl, _, rfl, t, _, _, _, rfl, rfl, .of ht2, rfl, szOf rfl, fun T2 hT2 => ?_⟩
      have lf := Paired.length pf
      rw [List.length_take] at lf
      have G := grow s2 gf pf hT2 (x := x)
      rw [ev] at G
      refine ⟨f, fs, _, rfl, rfl, same_new hT2 _ _ gf, small64l (by omega), ?_⟩
      refine ⟨_, rfl, G.1, _, upd_same, ?_⟩
      rw [take_succ_of hx]
      exact G.2
    · rintro σ H' ⟨u, rfl, s2, fs, gf, pf⟩
      rw [lb_, List.take_length] at pf
      refine ⟨_, rfl, R, _, _, _, rfl, rfl, .of (s2 _ _ gR'), rfl, ls, rfl, ⟨_, .of (s2 _ _ gs')⟩, for_list (K := K) (a := ls) (xs := xs) (fun i σ H' => ∃ u, σ = [some (.ref R), some (.ref f), u] ∧ Same H H' ∧ ∃ fs, H' f = some (.lst fs) ∧ Paired (VRow wd H') fs (wd.brs ++ wd.shs.take i))
        ⟨_, rfl, s2, fs, gf, by rw [List.take_zero, List.append_nil]; exact pf⟩ (fun i σ H' _ ⟨_, _, s, _⟩ => .of (s _ _ gs')) ?_ ?_⟩
      · rintro i y σ H' hi ⟨u, rfl, s2, fs, gf, pf⟩
        obtain ⟨x, hx, t, rfl, ht⟩ := pair_l ps' hi
        have hi2 := (List.getElem?_eq_some_iff.mp hx).1
        have xB := (O.sn x (List.mem_of_getElem? hx)).1
        have ht2 := s2 _ _ ht
        have er : x.row = [.str x.name, .str x.port, .str x.goal, .int x.hour, .int x.strength, .int x.draught] := by unfold Ves.row; rw [xB]
        rw [er] at ht2
        have nB : ¬ x.isB = true := by rw [xB]; decide
        have ev : wd.vrow x = [.str x.name, .str (Str.ofString "ship"), .str x.port, .int (wd.from_ x), .int x.strength, .int x.draught, .int 0] := by unfold Wd.vrow Ves.kind Ves.cut0; rw [if_neg nB, if_neg nB]
        refine ⟨_, rfl, .inl ⟨rfl, _, .of gf⟩, _, rfl, t, _, _, _, rfl, rfl, .of ht2, rfl, _, rfl, t, _, _, _, rfl, rfl, .of ht2, rfl, _, rfl, R, _, _, _, rfl, rfl, .of (s2 _ _ gR'), rfl, _, rfl, t, _, _, _, rfl, rfl, .of ht2, rfl, _, _, rfl, ?_⟩
        rw [max_is]
        refine ⟨_, rfl, t, _, _, _, rfl, rfl, .of ht2, rfl, _, rfl, t, _, _, _, rfl, rfl, .of ht2, rfl, szOf rfl, fun T2 hT2 => ?_⟩
        have lf := Paired.length pf
        rw [List.length_append, List.length_take] at lf
        have G := grow s2 gf pf hT2 (x := x)
        rw [ev] at G
        refine ⟨f, fs, _, rfl, rfl, same_new hT2 _ _ gf, small64l (by omega), ?_⟩
        refine ⟨_, rfl, G.1, _, upd_same, ?_⟩
        rw [take_succ_of hx, ← List.append_assoc]
        exact G.2
      · rintro σ H' ⟨u, rfl, s2, fs, gf, pf⟩
        rw [ls_, List.take_length] at pf
        exact ⟨_, rfl, k H' f fs s2 hf gf pf⟩
theorem chanR_st {H : Hp} {F : Addr} {ys zs : List V} {v : V} {c : Chan} (hF : H F = some (.lst ys)) (h : ChanR H v c) : ChanR (upd H F (.lst zs)) v c := let ⟨r, e, dy, g⟩ := h; ⟨r, e, dy, by rw [upd_ne fun z => by rw [z, hF] at g; cases g]; exact g⟩
theorem vesR_st {H : Hp} {F : Addr} {ys zs : List V} {v : V} {c : Ves} (hF : H F = some (.lst ys)) (h : VesR H v c) : VesR (upd H F (.lst zs)) v c := let ⟨r, e, dy, g⟩ := h; ⟨r, e, dy, by rw [upd_ne fun z => by rw [z, hF] at g; cases g]; exact g⟩
theorem ok_l_world (T : Txt K mg) (D_Channel_init : DOk P w K mg base CX0 4 a_Channel_init P_Channel_init sp_Channel_init) (D_Breaker_init : DOk P w K mg base CX0 5 a_Breaker_init P_Breaker_init sp_Breaker_init)
    (D_Ship_init : DOk P w K mg base CX0 5 a_Ship_init P_Ship_init sp_Ship_init) (D_World_init : DOk P w K mg base CX0 3 a_World_init P_World_init sp_World_init) : DOk P w K mg base CX0 7 a_l_world P_l_world sp_l_world := by
  refine DOk.mk0 T.f_l_world sc_l_world sz_l_world (fun vs H Q E h => ?_) (fun cdv A outer s H vs Q E hr h => ?_)
  · obtain ⟨R, wd, rfl, _⟩ := h; rfl
  · obtain ⟨R, wd, rfl, ⟨lp, lc, lb, ls, gR, gp, ⟨xc, gc, pc⟩, ⟨xb, gb, pb⟩, ⟨xs, gs, ps⟩⟩, O, k⟩ := h
    refine ⟨_, (pss_cons (ps_setLc (i := 1) (own := [("_law_one", 4)]) (g := (gName 4)) rfl sc_l_world.nd rfl rfl (sw_true rfl rfl rfl (by decide +kernel)) (pi_list (pe_ix (ix_listK K) (pv 0) pe_int (fun _ _ => rfl))) (blkOk_by (own := [("_law_one", 4)]) (N := N_l_world) (sc := Z_l_world) (by decide +kernel)) (fun _ _ _ _ _ => (pg_name (i := 4) sc_l_world.nd rfl (Or.inl rfl))) (fun _ _ _ _ _ => pts_nil) (fun _ _ _ _ _ => (pe_mkc D_Channel_init T.mk_Channel T.g_Channel hr (pa_cons (pe_ix (ix_tupK K) (pv 4) pe_int (fun _ _ => rfl)) (pa_cons (pe_ix (ix_tupK K) (pv 4) pe_int (fun _ _ => rfl)) (pa_cons (pe_ix (ix_tupK K) (pv 4) pe_int (fun _ _ => rfl)) (pa_cons (pe_ix (ix_tupK K) (pv 4) pe_int (fun _ _ => rfl)) (pa_cons (pe_ix (ix_tupK K) (pv 4) pe_int (fun _ _ => rfl)) (pa_cons (pe_ix (ix_tupK K) (pv 4) pe_int (fun _ _ => rfl)) (pa_cons (pe_ix (ix_tupK K) (pv 4) pe_int (fun _ _ => rfl)) (pa_cons (pe_ix (ix_tupK K) (pv 4) pe_int (fun _ _ => rfl)) pa_nil)))))))))))
    (pss_cons (ps_setLc (i := 2) (own := [("_law_one", 4)]) (g := (gName 4)) rfl sc_l_world.nd rfl rfl (sw_true rfl rfl rfl (by decide +kernel)) (pi_list (pe_ix (ix_listK K) (pv 0) pe_int (fun _ _ => rfl))) (blkOk_by (own := [("_law_one", 4)]) (N := N_l_world) (sc := Z_l_world) (by decide +kernel)) (fun _ _ _ _ _ => (pg_name (i := 4) sc_l_world.nd rfl (Or.inl rfl))) (fun _ _ _ _ _ => pts_nil) (fun _ _ _ _ _ => (pe_mkc D_Breaker_init T.mk_Breaker T.g_Breaker hr (pa_cons (pe_ix (ix_tupK K) (pv 4) pe_int (fun _ _ => rfl)) (pa_cons (pe_ix (ix_tupK K) (pv 4) pe_int (fun _ _ => rfl)) (pa_cons (pe_ix (ix_tupK K) (pv 4) pe_int (fun _ _ => rfl)) (pa_cons (pe_ix (ix_tupK K) (pv 4) pe_int (fun _ _ => rfl)) (pa_cons (pe_ix (ix_tupK K) (pv 4) pe_int (fun _ _ => rfl)) (pa_cons (pe_ix (ix_tupK K) (pv 4) pe_int (fun _ _ => rfl)) pa_nil)))))))))
    (pss_cons (ps_setLc (i := 3) (own := [("_law_one", 4)]) (g := (gName 4)) rfl sc_l_world.nd rfl rfl (sw_true rfl rfl rfl (by decide +kernel)) (pi_list (pe_ix (ix_listK K) (pv 0) pe_int (fun _ _ => rfl))) (blkOk_by (own := [("_law_one", 4)]) (N := N_l_world) (sc := Z_l_world) (by decide +kernel)) (fun _ _ _ _ _ => (pg_name (i := 4) sc_l_world.nd rfl (Or.inl rfl))) (fun _ _ _ _ _ => pts_nil) (fun _ _ _ _ _ => (pe_mkc D_Ship_init T.mk_Ship T.g_Ship hr (pa_cons (pe_ix (ix_tupK K) (pv 4) pe_int (fun _ _ => rfl)) (pa_cons (pe_ix (ix_tupK K) (pv 4) pe_int (fun _ _ => rfl)) (pa_cons (pe_ix (ix_tupK K) (pv 4) pe_int (fun _ _ => rfl)) (pa_cons (pe_ix (ix_tupK K) (pv 4) pe_int (fun _ _ => rfl)) (pa_cons (pe_ix (ix_tupK K) (pv 4) pe_int (fun _ _ => rfl)) (pa_cons (pe_ix (ix_tupK K) (pv 4) pe_int (fun _ _ => rfl)) pa_nil)))))))))
    (pss_one (ps_ret (pe_mkc D_World_init T.mk_World T.g_World hr (pa_cons (pe_ix (ix_listK K) (pv 0) pe_int (fun _ _ => rfl)) (pa_cons (pe_ix (ix_listK K) (pv 0) pe_int (fun _ _ => rfl)) (pa_cons (pv 1) (pa_cons (pv 2) (pa_cons (pv 3) pa_nil))))))))))), ?_⟩
    have c1 := O.c1
    have r1 := O.r1
    have q1 := O.s1
    have lxc := Paired.length pc
    have lxb := Paired.length pb
    have lxs := Paired.length ps
    refine ⟨_, rfl, R, _, _, _, rfl, rfl, .of gR, rfl, lc, rfl, ⟨_, .of gc⟩, fun D1 hD1 => lc_mapR (K := K) (σ := [some (.ref R), none, none, none, none]) (R := ChanR) (bs := wd.chans) (fun _ _ _ _ s q => q.mono s) (fun H F ys zs v b hF q => chanR_st hF q) gc hD1 (by omega) lxc ?_ gName_m fun H1 y1 s1 gD1 pD1 => ?_⟩
    · intro i x c H' h1 h2 s' Q' q
      obtain ⟨c', hc', t, rfl, ht⟩ := pair_l pc h1
      rw [h2] at hc'
      cases hc'
      have ht' := s' _ _ ht
      unfold Chan.row at ht'
      refine ⟨rfl, _, rfl, t, _, _, _, rfl, rfl, .of ht', rfl, _, rfl, t, _, _, _, rfl, rfl, .of ht', rfl, _, rfl, t, _, _, _, rfl, rfl, .of ht', rfl, _, rfl, t, _, _, _, rfl, rfl, .of ht', rfl, _, rfl, t, _, _, _, rfl, rfl, .of ht', rfl, _, rfl, t, _, _, _, rfl, rfl, .of ht', rfl, _, rfl, t, _, _, _, rfl, rfl, .of ht', rfl, _, rfl, t, _, _, _, rfl, rfl, .of ht', rfl, ?_⟩
      intro x dz hx hdz ne
      have sx : Same H' (upd (upd H' dz (.own x)) x (.ins cChannel dz [])) := (same_new hdz).atFresh hx
      exact ⟨x, dz, c, rfl, upd_same, O.cn c (List.mem_of_getElem? h2), fun H'' bu g => ⟨rfl, q _ _ (fun b o e => bu b o (sx b o e) (ne_of_none e hx)) ⟨x, rfl, dz, g⟩⟩⟩
    refine ⟨_, rfl, R, _, _, _, rfl, rfl, .of (s1 _ _ gR), rfl, lb, rfl, ⟨_, .of (s1 _ _ gb)⟩, fun D2 hD2 => lc_mapR (K := K) (σ := [some (.ref R), some (.ref D1), none, none, none]) (R := VesR) (bs := wd.brs) (fun _ _ _ _ s q => q.mono s) (fun H F ys zs v b hF q => vesR_st hF q) (s1 _ _ gb) hD2 (by omega) lxb ?_ gName_m fun H2 y2 s2 gD2 pD2 => ?_⟩
    · intro i x c H' h1 h2 s' Q' q
      obtain ⟨c', hc', t, rfl, ht⟩ := pair_l pb h1
      rw [h2] at hc'
      cases hc'
      have ht' := s' _ _ (s1 _ _ ht)
      have o := O.rn c (List.mem_of_getElem? h2)
      have er : c.row = [.str c.name, .str c.port, .int c.hour, .int c.strength, .int c.draught, .int c.cut] := by unfold Ves.row; rw [o.1]
      have ec : c.cls = cBreaker := by unfold Ves.cls; rw [o.1]
      rw [er] at ht'
      refine ⟨rfl, _, rfl, t, _, _, _, rfl, rfl, .of ht', rfl, _, rfl, t, _, _, _, rfl, rfl, .of ht', rfl, _, rfl, t, _, _, _, rfl, rfl, .of ht', rfl, _, rfl, t, _, _, _, rfl, rfl, .of ht', rfl, _, rfl, t, _, _, _, rfl, rfl, .of ht', rfl, _, rfl, t, _, _, _, rfl, rfl, .of ht', rfl, ?_⟩
      intro x dz hx hdz ne
      have sx : Same H' (upd (upd H' dz (.own x)) x (.ins cBreaker dz [])) := (same_new hdz).atFresh hx
      exact ⟨x, dz, c, o.1, by rw [er]; rfl, upd_same, o.2.1, fun H'' bu g => ⟨rfl, q _ _ (fun b o e => bu b o (sx b o e) (ne_of_none e hx)) ⟨x, rfl, dz, g⟩⟩⟩
    have s12 := s1.trans s2
    refine ⟨_, rfl, R, _, _, _, rfl, rfl, .of (s12 _ _ gR), rfl, ls, rfl, ⟨_, .of (s12 _ _ gs)⟩, fun D3 hD3 => lc_mapR (K := K) (σ := [some (.ref R), some (.ref D1), some (.ref D2), none, none]) (R := VesR) (bs := wd.shs) (fun _ _ _ _ s q => q.mono s) (fun H F ys zs v b hF q => vesR_st hF q) (s12 _ _ gs) hD3 (by omega) lxs ?_ gName_m fun H3 y3 s3 gD3 pD3 => ?_⟩
    · intro i x c H' h1 h2 s' Q' q
      obtain ⟨c', hc', t, rfl, ht⟩ := pair_l ps h1
      rw [h2] at hc'
      cases hc'
      have ht' := s' _ _ (s12 _ _ ht)
      have o := O.sn c (List.mem_of_getElem? h2)
      have er : c.row = [.str c.name, .str c.port, .str c.goal, .int c.hour, .int c.strength, .int c.draught] := by unfold Ves.row; rw [o.1]
      have ec : c.cls = cShip := by unfold Ves.cls; rw [o.1]
      rw [er] at ht'
      refine ⟨rfl, _, rfl, t, _, _, _, rfl, rfl, .of ht', rfl, _, rfl, t, _, _, _, rfl, rfl, .of ht', rfl, _, rfl, t, _, _, _, rfl, rfl, .of ht', rfl, _, rfl, t, _, _, _, rfl, rfl, .of ht', rfl, _, rfl, t, _, _, _, rfl, rfl, .of ht', rfl, _, rfl, t, _, _, _, rfl, rfl, .of ht', rfl, ?_⟩
      intro x dz hx hdz ne
      have sx : Same H' (upd (upd H' dz (.own x)) x (.ins cShip dz [])) := (same_new hdz).atFresh hx
      exact ⟨x, dz, c, o.1, by rw [er]; rfl, upd_same, o.2.1, fun H'' bu g => ⟨rfl, q _ _ (fun b o e => bu b o (sx b o e) (ne_of_none e hx)) ⟨x, rfl, dz, g⟩⟩⟩
    have s23 := s2.trans s3
    have s13 := s12.trans s3
    refine ⟨_, rfl, R, _, _, _, rfl, rfl, .of (s13 _ _ gR), rfl, _, rfl, R, _, _, _, rfl, rfl, .of (s13 _ _ gR), rfl, _, rfl, _, rfl, _, rfl, ?_⟩
    intro x dz hx hdz ne
    have sx : Same H3 (upd (upd H3 dz (.own x)) x (.ins cWorld dz [])) := (same_new hdz).atFresh hx
    refine ⟨x, dz, wd, lp, D1, D2, D3, rfl, upd_same, ?_, O, fun H4 bu W => ⟨rfl, k H4 x (fun b o e => bu b o (sx b o (s13 b o e)) (ne_of_none (s13 b o e) hx)) W⟩⟩
    exact ⟨sx _ _ (s13 _ _ gp), ⟨y1, sx _ _ (s23 _ _ gD1), pD1.to fun _ _ q => (q.mono s23).mono sx⟩, ⟨y2, sx _ _ (s3 _ _ gD2), pD2.to fun _ _ q => (q.mono s3).mono sx⟩, ⟨y3, sx _ _ gD3, pD3.to fun _ _ q => q.mono sx⟩⟩
end
end Ik


namespace Ik
open PySem PySem.Spec L2
open PySem.W (Frag)
/-! ### a list of rows that grows while the box is drawn from -/
theorem Box.tup {H : Hp} {b a : Addr} {n : Nat} {xs : List V} (B : Box H b n) (g : H a = some (.tup xs)) : a ≠ b := fun z => by obtain ⟨_, _, _, e, _⟩ := B; rw [z, e] at g; cases g
theorem tkT {H0 H' : Hp} {b a : Addr} {n : Nat} {xs : List V} (e : er b H' = er b H0) (B : Box H0 b n) (g : H0 a = some (.tup xs)) : H' a = some (.tup xs) := by rw [er_get e (B.tup g)]; exact g
theorem Box.st {H : Hp} {b l : Addr} {n : Nat} {o : HO} (B : Box H b n) (ne : l ≠ b) : Box (upd H l o) b n := let ⟨x, y, z, g, r⟩ := B; ⟨x, y, z, by rw [upd_ne ne.symm]; exact g, r⟩
theorem er_go2 {E H0 H' : Hp} {b : Addr} (hb : E b = none) (s : Same E H0) (e : er b H' = er b H0) : Same E H' := fun a o q => by
  rw [er_get e fun z => by rw [z, hb] at q; cases q]; exact s a o q
def RT {β : Type} (row : β → List V) (H : Hp) (v : V) (x : β) : Prop := ∃ t, v = .ref t ∧ H t = some (.tup (row x))
structure Acc {β : Type} (row : β → List V) (E : Hp) (b l : Addr) (n : Nat) (ys : List β) (H : Hp) : Prop where
  s : Same E H
  B : Box H b n
  g : ∃ fs, H l = some (.lst fs) ∧ Paired (RT row H) fs ys
section
variable {β : Type} {row : β → List V} {E H H' : Hp} {b l : Addr} {n m : Nat} {ys : List β}
theorem Acc.take (A : Acc row E b l n ys H) (hb : E b = none) (ne : l ≠ b) (e : er b H' = er b H) (B' : Box H' b m) : Acc row E b l m ys H' :=
  ⟨er_go2 hb A.s e, B', let ⟨fs, g, p⟩ := A.g; ⟨fs, by rw [er_get e ne]; exact g, p.to fun _ _ ⟨t, q, h⟩ => ⟨t, q, tkT e A.B h⟩⟩⟩
theorem Acc.new (A : Acc row E b l n ys H) {p : Addr} {o : HO} (hp : H p = none) : Acc row E b l n ys (upd H p o) :=
  have s := same_new (o := o) hp
  ⟨A.s.trans s, A.B.mono s, let ⟨fs, g, q⟩ := A.g; ⟨fs, s _ _ g, q.to fun _ _ ⟨t, e, h⟩ => ⟨t, e, s _ _ h⟩⟩⟩
theorem Acc.mono (A : Acc row E b l n ys H) (s : Same H H') : Acc row E b l n ys H' :=
  ⟨A.s.trans s, A.B.mono s, let ⟨fs, g, q⟩ := A.g; ⟨fs, s _ _ g, q.to fun _ _ ⟨t, e, h⟩ => ⟨t, e, s _ _ h⟩⟩⟩
theorem Acc.push (A : Acc row E b l n ys H) (hl : E l = none) (ne : l ≠ b) {fs : List V} (hf : H l = some (.lst fs)) {t : Addr} {y : β} (ht : H t = some (.tup (row y))) : Acc row E b l n (ys ++ [y]) (upd H l (.lst (fs ++ [.ref t]))) := by
  obtain ⟨s, B, fs', g, p⟩ := A
  rw [hf] at g
  cases g
  exact ⟨s.atFresh hl, B.st ne, _, upd_same, Paired.snoc (p.to fun _ _ ⟨u, e, h⟩ => ⟨u, e, tup_lst hf _ _ h⟩) ⟨t, rfl, tup_lst hf _ _ ht⟩⟩
theorem Acc.len (A : Acc row E b l n ys H) {fs : List V} (hf : H l = some (.lst fs)) : fs.length = ys.length := by
  obtain ⟨fs', g, p⟩ := A.g
  rw [hf] at g
  cases g
  exact Paired.length p
end
theorem RT.er {β : Type} {row : β → List V} {H : Hp} {b l : Addr} {n : Nat} {xs : List V} (gl : H l = some (.lst xs)) (B : Box H b n) {v : V} {x : β} (h : RT row H v x) : RT row (er l (er b H)) v x :=
  let ⟨t, e, g⟩ := h; ⟨t, e, by
    rw [er_ne (fun z => by rw [z, gl] at g; cases g), er_ne (B.tup g)]
    exact g⟩
theorem er2 {H : Hp} {b l a : Addr} {o : HO} (g : H a = some o) (n1 : a ≠ l) (n2 : a ≠ b) : er l (er b H) a = some o := by rw [er_ne n1, er_ne n2]; exact g
theorem strs_at {pn : List Str} {i : Int} (h0 : 0 ≤ i) (h1 : i < pn.length) : ∃ x, pn[i.toNat]? = some x ∧ atI (pn.map V.str) i = some (.str x) := by
  have h2 : i.toNat < pn.length := by omega
  exact ⟨_, List.getElem?_eq_getElem h2, atI_int h0 (by rw [List.getElem?_map, List.getElem?_eq_getElem h2]; rfl)⟩
theorem nodup_at {l : List Str} (nd : l.Nodup) {i j : Nat} {x : Str} (h1 : l[i]? = some x) (h2 : l[j]? = some x) : i = j := by
  obtain ⟨a1, b1⟩ := List.getElem?_eq_some_iff.mp h1
  obtain ⟨a2, b2⟩ := List.getElem?_eq_some_iff.mp h2
  rcases Nat.lt_trichotomy i j with h | h | h
  · exact absurd (b1.trans b2.symm) (List.pairwise_iff_getElem.mp nd i j a1 a2 h)
  · exact h
  · exact absurd (b2.trans b1.symm) (List.pairwise_iff_getElem.mp nd j i a2 a1 h)
theorem cutV_lo (xs : List V) {j : Int} (h : 0 ≤ j) : cutV xs none (some j) = xs.take j.toNat := by
  unfold cutV
  have e : HT.sIx xs.length xs.length (some j) = min j.toNat xs.length := by
    have := HT.sIx_nat xs.length xs.length j.toNat
    rw [Int.toNat_of_nonneg h] at this
    exact this
  rw [e, HT.sIx_none, List.drop_zero, Nat.sub_zero, ← List.take_eq_take_min]
theorem cutV_mid (xs : List V) {i j : Int} (h0 : 0 ≤ i) (h1 : i ≤ j) (h2 : j ≤ xs.length) : cutV xs (some i) (some j) = (xs.drop i.toNat).take (j.toNat - i.toNat) := by
  unfold cutV
  have e : HT.sIx xs.length xs.length (some j) = j.toNat := by
    have := HT.sIx_nat xs.length xs.length j.toNat
    rw [Int.toNat_of_nonneg (by omega)] at this
    rw [this]; omega
  have e2 : HT.sIx xs.length 0 (some i) = i.toNat := by
    have := HT.sIx_nat xs.length 0 i.toNat
    rw [Int.toNat_of_nonneg h0] at this
    rw [this]; omega
  rw [e, e2]
def hourOf (bg d : Int) : Int := bg - 2 * (if decide (1 < bg) = true then 1 else 0) + d * (if decide (bg < 10 ^ Int.toNat 6) = true then 1 else 0)
theorem hour_ok {bg d : Int} (h0 : 0 ≤ bg) (h1 : bg ≤ 29 ∨ bg = 1000000) (d0 : 0 ≤ d) (d1 : d < 4) : 0 ≤ hourOf bg d ∧ hourOf bg d ≤ 1000000 := by
  unfold hourOf
  have e : (10 : Int) ^ Int.toNat 6 = 1000000 := by decide
  rw [e]
  by_cases a : 1 < bg
  · by_cases c : bg < 1000000
    · rw [if_pos (decide_eq_true a), if_pos (decide_eq_true c)]; omega
    · rw [if_pos (decide_eq_true a), if_neg (by simpa using c)]; omega
  · rw [if_neg (by simpa using a), if_pos (by simp; omega)]; omega
def sp_small_world : Sp := fun vs H Q _ => ∃ (b : Addr) (n : Nat), vs = [.ref b] ∧ Box H b n ∧ n ≤ 1000 ∧
  ∀ H' R wd, Same (er b H) H' → Box H' b (n + 400) → er b H R = none → RowsAt (er b H') R wd → wd.Ok → 1 ≤ wd.chans.length → wd.brs.length ≤ 3 → wd.shs.length ≤ 3 → Q (.ref R) H'
def Z_l_small_world : Scope := { kind := .function, names := [("_law_box_here", .local), ("_law_begin", .local), ("_law_ports", .local), ("_law_rows", .local), ("_law_name", .local), ("_law_at", .local), ("_law_other", .local), ("_law_first", .local), ("_law_numbers", .local), ("_law_names_here", .local), ("_law_hour", .local), ("_law_port", .local), ("_law_ends", .local), ("_law_take", .globalImplicit), ("_law_names", .globalImplicit), ("len", .globalImplicit), ("int", .globalImplicit)], isGenerator := false, isCoroutine := false, more := (defScope S_l_small_world).more }
abbrev N_l_small_world : List Str := ["_law_box_here", "_law_begin", "_law_ports", "_law_rows", "_law_name", "_law_at", "_law_other", "_law_first", "_law_numbers", "_law_names_here", "_law_hour", "_law_port", "_law_ends"]
abbrev P_l_small_world : List Str := ["_law_box_here"]
theorem sc_l_small_world : FnScope N_l_small_world P_l_small_world Z_l_small_world := ⟨rfl, rfl, rfl, by decide +kernel, rfl, by decide +kernel, by decide +kernel⟩
theorem sz_l_small_world : defScope S_l_small_world = Z_l_small_world := rfl
section
variable {P : Program} {w : World} {K : Frag} {mg : Str → Option Value} {base : Heap}
theorem ok_l_small_world (T : Txt K mg) (D_l_take : DOk P w K mg base CX0 1 a_l_take P_l_take sp_take) (D_l_names : DOk P w K mg base CX0 2 a_l_names P_l_names sp_names) : DOk P w K mg base CX0 3 a_l_small_world P_l_small_world sp_small_world := by
  refine DOk.mk0 T.f_l_small_world sc_l_small_world sz_l_small_world (fun vs H Q E h => ?_) (fun cdv A outer s H vs Q E hr h => ?_)
  · obtain ⟨b, n, rfl, _⟩ := h; rfl
  · obtain ⟨b, n, rfl, B0, hn, k⟩ := h
    refine ⟨_, (pss_cons (ps_set (i := 1) sc_l_small_world.nd rfl (Or.inl rfl) (pe_ix (ix_listK K) (pe_lst (pa_cons pe_int (pa_cons (pe_fn D_l_take T.g_l_take hr (pa_cons (pv 0) (pa_cons pe_int pa_nil))) (pa_cons (pe_op op_pow pe_int pe_int) pa_nil)))) (pe_fn D_l_take T.g_l_take hr (pa_cons (pv 0) (pa_cons pe_int pa_nil))) (fun _ _ => rfl)))
    (pss_cons (ps_set (i := 2) sc_l_small_world.nd rfl (Or.inl rfl) (pe_fn D_l_names T.g_l_names hr (pa_cons (pv 0) (pa_cons (pe_op op_add pe_int (pe_fn D_l_take T.g_l_take hr (pa_cons (pv 0) (pa_cons pe_int pa_nil)))) pa_nil))))
    (pss_cons (ps_set (i := 3) sc_l_small_world.nd rfl (Or.inl rfl) (pe_lst (pa_cons (pv 1) (pa_cons (pv 2) (pa_cons (pe_lst pa_nil) (pa_cons (pe_lst pa_nil) (pa_cons (pe_lst pa_nil) pa_nil)))))))
    (pss_cons (ps_for PassesOwn.never rfl (pi_list (pe_fn D_l_names T.g_l_names hr (pa_cons (pv 0) (pa_cons (pe_op op_add pe_int (pe_fn D_l_take T.g_l_take hr (pa_cons (pv 0) (pa_cons pe_int pa_nil)))) pa_nil)))) (pg_name (i := 4) sc_l_small_world.nd rfl (Or.inl rfl))
      (pss_cons (ps_set (i := 5) sc_l_small_world.nd rfl (Or.inl rfl) (pe_fn D_l_take T.g_l_take hr (pa_cons (pv 0) (pa_cons (pe_callB (call_lenK K) (by rfl) T.z_len bt_len (pa_cons (pv 2) pa_nil)) pa_nil))))
    (pss_cons (ps_set (i := 6) sc_l_small_world.nd rfl (Or.inl rfl) (pe_op op_mod (pe_op op_add (pe_op op_add (pv 5) pe_int) (pe_fn D_l_take T.g_l_take hr (pa_cons (pv 0) (pa_cons (pe_op op_sub (pe_callB (call_lenK K) (by rfl) T.z_len bt_len (pa_cons (pv 2) pa_nil)) pe_int) pa_nil)))) (pe_callB (call_lenK K) (by rfl) T.z_len bt_len (pa_cons (pv 2) pa_nil))))
    (pss_cons (ps_set (i := 7) sc_l_small_world.nd rfl (Or.inl rfl) (pe_fn D_l_take T.g_l_take hr (pa_cons (pv 0) (pa_cons pe_int pa_nil))))
    (pss_cons (ps_set (i := 8) sc_l_small_world.nd rfl (Or.inl rfl) (pe_tup (pa_cons (pe_op op_add pe_int (pe_fn D_l_take T.g_l_take hr (pa_cons (pv 0) (pa_cons pe_int pa_nil)))) (pa_cons (pe_op op_add pe_int (pe_fn D_l_take T.g_l_take hr (pa_cons (pv 0) (pa_cons pe_int pa_nil)))) (pa_cons (pv 7) pa_nil)))))
    (pss_cons (ps_set (i := 8) sc_l_small_world.nd rfl (Or.inl rfl) (pe_op (op_catAK K) (pv 8) (pe_tup (pa_cons (pe_fn D_l_take T.g_l_take hr (pa_cons (pv 0) (pa_cons pe_int pa_nil))) (pa_cons (pe_op op_add (pv 7) (pe_fn D_l_take T.g_l_take hr (pa_cons (pv 0) (pa_cons pe_int pa_nil)))) pa_nil)))))
    (pss_one (ps_expr (pe_bm PySem.F.plainAttrs_list PySem.F.slot_list_append PySem.F.type_list_append mt_append (pe_ix (ix_listK K) (pv 3) pe_int (fun _ _ => rfl)) (pa_cons (pe_op (op_catAK K) (pe_tup (pa_cons (pv 4) (pa_cons (pe_ix (ix_listK K) (pv 2) (pv 5) (fun _ _ => rfl)) (pa_cons (pe_ix (ix_listK K) (pv 2) (pv 6) (fun _ _ => rfl)) pa_nil)))) (pv 8)) pa_nil))))))))))
    (pss_cons (ps_set (i := 9) sc_l_small_world.nd rfl (Or.inl rfl) (pe_fn D_l_names T.g_l_names hr (pa_cons (pv 0) (pa_cons pe_int pa_nil))))
    (pss_cons (ps_for PassesOwn.never rfl (pi_list (pe_slice (sl_listK K) (pv 9) po_none (po_some (pe_op op_add pe_int (pe_fn D_l_take T.g_l_take hr (pa_cons (pv 0) (pa_cons pe_int pa_nil))))))) (pg_name (i := 4) sc_l_small_world.nd rfl (Or.inl rfl))
      (pss_cons (ps_set (i := 10) sc_l_small_world.nd rfl (Or.inl rfl) (pe_op op_add (pe_op op_sub (pv 1) (pe_op op_mul pe_int (pe_callTy call_int1 (by rfl) T.z_int bt_int (pa_cons (pe_cmpR op_gt (pv 1) pe_int (nomark _)) pa_nil)))) (pe_op op_mul (pe_fn D_l_take T.g_l_take hr (pa_cons (pv 0) (pa_cons pe_int pa_nil))) (pe_callTy call_int1 (by rfl) T.z_int bt_int (pa_cons (pe_cmpR op_lt (pv 1) (pe_op op_pow pe_int pe_int) (nomark _)) pa_nil)))))
    (pss_cons (ps_set (i := 8) sc_l_small_world.nd rfl (Or.inl rfl) (pe_tup (pa_cons (pv 10) (pa_cons (pe_op op_add pe_int (pe_fn D_l_take T.g_l_take hr (pa_cons (pv 0) (pa_cons pe_int pa_nil)))) pa_nil))))
    (pss_cons (ps_set (i := 11) sc_l_small_world.nd rfl (Or.inl rfl) (pe_ix (ix_listK K) (pv 2) (pe_fn D_l_take T.g_l_take hr (pa_cons (pv 0) (pa_cons (pe_callB (call_lenK K) (by rfl) T.z_len bt_len (pa_cons (pv 2) pa_nil)) pa_nil))) (fun _ _ => rfl)))
    (pss_one (ps_expr (pe_bm PySem.F.plainAttrs_list PySem.F.slot_list_append PySem.F.type_list_append mt_append (pe_ix (ix_listK K) (pv 3) pe_int (fun _ _ => rfl)) (pa_cons (pe_op (op_catAK K) (pe_op (op_catAK K) (pe_tup (pa_cons (pv 4) (pa_cons (pv 11) pa_nil))) (pv 8)) (pe_tup (pa_cons (pe_fn D_l_take T.g_l_take hr (pa_cons (pv 0) (pa_cons pe_int pa_nil))) (pa_cons (pe_op op_add pe_int (pe_fn D_l_take T.g_l_take hr (pa_cons (pv 0) (pa_cons pe_int pa_nil)))) pa_nil)))) pa_nil))))))))
    (pss_cons (ps_for PassesOwn.never rfl (pi_list (pe_slice (sl_listK K) (pv 9) (po_some pe_int) (po_some (pe_op op_add pe_int (pe_fn D_l_take T.g_l_take hr (pa_cons (pv 0) (pa_cons pe_int pa_nil))))))) (pg_name (i := 4) sc_l_small_world.nd rfl (Or.inl rfl))
      (pss_cons (ps_set (i := 10) sc_l_small_world.nd rfl (Or.inl rfl) (pe_op op_add (pe_op op_sub (pv 1) (pe_op op_mul pe_int (pe_callTy call_int1 (by rfl) T.z_int bt_int (pa_cons (pe_cmpR op_gt (pv 1) pe_int (nomark _)) pa_nil)))) (pe_op op_mul (pe_fn D_l_take T.g_l_take hr (pa_cons (pv 0) (pa_cons pe_int pa_nil))) (pe_callTy call_int1 (by rfl) T.z_int bt_int (pa_cons (pe_cmpR op_lt (pv 1) (pe_op op_pow pe_int pe_int) (nomark _)) pa_nil)))))
    (pss_cons (ps_set (i := 8) sc_l_small_world.nd rfl (Or.inl rfl) (pe_tup (pa_cons (pv 10) (pa_cons (pe_fn D_l_take T.g_l_take hr (pa_cons (pv 0) (pa_cons pe_int pa_nil))) pa_nil))))
    (pss_cons (ps_set (i := 12) sc_l_small_world.nd rfl (Or.inl rfl) (pe_tup (pa_cons (pe_ix (ix_listK K) (pv 2) (pe_fn D_l_take T.g_l_take hr (pa_cons (pv 0) (pa_cons (pe_callB (call_lenK K) (by rfl) T.z_len bt_len (pa_cons (pv 2) pa_nil)) pa_nil))) (fun _ _ => rfl)) (pa_cons (pe_ix (ix_listK K) (pv 2) (pe_fn D_l_take T.g_l_take hr (pa_cons (pv 0) (pa_cons (pe_callB (call_lenK K) (by rfl) T.z_len bt_len (pa_cons (pv 2) pa_nil)) pa_nil))) (fun _ _ => rfl)) pa_nil))))
    (pss_one (ps_expr (pe_bm PySem.F.plainAttrs_list PySem.F.slot_list_append PySem.F.type_list_append mt_append (pe_ix (ix_listK K) (pv 3) pe_int (fun _ _ => rfl)) (pa_cons (pe_op (op_catAK K) (pe_op (op_catAK K) (pe_op (op_catAK K) (pe_tup (pa_cons (pv 4) pa_nil)) (pv 12)) (pv 8)) (pe_tup (pa_cons (pe_fn D_l_take T.g_l_take hr (pa_cons (pv 0) (pa_cons pe_int pa_nil))) pa_nil))) pa_nil))))))))
    (pss_one (ps_ret (pv 3)))))))))), ?_⟩
    refine ⟨_, rfl, b, 30, n, rfl, B0, by omega, by decide, by decide, fun d1 H1 d10 d11 e1 B1 => ?_⟩
    have s1 : Same (er b H) H1 := er_go er_sub e1
    refine ⟨_, _, rfl, rfl, ⟨by decide, by decide, by decide⟩, szOf rfl, fun L hL => ?_⟩
    have sL := s1.atNew (o := .lst [.int 0, .int d1, .int (10 ^ Int.toNat 6)]) hL
    refine ⟨_, rfl, b, 3, n + 1, rfl, B1.mono (same_new hL), by omega, by decide, by decide, fun d2 H2 d20 d21 e2 B2 => ?_⟩
    have s2 := er_go sL e2
    have gL : H2 L = some (.lst [.int 0, .int d1, .int (10 ^ Int.toNat 6)]) := by rw [er_get e2 (B1.ne hL), upd_same]
    obtain ⟨bg, hat, bg0, bg1⟩ : ∃ bg : Int, atI [V.int 0, .int d1, .int (10 ^ Int.toNat 6)] d2 = some (.int bg) ∧ 0 ≤ bg ∧ (bg ≤ 29 ∨ bg = 1000000) := by
      have : d2 = 0 ∨ d2 = 1 ∨ d2 = 2 := by omega
      rcases this with rfl | rfl | rfl
      · exact ⟨0, rfl, by decide, .inl (by decide)⟩
      · exact ⟨d1, rfl, d10, .inl (by omega)⟩
      · exact ⟨1000000, rfl, by decide, .inr rfl⟩
    refine ⟨L, _, d2, _, rfl, rfl, .of gL, hat, ?_⟩
    refine ⟨_, rfl, _, rfl, b, 4, n + 2, rfl, B2, by omega, by decide, by decide, fun d3 H3 d30 d31 e3 B3 => ?_⟩
    have s3 := er_go s2 e3
    refine ⟨_, _, rfl, rfl, b, 2 + d3, n + 3, rfl, B3, by omega, by omega, by omega, fun H4 lp pn s4 B4 nlp glp lpn ndp okp => ?_⟩
    have s04 : Same (er b H) H4 := (er_mono s3).trans s4
    refine ⟨_, rfl, _, rfl, szOf rfl, fun l2 h2 => ⟨szOf rfl, fun l3 h3 => ⟨szOf rfl, fun l4 h4 => ⟨szOf rfl, fun R hR => ?_⟩⟩⟩⟩
    generalize hH5 : upd (upd (upd (upd H4 l2 (.lst [])) l3 (.lst [])) l4 (.lst [])) R (.lst [.int bg, .ref lp, .ref l2, .ref l3, .ref l4]) = H5
    have n2b := B4.ne h2
    have sa := same_new (o := .lst []) h2
    have n3b := (B4.mono sa).ne h3
    have g2a : upd H4 l2 (.lst []) l2 = some (.lst []) := upd_same
    have n23 := ne_of_none g2a h3
    have sb := same_new (o := .lst []) h3
    have g2b := sb _ _ g2a
    have g3b : upd (upd H4 l2 (.lst [])) l3 (.lst []) l3 = some (.lst []) := upd_same
    have n4b := ((B4.mono sa).mono sb).ne h4
    have n24 := ne_of_none g2b h4
    have n34 := ne_of_none g3b h4
    have sc := same_new (o := .lst []) h4
    have nRb := (((B4.mono sa).mono sb).mono sc).ne hR
    have n2R := ne_of_none (sc _ _ g2b) hR
    have n3R := ne_of_none (sc _ _ g3b) hR
    have n4R := ne_of_none (upd_same (H := upd (upd H4 l2 (.lst [])) l3 (.lst [])) (a := l4) (o := .lst [])) hR
    have sd := same_new (o := .lst [.int bg, .ref lp, .ref l2, .ref l3, .ref l4]) hR
    have s45 : Same H4 H5 := by rw [← hH5]; exact ((sa.trans sb).trans sc).trans sd
    have B5 := B4.mono s45
    have g25 : H5 l2 = some (.lst []) := by rw [← hH5]; exact sd _ _ (sc _ _ g2b)
    have g35 : H5 l3 = some (.lst []) := by rw [← hH5]; exact sd _ _ (sc _ _ g3b)
    have g45 : H5 l4 = some (.lst []) := by rw [← hH5]; exact sd _ _ upd_same
    have gR5 : H5 R = some (.lst [.int bg, .ref lp, .ref l2, .ref l3, .ref l4]) := by rw [← hH5]; exact upd_same
    have gp5 := s45 _ _ glp
    have s05 := s04.trans s45
    have npl2 := (ne_of_none glp h2)
    have npl3 := (ne_of_none (sa _ _ glp) h3)
    have npl4 := (ne_of_none (sb _ _ (sa _ _ glp)) h4)
    have l20 : er b H l2 = none := s04.noneAt h2
    have l30 : er b H l3 = none := (s04.trans sa).noneAt h3
    have l40 : er b H l4 = none := ((s04.trans sa).trans sb).noneAt h4
    have R0 : er b H R = none := (((s04.trans sa).trans sb).trans sc).noneAt hR
    clear hH5
    -- channels
    refine ⟨_, rfl, _, rfl, b, 6, n + 3 + 12, rfl, B5, by omega, by decide, by decide, fun d4 H6 d40 d41 e6 B6 => ?_⟩
    refine ⟨_, _, rfl, rfl, b, 1 + d4, n + 3 + 12 + 1, rfl, B6, by omega, by omega, by omega, fun H7 ln cn s7 B7 nln gln lcn ndc okc => ?_⟩
    have k7 : ∀ {a : Addr} {o : HO}, H5 a = some o → a ≠ b → H7 a = some o := fun {a o} e ne => s7 _ _ (by rw [e6, er_ne ne]; exact e)
    have s07 : Same (er b H) H7 := (er_mono s05).trans (by rw [← e6]; exact s7)
    have g27 := k7 g25 n2b
    have nln2 : ln ≠ l2 := fun z => by
      rw [z, g27] at gln
      injection gln with gln
      injection gln with gln
      have : cn.length = 0 := by rw [← List.length_map (f := V.str), ← gln]; rfl
      omega
    have E1b : er l2 (er b H7) b = none := by rw [er_ne n2b.symm, er_at]
    have glnE := er2 gln nln2 nln
    have gRE := er2 (k7 gR5 nRb) n2R.symm nRb
    have gpE := er2 (k7 gp5 nlp) npl2 nlp
    refine ⟨ln, rfl, ⟨_, .of gln⟩, for_list (K := K) (a := ln) (xs := cn.map V.str) (fun i σ H' => ∃ v4 v5 v6 v7 v8, σ = [some (.ref b), some (.int bg), some (.ref lp), some (.ref R), v4, v5, v6, v7, v8, none, none, none, none] ∧ ∃ cs, Acc Chan.row (er l2 (er b H7)) b l2 (n + 3 + 12 + 1 + 12 + 10 * i) cs H' ∧
      cs.map (·.name) = cn.take i ∧ ∀ c ∈ cs, c.Ok ∧ c.one ∈ pn ∧ c.other ∈ pn) ⟨_, _, _, _, _, rfl, [], ⟨er_sub.trans er_sub, B7, [], g27, .nil⟩, rfl, fun c h => (nomatch h)⟩ (fun i σ H' _ ⟨_, _, _, _, _, _, _, A, _⟩ => .of (A.s _ _ glnE)) ?_ ?_⟩
    · rintro i y σ h0 hi ⟨v4, v5, v6, v7, v8, rfl, cs, A0, ecs, oks⟩
      obtain ⟨x, hx, rfl⟩ := map_at hi
      have hi2 := (List.getElem?_eq_some_iff.mp hx).1
      have lp1 : (pn.map V.str).length = pn.length := List.length_map ..
      refine ⟨_, rfl, _, rfl, _, pn.length, rfl, .inl ⟨_, .of (A0.s _ _ gpE), lp1.symm⟩, b, _, _, rfl, A0.B, by omega, by omega, by omega, fun at_ h1 a0 a1 e1 B1 => ?_⟩
      have A1 := A0.take E1b n2b e1 B1
      refine ⟨_, rfl, _, _, rfl, rfl, _, rfl, _, rfl, _, pn.length, rfl, .inl ⟨_, .of (A1.s _ _ gpE), lp1.symm⟩, _, _, rfl, rfl, b, _, _, rfl, A1.B, by omega, by omega, by omega, fun t h2 t0 t1 e2 B2 => ?_⟩
      have A2 := A1.take E1b n2b e2 B2
      refine ⟨_, _, rfl, rfl, _, rfl, _, pn.length, rfl, .inl ⟨_, .of (A2.s _ _ gpE), lp1.symm⟩, _, _, rfl, rfl, (show (0:Int) < pn.length by omega), ?_⟩
      have ot0 : 0 ≤ (at_ + 1 + t) % (pn.length : Int) := Int.emod_nonneg _ (by omega)
      have ot1 : (at_ + 1 + t) % (pn.length : Int) < pn.length := Int.emod_lt_of_pos _ (by omega)
      have ot2 : at_ ≠ (at_ + 1 + t) % (pn.length : Int) := by
        have : (pn.length : Int) = 2 ∨ (pn.length : Int) = 3 ∨ (pn.length : Int) = 4 ∨ (pn.length : Int) = 5 := by omega
        rcases this with z | z | z | z <;> rw [z] at a1 t1 ⊢ <;> omega
      refine ⟨_, rfl, b, 40, _, rfl, A2.B, by omega, by decide, by decide, fun fst h3 f0 f1 e3 B3 => ?_⟩
      have A3 := A2.take E1b n2b e3 B3
      refine ⟨_, rfl, b, 6, _, rfl, A3.B, by omega, by decide, by decide, fun d4 h4 d40 d41 e4 B4 => ?_⟩
      have A4 := A3.take E1b n2b e4 B4
      refine ⟨_, _, rfl, rfl, _, rfl, b, 12, _, rfl, A4.B, by omega, by decide, by decide, fun d5 h5 d50 d51 e5 B5 => ?_⟩
      have A5 := A4.take E1b n2b e5 B5
      refine ⟨_, _, rfl, rfl, _, rfl, szOf rfl, fun T1 hT1 => ?_⟩
      have A6 := A5.new (o := .tup [.int (1 + d4), .int (4 + d5), .int fst]) hT1
      refine ⟨_, rfl, _, rfl, b, 5, _, rfl, A6.B, by omega, by decide, by decide, fun d6 h7 d60 d61 e7 B7' => ?_⟩
      have A7 := A6.take E1b n2b e7 B7'
      have gT7 := tkT e7 A6.B (upd_same (H := h5) (a := T1) (o := .tup [.int (1 + d4), .int (4 + d5), .int fst]))
      refine ⟨_, rfl, _, rfl, b, 40, _, rfl, A7.B, by omega, by decide, by decide, fun d7 h8 d70 d71 e8 B8 => ?_⟩
      have A8 := A7.take E1b n2b e8 B8
      have gT8 := tkT e8 A7.B gT7
      refine ⟨_, _, rfl, rfl, szOf rfl, fun T2 hT2 => ?_⟩
      have A9 := A8.new (o := .tup [.int d6, .int (fst + d7)]) hT2
      have gT9 := same_new (o := .tup [.int d6, .int (fst + d7)]) hT2 _ _ gT8
      refine ⟨T1, T2, _, _, rfl, rfl, .of gT9, .of upd_same, szOf rfl, (fun z => nomatch z), (fun _ z => nomatch z), fun _ _ T3 hT3 => ?_⟩
      have A10 := A9.new (o := .tup ([.int (1 + d4), .int (4 + d5), .int fst] ++ [.int d6, .int (fst + d7)])) hT3
      obtain ⟨fs, gf, _⟩ := A10.g
      obtain ⟨x1, hx1, hp1⟩ := strs_at (pn := pn) a0 a1
      obtain ⟨x2, hx2, hp2⟩ := strs_at (pn := pn) ot0 ot1
      refine ⟨_, rfl, R, _, _, _, rfl, rfl, .of (A10.s _ _ gRE), rfl, .inl ⟨rfl, _, .of gf⟩, _, rfl, _, rfl, _, rfl, lp, _, _, _, rfl, rfl, .of (A10.s _ _ gpE), hp1, _, rfl, _, rfl, lp, _, _, _, rfl, rfl, .of (A10.s _ _ gpE), hp2, szOf rfl, fun T4 hT4 => ?_⟩
      have A11 := A10.new (o := .tup [.str x, .str x1, .str x2]) hT4
      have gT3 := same_new (o := .tup [.str x, .str x1, .str x2]) hT4 _ _ (upd_same (H := upd h8 T2 (.tup [.int d6, .int (fst + d7)])) (a := T3) (o := .tup ([.int (1 + d4), .int (4 + d5), .int fst] ++ [.int d6, .int (fst + d7)])))
      refine ⟨_, rfl, T4, T3, _, _, rfl, rfl, .of upd_same, .of gT3, szOf rfl, (fun z => nomatch z), (fun _ z => nomatch z), fun _ _ T5 hT5 => ?_⟩
      have A12 := A11.new (o := .tup ([.str x, .str x1, .str x2] ++ ([.int (1 + d4), .int (4 + d5), .int fst] ++ [.int d6, .int (fst + d7)]))) hT5
      have gf11 := same_new (o := .tup [.str x, .str x1, .str x2]) hT4 _ _ gf
      have gf12 := same_new (o := .tup ([.str x, .str x1, .str x2] ++ ([.int (1 + d4), .int (4 + d5), .int fst] ++ [.int d6, .int (fst + d7)]))) hT5 _ _ gf11
      have lcs := congrArg List.length ecs
      rw [List.length_map, List.length_take] at lcs
      have lfs := A12.len gf12
      refine ⟨l2, fs, _, rfl, rfl, gf12, small64l (by omega), ?_⟩
      have A13 := A12.push (y := (⟨x, x1, x2, 1 + d4, 4 + d5, fst, d6, fst + d7⟩ : Chan)) er_at n2b gf12 (t := T5) (by rw [upd_same]; rfl)
      refine ⟨_, _, _, _, _, rfl, _, ⟨A13.s, A13.B.le (by omega), A13.g⟩, ?_, fun c hc => ?_⟩
      · rw [List.map_append, ecs, take_succ_of hx]; rfl
      · rcases List.mem_append.mp hc with hc | hc
        · exact oks c hc
        · rw [List.mem_singleton.mp hc]
          have m1 := List.mem_of_getElem? hx1
          have m2 := List.mem_of_getElem? hx2
          refine ⟨⟨okc x (List.mem_of_getElem? hx), okp x1 m1, okp x2 m2, fun z => ?_, ?_, ?_, ?_, ?_, ?_, ?_, ?_, ?_, ?_⟩, m1, m2⟩ <;> try (dsimp only; omega)
          have z' : x1 = x2 := z
          have : at_.toNat = ((at_ + 1 + t) % (pn.length : Int)).toNat := nodup_at ndp hx1 (by rw [z']; exact hx2)
          omega
    · rintro σ h8 ⟨v4, v5, v6, v7, v8, rfl, cs, A8, ecs, oks⟩
      rw [List.length_map, List.take_length] at ecs
      have lcn' : cn.length ≤ 6 := by omega
      -- the vessels' names
      refine ⟨_, rfl, b, 8, _, rfl, A8.B, by rw [List.length_map]; omega, by decide, by decide, fun H9 lv vn s9 B9 nlv glv lvn ndv okv => ?_⟩
      have k9 : ∀ {a : Addr} {o : HO}, h8 a = some o → a ≠ b → H9 a = some o := fun {a o} e ne => s9 _ _ (by rw [er_ne ne]; exact e)
      have A8s : Same (er l2 (er b H7)) H9 := fun a o e => k9 (A8.s _ _ e) fun z => by rw [z, E1b] at e; cases e
      refine ⟨_, rfl, _, rfl, b, 3, _, rfl, B9, by rw [List.length_map]; omega, by decide, by decide, fun d5 H10 d50 d51 e10 B10 => ?_⟩
      have k10 : ∀ {a : Addr} {o : HO}, H9 a = some o → a ≠ b → H10 a = some o := fun {a o} e ne => by rw [er_get e10 ne]; exact e
      refine ⟨_, _, rfl, rfl, _, rfl, lv, _, rfl, .of (k10 glv nlv), fun S hS => ?_⟩
      rw [cutV_lo _ (by omega), ← List.map_take]
      have lbn : (vn.take (1 + d5).toNat).length ≤ 3 := by rw [List.length_take]; omega
      have B11 := B10.mono (same_new (o := .lst ((vn.take (1 + d5).toNat).map V.str)) hS)
      have nSb := B10.ne hS
      have gS11 : upd H10 S (.lst ((vn.take (1 + d5).toNat).map V.str)) S = some (.lst ((vn.take (1 + d5).toNat).map V.str)) := upd_same
      have k11 : ∀ {a : Addr} {o : HO}, h8 a = some o → a ≠ b → upd H10 S (.lst ((vn.take (1 + d5).toNat).map V.str)) a = some o := fun {a o} e ne => same_new hS _ _ (k10 (k9 e ne) ne)
      have kA : ∀ {a : Addr} {o : HO}, H7 a = some o → a ≠ l2 → a ≠ b → upd H10 S (.lst ((vn.take (1 + d5).toNat).map V.str)) a = some o := fun {a o} e n1 n2 => k11 (A8.s _ _ (er2 e n1 n2)) n2
      have glv11 := same_new (o := .lst ((vn.take (1 + d5).toNat).map V.str)) hS _ _ (k10 glv nlv)
      generalize hbn : vn.take (1 + d5).toNat = bn at lbn B11 gS11 k11 kA glv11 ⊢
      generalize upd H10 S (.lst (bn.map V.str)) = H11 at B11 gS11 k11 kA glv11 ⊢
      have g311 := kA (k7 g35 n3b) n23.symm n3b
      have g411 := kA (k7 g45 n4b) n24.symm n4b
      have gR11 := kA (k7 gR5 nRb) n2R.symm nRb
      have gp11 := kA (k7 gp5 nlp) npl2 nlp
      have bnz : bn.length ≠ 0 := by rw [← hbn, List.length_take]; omega
      have nS3 : S ≠ l3 := fun z => by
        rw [z, g311] at gS11
        injection gS11 with gS11
        injection gS11 with gS11
        have := congrArg List.length gS11
        rw [List.length_map] at this
        exact bnz this.symm
      have nv3 : lv ≠ l3 := fun z => by
        rw [z, g311] at glv11
        injection glv11 with glv11
        injection glv11 with glv11
        have := congrArg List.length glv11
        rw [List.length_map] at this
        have : vn.length = 0 := this.symm
        omega
      have E2b : er l3 (er b H11) b = none := by rw [er_ne n3b.symm, er_at]
      have gRE2 := er2 gR11 n3R.symm nRb
      have gpE2 := er2 gp11 npl3 nlp
      have lp1 : (pn.map V.str).length = pn.length := List.length_map ..
      refine ⟨S, rfl, ⟨_, .of gS11⟩, for_list (K := K) (a := S) (xs := bn.map V.str) (fun i σ H' => ∃ v4 v5 v6 v7 v8 v10 v11, σ = [some (.ref b), some (.int bg), some (.ref lp), some (.ref R), v4, v5, v6, v7, v8, some (.ref lv), v10, v11, none] ∧ ∃ vs, Acc Ves.row (er l3 (er b H11)) b l3 (n + 120 + 10 * i) vs H' ∧
        vs.map (·.name) = bn.take i ∧ ∀ v ∈ vs, v.isB = true ∧ v.Ok ∧ v.port ∈ pn) ⟨_, _, _, _, _, _, _, rfl, [], ⟨er_sub.trans er_sub, B11.le (by rw [List.length_map]; omega), [], g311, .nil⟩, rfl, fun c h => (nomatch h)⟩ (fun i σ H' _ ⟨_, _, _, _, _, _, _, _, _, A, _⟩ => .of (A.s _ _ (er2 gS11 nS3 nSb))) ?_ ?_⟩
      · rintro i y σ h0 hi ⟨v4, v5, v6, v7, v8, v10, v11, rfl, vs, A0, ecs, oks⟩
        obtain ⟨x, hx, rfl⟩ := map_at hi
        have hi2 := (List.getElem?_eq_some_iff.mp hx).1
        refine ⟨_, rfl, _, rfl, _, _, rfl, rfl, .inr ⟨_, rfl, _, _, rfl, rfl, .inl ⟨by decide, by decide⟩, _, _, rfl, rfl, ?_⟩⟩
        refine ⟨_, rfl, b, 4, _, rfl, A0.B, by omega, by decide, by decide, fun d h1 d0 d1 e1 B1 => ?_⟩
        have A1 := A0.take E2b n3b e1 B1
        refine ⟨_, rfl, _, _, rfl, rfl, ⟨by decide, by decide, by decide⟩, _, _, rfl, rfl, .inr ⟨_, rfl, _, _, rfl, rfl, .inl ⟨by omega, by omega⟩, _, _, rfl, rfl, ?_⟩⟩
        have HO := hour_ok bg0 bg1 d0 d1
        refine ⟨_, rfl, _, rfl, b, 60, _, rfl, A1.B, by omega, by decide, by decide, fun d6 h2 d60 d61 e2 B2 => ?_⟩
        have A2 := A1.take E2b n3b e2 B2
        refine ⟨_, _, rfl, rfl, szOf rfl, fun T1 hT1 => ?_⟩
        have A3 := A2.new (o := .tup [.int (hourOf bg d), .int (8 + d6)]) hT1
        refine ⟨_, rfl, _, rfl, _, rfl, _, pn.length, rfl, .inl ⟨_, .of (A3.s _ _ gpE2), lp1.symm⟩, b, _, _, rfl, A3.B, by omega, by omega, by omega, fun dp h4 dp0 dp1 e4 B4 => ?_⟩
        have A4 := A3.take E2b n3b e4 B4
        have gT4 := tkT e4 A3.B (upd_same (H := h2) (a := T1) (o := .tup [.int (hourOf bg d), .int (8 + d6)]))
        obtain ⟨x1, hx1, hp1⟩ := strs_at (pn := pn) dp0 dp1
        refine ⟨lp, _, dp, _, rfl, rfl, .of (A4.s _ _ gpE2), hp1, ?_⟩
        obtain ⟨fs, gf, _⟩ := A4.g
        refine ⟨_, rfl, R, _, _, _, rfl, rfl, .of (A4.s _ _ gRE2), rfl, .inl ⟨rfl, _, .of gf⟩, _, rfl, _, rfl, szOf rfl, fun T2 hT2 => ?_⟩
        have A5 := A4.new (o := .tup [.str x, .str x1]) hT2
        have gT5 := same_new (o := .tup [.str x, .str x1]) hT2 _ _ gT4
        refine ⟨_, rfl, T2, T1, _, _, rfl, rfl, .of upd_same, .of gT5, szOf rfl, (fun z => nomatch z), (fun _ z => nomatch z), fun _ _ T3 hT3 => ?_⟩
        have A6 := A5.new (o := .tup ([.str x, .str x1] ++ [.int (hourOf bg d), .int (8 + d6)])) hT3
        refine ⟨_, rfl, b, 9, _, rfl, A6.B, by omega, by decide, by decide, fun d9 h7 d90 d91 e7 B7' => ?_⟩
        have A7 := A6.take E2b n3b e7 B7'
        have gT7 := tkT e7 A6.B upd_same
        refine ⟨_, rfl, b, 50, _, rfl, A7.B, by omega, by decide, by decide, fun dc h8' dc0 dc1 e8 B8 => ?_⟩
        have A8' := A7.take E2b n3b e8 B8
        have gT8 := tkT e8 A7.B gT7
        refine ⟨_, _, rfl, rfl, szOf rfl, fun T4 hT4 => ?_⟩
        have A9 := A8'.new (o := .tup [.int d9, .int (1 + dc)]) hT4
        have gT9 := same_new (o := .tup [.int d9, .int (1 + dc)]) hT4 _ _ gT8
        refine ⟨T3, T4, _, _, rfl, rfl, .of gT9, .of upd_same, szOf rfl, (fun z => nomatch z), (fun _ z => nomatch z), fun _ _ T5 hT5 => ?_⟩
        have A10 := A9.new (o := .tup (([.str x, .str x1] ++ [.int (hourOf bg d), .int (8 + d6)]) ++ [.int d9, .int (1 + dc)])) hT5
        have gf' : upd (upd h8' T4 (.tup [.int d9, .int (1 + dc)])) T5 (.tup (([.str x, .str x1] ++ [.int (hourOf bg d), .int (8 + d6)]) ++ [.int d9, .int (1 + dc)])) l3 = some (.lst fs) := by
          have g5 := same_new (o := .tup [.str x, .str x1]) hT2 _ _ gf
          have g6 := same_new (o := .tup ([.str x, .str x1] ++ [.int (hourOf bg d), .int (8 + d6)])) hT3 _ _ g5
          have g7 : h7 l3 = some (.lst fs) := by rw [er_get e7 n3b]; exact g6
          have g8 : h8' l3 = some (.lst fs) := by rw [er_get e8 n3b]; exact g7
          exact same_new hT5 _ _ (same_new hT4 _ _ g8)
        have lcs := congrArg List.length ecs
        rw [List.length_map, List.length_take] at lcs
        have lfs := A10.len gf'
        refine ⟨l3, fs, _, rfl, rfl, gf', small64l (by omega), ?_⟩
        have A13 := A10.push (y := (⟨true, x, x1, x1, hourOf bg d, 8 + d6, d9, 1 + dc⟩ : Ves)) er_at n3b gf' (t := T5) (by rw [upd_same]; rfl)
        refine ⟨_, _, _, _, _, _, _, rfl, _, ⟨A13.s, A13.B.le (by omega), A13.g⟩, ?_, fun c hc => ?_⟩
        · rw [List.map_append, ecs, take_succ_of hx]; rfl
        · rcases List.mem_append.mp hc with hc | hc
          · exact oks c hc
          · rw [List.mem_singleton.mp hc]
            have m1 := List.mem_of_getElem? hx1
            have mx : x ∈ vn := by
              have : x ∈ bn := List.mem_of_getElem? hx
              rw [← hbn] at this
              exact List.mem_of_mem_take this
            exact ⟨rfl, ⟨okv x mx, okp x1 m1, (fun z => nomatch z), HO.1, HO.2, by dsimp only; omega, by dsimp only; omega, by dsimp only; omega, by dsimp only; omega, fun _ => by dsimp only; omega, fun _ => by dsimp only; omega⟩, m1⟩
      · rintro σ h12 ⟨v4, v5, v6, v7, v8, v10, v11, rfl, brs, A12, ebs, okb⟩
        rw [List.length_map, List.take_length] at ebs
        have lbrs : brs.length ≤ 3 := by rw [← List.length_map (f := (·.name)), ebs]; exact lbn
        have B12 : Box h12 b (n + 150) := A12.B.le (by rw [List.length_map]; omega)
        have k12 : ∀ {a : Addr} {o : HO}, H11 a = some o → a ≠ l3 → a ≠ b → h12 a = some o := fun {a o} e n1 n2 => A12.s _ _ (er2 e n1 n2)
        refine ⟨_, rfl, 4, rfl, _, rfl, b, 4, _, rfl, B12, by omega, by decide, by decide, fun ds H13 ds0 ds1 e13 B13 => ?_⟩
        have k13 : ∀ {a : Addr} {o : HO}, h12 a = some o → a ≠ b → H13 a = some o := fun {a o} e ne => by rw [er_get e13 ne]; exact e
        refine ⟨_, _, rfl, rfl, _, rfl, lv, _, rfl, .of (k13 (k12 glv11 nv3 nlv) nlv), fun S2 hS2 => ?_⟩
        rw [cutV_mid _ (show (0:Int) ≤ 4 by decide) (by omega) (by rw [List.length_map]; omega), ← List.map_drop, ← List.map_take]
        have B14 := B13.mono (same_new (o := .lst (((vn.drop (4 : Int).toNat).take ((4 + ds).toNat - (4 : Int).toNat)).map V.str)) hS2)
        have nS2b := B13.ne hS2
        have gS14 : upd H13 S2 (.lst (((vn.drop (4 : Int).toNat).take ((4 + ds).toNat - (4 : Int).toNat)).map V.str)) S2 = some (.lst (((vn.drop (4 : Int).toNat).take ((4 + ds).toNat - (4 : Int).toNat)).map V.str)) := upd_same
        have k14 : ∀ {a : Addr} {o : HO}, h12 a = some o → a ≠ b → upd H13 S2 (.lst (((vn.drop (4 : Int).toNat).take ((4 + ds).toNat - (4 : Int).toNat)).map V.str)) a = some o := fun {a o} e ne => same_new hS2 _ _ (k13 e ne)
        have lsn : ((vn.drop (4 : Int).toNat).take ((4 + ds).toNat - (4 : Int).toNat)).length ≤ 3 := by rw [List.length_take]; omega
        have snm : ∀ x ∈ (vn.drop (4 : Int).toNat).take ((4 + ds).toNat - (4 : Int).toNat), x ∈ vn := fun x h => List.mem_of_mem_drop (List.mem_of_mem_take h)
        have bsn : (bn ++ (vn.drop (4 : Int).toNat).take ((4 + ds).toNat - (4 : Int).toNat)).Nodup := by
          have sub : (vn.take 4 ++ vn.drop 4).Nodup := by rw [List.take_append_drop]; exact ndv
          refine List.Sublist.nodup ?_ sub
          refine List.Sublist.append ?_ (List.take_sublist _ _)
          rw [← hbn]
          exact List.take_sublist_take_left (by omega)
        have n4S2 : l4 ≠ S2 := ne_of_none (k13 (k12 g411 n34.symm n4b) n4b) hS2
        generalize (vn.drop (4 : Int).toNat).take ((4 + ds).toNat - (4 : Int).toNat) = sn at B14 gS14 k14 lsn snm bsn ⊢
        generalize upd H13 S2 (.lst (sn.map V.str)) = H14 at B14 gS14 k14 ⊢
        have g414 := k14 (k12 g411 n34.symm n4b) n4b
        have gR14 := k14 (k12 gR11 n3R.symm nRb) nRb
        have gp14 := k14 (k12 gp11 npl3 nlp) nlp
        have E3b : er l4 (er b H14) b = none := by rw [er_ne n4b.symm, er_at]
        have gRE3 := er2 gR14 n4R.symm nRb
        have gpE3 := er2 gp14 npl4 nlp
        refine ⟨S2, rfl, ⟨_, .of gS14⟩, for_list (K := K) (a := S2) (xs := sn.map V.str) (fun i σ H' => ∃ v4 v5 v6 v7 v8 v10 v11 v12, σ = [some (.ref b), some (.int bg), some (.ref lp), some (.ref R), v4, v5, v6, v7, v8, some (.ref lv), v10, v11, v12] ∧ ∃ vs, Acc Ves.row (er l4 (er b H14)) b l4 (n + 160 + 10 * i) vs H' ∧
          vs.map (·.name) = sn.take i ∧ ∀ v ∈ vs, v.isB = false ∧ v.Ok ∧ v.port ∈ pn ∧ v.goal ∈ pn) ⟨_, _, _, _, _, _, _, _, rfl, [], ⟨er_sub.trans er_sub, B14.le (by omega), [], g414, .nil⟩, rfl, fun c h => (nomatch h)⟩ (fun i σ H' _ ⟨_, _, _, _, _, _, _, _, _, _, A, _⟩ => .of (A.s _ _ (er2 gS14 n4S2.symm nS2b))) ?_ ?_⟩
        · rintro i y σ h0 hi ⟨v4, v5, v6, v7, v8, v10, v11, v12, rfl, vs, A0, ecs, oks⟩
          obtain ⟨x, hx, rfl⟩ := map_at hi
          have hi2 := (List.getElem?_eq_some_iff.mp hx).1
          refine ⟨_, rfl, _, rfl, _, _, rfl, rfl, .inr ⟨_, rfl, _, _, rfl, rfl, .inl ⟨by decide, by decide⟩, _, _, rfl, rfl, ?_⟩⟩
          refine ⟨_, rfl, b, 4, _, rfl, A0.B, by omega, by decide, by decide, fun d h1 d0 d1 e1 B1 => ?_⟩
          have A1 := A0.take E3b n4b e1 B1
          refine ⟨_, rfl, _, _, rfl, rfl, ⟨by decide, by decide, by decide⟩, _, _, rfl, rfl, .inr ⟨_, rfl, _, _, rfl, rfl, .inl ⟨by omega, by omega⟩, _, _, rfl, rfl, ?_⟩⟩
          have HO := hour_ok bg0 bg1 d0 d1
          refine ⟨_, rfl, _, rfl, b, 40, _, rfl, A1.B, by omega, by decide, by decide, fun d6 h2 d60 d61 e2 B2 => ?_⟩
          have A2 := A1.take E3b n4b e2 B2
          refine ⟨szOf rfl, fun T1 hT1 => ?_⟩
          have A3 := A2.new (o := .tup [.int (hourOf bg d), .int d6]) hT1
          refine ⟨_, rfl, _, rfl, _, rfl, _, pn.length, rfl, .inl ⟨_, .of (A3.s _ _ gpE3), lp1.symm⟩, b, _, _, rfl, A3.B, by omega, by omega, by omega, fun dp h4 dp0 dp1 e4 B4 => ?_⟩
          have A4 := A3.take E3b n4b e4 B4
          have gT4 := tkT e4 A3.B (upd_same (H := h2) (a := T1) (o := .tup [.int (hourOf bg d), .int d6]))
          obtain ⟨x1, hx1, hp1⟩ := strs_at (pn := pn) dp0 dp1
          refine ⟨lp, _, dp, _, rfl, rfl, .of (A4.s _ _ gpE3), hp1, ?_⟩
          refine ⟨_, rfl, _, rfl, _, rfl, _, pn.length, rfl, .inl ⟨_, .of (A4.s _ _ gpE3), lp1.symm⟩, b, _, _, rfl, A4.B, by omega, by omega, by omega, fun dq h5 dq0 dq1 e5 B5' => ?_⟩
          have A5 := A4.take E3b n4b e5 B5'
          have gT5 := tkT e5 A4.B gT4
          obtain ⟨x2, hx2, hp2⟩ := strs_at (pn := pn) dq0 dq1
          refine ⟨lp, _, dq, _, rfl, rfl, .of (A5.s _ _ gpE3), hp2, szOf rfl, fun T2 hT2 => ?_⟩
          have A6 := A5.new (o := .tup [.str x1, .str x2]) hT2
          have gT6 := same_new (o := .tup [.str x1, .str x2]) hT2 _ _ gT5
          obtain ⟨fs, gf, _⟩ := A6.g
          refine ⟨_, rfl, R, _, _, _, rfl, rfl, .of (A6.s _ _ gRE3), rfl, .inl ⟨rfl, _, .of gf⟩, _, rfl, szOf rfl, fun T3 hT3 => ?_⟩
          have A7 := A6.new (o := .tup [.str x]) hT3
          have gT7 := same_new (o := .tup [.str x]) hT3 _ _ gT6
          have gU7 := same_new (o := .tup [.str x]) hT3 _ _ (upd_same (H := h5) (a := T2) (o := .tup [.str x1, .str x2]))
          refine ⟨_, rfl, T3, T2, _, _, rfl, rfl, .of upd_same, .of gU7, szOf rfl, (fun z => nomatch z), (fun _ z => nomatch z), fun _ _ T4 hT4 => ?_⟩
          have A8' := A7.new (o := .tup ([.str x] ++ [.str x1, .str x2])) hT4
          have gT8 := same_new (o := .tup ([.str x] ++ [.str x1, .str x2])) hT4 _ _ gT7
          refine ⟨_, rfl, T4, T1, _, _, rfl, rfl, .of upd_same, .of gT8, szOf rfl, (fun z => nomatch z), (fun _ z => nomatch z), fun _ _ T5 hT5 => ?_⟩
          have A9 := A8'.new (o := .tup (([.str x] ++ [.str x1, .str x2]) ++ [.int (hourOf bg d), .int d6])) hT5
          refine ⟨_, rfl, b, 9, _, rfl, A9.B, by omega, by decide, by decide, fun d9 h9 d90 d91 e9 B9' => ?_⟩
          have A10 := A9.take E3b n4b e9 B9'
          have gT10 := tkT e9 A9.B upd_same
          refine ⟨szOf rfl, fun T6 hT6 => ?_⟩
          have A11 := A10.new (o := .tup [.int d9]) hT6
          have gT11 := same_new (o := .tup [.int d9]) hT6 _ _ gT10
          refine ⟨T5, T6, _, _, rfl, rfl, .of gT11, .of upd_same, szOf rfl, (fun z => nomatch z), (fun _ z => nomatch z), fun _ _ T7 hT7 => ?_⟩
          have A12' := A11.new (o := .tup ((([.str x] ++ [.str x1, .str x2]) ++ [.int (hourOf bg d), .int d6]) ++ [.int d9])) hT7
          have gf' : upd (upd h9 T6 (.tup [.int d9])) T7 (.tup ((([.str x] ++ [.str x1, .str x2]) ++ [.int (hourOf bg d), .int d6]) ++ [.int d9])) l4 = some (.lst fs) := by
            have g7 := same_new (o := .tup [.str x]) hT3 _ _ gf
            have g8 := same_new (o := .tup ([.str x] ++ [.str x1, .str x2])) hT4 _ _ g7
            have g9 := same_new (o := .tup (([.str x] ++ [.str x1, .str x2]) ++ [.int (hourOf bg d), .int d6])) hT5 _ _ g8
            have g10 : h9 l4 = some (.lst fs) := by rw [er_get e9 n4b]; exact g9
            exact same_new hT7 _ _ (same_new hT6 _ _ g10)
          have lcs := congrArg List.length ecs
          rw [List.length_map, List.length_take] at lcs
          have lfs := A12'.len gf'
          refine ⟨l4, fs, _, rfl, rfl, gf', small64l (by omega), ?_⟩
          have A13 := A12'.push (y := (⟨false, x, x1, x2, hourOf bg d, d6, d9, 0⟩ : Ves)) er_at n4b gf' (t := T7) (by rw [upd_same]; rfl)
          refine ⟨_, _, _, _, _, _, _, _, rfl, _, ⟨A13.s, A13.B.le (by omega), A13.g⟩, ?_, fun c hc => ?_⟩
          · rw [List.map_append, ecs, take_succ_of hx]; rfl
          · rcases List.mem_append.mp hc with hc | hc
            · exact oks c hc
            · rw [List.mem_singleton.mp hc]
              have m1 := List.mem_of_getElem? hx1
              have m2 := List.mem_of_getElem? hx2
              have mx := snm x (List.mem_of_getElem? hx)
              exact ⟨rfl, ⟨okv x mx, okp x1 m1, fun _ => okp x2 m2, HO.1, HO.2, by dsimp only; omega, by dsimp only; omega, by dsimp only; omega, by dsimp only; omega, (fun z => nomatch z), (fun z => nomatch z)⟩, m1, m2⟩
        · rintro σ h16 ⟨v4, v5, v6, v7, v8, v10, v11, v12, rfl, shs, A16, ess, oksh⟩
          rw [List.length_map, List.take_length] at ess
          have lshs : shs.length ≤ 3 := by rw [← List.length_map (f := (·.name)), ess]; exact lsn
          have kZ : ∀ {a : Addr} {o : HO}, H11 a = some o → a ≠ l3 → a ≠ l4 → a ≠ b → er b h16 a = some o := fun {a o} e n1 n2 n3 => by
            rw [er_ne n3]; exact A16.s _ _ (er2 (k14 (k12 e n1 n3) n3) n2 n3)
          have kW : ∀ {a : Addr} {o : HO}, h12 a = some o → a ≠ l4 → a ≠ b → er b h16 a = some o := fun {a o} e n2 n3 => by
            rw [er_ne n3]; exact A16.s _ _ (er2 (k14 e n3) n2 n3)
          have sAll : Same (er b H) h16 := fun a o e => by
            have nb : a ≠ b := fun z => by rw [z, er_at] at e; cases e
            have n2 : a ≠ l2 := fun z => by rw [z, l20] at e; cases e
            have n3 : a ≠ l3 := fun z => by rw [z, l30] at e; cases e
            have n4 : a ≠ l4 := fun z => by rw [z, l40] at e; cases e
            exact er_sub _ _ (kZ (kA (s07 _ _ e) n2 nb) n3 n4 nb)
          obtain ⟨fs2, gf2, pf2⟩ := A8.g
          obtain ⟨fs3, gf3, pf3⟩ := A12.g
          obtain ⟨fs4, gf4, pf4⟩ := A16.g
          have g412 := k12 g411 n34.symm n4b
          refine ⟨_, rfl, k h16 R ⟨bg, pn, cs, brs, shs⟩ sAll (A16.B.le (by rw [List.length_map]; omega)) R0 ⟨lp, l2, l3, l4, kZ gR11 n3R.symm n4R.symm nRb, ⟨kZ gp11 npl3 npl4 nlp, ⟨fs2, kZ (k11 gf2 n2b) n23 n24 n2b, pf2.to fun _ _ ⟨t, e, g⟩ => ⟨t, e, ?_⟩⟩,
            ⟨fs3, kW gf3 n34 n3b, pf3.to fun _ _ ⟨t, e, g⟩ => ⟨t, e, ?_⟩⟩, ⟨fs4, by rw [er_ne n4b]; exact gf4, pf4.to fun _ _ ⟨t, e, g⟩ => ⟨t, e, by rw [er_ne (A16.B.tup g)]; exact g⟩⟩⟩⟩ ?_ ?_ lbrs lshs⟩
          · have nb := A8.B.tup g
            have g' := k11 g nb
            exact kZ g' (fun z => by rw [z, g311] at g'; cases g') (fun z => by rw [z, g411] at g'; cases g') nb
          · have nb := A12.B.tup g
            exact kW g (fun z => by rw [z, g412] at g; cases g) nb
          · refine ⟨bg0, by dsimp only; omega, by dsimp only; omega, by dsimp only; omega, okp, ndp, ?_, fun c hc => (oks c hc).1, ?_, fun c hc => (oks c hc).2, Nat.le_trans lbrs (by decide), okb, Nat.le_trans lshs (by decide), oksh, ?_⟩
            · show cs.length ≤ 12
              rw [← List.length_map (f := (·.name)), ecs]
              omega
            · show (cs.map (·.name)).Nodup
              rw [ecs]; exact ndc
            · show ((brs ++ shs).map (·.name)).Nodup
              rw [List.map_append, ebs, ess]
              exact bsn
          · show 1 ≤ cs.length
            rw [← List.length_map (f := (·.name)), ecs]
            omega
end
end Ik


namespace Ik
open PySem PySem.Spec L2
open PySem.W (Frag)
theorem ifB {b : Bool} {A B : Prop} (hA : b = true → A) (hB : b = false → B) : if b = true then A else B := by
  cases b with
  | true => exact iteT (hA rfl)
  | false => exact iteF (hB rfl)
/-! ### a statement by way of what it leaves -/
def tVia (t : TS) : TS := fun D σ H => ∃ Pv : L2.St → Hp → Prop, t { D with nx := Pv } σ H ∧ ∀ σ' H', Pv σ' H' → D.nx σ' H'
theorem ps_via {X : Cx} {st : Stmt} {t : TS} (h : PS X st t) : PS X st (tVia t) := by
  refine ⟨fun pins s σ H D I ⟨Pv, q1, q2⟩ => wpAny_mono (h.run pins s σ H { D with nx := Pv } I q1) (fun f s' r => ?_) fun _ _ x => x⟩
  cases f with
  | next => exact let ⟨σ', H', I', p⟩ := r; ⟨σ', H', I', q2 σ' H' p⟩
  | brk => exact r
  | cont => exact r
  | ret u => exact r
/-! ### entries, a table of entries -/
def entRow (e : Ent) : List V := [.int e.1, .str e.2]
theorem hour_next (h hr da : Int) (u : Bool) (d0 : 0 ≤ da) (d1 : da < 4) (r0 : 1 ≤ hr) (r1 : hr ≤ 1000) :
    h < (if h + 1 > h + (if hr - 1 + da > 1 then hr - 1 + da else 1) - (if u = true then 1 else 0) * (hr - 1) then h + 1 else h + (if hr - 1 + da > 1 then hr - 1 + da else 1) - (if u = true then 1 else 0) * (hr - 1)) ∧
    (if h + 1 > h + (if hr - 1 + da > 1 then hr - 1 + da else 1) - (if u = true then 1 else 0) * (hr - 1) then h + 1 else h + (if hr - 1 + da > 1 then hr - 1 + da else 1) - (if u = true then 1 else 0) * (hr - 1)) ≤ h + 1003 := by
  have e : ∃ z : Int, (if u = true then (1 : Int) else 0) * (hr - 1) = z ∧ 0 ≤ z := by
    cases u with
    | true => exact ⟨1 * (hr - 1), rfl, by omega⟩
    | false => exact ⟨0 * (hr - 1), rfl, by omega⟩
  obtain ⟨z, e, z0⟩ := e
  rw [e]
  by_cases a : hr - 1 + da > 1
  · rw [if_pos a]
    split <;> omega
  · rw [if_neg a]
    split <;> omega
def sp_l_entries : Sp := fun vs H Q _ => ∃ (b R vt : Addr) (wd : Wd) (x : Ves) (m : Int) (n : Nat), vs = [.ref b, .ref R, .ref vt, .int m] ∧ Box H b n ∧ n ≤ 50000 ∧ RowsAt (er b H) R wd ∧ wd.Ok ∧ 1 ≤ wd.chans.length ∧ VRow wd (er b H) (.ref vt) x ∧ x ∈ wd.ves ∧ 1 ≤ m ∧ m ≤ 5 ∧
  ∀ (H' : Hp) (l : Addr) (es : List Ent), Same (er b H) H' → Box H' b (n + 50) → EntsAt (er b H') l es → l ≠ b → er b H l = none → EntsOk wd.begin_ (wd.chans.map (·.name)) es → (es.length : Int) = m → Q (.ref l) H'
def sp_l_table : Sp := fun vs H Q _ => ∃ (b R : Addr) (wd : Wd) (n : Nat), vs = [.ref b, .ref R] ∧ Box H b n ∧ n ≤ 10000 ∧ RowsAt (er b H) R wd ∧ wd.Ok ∧ 1 ≤ wd.chans.length ∧
  ∀ (H' : Hp) (t : Addr) (tbl : Tbl), Same (er b H) H' → Box H' b (n + 600) → TableAt (er b H') t tbl → TblOk wd tbl → entNum tbl wd.ves ≤ 4 * wd.ves.length → t ≠ b → er b H t = none → Q (.ref t) H'
def Z_l_entries : Scope := { kind := .function, names := [("_law_box_here", .local), ("_law_rows", .local), ("_law_vessel", .local), ("_law_many", .local), ("_law_entries_here", .local), ("_law_port", .cell), ("_law_hour", .local), ("_law_k", .local), ("_law_near", .local), ("_law_channel", .local), ("max", .globalImplicit), ("_law_take", .globalImplicit), ("range", .globalImplicit), ("len", .globalImplicit), ("int", .globalImplicit)], isGenerator := false, isCoroutine := false, more := (defScope S_l_entries).more }
abbrev N_l_entries : List Str := ["_law_box_here", "_law_rows", "_law_vessel", "_law_many", "_law_entries_here", "_law_port", "_law_hour", "_law_k", "_law_near", "_law_channel", "_law_one"]
abbrev P_l_entries : List Str := ["_law_box_here", "_law_rows", "_law_vessel", "_law_many"]
theorem sc_l_entries : FnScope N_l_entries P_l_entries Z_l_entries := ⟨rfl, rfl, rfl, by decide +kernel, rfl, by decide +kernel, by decide +kernel⟩
theorem sz_l_entries : defScope S_l_entries = Z_l_entries := rfl
def Z_l_table : Scope := { kind := .function, names := [("_law_box_here", .local), ("_law_rows", .local), ("_law_table_here", .local), ("_law_vessel", .local), ("_law_many", .local), ("_law_vessels", .globalImplicit), ("_law_take", .globalImplicit), ("_law_entries", .globalImplicit)], isGenerator := false, isCoroutine := false, more := (defScope S_l_table).more }
abbrev N_l_table : List Str := ["_law_box_here", "_law_rows", "_law_table_here", "_law_vessel", "_law_many"]
abbrev P_l_table : List Str := ["_law_box_here", "_law_rows"]
theorem sc_l_table : FnScope N_l_table P_l_table Z_l_table := ⟨rfl, rfl, rfl, by decide +kernel, rfl, by decide +kernel, by decide +kernel⟩
theorem sz_l_table : defScope S_l_table = Z_l_table := rfl
section
variable {P : Program} {w : World} {K : Frag} {mg : Str → Option Value} {base : Heap}
theorem ok_l_entries (T : Txt K mg) (D_l_take : DOk P w K mg base CX0 1 a_l_take P_l_take sp_take) : DOk P w K mg base CX0 2 a_l_entries P_l_entries sp_l_entries := by
  refine DOk.mk0 T.f_l_entries sc_l_entries sz_l_entries (fun vs H Q E h => ?_) (fun cdv A outer s H vs Q E hr h => ?_)
  · obtain ⟨b, R, vt, wd, x, m, n, rfl, _⟩ := h; rfl
  · obtain ⟨b, R, vt, wd, x, m, n, rfl, B0, hn, RA, O, c1, ⟨vt', evt, gv⟩, hx, m0, m1, k⟩ := h
    cases evt
    obtain ⟨lp, lc, lb, ls, gR, _, ⟨xc, gc, pc⟩, _, _⟩ := RA
    have lxc := Paired.length pc
    have c12 := O.c1
    have fb0 : 0 ≤ wd.from_ x ∧ wd.begin_ ≤ wd.from_ x ∧ wd.from_ x ≤ 1000000 := by
      unfold Wd.from_
      have := O.b0; have := O.b1; have := (O.vn hx).1.h0; have := (O.vn hx).1.h1
      omega
    have bb0 := O.b0
    have bb1 := O.b1
    refine ⟨_, (pss_cons (ps_set (i := 4) sc_l_entries.nd rfl (Or.inl rfl) (pe_lst pa_nil))
    (pss_cons (ps_set (i := 5) sc_l_entries.nd rfl (Or.inr rfl) (pe_ix (ix_tupK K) (pv 2) pe_int (fun _ _ => rfl)))
    (pss_cons (ps_set (i := 6) sc_l_entries.nd rfl (Or.inl rfl) (pe_callB (call_max2 rfl) (by rfl) T.z_max bt_max (pa_cons (pe_ix (ix_listK K) (pv 1) pe_int (fun _ _ => rfl)) (pa_cons (pe_op op_add (pe_op op_sub (pe_ix (ix_tupK K) (pv 2) pe_int (fun _ _ => rfl)) pe_int) (pe_fn D_l_take T.g_l_take hr (pa_cons (pv 0) (pa_cons pe_int pa_nil)))) pa_nil))))
    (pss_cons (ps_for PassesOwn.never rfl (pi_range1 rfl T.z_range (pa_cons (pv 3) pa_nil)) (pg_name (i := 7) sc_l_entries.nd rfl (Or.inl rfl))
      (pss_cons (ps_setLc (i := 8) (own := [("_law_one", 10)]) (g := (gName 10)) rfl sc_l_entries.nd rfl rfl (sw_true rfl rfl rfl (by decide +kernel)) (pi_list (pe_ix (ix_listK K) (pv 1) pe_int (fun _ _ => rfl))) (blkOk_by (own := [("_law_one", 10)]) (N := N_l_entries) (sc := Z_l_entries) (by decide +kernel)) (fun _ _ _ _ _ => (pg_name (i := 10) sc_l_entries.nd rfl (Or.inl rfl))) (fun _ _ _ _ _ => (pts_one (pt_cmpR (op_inK K) (pv 5) (pe_slice (sl_tupK K) (pv 10) (po_some pe_int) (po_some pe_int)) (by rfl)))) (fun _ _ _ _ _ => (pv 10)))
    (pss_cons (ps_set (i := 9) sc_l_entries.nd rfl (Or.inl rfl) (pe_ix (ix_listK K) (pe_ix (ix_listK K) (pv 1) pe_int (fun _ _ => rfl)) (pe_fn D_l_take T.g_l_take hr (pa_cons (pv 0) (pa_cons (pe_callB (call_lenK K) (by rfl) T.z_len bt_len (pa_cons (pe_ix (ix_listK K) (pv 1) pe_int (fun _ _ => rfl)) pa_nil)) pa_nil))) (fun _ _ => rfl)))
    (pss_cons (ps_via (ps_if (PW.pt (pw_and (pt_cmpR (op_neNilK K hr) (pv 8) (pe_lst pa_nil) (nomark _)) (pw_and1 (pt_cmpR op_gt (pe_fn D_l_take T.g_l_take hr (pa_cons (pv 0) (pa_cons pe_int pa_nil))) pe_int (nomark _))))) (pss_one (ps_set (i := 9) sc_l_entries.nd rfl (Or.inl rfl) (pe_ix (ix_listK K) (pv 8) (pe_fn D_l_take T.g_l_take hr (pa_cons (pv 0) (pa_cons (pe_callB (call_lenK K) (by rfl) T.z_len bt_len (pa_cons (pv 8) pa_nil)) pa_nil))) (fun _ _ => rfl)))) pss_nil))
    (pss_cons (ps_expr (pe_bm PySem.F.plainAttrs_list PySem.F.slot_list_append PySem.F.type_list_append mt_append (pv 4) (pa_cons (pe_tup (pa_cons (pv 6) (pa_cons (pe_ix (ix_tupK K) (pv 9) pe_int (fun _ _ => rfl)) pa_nil))) pa_nil)))
    (pss_cons (ps_via (ps_if (pt_cmpR (op_inK K) (pv 5) (pe_slice (sl_tupK K) (pv 9) (po_some pe_int) (po_some pe_int)) (by rfl)) (pss_one (ps_set (i := 5) sc_l_entries.nd rfl (Or.inr rfl) (pe_ifExp (pt_cmpR op_eq (pv 5) (pe_ix (ix_tupK K) (pv 9) pe_int (fun _ _ => rfl)) (nomark _)) (pe_ix (ix_tupK K) (pv 9) pe_int (fun _ _ => rfl)) (pe_ix (ix_tupK K) (pv 9) pe_int (fun _ _ => rfl))))) pss_nil))
    (pss_cons (ps_set (i := 6) sc_l_entries.nd rfl (Or.inl rfl) (pe_op op_sub (pe_op op_add (pv 6) (pe_callB (call_max2 rfl) (by rfl) T.z_max bt_max (pa_cons pe_int (pa_cons (pe_op op_add (pe_op op_sub (pe_ix (ix_tupK K) (pv 9) pe_int (fun _ _ => rfl)) pe_int) (pe_fn D_l_take T.g_l_take hr (pa_cons (pv 0) (pa_cons pe_int pa_nil)))) pa_nil)))) (pe_op op_mul (pe_callTy call_int1 (by rfl) T.z_int bt_int (pa_cons (pe_cmpR op_eq (pe_fn D_l_take T.g_l_take hr (pa_cons (pv 0) (pa_cons pe_int pa_nil))) pe_int (nomark _)) pa_nil)) (pe_op op_sub (pe_ix (ix_tupK K) (pv 9) pe_int (fun _ _ => rfl)) pe_int))))
    (pss_one (ps_set (i := 6) sc_l_entries.nd rfl (Or.inl rfl) (pe_callB (call_max2 rfl) (by rfl) T.z_max bt_max (pa_cons (pv 6) (pa_cons (pe_op op_add (pe_ix (ix_tupK K) (pe_ix (ix_listK K) (pv 4) (pe_un un_neg pe_int) (fun _ _ => rfl)) pe_int (fun _ _ => rfl)) pe_int) pa_nil))))))))))))
    (pss_one (ps_ret (pv 4))))))), ?_⟩
    refine ⟨szOf rfl, fun l hl => ?_⟩
    have nlb := B0.ne hl
    have l0 : er b H l = none := by rw [er_ne nlb]; exact hl
    have s1 := same_new (o := .lst []) hl
    have A1 : Acc entRow (er b H) b l n [] (upd H l (.lst [])) := ⟨er_sub.trans s1, B0.mono s1, [], upd_same, .nil⟩
    have Eb : er b H b = none := er_at
    unfold Wd.vrow at gv
    refine ⟨_, rfl, vt, _, _, _, rfl, rfl, .of (A1.s _ _ gv), rfl, ?_⟩
    refine ⟨_, rfl, R, _, _, _, rfl, rfl, .of (A1.s _ _ gR), rfl, _, rfl, vt, _, _, _, rfl, rfl, .of (A1.s _ _ gv), rfl, _, _, rfl, rfl, _, rfl, b, 3, _, rfl, A1.B, by omega, by decide, by decide, fun d H2 d0 d1 e2 B2 => ?_⟩
    have A2 := A1.take Eb nlb e2 B2
    refine ⟨_, _, rfl, rfl, _, _, rfl, ?_⟩
    rw [max_is]
    refine ⟨_, rfl, m, rfl, by omega, by omega, for_it (n := m.toNat) (fun i σ H' => ∃ p h es v7 v8 v9, σ = [some (.ref b), some (.ref R), some (.ref vt), some (.int m), some (.ref l), some (.str p), some (.int h), v7, v8, v9, none] ∧ Acc entRow (er b H) b l (n + 1 + 5 * i) es H' ∧
      es.length = i ∧ wd.begin_ ≤ h ∧ h ≤ 1000010 + 1010 * (i : Int) ∧ (∀ e ∈ es, e.1 < h) ∧ es.Pairwise (fun x y => x.1 < y.1) ∧ ∀ e ∈ es, wd.begin_ ≤ e.1 ∧ e.1 ≤ 100000000 ∧ e.2 ∈ wd.chans.map (·.name))
      ⟨_, _, [], _, _, _, rfl, A2, rfl, by omega, by omega, fun e h => (nomatch h), .nil, fun e h => (nomatch h)⟩ ?_ ?_⟩
    · rintro σ H3 ⟨p, h, es, v7, v8, v9, rfl, A3, le, h0, h1, hlt, ris, ok⟩
      refine ⟨Nat.le_refl _, ?_⟩
      obtain ⟨fs, gf, pf⟩ := A3.g
      exact ⟨_, rfl, k H3 l es A3.s (A3.B.le (by omega)) ⟨fs, by rw [er_ne nlb]; exact gf, pf.to fun _ _ ⟨t, e, g⟩ => ⟨t, e, by rw [er_ne (A3.B.tup g)]; exact g⟩⟩ nlb l0 ⟨ris, ok, by omega⟩ (by omega)⟩
    · rintro i σ h0 hi ⟨p, h, es, v7, v8, v9, rfl, A3, le, hb0, hb1, hlt, ris, ok⟩
      refine ⟨hi, ?_⟩
      rintro y h1 ⟨rfl, rfl⟩
      have i5 : i < 5 := by omega
      -- near
      refine ⟨_, rfl, R, _, _, _, rfl, rfl, .of (A3.s _ _ gR), rfl, lc, rfl, ⟨_, .of (A3.s _ _ gc)⟩, fun D hD => lc_list (K := K) (a := lc) (xs := xc) (σ := [some (.ref b), some (.ref R), some (.ref vt), some (.int m), some (.ref l), some (.str p), some (.int h), some (.int (0 + (i : Nat))), v8, v9, none])
        (fun j H' => Same h1 H' ∧ ∃ ys, H' D = some (.lst ys) ∧ ys.length ≤ j ∧ ∀ y ∈ ys, ∃ c ∈ wd.chans, RT Chan.row h1 y c) ⟨same_new hD, [], upd_same, Nat.le_refl _, fun y h => (nomatch h)⟩ (fun j H' _ e => .of (e.1 _ _ (A3.s _ _ gc))) ?_ ?_⟩
      · rintro j y H' hj ⟨s4, ys, gD, yl, yr⟩
        obtain ⟨c, hc, t, rfl, gt⟩ := pair_l pc hj
        have gt1 := A3.s _ _ gt
        have gt4 := s4 _ _ gt1
        unfold Chan.row at gt4
        refine ⟨rfl, _, rfl, _, rfl, 1, rfl, 3, rfl, t, _, rfl, .of gt4, (by show ¬ (HT.sIx 8 0 (some 1) = 0 ∧ HT.sIx 8 8 (some 3) = 8); decide), fun q hq => ⟨q, _, rfl, .inr (.of upd_same), rfl, rfl, _, rfl, ?_⟩⟩
        have s5 := same_new (o := .tup (cutV [.str c.name, .str c.one, .str c.other, .int c.hours, .int c.depth, .int c.first, .int c.growth, .int c.most] (some 1) (some 3))) hq
        have hj2 := (List.getElem?_eq_some_iff.mp hj).1
        refine ifB (fun _ => ?_) (fun _ => ?_)
        · refine ⟨_, rfl, ys, s5 _ _ gD, small64l (by omega), (s4.trans s5).atFresh hD, _, upd_same, by rw [List.length_append]; exact Nat.succ_le_succ yl, fun y hy => ?_⟩
          rcases List.mem_append.mp hy with hy | hy
          · exact yr y hy
          · rw [List.mem_singleton.mp hy]
            exact ⟨c, List.mem_of_getElem? hc, t, rfl, gt1⟩
        · exact ⟨s4.trans s5, ys, s5 _ _ gD, by omega, yr⟩
      · rintro h2 ⟨s4, ys, gD, yl, yr⟩
        have A4 := A3.mono s4
        -- a channel
        refine ⟨_, rfl, R, _, _, _, rfl, rfl, .of (A4.s _ _ gR), rfl, _, rfl, _, rfl, R, _, _, _, rfl, rfl, .of (A4.s _ _ gR), rfl, _, xc.length, rfl, .inl ⟨_, .of (A4.s _ _ gc), rfl⟩, b, _, _, rfl, A4.B, by omega, by omega, by omega, fun d h3 d0 d1 e3 B3 => ?_⟩
        have A5 := A4.take Eb nlb e3 B3
        have nDb := A3.B.ne hD
        have gD3 : h3 D = some (.lst ys) := by rw [er_get e3 nDb]; exact gD
        have yr3 : ∀ y ∈ ys, ∃ c ∈ wd.chans, RT Chan.row h3 y c := fun y hy => by
          obtain ⟨c, hc, t, e, g⟩ := yr y hy
          exact ⟨c, hc, t, e, tkT e3 A4.B (s4 _ _ g)⟩
        have hd : d.toNat < xc.length := by omega
        obtain ⟨c, hc, t, et, gt⟩ := pair_l pc (List.getElem?_eq_getElem hd)
        refine ⟨lc, xc, d, _, rfl, rfl, .of (A5.s _ _ gc), atI_int d0 (List.getElem?_eq_getElem hd), ?_⟩
        rw [et]
        refine ⟨fun σ' H' => ∃ t c, σ' = [some (.ref b), some (.ref R), some (.ref vt), some (.int m), some (.ref l), some (.str p), some (.int h), some (.int (0 + (i : Nat))), some (.ref D), some (.ref t), none] ∧ c ∈ wd.chans ∧ H' t = some (.tup c.row) ∧ Acc entRow (er b H) b l (n + 1 + 5 * i + 3) es H', ?_, ?_⟩
        · refine ⟨_, rfl, szOf rfl, fun z hz => ⟨D, z, ys, rfl, rfl, .of (same_new hz _ _ gD3), .of upd_same, _, rfl, ?_⟩⟩
          have A6 := A5.new (o := .lst []) hz
          have gt6 := A6.s _ _ gt
          cases ys with
          | nil => exact ifF rfl ⟨_, c, rfl, List.mem_of_getElem? hc, gt6, A6.s, A6.B.le (by omega), A6.g⟩
          | cons y0 ys =>
            refine ifT rfl ?_
            refine ⟨_, rfl, b, 6, _, rfl, A6.B, by omega, by decide, by decide, fun d6 h4 d60 d61 e4 B4 => ?_⟩
            have A7 := A6.take Eb nlb e4 B4
            refine ⟨_, _, rfl, rfl, _, rfl, ?_⟩
            have gD4 : h4 D = some (.lst (y0 :: ys)) := by rw [er_get e4 nDb]; exact same_new hz _ _ gD3
            refine ifB (fun _ => ?_) (fun _ => ?_)
            · refine ⟨_, rfl, _, rfl, _, rfl, _, (y0 :: ys).length, rfl, .inl ⟨_, .of gD4, rfl⟩, b, _, _, rfl, A7.B, by omega, by rw [List.length_cons]; omega, by omega, fun d7 h5 d70 d71 e5 B5 => ?_⟩
              have A8 := A7.take Eb nlb e5 B5
              have hd7 : d7.toNat < (y0 :: ys).length := by omega
              obtain ⟨c', hc', t', et', gt'⟩ := yr3 _ (List.getElem_mem hd7)
              have gD5 : h5 D = some (.lst (y0 :: ys)) := by rw [er_get e5 nDb]; exact gD4
              refine ⟨D, _, d7, .ref t', rfl, rfl, .of gD5, atI_int d70 (by rw [List.getElem?_eq_getElem hd7, et']), ?_⟩
              exact ⟨t', c', rfl, hc', tkT e5 A7.B (tkT e4 A6.B (same_new hz _ _ gt')), A8.s, A8.B.le (by omega), A8.g⟩
            · exact ⟨_, c, rfl, List.mem_of_getElem? hc, tkT e4 A6.B gt6, A7.s, A7.B.le (by omega), A7.g⟩
        · rintro σ' h4 ⟨t, c, rfl, hc, gt, A6⟩
          have cO := O.cn c hc
          obtain ⟨fs, gf, pf⟩ := A6.g
          have lfs := Paired.length pf
          have gt' := gt
          unfold Chan.row at gt'
          refine ⟨_, rfl, .inl ⟨rfl, _, .of gf⟩, _, rfl, _, rfl, t, _, _, _, rfl, rfl, .of gt', rfl, szOf rfl, fun T1 hT1 => ?_⟩
          have sT := same_new (o := .tup [.int h, .str c.name]) hT1
          have gfT := sT _ _ gf
          refine ⟨l, fs, _, rfl, rfl, gfT, small64l (by omega), ?_⟩
          have A7 := (A6.mono sT).push l0 nlb gfT (y := ((h, c.name) : Ent)) (t := T1) upd_same
          have gl7 : upd (upd h4 T1 (.tup [.int h, .str c.name])) l (.lst (fs ++ [.ref T1])) l = some (.lst (fs ++ [.ref T1])) := upd_same
          have gT7 := tup_lst (o := .lst (fs ++ [.ref T1])) gfT _ _ (upd_same (H := h4) (a := T1) (o := .tup [.int h, .str c.name]))
          have gt7 := tup_lst (o := .lst (fs ++ [.ref T1])) gfT _ _ (sT _ _ gt')
          generalize upd (upd h4 T1 (.tup [.int h, .str c.name])) l (.lst (fs ++ [.ref T1])) = h5 at A7 gl7 gT7 gt7 ⊢
          refine ⟨fun σ' H' => ∃ p', σ' = [some (.ref b), some (.ref R), some (.ref vt), some (.int m), some (.ref l), some (.str p'), some (.int h), some (.int (0 + (i : Nat))), some (.ref D), some (.ref t), none] ∧ Same h5 H', ?_, ?_⟩
          · refine ⟨_, rfl, _, rfl, 1, rfl, 3, rfl, t, _, rfl, .of gt7, (by show ¬ (HT.sIx 8 0 (some 1) = 0 ∧ HT.sIx 8 8 (some 3) = 8); decide), fun q hq => ⟨q, _, rfl, .inr (.of upd_same), rfl, rfl, _, rfl, ?_⟩⟩
            have s8 := same_new (o := .tup (cutV [.str c.name, .str c.one, .str c.other, .int c.hours, .int c.depth, .int c.first, .int c.growth, .int c.most] (some 1) (some 3))) hq
            have gt8 := s8 _ _ gt7
            refine ifB (fun _ => ?_) (fun _ => ⟨_, rfl, s8⟩)
            refine ⟨_, rfl, _, rfl, t, _, _, _, rfl, rfl, .of gt8, rfl, rfl, _, rfl, ifB (fun _ => ?_) (fun _ => ?_)⟩
            · exact ⟨_, rfl, t, _, _, _, rfl, rfl, .of gt8, rfl, _, rfl, s8⟩
            · exact ⟨_, rfl, t, _, _, _, rfl, rfl, .of gt8, rfl, _, rfl, s8⟩
          · rintro σ' h6 ⟨p', rfl, s6⟩
            have A8 := A7.mono s6
            have gt6 := s6 _ _ gt7
            refine ⟨_, rfl, _, rfl, t, _, _, _, rfl, rfl, .of gt6, rfl, _, _, rfl, rfl, _, rfl, b, 4, _, rfl, A8.B, by omega, by decide, by decide, fun da h7 da0 da1 e7 B7 => ?_⟩
            have A9 := A8.take Eb nlb e7 B7
            have gt9 := tkT e7 A8.B gt6
            refine ⟨_, _, rfl, rfl, _, _, rfl, _, _, rfl, rfl, _, rfl, b, 9, _, rfl, A9.B, by omega, by decide, by decide, fun dz h8 dz0 dz1 e8 B8 => ?_⟩
            have A10 := A9.take Eb nlb e8 B8
            have gt10 := tkT e8 A9.B gt9
            have gl10 : h8 l = some (.lst (fs ++ [.ref T1])) := by rw [er_get e8 nlb, er_get e7 nlb]; exact s6 _ _ gl7
            have gT10 := tkT e8 A9.B (tkT e7 A8.B (s6 _ _ gT7))
            have h0' := cO.h0
            have h1' := cO.h1
            refine ⟨rfl, .inr ⟨_, rfl, _, rfl, t, _, _, _, rfl, rfl, .of gt10, rfl, _, _, rfl, rfl, _, _, rfl, rfl, .inr ⟨by omega, by omega⟩, _, _, rfl, rfl, ?_⟩⟩
            refine ⟨_, rfl, _, rfl, _, rfl, l, _, _, _, rfl, rfl, .of gl10, atI_last _ _, T1, _, _, _, rfl, rfl, .of gT10, rfl, _, _, rfl, rfl, _, _, rfl, ?_⟩
            have HN := hour_next h c.hours da (decide (V.int dz = V.int 0)) da0 da1 h0' h1'
            refine ⟨p', _, _, _, _, _, rfl, ⟨A10.s, A10.B.le (by omega), A10.g⟩, by rw [List.length_append, le]; rfl, ?_, ?_, fun e he => ?_, ?_, fun e he => ?_⟩
            · exact Int.le_trans hb0 (Int.le_of_lt HN.1)
            · exact Int.le_trans HN.2 (by omega)
            · rcases List.mem_append.mp he with he | he
              · exact Int.lt_trans (hlt e he) HN.1
              · rw [List.mem_singleton.mp he]; exact HN.1
            · exact List.pairwise_append.mpr ⟨ris, List.pairwise_singleton _ _, fun e he e' he' => by rw [List.mem_singleton.mp he']; exact hlt e he⟩
            · rcases List.mem_append.mp he with he | he
              · exact ok e he
              · rw [List.mem_singleton.mp he]
                exact ⟨hb0, by dsimp only; omega, List.mem_map.mpr ⟨c, hc, rfl⟩⟩
theorem ok_l_table (T : Txt K mg) (D_l_take : DOk P w K mg base CX0 1 a_l_take P_l_take sp_take) (D_l_vessels : DOk P w K mg base CX0 1 a_l_vessels P_l_vessels sp_l_vessels)
    (D_l_entries : DOk P w K mg base CX0 2 a_l_entries P_l_entries sp_l_entries) : DOk P w K mg base CX0 3 a_l_table P_l_table sp_l_table := by
  refine DOk.mk0 T.f_l_table sc_l_table sz_l_table (fun vs H Q E h => ?_) (fun cdv A outer s H vs Q E hr h => ?_)
  · obtain ⟨b, R, wd, n, rfl, _⟩ := h; rfl
  · obtain ⟨b, R, wd, n, rfl, B0, hn, RA, O, c1, k⟩ := h
    have hu := hu_of hr
    have vl := O.vl
    refine ⟨_, (pss_cons (ps_set (i := 2) sc_l_table.nd rfl (Or.inl rfl) pe_dnewK)
    (pss_cons (ps_for PassesOwn.never rfl (pi_list (pe_fn D_l_vessels T.g_l_vessels hr (pa_cons (pv 1) pa_nil))) (pg_name (i := 3) sc_l_table.nd rfl (Or.inl rfl))
      (pss_cons (ps_set (i := 4) sc_l_table.nd rfl (Or.inl rfl) (pe_fn D_l_take T.g_l_take hr (pa_cons (pv 0) (pa_cons pe_int pa_nil))))
    (pss_one (ps_if (pt_cmpR op_gt (pv 4) pe_int (nomark _)) (pss_one (ps_dput hu (pv 2) (pe_ix (ix_tupK K) (pv 3) pe_int (fun _ _ => rfl)) (pe_fn D_l_entries T.g_l_entries hr (pa_cons (pv 0) (pa_cons (pv 1) (pa_cons (pv 3) (pa_cons (pv 4) pa_nil))))) rfl)) pss_nil))))
    (pss_one (ps_ret (pv 2))))), ?_⟩
    intro t ht
    have ntb := B0.ne ht
    have t0 : er b H t = none := by rw [er_ne ntb]; exact ht
    have s1 := same_new (o := .dK []) ht
    have R1 : RowsAt (upd H t (.dK [])) R wd := RA.mono (er_sub.trans s1)
    refine ⟨_, rfl, R, wd, rfl, R1, O, fun H2 l xs s2 hl gl pv => ?_⟩
    have plv := Paired.length pv
    have B2 := (B0.mono s1).mono s2
    have gt2 := s2 _ _ (upd_same (H := H) (a := t) (o := .dK []))
    have s02 := s1.trans s2
    have nlb : l ≠ b := (B0.mono s1).ne hl
    have glE : er t (er b H2) l = some (.lst xs) := er2 gl (fun z => by rw [z, gt2] at gl; cases gl) nlb
    have pvE : Paired (VRow wd (er t (er b H2))) xs wd.ves := pv.to fun _ _ ⟨u, e, g⟩ => ⟨u, e, er2 g (fun z => by rw [z, gt2] at g; cases g) (B2.tup g)⟩
    have Eb : er t (er b H2) b = none := by rw [er_ne ntb.symm, er_at]
    have sE : Same (er b H) (er t (er b H2)) := fun a o e => by
      have nb : a ≠ b := fun z => by rw [z, er_at] at e; cases e
      exact er2 (s02 _ _ (er_sub _ _ e)) (ne_of_none e t0) nb
    have RE := RA.mono sE
    refine ⟨l, rfl, ⟨_, .of gl⟩, for_list (K := K) (a := l) (xs := xs) (fun i σ H' => ∃ u v, σ = [some (.ref b), some (.ref R), some (.ref t), u, v] ∧ Same (er t (er b H2)) H' ∧ Box H' b (n + 60 * i) ∧
      ∃ kvs tbl, H' t = some (.dK kvs) ∧ Paired (TP (er b H')) kvs tbl ∧ (∀ p ∈ tbl, p.1 ∈ (wd.ves.take i).map (·.name)) ∧ (tbl.map (·.1)).Nodup ∧ tbl.length ≤ i ∧ ∀ p ∈ tbl, EntsOk wd.begin_ (wd.chans.map (·.name)) p.2 ∧ p.2.length ≤ 4)
      ⟨none, none, rfl, er_sub.trans er_sub, B2.le (by omega), [], [], gt2, .nil, fun p h => (nomatch h), List.nodup_nil, Nat.le_refl _, fun p h => (nomatch h)⟩ (fun i σ H' _ ⟨_, _, _, s, _⟩ => .of (s _ _ glE)) ?_ ?_⟩
    · rintro i y σ h0 hi ⟨u, v, rfl, s3, B3, kvs, tbl, gt3, pr, key, nd, tl, ok⟩
      obtain ⟨x, hx, vt, rfl, gv⟩ := pair_l pvE hi
      have hi2 := (List.getElem?_eq_some_iff.mp hx).1
      have hxm := List.mem_of_getElem? hx
      refine ⟨_, rfl, b, 5, _, rfl, B3, by omega, by decide, by decide, fun m h1 m0 m1 e1 B4 => ?_⟩
      have s4 := er_go2 Eb s3 e1
      have gt4 : h1 t = some (.dK kvs) := by rw [er_get e1 ntb]; exact gt3
      have pr4 : Paired (TP (er b h1)) kvs tbl := by rw [e1]; exact pr
      refine ⟨_, rfl, _, _, rfl, rfl, _, rfl, ?_⟩
      have tk : ∀ q ∈ (wd.ves.take i).map (·.name), q ∈ (wd.ves.take (i + 1)).map (·.name) := fun q h => by
        rw [take_succ_of hx, List.map_append]; exact List.mem_append_left _ h
      by_cases hm : m > 0
      · refine ifT (decT hm) ?_
        refine ⟨_, rfl, _, rfl, _, rfl, _, rfl, b, R, vt, wd, x, m, _, rfl, B4, by omega, RE.mono (er_lift s4 Eb), O, c1, ⟨vt, rfl, er_lift s4 Eb _ _ gv⟩, hxm, by omega, by omega, fun h2 l2 es s5 B5 ea nl2 l20 eo el => ?_⟩
        have s5b : Same (er b h1) (er b h2) := er_mono s5
        have gt5 : h2 t = some (.dK kvs) := s5 _ _ (by rw [er_ne ntb]; exact gt4)
        have s6 : Same (er t (er b H2)) h2 := (er_lift s4 Eb).trans s5
        have gv5 := s6 _ _ gv
        unfold Wd.vrow at gv5
        refine ⟨_, rfl, _, rfl, vt, _, _, _, rfl, rfl, .of gv5, rfl, t, _, rfl, DPut.k (k := (Sum.inr x.name : Key)) gt5 (by rw [Paired.length pr]; exact small64l (by omega)), ?_⟩
        have hnm : x.name ∉ tbl.map (·.1) := fun z => by
          obtain ⟨p, h1, h2⟩ := List.mem_map.mp z
          exact take_fresh O.vd hx (by rw [← h2]; exact key p h1)
        have hvn : valV kvs (Sum.inr x.name : Key) = none := by
          cases q : valV kvs (Sum.inr x.name : Key) with
          | none => rfl
          | some v' =>
            exfalso
            cases q2 : kvs.find? fun kv => decide (kv.1 = (Sum.inr x.name : Key)) with
            | none => unfold valV at q; rw [q2] at q; cases q
            | some kv =>
              obtain ⟨p', h3, h4⟩ := paired_mem pr kv (List.mem_of_find?_eq_some q2)
              have h5 : decide (kv.1 = (Sum.inr x.name : Key)) = true := List.find?_some (p := fun kv : Key × V => decide (kv.1 = (Sum.inr x.name : Key))) q2
              exact hnm (List.mem_map.mpr ⟨p', h3, Sum.inr.inj (h4.1.symm.trans (of_decide_eq_true h5))⟩)
        have eru : er b (upd h2 t (.dK (putK kvs (Sum.inr x.name) (.ref l2)))) = upd (er b h2) t (.dK (putK kvs (Sum.inr x.name) (.ref l2))) := by
          funext a
          by_cases z : a = b
          · rw [z, er_at, upd_ne ntb.symm, er_at]
          · rw [er_ne z]
            by_cases z2 : a = t
            · rw [z2, upd_same, upd_same]
            · rw [upd_ne z2, upd_ne z2, er_ne z]
        have gtb : er b h2 t = some (.dK kvs) := by rw [er_ne ntb]; exact gt5
        refine ⟨_, _, rfl, er_upd s6, (B5.st ntb).le (by omega), _, tbl ++ [(x.name, es)], by rw [upd_same, putK_new _ hvn], ?_, fun p hp => ?_, ?_, ?_, fun p hp => ?_⟩
        · rw [eru]
          refine Paired.snoc (pr4.to fun _ _ ⟨a1, l1, a2, a3⟩ => ⟨a1, l1, a2, (a3.mono s5b).other gtb (fun _ z => by cases z) fun _ z => by cases z⟩) ⟨rfl, l2, rfl, ea.other gtb (fun _ z => by cases z) fun _ z => by cases z⟩
        · rcases List.mem_append.mp hp with hp | hp
          · exact tk _ (key p hp)
          · rw [List.mem_singleton.mp hp, take_succ_of hx, List.map_append]
            exact List.mem_append_right _ (List.mem_singleton.mpr rfl)
        · rw [List.map_append, List.nodup_append]
          refine ⟨nd, by simp, fun a ha c hc z => ?_⟩
          simp only [List.map_cons, List.map_nil, List.mem_singleton] at hc
          exact hnm (by rw [← hc, ← z]; exact ha)
        · rw [List.length_append]; exact Nat.succ_le_succ tl
        · rcases List.mem_append.mp hp with hp | hp
          · exact ok p hp
          · rw [List.mem_singleton.mp hp]
            exact ⟨eo, by dsimp only; omega⟩
      · refine ifF (decF hm) ?_
        exact ⟨_, _, rfl, s4, B4.le (by omega), kvs, tbl, gt4, pr4, fun p hp => tk _ (key p hp), nd, by omega, ok⟩
    · rintro σ H' ⟨u, v, rfl, s3, B3, kvs, tbl, gt3, pr, key, nd, tl, ok⟩
      rw [plv] at B3 key tl
      rw [List.take_length] at key
      have TO : TblOk wd tbl := ⟨nd, by omega, fun p hp => ⟨key p hp, (ok p hp).1⟩⟩
      refine ⟨_, rfl, k H' t tbl (sE.trans s3) (B3.le (by omega)) ⟨kvs, by rw [er_ne ntb]; exact gt3, pr⟩ TO ?_ ntb t0⟩
      have each : ∀ x, (look tbl x).length ≤ 4 := fun x => by
        cases h : look tbl x with
        | nil => exact Nat.zero_le _
        | cons e es =>
          obtain ⟨p, h1, _, h3⟩ := look_mem (t := tbl) (x := x) (e := e) (by rw [h]; exact List.mem_cons_self ..)
          rw [← h, h3]
          exact (ok p h1).2
      unfold entNum
      generalize wd.ves = L
      induction L with
      | nil => exact Nat.zero_le _
      | cons v L ih =>
        rw [List.map_cons, List.sum_cons, List.length_cons]
        have := each v.name
        omega
end
end Ik


namespace Ik
open PySem PySem.Spec L2
open PySem.W (Frag)
def GoodAt (H : Hp) (T : Addr) (g : List Gone) : Prop := ∃ l xs, H T = some (.tup [.str "good", .ref l]) ∧ H l = some (.lst xs) ∧ Paired (GoneR H) xs g
def FaultAt (H : Hp) (T : Addr) (g : List (Str × Int × Str)) : Prop := ∃ l xs, H T = some (.tup [.str "faulty", .ref l]) ∧ H l = some (.lst xs) ∧ Paired (WrongR H) xs g
theorem GoodAt.mono {H H' : Hp} {T : Addr} {g : List Gone} (h : GoodAt H T g) (s : Same H H') : GoodAt H' T g := let ⟨l, xs, a, c, p⟩ := h; ⟨l, xs, s _ _ a, s _ _ c, p.to fun _ _ q => q.mono s⟩
theorem FaultAt.mono {H H' : Hp} {T : Addr} {g : List (Str × Int × Str)} (h : FaultAt H T g) (s : Same H H') : FaultAt H' T g := let ⟨l, xs, a, c, p⟩ := h; ⟨l, xs, s _ _ a, s _ _ c, p.to fun _ _ q => q.mono s⟩
def sp_l_asked : Sp := fun vs H Q _ => ∃ (a t : Addr) (wd : Wd) (tbl : Tbl), vs = [.ref a, .ref t] ∧ WorldAt H a wd ∧ wd.Ok ∧ TableAt H t tbl ∧ TblOk wd tbl ∧ entNum tbl wd.ves ≤ 60 ∧
  (∀ H' T ts, Same H H' → IsTurns wd (toldL tbl wd.ves) ts → (walkT wd ts).wrong = [] → GoodAt H' T (walkT wd ts).gone → Q (.ref T) H') ∧
  ∀ H' T ts r rs, Same H H' → IsTurns wd (toldL tbl wd.ves) ts → (walkT wd ts).wrong = r :: rs → FaultAt H' T [r] → Q (.ref T) H'
def sp_l_safe : Sp := fun vs H Q _ => ∃ (R l : Addr) (wd : Wd) (xs : List V) (g : List Gone), vs = [.ref R, .ref l] ∧ RowsAt H R wd ∧ wd.Ok ∧ H l = some (.lst xs) ∧ Paired (GoneR H) xs g ∧ (∀ r ∈ g, SafeG wd r) ∧ ∀ H', Same H H' → Q (.bl true) H'
def sp_l_kept : Sp := fun vs H Q _ => ∃ (l l2 : Addr) (xs ys : List V) (g h : List Gone), vs = [.ref l, .ref l2] ∧ H l = some (.lst xs) ∧ Paired (GoneR H) xs g ∧ H l2 = some (.lst ys) ∧ Paired (GoneR H) ys h ∧ g.length ≤ 1000 ∧ h.length ≤ 1000 ∧ (h.map key4).Nodup ∧
  (∀ r ∈ g, ∃ r' ∈ h, key4 r' = key4 r ∧ r'.2.2.2.2 ≤ r.2.2.2.2) ∧ ∀ H', Same H H' → Q (.bl true) H'
theorem nd_take {α : Type} {f : Gone → α} {l : List Gone} (nd : (l.map f).Nodup) {i : Nat} {r : Gone} (h : l[i]? = some r) : f r ∉ (l.take i).map f := fun z => by
  obtain ⟨c2, h2, h3⟩ := List.mem_map.mp z
  obtain ⟨j, hj, ej⟩ := List.mem_iff_getElem.mp h2
  rw [List.length_take] at hj
  obtain ⟨hci, ec2⟩ := List.getElem?_eq_some_iff.mp h
  rw [List.getElem_take] at ej
  refine List.pairwise_iff_getElem.mp nd j i (by rw [List.length_map]; omega) (by rw [List.length_map]; exact hci) (by omega) ?_
  rw [List.getElem_map, List.getElem_map, ej, ec2]
  exact h3
theorem valT_none : ∀ {l : List Gone} {k : List Key}, k ∉ l.map key4 → valV (l.map fun r => (key4 r, V.int r.2.2.2.2)) k = none
  | [], _, _ => rfl
  | r :: l, k, h => by
    rw [List.map_cons, List.mem_cons, not_or] at h
    rw [List.map_cons, valV_neg (fun z => h.1 z.symm)]
    exact valT_none h.2
theorem valT_get : ∀ {l : List Gone} (nd : (l.map key4).Nodup) {r : Gone}, r ∈ l → valV (l.map fun r => (key4 r, V.int r.2.2.2.2)) (key4 r) = some (.int r.2.2.2.2)
  | [], _, _, h => by cases h
  | q :: l, nd, r, h => by
    rw [List.map_cons, List.nodup_cons] at nd
    rw [List.map_cons]
    rcases List.mem_cons.mp h with e | h
    · rw [e, valV_pos rfl]
    · rw [valV_neg (fun z => nd.1 (by rw [show key4 q = key4 r from z]; exact List.mem_map.mpr ⟨r, h, rfl⟩))]
      exact valT_get nd.2 h
def Z_l_asked : Scope := { kind := .function, names := [("_law_world_here", .local), ("_law_table_here", .local), ("_law_walk", .local), ("e", .local), ("good_walk", .globalImplicit), ("Faulty", .globalImplicit), ("IceError", .globalImplicit)], isGenerator := false, isCoroutine := false, more := (defScope S_l_asked).more }
abbrev N_l_asked : List Str := ["_law_world_here", "_law_table_here", "_law_walk", "e"]
abbrev P_l_asked : List Str := ["_law_world_here", "_law_table_here"]
theorem sc_l_asked : FnScope N_l_asked P_l_asked Z_l_asked := ⟨rfl, rfl, rfl, by decide +kernel, rfl, by decide +kernel, by decide +kernel⟩
theorem sz_l_asked : defScope S_l_asked = Z_l_asked := rfl
def Z_l_safe : Scope := { kind := .function, names := [("_law_rows", .local), ("_law_done", .local), ("_law_vessels_here", .local), ("_law_channels", .local), ("_law_vessel", .local), ("_law_channel", .local), ("_law_hour", .local), ("_law_name", .local), ("_law_port", .local), ("_law_ice", .local), ("_law_vessels", .globalImplicit)], isGenerator := false, isCoroutine := false, more := (defScope S_l_safe).more }
abbrev N_l_safe : List Str := ["_law_rows", "_law_done", "_law_vessels_here", "_law_channels", "_law_vessel", "_law_channel", "_law_hour", "_law_name", "_law_port", "_law_ice"]
abbrev P_l_safe : List Str := ["_law_rows", "_law_done"]
theorem sc_l_safe : FnScope N_l_safe P_l_safe Z_l_safe := ⟨rfl, rfl, rfl, by decide +kernel, rfl, by decide +kernel, by decide +kernel⟩
theorem sz_l_safe : defScope S_l_safe = Z_l_safe := rfl
def Z_l_kept : Scope := { kind := .function, names := [("_law_before", .local), ("_law_behind", .local), ("_law_met", .cell), ("_law_hour", .local), ("_law_name", .local), ("_law_channel", .local), ("_law_port", .local), ("_law_ice", .local)], isGenerator := false, isCoroutine := false, more := (defScope S_l_kept).more }
abbrev N_l_kept : List Str := ["_law_before", "_law_behind", "_law_met", "_law_hour", "_law_name", "_law_channel", "_law_port", "_law_ice", "_law_row"]
abbrev P_l_kept : List Str := ["_law_before", "_law_behind"]
theorem sc_l_kept : FnScope N_l_kept P_l_kept Z_l_kept := ⟨rfl, rfl, rfl, by decide +kernel, rfl, by decide +kernel, by decide +kernel⟩
theorem sz_l_kept : defScope S_l_kept = Z_l_kept := rfl
section
variable {P : Program} {w : World} {K : Frag} {mg : Str → Option Value} {base : Heap}
theorem ok_l_asked (T : Txt K mg) (D_good_walk : DOk P w K mg base (L2.CX P w) 9 a_good_walk P_good_walk sp_good_walk) (D_Walk_done : DOk P w K mg base CX0 1 a_Walk_done P_Walk_done sp_done) :
    DOk P w K mg base CX0 10 a_l_asked P_l_asked sp_l_asked := by
  refine DOk.mk0 T.f_l_asked sc_l_asked sz_l_asked (fun vs H Q E h => ?_) (fun cdv A outer s H vs Q E hr h => ?_)
  · obtain ⟨a, t, wd, tbl, rfl, _⟩ := h; rfl
  · obtain ⟨a, t, wd, tbl, rfl, W, O, TA, TO, E60, k1, k2⟩ := h
    refine ⟨_, (pss_cons (ps_try_as1 (i := 3) (tb := fun W => tAsg (tCallS sp_good_walk (WE W) (tCons (tVar 0) (tCons (tVar 1) tNil))) (gName 2)) rfl rfl sc_l_asked.nd rfl rfl ⟨rfl, by decide, Or.inl T.g_Faulty⟩ (fun W pn xe tk => pss_one (ps_set (i := 2) sc_l_asked.nd rfl (Or.inl rfl) (pe_fnS D_good_walk T.g_good_walk hr tk (pa_cons (pv 0) (pa_cons (pv 1) pa_nil))))) (fun a oe cls d pn hz hf => pss_one (ps_ret (pe_tup (pa_cons pe_str (pa_cons (pe_lst (pa_cons (pe_tup (pa_cons (pe_xf T.ex_Faulty.xf T.na_Faulty_name hz hf (pv 3)) (pa_cons (pe_xf T.ex_Faulty.xf T.na_Faulty_number hz hf (pv 3)) (pa_cons (pe_xf T.ex_Faulty.xf T.na_Faulty_word hz hf (pv 3)) pa_nil)))) pa_nil)) pa_nil))))))
    (pss_one (ps_ret (pe_tup (pa_cons pe_str (pa_cons (pe_me0 D_Walk_done T.cl_Walk T.me_Walk_done hr (pv 2)) pa_nil)))))), ?_⟩
    refine ⟨_, rfl, _, rfl, a, t, wd, tbl, rfl, W, O, TA, TO, E60, fun H1 p k ts s1 SO it S1 hw => ?_, fun H1 d ts r rs s1 it hw gd => ?_⟩
    · refine ⟨_, rfl, p, k.dx, _, rfl, S1.T.at_, rfl, p, _, rfl, S1.done, fun l xs hl pg => ⟨szOf rfl, fun TT hTT => ?_⟩⟩
      have s2 := (same_new (o := .lst xs) hl).trans (same_new (o := .tup [.str "good", .ref l]) hTT)
      exact k1 _ TT ts (s1.trans s2) it hw ⟨l, xs, upd_same, same_new hTT _ _ upd_same, pg.to fun _ _ q => q.mono s2⟩
    · refine ⟨T.ex_Faulty.te, fun e he => ?_⟩
      refine ⟨_, rfl, rfl, rfl, d, _, _, rfl, gd, rfl, _, rfl, rfl, rfl, d, _, _, rfl, gd, rfl, _, rfl, rfl, rfl, d, _, _, rfl, gd, rfl, szOf rfl, fun U hU => ⟨szOf rfl, fun L hL => ⟨szOf rfl, fun TT hTT => ?_⟩⟩⟩
      have sU := same_new (o := .tup [.str r.1, .int r.2.1, .str r.2.2]) hU
      have sL := same_new (o := .lst [.ref U]) hL
      have sT := same_new (o := .tup [.str "faulty", .ref L]) hTT
      exact k2 _ TT ts r rs (((s1.trans sU).trans sL).trans sT) it hw ⟨L, [.ref U], upd_same, sT _ _ upd_same, .cons ⟨U, rfl, sT _ _ (sL _ _ upd_same)⟩ .nil⟩
theorem ok_l_safe (T : Txt K mg) (D_l_vessels : DOk P w K mg base CX0 1 a_l_vessels P_l_vessels sp_l_vessels) : DOk P w K mg base CX0 2 a_l_safe P_l_safe sp_l_safe := by
  refine DOk.mk0 T.f_l_safe sc_l_safe sz_l_safe (fun vs H Q E h => ?_) (fun cdv A outer s H vs Q E hr h => ?_)
  · obtain ⟨R, l, wd, xs, g, rfl, _⟩ := h; rfl
  · obtain ⟨R, l, wd, xs, g, rfl, RA, O, gl, pg, ok, k⟩ := h
    have hu := hu_of hr
    have vl := O.vl
    have cl := O.c1
    refine ⟨_, (pss_cons (ps_set (i := 2) sc_l_safe.nd rfl (Or.inl rfl) pe_dnewK)
    (pss_cons (ps_set (i := 3) sc_l_safe.nd rfl (Or.inl rfl) pe_dnewK)
    (pss_cons (ps_for PassesOwn.never rfl (pi_list (pe_fn D_l_vessels T.g_l_vessels hr (pa_cons (pv 0) pa_nil))) (pg_name (i := 4) sc_l_safe.nd rfl (Or.inl rfl))
      (pss_one (ps_dput hu (pv 2) (pe_ix (ix_tupK K) (pv 4) pe_int (fun _ _ => rfl)) (pv 4) rfl)))
    (pss_cons (ps_for PassesOwn.never rfl (pi_list (pe_ix (ix_listK K) (pv 0) pe_int (fun _ _ => rfl))) (pg_name (i := 5) sc_l_safe.nd rfl (Or.inl rfl))
      (pss_one (ps_dput hu (pv 3) (pe_ix (ix_tupK K) (pv 5) pe_int (fun _ _ => rfl)) (pv 5) rfl)))
    (pss_cons (ps_for PassesOwn.never rfl (pi_list (pv 1)) (pg_tup rfl (pgs_cons (pg_name (i := 6) sc_l_safe.nd rfl (Or.inl rfl)) (pgs_cons (pg_name (i := 7) sc_l_safe.nd rfl (Or.inl rfl)) (pgs_cons (pg_name (i := 5) sc_l_safe.nd rfl (Or.inl rfl)) (pgs_cons (pg_name (i := 8) sc_l_safe.nd rfl (Or.inl rfl)) (pgs_cons (pg_name (i := 9) sc_l_safe.nd rfl (Or.inl rfl)) pgs_nil))))))
      (pss_one (ps_if (PW.pt (pw_or (pt_cmpR op_gt (pv 9) (pe_ix (ix_tupK K) (pe_dget hu (pv 2) (pv 7) (fun _ _ => rfl)) pe_int (fun _ _ => rfl)) (nomark _)) (pw_or (pt_cmpR op_lt (pe_ix (ix_tupK K) (pe_dget hu (pv 3) (pv 5) (fun _ _ => rfl)) pe_int (fun _ _ => rfl)) (pe_ix (ix_tupK K) (pe_dget hu (pv 2) (pv 7) (fun _ _ => rfl)) pe_int (fun _ _ => rfl)) (nomark _)) (pw_or1 (pt_cmpR (op_notInK K) (pv 8) (pe_slice (sl_tupK K) (pe_dget hu (pv 3) (pv 5) (fun _ _ => rfl)) (po_some pe_int) (po_some pe_int)) (by rfl)))))) (pss_one (ps_ret pe_bl)) pss_nil)))
    (pss_one (ps_ret pe_bl))))))), ?_⟩
    intro D1 hD1
    intro D2 hD2
    have s1 := same_new (o := .dK []) hD1
    have s2 := same_new (o := .dK []) hD2
    have s12 := s1.trans s2
    refine ⟨_, rfl, R, wd, rfl, RA.mono s12, O, fun H3 lv xv s3 hlv glv pv => ?_⟩
    have s03 := s12.trans s3
    have g13 := s3 _ _ (s2 _ _ (upd_same (H := H) (a := D1) (o := .dK [])))
    have g23 := s3 _ _ (upd_same (H := upd H D1 (.dK [])) (a := D2) (o := .dK []))
    have D10 : H D1 = none := hD1
    have D20 : H D2 = none := s1.noneAt hD2
    have plv := Paired.length pv
    have E1s : Same H (er D1 H3) := er_lift s03 D10
    have g2E : er D1 H3 D2 = some (.dK []) := by rw [er_ne (ne_of_none (upd_same (H := H) (a := D1) (o := .dK [])) hD2).symm]; exact g23
    have glvE : er D1 H3 lv = some (.lst xv) := er_kind g13 glv fun z => by cases z
    have pvE : Paired (VRow wd (er D1 H3)) xv wd.ves := pv.to fun _ _ ⟨u, e, q⟩ => ⟨u, e, er_kind g13 q fun z => by cases z⟩
    refine ⟨lv, rfl, ⟨_, .of glv⟩, for_list (K := K) (a := lv) (xs := xv) (fun i σ H' => ∃ v, σ = [some (.ref R), some (.ref l), some (.ref D1), some (.ref D2), v, none, none, none, none, none] ∧ Same (er D1 H3) H' ∧ ∃ kvs, H' D1 = some (.dK kvs) ∧ kvs.length ≤ i ∧
      ∀ x ∈ wd.ves.take i, ∃ t, valV kvs (Sum.inr x.name : Key) = some (.ref t) ∧ er D1 H3 t = some (.tup (wd.vrow x))) ⟨none, rfl, er_sub, [], g13, Nat.le_refl _, fun x h => (nomatch h)⟩ (fun i σ H' _ ⟨_, _, s, _⟩ => .of (s _ _ glvE)) ?_ ?_⟩
    · rintro i y σ H' hi ⟨v, rfl, s4, kvs, gk, kl, kx⟩
      obtain ⟨x, hx, t, rfl, gt⟩ := pair_l pvE hi
      have hi2 := (List.getElem?_eq_some_iff.mp hx).1
      have gt4 := s4 _ _ gt
      unfold Wd.vrow at gt4
      refine ⟨_, rfl, _, rfl, _, rfl, t, _, _, _, rfl, rfl, .of gt4, rfl, D1, _, rfl, DPut.k (k := (Sum.inr x.name : Key)) gk (small64l (by omega)), ?_⟩
      refine ⟨_, rfl, er_upd s4, _, upd_same, Nat.le_trans (length_putK _ _ _) (by omega), fun z hz => ?_⟩
      rw [valV_put]
      rw [take_succ_of hx] at hz
      rcases List.mem_append.mp hz with hz | hz
      · by_cases e : (Sum.inr z.name : Key) = Sum.inr x.name
        · exfalso
          exact take_fresh O.vd hx (List.mem_map.mpr ⟨z, hz, Sum.inr.inj e⟩)
        · rw [if_neg e]; exact kx z hz
      · rw [List.mem_singleton.mp hz, if_pos rfl]
        exact ⟨t, rfl, gt⟩
    · rintro σ H4 ⟨v, rfl, s4, kvs, gk, kl, kx⟩
      rw [plv, List.take_length] at kx
      rw [plv] at kl
      have s04 := E1s.trans s4
      obtain ⟨lp, lc, lb, ls, gR, _, ⟨xc, gc, pc⟩, _, _⟩ := id RA
      have plc := Paired.length pc
      have g24 := s4 _ _ g2E
      have n12 : D1 ≠ D2 := ne_of_none (upd_same (H := H) (a := D1) (o := .dK [])) hD2
      have E2s : Same H (er D2 H4) := er_lift s04 D20
      refine ⟨_, rfl, R, _, _, _, rfl, rfl, .of (s04 _ _ gR), rfl, lc, rfl, ⟨_, .of (s04 _ _ gc)⟩, for_list (K := K) (a := lc) (xs := xc) (fun i σ H' => ∃ v v5, σ = [some (.ref R), some (.ref l), some (.ref D1), some (.ref D2), v, v5, none, none, none, none] ∧ Same (er D2 H4) H' ∧ ∃ kcs, H' D2 = some (.dK kcs) ∧ kcs.length ≤ i ∧
        ∀ c ∈ wd.chans.take i, ∃ t, valV kcs (Sum.inr c.name : Key) = some (.ref t) ∧ H t = some (.tup c.row)) ⟨_, _, rfl, er_sub, [], g24, Nat.le_refl _, fun x h => (nomatch h)⟩ (fun i σ H' _ ⟨_, _, _, s, _⟩ => .of (s _ _ (E2s _ _ gc))) ?_ ?_⟩
      · rintro i y σ H' hi ⟨v, v5, rfl, s5, kcs, gk5, kl5, kx5⟩
        obtain ⟨c, hc, t, rfl, gt⟩ := pair_l pc hi
        have hi2 := (List.getElem?_eq_some_iff.mp hc).1
        have gt5 := s5 _ _ (E2s _ _ gt)
        unfold Chan.row at gt5
        refine ⟨_, rfl, _, rfl, _, rfl, t, _, _, _, rfl, rfl, .of gt5, rfl, D2, _, rfl, DPut.k (k := (Sum.inr c.name : Key)) gk5 (small64l (by omega)), ?_⟩
        refine ⟨_, _, rfl, er_upd s5, _, upd_same, Nat.le_trans (length_putK _ _ _) (by omega), fun z hz => ?_⟩
        rw [valV_put]
        rw [take_succ_of hc] at hz
        rcases List.mem_append.mp hz with hz | hz
        · by_cases e : (Sum.inr z.name : Key) = Sum.inr c.name
          · exfalso
            exact take_fresh O.cd hc (List.mem_map.mpr ⟨z, hz, Sum.inr.inj e⟩)
          · rw [if_neg e]; exact kx5 z hz
        · rw [List.mem_singleton.mp hz, if_pos rfl]
          exact ⟨t, rfl, gt⟩
      · rintro σ H5 ⟨v, v5, rfl, s5, kcs, gk5, kl5, kx5⟩
        rw [plc, List.take_length] at kx5
        have s05 := E2s.trans s5
        have gk1 : H5 D1 = some (.dK kvs) := s5 _ _ (by rw [er_ne n12]; exact gk)
        have kx' : ∀ x ∈ wd.ves, ∃ t, valV kvs (Sum.inr x.name : Key) = some (.ref t) ∧ H5 t = some (.tup (wd.vrow x)) := fun x hx => by
          obtain ⟨t, e, q⟩ := kx x hx
          have q4 := s4 _ _ q
          exact ⟨t, e, s5 _ _ (er_kind g24 q4 fun z => by cases z)⟩
        refine ⟨_, rfl, l, rfl, ⟨_, .of (s05 _ _ gl)⟩, for_list (K := K) (a := l) (xs := xs) (fun i σ H' => ∃ v v5 v6 v7 v8 v9, σ = [some (.ref R), some (.ref l), some (.ref D1), some (.ref D2), v, v5, v6, v7, v8, v9] ∧ Same H5 H') ⟨_, _, _, _, _, _, rfl, Same.refl _⟩ (fun i σ H' _ ⟨_, _, _, _, _, _, _, s⟩ => .of (s _ _ (s05 _ _ gl))) ?_ ?_⟩
        · rintro i y σ H' hi ⟨v, v5, v6, v7, v8, v9, rfl, s6⟩
          obtain ⟨r, hr1, u, rfl, gu⟩ := pair_l pg hi
          obtain ⟨x, hx, c, hc, e1, e2, e3, e4, e5⟩ := ok r (List.mem_of_getElem? hr1)
          have gu6 := (s05.trans s6) _ _ gu
          refine ⟨u, _, rfl, .of gu6, rfl, _, _, rfl, _, _, rfl, _, _, rfl, _, _, rfl, _, _, rfl, rfl, ?_⟩
          obtain ⟨tv, hv, gv⟩ := kx' x hx
          obtain ⟨tc, hcc, gcc⟩ := kx5 c hc
          have gv6 := s6 _ _ gv
          have gc6 := (s05.trans s6) _ _ gcc
          unfold Wd.vrow at gv6
          unfold Chan.row at gc6
          have d1 := DGet.k (k := (Sum.inr r.2.1 : Key)) (s6 _ _ gk1)
          rw [e1, hv, ← e1] at d1
          have d2 := DGet.k (k := (Sum.inr r.2.2.1 : Key)) (s6 _ _ gk5)
          rw [e2, hcc, ← e2] at d2
          refine ⟨_, rfl, _, rfl, _, rfl, D1, _, rfl, d1, tv, _, _, _, rfl, rfl, .of gv6, rfl, _, _, rfl, rfl, _, rfl, ifF (decF (by omega)) ?_⟩
          refine ⟨_, rfl, _, rfl, D2, _, rfl, d2, tc, _, _, _, rfl, rfl, .of gc6, rfl, _, rfl, _, rfl, D1, _, rfl, d1, tv, _, _, _, rfl, rfl, .of gv6, rfl, _, _, rfl, rfl, _, rfl, ifF (decF (by omega)) ?_⟩
          refine ⟨_, rfl, _, rfl, _, rfl, D2, _, rfl, d2, 1, rfl, 3, rfl, tc, _, rfl, .of gc6, (by show ¬ (HT.sIx 8 0 (some 1) = 0 ∧ HT.sIx 8 8 (some 3) = 8); decide), fun q hq => ⟨q, _, rfl, .inr (.of upd_same), rfl, rfl, _, rfl, ifF ?_ ?_⟩⟩
          · show (!inV (V.str r.2.2.2.1) [.str c.one, .str c.other]) = false
            rw [in_two, decide_eq_true e3]; rfl
          · exact ⟨_, _, _, _, _, _, rfl, s6.trans (same_new hq)⟩
        · rintro σ H6 ⟨v, v5, v6, v7, v8, v9, rfl, s6⟩
          exact k H6 (s05.trans s6)
theorem ok_l_kept (T : Txt K mg) : DOk P w K mg base CX0 1 a_l_kept P_l_kept sp_l_kept := by
  refine DOk.mk0 T.f_l_kept sc_l_kept sz_l_kept (fun vs H Q E h => ?_) (fun cdv A outer s H vs Q E hr h => ?_)
  · obtain ⟨l, l2, xs, ys, g, h, rfl, _⟩ := h; rfl
  · obtain ⟨l, l2, xs, ys, g, h, rfl, gl, pg, gl2, ph, lg, lh, nd, ok, k⟩ := h
    have hu := hu_of hr
    have pgl := Paired.length pg
    have phl := Paired.length ph
    refine ⟨_, (pss_cons (ps_set (i := 2) sc_l_kept.nd rfl (Or.inr rfl) pe_dnewT)
    (pss_cons (ps_for PassesOwn.never rfl (pi_list (pv 1)) (pg_tup rfl (pgs_cons (pg_name (i := 3) sc_l_kept.nd rfl (Or.inl rfl)) (pgs_cons (pg_name (i := 4) sc_l_kept.nd rfl (Or.inl rfl)) (pgs_cons (pg_name (i := 5) sc_l_kept.nd rfl (Or.inl rfl)) (pgs_cons (pg_name (i := 6) sc_l_kept.nd rfl (Or.inl rfl)) (pgs_cons (pg_name (i := 7) sc_l_kept.nd rfl (Or.inl rfl)) pgs_nil))))))
      (pss_one (ps_dput hu (pv 2) (pe_tup (pa_cons (pv 3) (pa_cons (pv 4) (pa_cons (pv 5) (pa_cons (pv 6) pa_nil))))) (pv 7) rfl)))
    (pss_one (ps_ret (pe_cmpR (op_eqNilK K hr) (pe_lc (own := [("_law_row", 8)]) (g := (gName 8)) rfl sc_l_kept.nd (pi_list (pv 0)) (blkOk_by (own := [("_law_row", 8)]) (N := N_l_kept) (sc := Z_l_kept) (by decide +kernel)) (fun _ _ _ _ _ => (pg_name (i := 8) sc_l_kept.nd rfl (Or.inl rfl))) (fun _ _ _ _ _ => (pts_one (PW.pt (pw_or (pt_cmp (pc_dnotin hu (pe_slice (sl_tupK K) (pv 8) po_none (po_some pe_int)) (pv 2)) (by rfl)) (pw_or1 (pt_cmpR op_gt (pe_dget hu (pv 2) (pe_slice (sl_tupK K) (pv 8) po_none (po_some pe_int)) (fun _ _ => rfl)) (pe_ix (ix_tupK K) (pv 8) pe_int (fun _ _ => rfl)) (nomark _))))))) (fun _ _ _ _ _ => (pv 8))) (pe_lst pa_nil) (nomark _)))))), ?_⟩
    intro D hD
    have s1 := same_new (o := .dT []) hD
    refine ⟨_, rfl, l2, rfl, ⟨_, .of (s1 _ _ gl2)⟩, for_list (K := K) (a := l2) (xs := ys) (fun i σ H' => ∃ v3 v4 v5 v6 v7, σ = [some (.ref l), some (.ref l2), some (.ref D), v3, v4, v5, v6, v7, none] ∧ Same H H' ∧ H' D = some (.dT ((h.take i).map fun r => (key4 r, V.int r.2.2.2.2))))
      ⟨none, none, none, none, none, rfl, s1, upd_same⟩ (fun i σ H' _ ⟨_, _, _, _, _, _, s, _⟩ => .of (s _ _ gl2)) ?_ ?_⟩
    · rintro i y σ H' hi ⟨v3, v4, v5, v6, v7, rfl, s2, gD⟩
      obtain ⟨r, hr1, u, rfl, gu⟩ := pair_l ph hi
      have hi2 := (List.getElem?_eq_some_iff.mp hr1).1
      have gu2 := s2 _ _ gu
      refine ⟨u, _, rfl, .of gu2, rfl, _, _, rfl, _, _, rfl, _, _, rfl, _, _, rfl, _, _, rfl, rfl, ?_⟩
      refine ⟨_, rfl, _, rfl, _, rfl, _, rfl, _, rfl, _, rfl, szOf rfl, fun t ht => ?_⟩
      have st := same_new (o := .tup [.int r.1, .str r.2.1, .str r.2.2.1, .str r.2.2.2.1]) ht
      refine ⟨D, _, rfl, DPut.t (k := key4 r) (st _ _ gD) upd_same (by rw [List.length_map, List.length_take]; exact small64l (by omega)), ?_⟩
      refine ⟨_, _, _, _, _, rfl, (s2.trans st).atFresh hD, ?_⟩
      rw [upd_same, take_succ_of hr1, List.map_append, putK_new]
      · rfl
      · exact valT_none fun z => nd_take nd hr1 z
    · rintro σ H' ⟨v3, v4, v5, v6, v7, rfl, s2, gD⟩
      rw [phl, List.take_length] at gD
      refine ⟨_, rfl, l, rfl, ⟨_, .of (s2 _ _ gl)⟩, fun A hA => lc_list (K := K) (a := l) (xs := xs) (σ := [some (.ref l), some (.ref l2), some (.ref D), v3, v4, v5, v6, v7, none]) (fun i H3 => Same H H3 ∧ H3 A = some (.lst []) ∧ H3 D = some (.dT (h.map fun r => (key4 r, V.int r.2.2.2.2))))
        ⟨s2.atNew hA, upd_same, same_new hA _ _ gD⟩ (fun i H3 _ e => .of (e.1 _ _ gl)) ?_ ?_⟩
      · rintro i y H3 hi ⟨s3, gA, gD3⟩
        obtain ⟨r, hr1, u, rfl, gu⟩ := pair_l pg hi
        obtain ⟨r', hr', ek, le⟩ := ok r (List.mem_of_getElem? hr1)
        have gu3 := s3 _ _ gu
        have hv := valT_get nd hr'
        rw [ek] at hv
        refine ⟨rfl, _, rfl, 4, rfl, u, _, rfl, .of gu3, (by show ¬ (HT.sIx 5 0 none = 0 ∧ HT.sIx 5 5 (some 4) = 5); decide), fun t ht => ?_⟩
        have st := same_new (o := .tup (cutV [.int r.1, .str r.2.1, .str r.2.2.1, .str r.2.2.2.1, .int r.2.2.2.2] none (some 4))) ht
        have d1 := DGet.t (k := key4 r) (st _ _ gD3) (upd_same (H := H3) (a := t) (o := .tup (cutV [.int r.1, .str r.2.1, .str r.2.2.1, .str r.2.2.2.1, .int r.2.2.2.2] none (some 4))))
        rw [hv] at d1
        refine ⟨_, rfl, D, _, rfl, d1, _, rfl, ifF rfl ?_⟩
        refine ⟨_, rfl, _, rfl, 4, rfl, u, _, rfl, .of (st _ _ gu3), (by show ¬ (HT.sIx 5 0 none = 0 ∧ HT.sIx 5 5 (some 4) = 5); decide), fun t2 ht2 => ?_⟩
        have st2 := same_new (o := .tup (cutV [.int r.1, .str r.2.1, .str r.2.2.1, .str r.2.2.2.1, .int r.2.2.2.2] none (some 4))) ht2
        have d2 := DGet.t (k := key4 r) (st2 _ _ (st _ _ gD3)) (upd_same (H := upd H3 t _) (a := t2) (o := .tup (cutV [.int r.1, .str r.2.1, .str r.2.2.1, .str r.2.2.2.1, .int r.2.2.2.2] none (some 4))))
        rw [hv] at d2
        have s35 := st.trans st2
        refine ⟨D, _, rfl, d2, _, rfl, u, _, _, _, rfl, rfl, .of (s35 _ _ gu3), rfl, _, _, rfl, rfl, _, rfl, ifF (decF (by omega)) ?_⟩
        exact ⟨s3.trans s35, s35 _ _ gA, s35 _ _ gD3⟩
      · rintro H3 ⟨s3, gA, gD3⟩
        refine ⟨szOf rfl, fun B hB => ⟨A, B, [], rfl, rfl, .of (same_new hB _ _ gA), .of upd_same, k _ (s3.trans (same_new hB))⟩⟩
end
end Ik


namespace Ik
open PySem PySem.Spec L2
open PySem.W (Frag)
open PySem.PyData (strOk)
/-! ### a list that begins with an int is neither this nor that -/
theorem refs_nb {xs : List V} (h : ∀ x ∈ xs, ∃ t : Addr, x = .ref t) (y : Int) (ys : List V) : HO.lst xs ≠ .lst (.int y :: ys) := fun z => by
  injection z with z
  obtain ⟨t, e⟩ := h (.int y) (by rw [z]; exact List.mem_cons_self ..)
  cases e
theorem strs_nb {ns : List Str} (y : Int) (ys : List V) : HO.lst (ns.map V.str) ≠ .lst (.int y :: ys) := fun z => by
  injection z with z
  cases ns with
  | nil => cases z
  | cons n ns => rw [List.map_cons] at z; injection z with z _; cases z
theorem pair_refs {β : Type} {F : V → β → Prop} {xs : List V} {bs : List β} (p : Paired F xs bs) (h : ∀ v b, F v b → ∃ t : Addr, v = .ref t) : ∀ x ∈ xs, ∃ t : Addr, x = .ref t := fun x hx => by
  obtain ⟨b, _, q⟩ := paired_mem p x hx
  exact h x b q
section
variable {H : Hp} {F : Addr} {y : Int} {ys : List V}
theorem nb_ins (hF : H F = some (.lst (.int y :: ys))) {a C dx : Addr} {fs : List (Str × V)} (e : H a = some (.ins C dx fs)) : er F H a = some (.ins C dx fs) := er_kind hF e fun z => by cases z
theorem nb_tup (hF : H F = some (.lst (.int y :: ys))) {a : Addr} {xs : List V} (e : H a = some (.tup xs)) : er F H a = some (.tup xs) := er_kind hF e fun z => by cases z
theorem nb_dK (hF : H F = some (.lst (.int y :: ys))) {a : Addr} {xs : List (Key × V)} (e : H a = some (.dK xs)) : er F H a = some (.dK xs) := er_kind hF e fun z => by cases z
theorem nb_lst (hF : H F = some (.lst (.int y :: ys))) {a : Addr} {xs : List V} (e : H a = some (.lst xs)) (h : ∀ x ∈ xs, ∃ t : Addr, x = .ref t) : er F H a = some (.lst xs) := er_kind hF e fun z => refs_nb h y ys z.symm
theorem nb_strs (hF : H F = some (.lst (.int y :: ys))) {a : Addr} {ns : List Str} (e : H a = some (.lst (ns.map V.str))) : er F H a = some (.lst (ns.map V.str)) := er_kind hF e fun z => strs_nb y ys z.symm
theorem WorldAt.nb (hF : H F = some (.lst (.int y :: ys))) {a : Addr} {wd : Wd} (W : WorldAt H a wd) : WorldAt (er F H) a wd := by
  obtain ⟨dw, lp, lc, lb, ls, e, gp, ⟨xc, gc, pc⟩, ⟨xb, gb, pb⟩, ⟨xs, gs, ps⟩⟩ := W
  have vr : ∀ {v : V} {c : Ves}, VesR H v c → VesR (er F H) v c := fun ⟨r, e, dy, g⟩ => ⟨r, e, dy, nb_ins hF g⟩
  exact ⟨dw, lp, lc, lb, ls, nb_ins hF e, nb_strs hF gp, ⟨xc, nb_lst hF gc (pair_refs pc fun _ _ ⟨r, e, _⟩ => ⟨r, e⟩), pc.to fun _ _ ⟨r, e, dy, g⟩ => ⟨r, e, dy, nb_ins hF g⟩⟩,
    ⟨xb, nb_lst hF gb (pair_refs pb fun _ _ ⟨r, e, _⟩ => ⟨r, e⟩), pb.to fun _ _ q => vr q⟩, ⟨xs, nb_lst hF gs (pair_refs ps fun _ _ ⟨r, e, _⟩ => ⟨r, e⟩), ps.to fun _ _ q => vr q⟩⟩
theorem TableAt.nb (hF : H F = some (.lst (.int y :: ys))) {t : Addr} {tbl : Tbl} (T : TableAt H t tbl) : TableAt (er F H) t tbl := by
  obtain ⟨kvs, e, p⟩ := T
  exact ⟨kvs, nb_dK hF e, p.to fun _ _ ⟨e1, l, e2, xs, g, q⟩ => ⟨e1, l, e2, xs, nb_lst hF g (pair_refs q fun _ _ ⟨r, e, _⟩ => ⟨r, e⟩), q.to fun _ _ ⟨r, e, g⟩ => ⟨r, e, nb_tup hF g⟩⟩⟩
theorem DoneAt.nb (hF : H F = some (.lst (.int y :: ys))) {p : Addr} {g : List Gone} (D : DoneAt H p g) : DoneAt (er F H) p g := by
  obtain ⟨k, xs, a, b, c⟩ := D
  exact ⟨k, xs, nb_ins hF a, nb_lst hF b (pair_refs c fun _ _ ⟨r, e, _⟩ => ⟨r, e⟩), c.to fun _ _ ⟨r, e, q⟩ => ⟨r, e, nb_tup hF q⟩⟩
theorem RowsL.nb (hF : H F = some (.lst (.int y :: ys))) {wd : Wd} {lp lc lb ls : Addr} (L : RowsL H wd lp lc lb ls) : RowsL (er F H) wd lp lc lb ls := by
  obtain ⟨gp, ⟨xc, gc, pc⟩, ⟨xb, gb, pb⟩, ⟨xs, gs, ps⟩⟩ := L
  exact ⟨nb_strs hF gp, ⟨xc, nb_lst hF gc (pair_refs pc fun _ _ ⟨r, e, _⟩ => ⟨r, e⟩), pc.to fun _ _ ⟨r, e, g⟩ => ⟨r, e, nb_tup hF g⟩⟩,
    ⟨xb, nb_lst hF gb (pair_refs pb fun _ _ ⟨r, e, _⟩ => ⟨r, e⟩), pb.to fun _ _ ⟨r, e, g⟩ => ⟨r, e, nb_tup hF g⟩⟩, ⟨xs, nb_lst hF gs (pair_refs ps fun _ _ ⟨r, e, _⟩ => ⟨r, e⟩), ps.to fun _ _ ⟨r, e, g⟩ => ⟨r, e, nb_tup hF g⟩⟩⟩
end
theorem Box.head {H : Hp} {b : Addr} {n : Nat} (B : Box H b n) : ∃ y ys, H b = some (.lst (.int y :: ys)) := let ⟨x, y, z, e, _⟩ := B; ⟨x, _, e⟩
/-! ### data -/
theorem az_ok : ∀ c ∈ az.cps.toList, c < 0x110000 := by decide +kernel
theorem IsNm.ok {x : Str} (h : IsNm x) : strOk x = true := by
  unfold strOk
  rw [← Array.all_toList, List.all_eq_true]
  intro c hc
  exact decide_eq_true (az_ok c (h.abc c hc))
def goneD (g : Gone) : PyData := .tuple [.int g.1, .str g.2.1, .str g.2.2.1, .str g.2.2.2.1, .int g.2.2.2.2]
def wrongD (r : Str × Int × Str) : PyData := .tuple [.str r.1, .int r.2.1, .str r.2.2]
def goodD (g : List Gone) : PyData := .tuple [.str "good", .list (g.map goneD)]
def faultD (g : List (Str × Int × Str)) : PyData := .tuple [.str "faulty", .list (g.map wrongD)]
theorem dp_all {K : Frag} {H : Hp} {β : Type} {R : V → β → Prop} {f : β → PyData} (h : ∀ v b, R v b → Dp K H v (f b)) {xs : List V} {bs : List β} (p : Paired R xs bs) : DpAll K H xs (bs.map f) := by
  induction p with
  | nil => exact .nil
  | cons q _ ih => exact .cons (h _ _ q) ih
theorem GoodAt.dp {K : Frag} {H : Hp} {T : Addr} {g : List Gone} (h : GoodAt H T g) : Dp K H (.ref T) (goodD g) := by
  obtain ⟨l, xs, a, c, p⟩ := h
  exact .tup (.of a) (.cons (.str _) (.cons (.lst (.of c) (dp_all (fun _ _ ⟨t, e, q⟩ => by rw [e]; exact .tup (.of q) (.cons (.int _) (.cons (.str _) (.cons (.str _) (.cons (.str _) (.cons (.int _) .nil)))))) p)) .nil))
theorem FaultAt.dp {K : Frag} {H : Hp} {T : Addr} {g : List (Str × Int × Str)} (h : FaultAt H T g) : Dp K H (.ref T) (faultD g) := by
  obtain ⟨l, xs, a, c, p⟩ := h
  exact .tup (.of a) (.cons (.str _) (.cons (.lst (.of c) (dp_all (fun _ _ ⟨t, e, q⟩ => by rw [e]; exact .tup (.of q) (.cons (.str _) (.cons (.int _) (.cons (.str _) .nil)))) p)) .nil))
theorem lay_all {β : Type} {f : β → PyData} : ∀ {bs : List β}, (∀ b ∈ bs, (f b).canLay0 = true) → PyData.canLayAll0 (bs.map f) = true
  | [], _ => by rw [List.map_nil]; rfl
  | b :: bs, h => by
    rw [List.map_cons]
    show ((f b).canLay0 && PyData.canLayAll0 (bs.map f)) = true
    rw [h b (List.mem_cons_self ..), lay_all fun c hc => h c (List.mem_cons_of_mem _ hc)]
    rfl
theorem dep_all {β : Type} {f : β → PyData} {n : Nat} : ∀ {bs : List β}, (∀ b ∈ bs, (f b).depth ≤ n) → PyData.depthAll (bs.map f) ≤ n
  | [], _ => by rw [List.map_nil]; exact Nat.zero_le _
  | b :: bs, h => by
    rw [List.map_cons]
    show max (f b).depth (PyData.depthAll (bs.map f)) ≤ n
    have := h b (List.mem_cons_self ..)
    have := dep_all fun c hc => h c (List.mem_cons_of_mem _ hc)
    omega
def GoneOk (g : Gone) : Prop := IsNm g.2.1 ∧ IsNm g.2.2.1 ∧ IsNm g.2.2.2.1
def WrongOk (r : Str × Int × Str) : Prop := strOk r.1 = true ∧ strOk r.2.2 = true
theorem good_sh {g : List Gone} (h : ∀ r ∈ g, GoneOk r) : SeqAt.shaped (goodD g) = true := by
  have e1 : PyData.canLayAll0 (g.map goneD) = true := lay_all fun r hr => by
    obtain ⟨a, b, c⟩ := h r hr
    show (true && (strOk r.2.1 && (strOk r.2.2.1 && (strOk r.2.2.2.1 && (true && true))))) = true
    rw [a.ok, b.ok, c.ok]; rfl
  have e2 : PyData.depthAll (g.map goneD) ≤ 1 := dep_all fun r hr => Nat.le_refl 1
  unfold SeqAt.shaped
  refine Bool.and_eq_true_iff.mpr ⟨?_, decide_eq_true ?_⟩
  · show (strOk "good" && (PyData.canLayAll0 (g.map goneD) && true)) = true
    rw [e1]; decide +kernel
  · show max 0 (max (PyData.depthAll (g.map goneD) + 1) 0) + 1 ≤ 64
    omega
theorem fault_sh {g : List (Str × Int × Str)} (h : ∀ r ∈ g, WrongOk r) : SeqAt.shaped (faultD g) = true := by
  have e1 : PyData.canLayAll0 (g.map wrongD) = true := lay_all fun r hr => by
    obtain ⟨a, b⟩ := h r hr
    show (strOk r.1 && (true && (strOk r.2.2 && true))) = true
    rw [a, b]; rfl
  have e2 : PyData.depthAll (g.map wrongD) ≤ 1 := dep_all fun r hr => Nat.le_refl 1
  unfold SeqAt.shaped
  refine Bool.and_eq_true_iff.mpr ⟨?_, decide_eq_true ?_⟩
  · show (strOk "faulty" && (PyData.canLayAll0 (g.map wrongD) && true)) = true
    rw [e1]; decide +kernel
  · show max 0 (max (PyData.depthAll (g.map wrongD) + 1) 0) + 1 ≤ 64
    omega
theorem shaped_self {d : PyData} (h : SeqAt.shaped d = true) : PyData.eqv d d = true := SeqAt.eqv_refl d (SeqAt.canLay_of_shaped h)
theorem SafeG.ok {wd : Wd} (O : wd.Ok) {g : Gone} (h : SafeG wd g) : GoneOk g := by
  obtain ⟨v, hv, c, hc, e1, e2, e3, _⟩ := h
  have vo := (O.vn hv).1
  have co := O.cn c hc
  refine ⟨by rw [e1]; exact vo.n0, by rw [e2]; exact co.n0, ?_⟩
  rcases e3 with e | e
  · rw [e]; exact co.n1
  · rw [e]; exact co.n2
theorem word_ok {v : Ves} {c : Chan} {hour : Int} {sp : Str × Int} {met : Int} {x : Str} (h : wordOf v c hour sp met = some x) : strOk x = true := by
  unfold wordOf at h
  by_cases h1 : hour < sp.2
  · rw [if_pos h1] at h; injection h with h; rw [← h]; decide +kernel
  rw [if_neg h1] at h
  by_cases h2 : sp.1 = c.one ∨ sp.1 = c.other
  · rw [if_neg (fun z => z h2)] at h
    by_cases h3 : v.draught ≤ c.depth
    · rw [if_neg (fun z => z h3)] at h
      by_cases h4 : met > v.strength
      · rw [if_pos h4] at h; injection h with h; rw [← h]; decide +kernel
      · rw [if_neg h4] at h; cases h
    · rw [if_pos h3] at h; injection h with h; rw [← h]; decide +kernel
  · rw [if_pos h2] at h; injection h with h; rw [← h]; decide +kernel
theorem wrong_ok {wd : Wd} (O : wd.Ok) : ∀ (ts : List SRow) (s : WS), (∀ r ∈ s.wrong, WrongOk r) → ∀ r ∈ (ts.foldl (stepR wd) s).wrong, WrongOk r
  | [], s, h => h
  | r :: ts, s, h => by
    rw [List.foldl_cons]
    refine wrong_ok O ts _ ?_
    unfold stepR
    cases hv : vesOf wd r.name with
    | none => exact h
    | some v =>
      cases hc : chanOf wd r.chan with
      | none => exact h
      | some c =>
        dsimp only
        cases hw : wordR wd s v r.hour c with
        | none => rw [step_none hw]; exact h
        | some x =>
          rw [step_some hw]
          intro f hf
          rcases List.mem_append.mp hf with hf | hf
          · exact h f hf
          · rw [List.mem_singleton.mp hf]
            exact ⟨(O.vn (vesOf_some hv).1).1.n0.ok, word_ok hw⟩
theorem few_in {l D : List Str} (nd : l.Nodup) (h : ∀ x ∈ l, x ∈ D) : l.length ≤ D.length := by
  induction l generalizing D with
  | nil => exact Nat.zero_le _
  | cons x l ih =>
    rw [List.nodup_cons] at nd
    have hx := h x (List.mem_cons_self ..)
    have := ih nd.2 (D := D.erase x) fun y hy => (List.mem_erase_of_ne fun e => nd.1 (by rw [← e]; exact hy)).mpr (h y (List.mem_cons_of_mem _ hy))
    rw [List.length_erase_of_mem hx] at this
    have := List.length_pos_of_mem hx
    rw [List.length_cons]
    omega
def cands : List Str := ["more", "other", "third", "further", "ninth", "tenth", "last"]
theorem cands_nd : cands.Nodup := by decide +kernel
theorem cands_ok : ∀ x ∈ cands, IsNm x := by
  have : ∀ x ∈ cands, 1 ≤ x.length ∧ x.length ≤ 8 ∧ ∀ c ∈ x.cps.toList, c ∈ az.cps.toList := by decide +kernel
  exact fun x hx => ⟨(this x hx).1, (this x hx).2.1, (this x hx).2.2⟩
theorem idx_app (x : Str) : ∀ (n : Nat) (l m : List Ves), x ∈ l.map (·.name) → idxV n (l ++ m) x = idxV n l x
  | _, [], _, h => by cases h
  | n, v :: l, m, h => by
    rw [List.cons_append]
    unfold idxV
    by_cases e : v.name = x
    · rw [if_pos e, if_pos e]
    · rw [if_neg e, if_neg e]
      exact idx_app x (n + 1) l m ((List.mem_cons.mp h).resolve_left fun z => e z.symm)
theorem idx_ins (x : Str) (u : Ves) (ne : u.name ≠ x) : ∀ (n : Nat) (l m : List Ves), x ∉ l.map (·.name) → idxV n (l ++ u :: m) x = idxV n (l ++ m) x + 1
  | n, [], m, _ => by
    rw [List.nil_append, List.nil_append]
    show (if u.name = x then n else idxV (n + 1) m x) = _
    rw [if_neg ne, idxV_succ]
  | n, v :: l, m, h => by
    rw [List.map_cons, List.mem_cons, not_or] at h
    rw [List.cons_append, List.cons_append]
    show (if v.name = x then n else idxV (n + 1) (l ++ u :: m) x) = (if v.name = x then n else idxV (n + 1) (l ++ m) x) + 1
    rw [if_neg fun z => h.1 z.symm, if_neg fun z => h.1 z.symm]
    exact idx_ins x u ne (n + 1) l m h.2
theorem more_of {wd : Wd} (O : wd.Ok) {nv : Ves} (nB : nv.isB = true) (nn : nv.name ∉ wd.ves.map (·.name)) {brs2 : List Ves} (h : brs2 = nv :: wd.brs ∨ brs2 = wd.brs ++ [nv]) : More wd { wd with brs := brs2 } nv := by
  refine ⟨rfl, rfl, nB, nn, ?_, ?_⟩
  · rcases h with rfl | rfl
    · exact List.Perm.refl _
    · show (wd.brs ++ [nv] ++ wd.shs).Perm (nv :: (wd.brs ++ wd.shs))
      rw [List.append_assoc]
      exact List.perm_middle
  · have ne : ∀ v ∈ wd.ves, nv.name ≠ v.name := fun v hv z => nn (by rw [z]; exact List.mem_map.mpr ⟨v, hv, rfl⟩)
    rcases h with rfl | rfl
    · refine ⟨1, 1, fun v hv => ?_⟩
      show idxV 0 (nv :: wd.ves) v.name = _
      have := idx_ins v.name nv (ne v hv) 0 [] wd.ves (by simp)
      rw [List.nil_append, List.nil_append] at this
      rw [this]
      split <;> rfl
    · refine ⟨0, 1, fun v hv => ?_⟩
      show idxV 0 (wd.brs ++ [nv] ++ wd.shs) v.name = idxV 0 (wd.brs ++ wd.shs) v.name + _
      rw [List.append_assoc]
      rcases List.mem_append.mp hv with hb | hs
      · rw [if_pos (O.rn v hb).1, idx_app _ _ _ _ (List.mem_map.mpr ⟨v, hb, rfl⟩), idx_app _ _ _ _ (List.mem_map.mpr ⟨v, hb, rfl⟩)]
        rfl
      · rw [if_neg (by rw [(O.sn v hs).1]; decide)]
        refine idx_ins v.name nv (ne v hv) 0 wd.brs wd.shs fun z => ?_
        obtain ⟨u, hu, e⟩ := List.mem_map.mp z
        have := nodup_name O.vd (List.mem_append_left _ hu) hv e
        rw [this] at hu
        have q := (O.rn v hu).1
        rw [(O.sn v hs).1] at q
        cases q
theorem ok_more {wd : Wd} (O : wd.Ok) (nb : wd.brs.length ≤ 3) {nv : Ves} (nB : nv.isB = true) (no : nv.Ok) (np : nv.port ∈ wd.ports) (nn : nv.name ∉ wd.ves.map (·.name)) {brs2 : List Ves} (h : brs2 = nv :: wd.brs ∨ brs2 = wd.brs ++ [nv]) : ({ wd with brs := brs2 } : Wd).Ok := by
  have M := more_of O nB nn h
  have mem : ∀ v ∈ brs2, v = nv ∨ v ∈ wd.brs := fun v hv => by
    rcases h with rfl | rfl
    · exact List.mem_cons.mp hv
    · rcases List.mem_append.mp hv with q | q
      · exact .inr q
      · exact .inl (List.mem_singleton.mp q)
  have len : brs2.length = wd.brs.length + 1 := by
    rcases h with rfl | rfl
    · rfl
    · rw [List.length_append]; rfl
  refine ⟨O.b0, O.b1, O.p0, O.p1, O.pn, O.pd, O.c1, O.cn, O.cd, O.ce, ?_, fun v hv => ?_, O.s1, O.sn, ?_⟩
  · show brs2.length ≤ 4
    omega
  · rcases mem v hv with e | e
    · rw [e]; exact ⟨nB, no, np⟩
    · exact O.rn v e
  · have p := M.pv.map (·.name)
    exact p.nodup_iff.mpr (List.nodup_cons.mpr ⟨nn, O.vd⟩)
theorem wide_ok {wd wd2 : Wd} {nv : Ves} (M : More wd wd2 nv) (O : wd.Ok) {tab : Tbl} (TO : TblOk wd tab) (hl : tab.length ≤ 10) {es : List Ent} (eo : EntsOk wd.begin_ (wd.chans.map (·.name)) es) : TblOk wd2 (tab ++ [(nv.name, es)]) := by
  refine ⟨?_, ?_, fun p hp => ?_⟩
  · rw [List.map_append, List.nodup_append]
    refine ⟨TO.nd, by simp, fun a ha c hc z => ?_⟩
    simp only [List.map_cons, List.map_nil, List.mem_singleton] at hc
    obtain ⟨p, h1, h2⟩ := List.mem_map.mp ha
    exact M.nn (by rw [← hc, ← z, ← h2]; exact (TO.ok p h1).1)
  · rw [List.length_append, List.length_singleton]; omega
  · rw [M.bg, M.ch]
    have pn := M.pv.map (·.name)
    rcases List.mem_append.mp hp with h | h
    · exact ⟨pn.mem_iff.mpr (List.mem_cons_of_mem _ (TO.ok p h).1), (TO.ok p h).2⟩
    · rw [List.mem_singleton.mp h]
      exact ⟨pn.mem_iff.mpr (List.mem_cons_self ..), eo⟩
theorem wide_num {wd wd2 : Wd} {nv : Ves} (M : More wd wd2 nv) {tab : Tbl} (nk : nv.name ∉ tab.map (·.1)) (es : List Ent) : entNum (tab ++ [(nv.name, es)]) wd2.ves = es.length + entNum tab wd.ves := by
  unfold entNum
  rw [(M.pv.map fun v => (look (tab ++ [(nv.name, es)]) v.name).length).sum_nat, List.map_cons, List.sum_cons, look_app, if_neg nk, look_cons, if_pos rfl]
  congr 2
  refine List.map_congr_left fun v hv => ?_
  rw [look_app]
  split
  · rfl
  · rename_i h
    rw [look_none h, look_cons, if_neg fun z => M.nn (by rw [show nv.name = v.name from z]; exact List.mem_map.mpr ⟨v, hv, rfl⟩)]
    rfl
theorem er_set {b R : Addr} {h : Hp} {o : HO} (n : R ≠ b) : Same (er R (er b h)) (er b (upd h R o)) := fun a u e => by
  have n1 : a ≠ R := fun z => by rw [z, er_at] at e; cases e
  rw [er_ne n1] at e
  have n2 : a ≠ b := fun z => by rw [z, er_at] at e; cases e
  rw [er_ne n2] at e ⊢
  rw [upd_ne n1]
  exact e
theorem row_head (v : Ves) : ∃ rest, v.row = .str v.name :: rest := by unfold Ves.row; cases v.isB <;> exact ⟨_, rfl⟩
end Ik


namespace Ik
open PySem PySem.Spec L2
open PySem.W (Frag)
def sp_law (K : Frag) : Sp := fun vs H Q _ => ∃ (a : Addr) (ns : List Int), vs = [.ref a] ∧ SqL K H a (ns.map V.int) ∧ ∀ H', Same H H' → Q (.bl true) H'
theorem mkF {P : Program} {w : World} {K : Frag} {mg : Str → Option Value} {base : Heap} {x qual : Str} {st : Stmt} {f : Addr} {N ps : List Str} {k : Nat} {sp : Sp} {sc : Scope}
    (F : ∃ fd, Fun K x qual st f fd ∧ Binds K fd ps []) (S : FnScope N ps sc) (hz : defScope st = sc) (len : ∀ vs H Q E, sp vs H Q E → vs.length = ps.length)
    (hbody : ∀ (cdv : Value) (A : Around) (outer : List Env) (s : Shared) (H : Hp) (vs : List V) (Q : VK) (E : XK), Room k (A.deeper (PyProof.Rows.envOfC qual sc s.heap.objs.size f cdv)) → sp vs H Q E →
      ∃ t, PSs (cxOf CX0 P w K mg base N qual sc f cdv A outer s H E).nox (defBody st) t ∧ t { nx := fun _ H' => Q .non H', rt := Q } (start N vs) H) : ∃ fd, Fun K x qual st f fd ∧ FnOk P w K mg base CX0 (k + 1) f fd ps sp := by
  subst hz
  obtain ⟨fd, F, _⟩ := F
  exact ⟨fd, F, F.ok S len hbody⟩
def Z_law : Scope := { kind := .function, names := (("_law_script", .local) :: ("_law_k", .local) :: ("_law_box_here", .local) :: ("_law_ahead", .local) :: ("_law_rows", .local) :: ("_law_world_here", .local) :: ("_law_table_here", .local) :: ("_law_walk", .local) :: ("_law_faults", .local) :: ("_law_good", .local) :: ("_law_due", .local) :: ("_law_names_here", .cell) :: ("_law_name", .cell) :: ("_law_more", .local) :: ("_law_spot", .local) :: ("_law_wide", .local) :: ("_law_behind", .local) :: ("range", .globalImplicit) :: ("max", .globalImplicit) :: ("min", .globalImplicit) :: ("len", .globalImplicit) :: ("_law_box", .globalImplicit) :: ("_law_cell", .globalImplicit) :: ("_law_take", .globalImplicit) :: ("_law_small_world", .globalImplicit) :: ("_law_world", .globalImplicit) :: ("_law_table", .globalImplicit) :: ("Walk", .globalImplicit) :: ("_law_asked", .globalImplicit) :: ("_law_safe", .globalImplicit) :: ("int", .globalImplicit) :: ("_law_vessels", .globalImplicit) :: ("dict", .globalImplicit) :: ("_law_entries", .globalImplicit) :: ("_law_kept", .globalImplicit) :: []), isGenerator := false, isCoroutine := false, more := (defScope S_law).more }
abbrev N_law : List Str := ["_law_script", "_law_k", "_law_box_here", "_law_ahead", "_law_rows", "_law_world_here", "_law_table_here", "_law_walk", "_law_faults", "_law_good", "_law_due", "_law_names_here", "_law_name", "_law_more", "_law_spot", "_law_wide", "_law_behind", "_law_one", "_law_vessel", "_law_fault"]
abbrev P_law : List Str := ["_law_script"]
theorem sc_law : FnScope N_law P_law Z_law := ⟨rfl, rfl, rfl, by decide +kernel, rfl, by decide +kernel, by decide +kernel⟩
theorem sz_law : defScope S_law = Z_law := rfl
section
variable {P : Program} {w : World} {K : Frag} {mg : Str → Option Value} {base : Heap}
theorem ok_law (T : Txt K mg) (D_l_cell : DOk P w K mg base CX0 1 a_l_cell P_l_cell (sp_cell K)) (D_l_box : DOk P w K mg base CX0 1 a_l_box P_l_box sp_box) (D_l_take : DOk P w K mg base CX0 1 a_l_take P_l_take sp_take)
    (D_l_small_world : DOk P w K mg base CX0 3 a_l_small_world P_l_small_world sp_small_world) (D_l_world : DOk P w K mg base CX0 7 a_l_world P_l_world sp_l_world) (D_l_table : DOk P w K mg base CX0 3 a_l_table P_l_table sp_l_table)
    (D_Walk_init : DOk P w K mg base CX0 7 a_Walk_init P_Walk_init sp_Walk_init) (D_Walk_faults : DOk P w K mg base CX0 1 a_Walk_faults P_Walk_faults sp_faults) (D_Walk_table : DOk P w K mg base CX0 1 a_Walk_table P_Walk_table sp_Walk_table)
    (D_Walk_done : DOk P w K mg base CX0 1 a_Walk_done P_Walk_done sp_done) (D_l_asked : DOk P w K mg base CX0 10 a_l_asked P_l_asked sp_l_asked) (D_l_safe : DOk P w K mg base CX0 2 a_l_safe P_l_safe sp_l_safe)
    (D_l_vessels : DOk P w K mg base CX0 1 a_l_vessels P_l_vessels sp_l_vessels) (D_l_entries : DOk P w K mg base CX0 2 a_l_entries P_l_entries sp_l_entries) (D_l_kept : DOk P w K mg base CX0 1 a_l_kept P_l_kept sp_l_kept) :
    ∃ fd, Fun K "law" "law" S_law a_law fd ∧ FnOk P w K mg base CX0 11 a_law fd P_law (sp_law K) := by
  refine mkF T.f_law sc_law sz_law (fun vs H Q E h => ?_) (fun cdv A outer s H vs Q E hr h => ?_)
  · obtain ⟨a, ns, rfl, _⟩ := h; rfl
  · obtain ⟨a, ns, rfl, ha, fin⟩ := h
    have hu := hu_of hr
    refine ⟨_, (pss_cons (ps_for PassesOwn.never rfl (pi_range1 rfl T.z_range (pa_cons (pe_callB (call_max2 rfl) (by rfl) T.z_max bt_max (pa_cons pe_int (pa_cons (pe_callB (call_min2 rfl) (by rfl) T.z_min bt_min (pa_cons pe_int (pa_cons (pe_callB (call_lenK K) (by rfl) T.z_len bt_len (pa_cons (pv 0) pa_nil)) pa_nil))) pa_nil))) pa_nil)) (pg_name (i := 1) sc_law.nd rfl (Or.inl rfl))
      (pss_cons (ps_set (i := 2) sc_law.nd rfl (Or.inl rfl) (pe_fn D_l_box T.g_l_box hr (pa_cons (pe_fn D_l_cell T.g_l_cell hr (pa_cons (pv 0) (pa_cons (pv 1) pa_nil))) pa_nil)))
    (pss_cons (ps_set (i := 3) sc_law.nd rfl (Or.inl rfl) (pe_cmpR op_eq (pe_fn D_l_take T.g_l_take hr (pa_cons (pv 2) (pa_cons pe_int pa_nil))) pe_int (nomark _)))
    (pss_cons (ps_set (i := 4) sc_law.nd rfl (Or.inl rfl) (pe_fn D_l_small_world T.g_l_small_world hr (pa_cons (pv 2) pa_nil)))
    (pss_cons (ps_set (i := 5) sc_law.nd rfl (Or.inl rfl) (pe_fn D_l_world T.g_l_world hr (pa_cons (pv 4) pa_nil)))
    (pss_cons (ps_set (i := 6) sc_law.nd rfl (Or.inl rfl) (pe_fn D_l_table T.g_l_table hr (pa_cons (pv 2) (pa_cons (pv 4) pa_nil))))
    (pss_cons (ps_set (i := 7) sc_law.nd rfl (Or.inl rfl) (pe_mkc D_Walk_init T.mk_Walk T.g_Walk hr (pa_cons (pv 5) (pa_cons (pv 6) pa_nil))))
    (pss_cons (ps_set (i := 8) sc_law.nd rfl (Or.inl rfl) (pe_me0 D_Walk_faults T.cl_Walk T.me_Walk_faults hr (pv 7)))
    (pss_cons (ps_set (i := 9) sc_law.nd rfl (Or.inl rfl) (pe_me0 D_Walk_table T.cl_Walk T.me_Walk_table hr (pv 7)))
    (pss_cons (ps_set (i := 10) sc_law.nd rfl (Or.inl rfl) (pe_tup (pa_cons pe_str (pa_cons (pe_me0 D_Walk_done T.cl_Walk T.me_Walk_done hr (pv 7)) pa_nil))))
    (pss_cons (ps_via (ps_if (pt_cmpR (op_neNilK K hr) (pv 8) (pe_lst pa_nil) (nomark _)) (pss_one (ps_set (i := 10) sc_law.nd rfl (Or.inl rfl) (pe_tup (pa_cons pe_str (pa_cons (pe_slice (sl_listK K) (pv 8) po_none (po_some pe_int)) pa_nil))))) pss_nil))
    (pss_cons (ps_via (ps_if (PW.pt (pw_or (pt_cmpR (op_neDK K hr) (pe_fn D_l_asked T.g_l_asked hr (pa_cons (pv 5) (pa_cons (pv 6) pa_nil))) (pv 10) (nomark _)) (pw_or1 (pt_cmpR (op_neDK K hr) (pe_fn D_l_asked T.g_l_asked hr (pa_cons (pv 5) (pa_cons (pv 9) pa_nil))) (pe_tup (pa_cons pe_str (pa_cons (pe_me0 D_Walk_done T.cl_Walk T.me_Walk_done hr (pv 7)) pa_nil))) (nomark _))))) (pss_one (ps_ret pe_bl)) pss_nil))
    (pss_cons (ps_via (ps_if (PW.pt (pw_or (pt_cmpR (op_neNilK K hr) (pe_me0 D_Walk_faults T.cl_Walk T.me_Walk_faults hr (pe_mkc D_Walk_init T.mk_Walk T.g_Walk hr (pa_cons (pv 5) (pa_cons (pv 9) pa_nil)))) (pe_lst pa_nil) (nomark _)) (pw_or1 (pt_not (pt_val (pe_fn D_l_safe T.g_l_safe hr (pa_cons (pv 4) (pa_cons (pe_me0 D_Walk_done T.cl_Walk T.me_Walk_done hr (pv 7)) pa_nil)))))))) (pss_one (ps_ret pe_bl)) pss_nil))
    (pss_cons (ps_set (i := 11) sc_law.nd rfl (Or.inr rfl) (pe_lc (own := [("_law_one", 17)]) (g := (gName 17)) rfl sc_law.nd (pi_list (pe_op op_cat (pe_ix (ix_listK K) (pv 4) pe_int (fun _ _ => rfl)) (pe_ix (ix_listK K) (pv 4) pe_int (fun _ _ => rfl)))) (blkOk_by (own := [("_law_one", 17)]) (N := N_law) (sc := Z_law) (by decide +kernel)) (fun _ _ _ _ _ => (pg_name (i := 17) sc_law.nd rfl (Or.inl rfl))) (fun _ _ _ _ _ => pts_nil) (fun _ _ _ _ _ => (pe_ix (ix_tupK K) (pv 17) pe_int (fun _ _ => rfl)))))
    (pss_cons (ps_set (i := 12) sc_law.nd rfl (Or.inr rfl) (pe_ix (ix_listK K) (pe_lc (own := [("_law_one", 17)]) (g := (gName 17)) rfl sc_law.nd (pi_list (pe_lst (pa_cons pe_str (pa_cons pe_str (pa_cons pe_str (pa_cons pe_str (pa_cons pe_str (pa_cons pe_str (pa_cons pe_str pa_nil))))))))) (blkOk_by (own := [("_law_one", 17)]) (N := N_law) (sc := Z_law) (by decide +kernel)) (fun _ _ _ _ _ => (pg_name (i := 17) sc_law.nd rfl (Or.inl rfl))) (fun _ _ _ _ _ => (pts_one (pt_cmpR (op_notInK K) (pv 17) (pv 11) (by rfl)))) (fun _ _ _ _ _ => (pv 17))) pe_int (fun _ _ => rfl)))
    (pss_cons (ps_set (i := 13) sc_law.nd rfl (Or.inl rfl) (pe_tup (pa_cons (pv 12) (pa_cons (pe_ix (ix_listK K) (pe_ix (ix_listK K) (pv 4) pe_int (fun _ _ => rfl)) pe_int (fun _ _ => rfl)) (pa_cons (pe_ix (ix_listK K) (pv 4) pe_int (fun _ _ => rfl)) (pa_cons (pe_op op_add pe_int (pe_fn D_l_take T.g_l_take hr (pa_cons (pv 2) (pa_cons pe_int pa_nil)))) (pa_cons (pe_fn D_l_take T.g_l_take hr (pa_cons (pv 2) (pa_cons pe_int pa_nil))) (pa_cons (pe_op op_add pe_int (pe_fn D_l_take T.g_l_take hr (pa_cons (pv 2) (pa_cons pe_int pa_nil)))) pa_nil))))))))
    (pss_cons (ps_via (ps_asg (pe_ix (ix_listK K) (pe_lst (pa_cons (pe_op op_cat (pe_lst (pa_cons (pv 13) pa_nil)) (pe_ix (ix_listK K) (pv 4) pe_int (fun _ _ => rfl))) (pa_cons (pe_op op_cat (pe_ix (ix_listK K) (pv 4) pe_int (fun _ _ => rfl)) (pe_lst (pa_cons (pv 13) pa_nil))) pa_nil))) (pe_callTy call_int1 (by rfl) T.z_int bt_int (pa_cons (pv 3) pa_nil)) (fun _ _ => rfl)) (pg_sub (pv 4) pe_int set_list)))
    (pss_cons (ps_set (i := 14) sc_law.nd rfl (Or.inl rfl) (pe_ix (ix_listK K) (pe_lc (own := [("_law_vessel", 18)]) (g := (gName 18)) rfl sc_law.nd (pi_list (pe_fn D_l_vessels T.g_l_vessels hr (pa_cons (pv 4) pa_nil))) (blkOk_by (own := [("_law_vessel", 18)]) (N := N_law) (sc := Z_law) (by decide +kernel)) (fun _ _ _ _ _ => (pg_name (i := 18) sc_law.nd rfl (Or.inl rfl))) (fun _ _ _ _ _ => (pts_one (pt_cmpR op_eq (pe_ix (ix_tupK K) (pv 18) pe_int (fun _ _ => rfl)) (pv 12) (nomark _)))) (fun _ _ _ _ _ => (pv 18))) pe_int (fun _ _ => rfl)))
    (pss_cons (ps_set (i := 15) sc_law.nd rfl (Or.inl rfl) (pe_callTy call_dictC (by rfl) T.z_dict bt_dict (pa_cons (pv 9) pa_nil)))
    (pss_cons (ps_via (ps_dput hu (pv 15) (pv 12) (pe_fn D_l_entries T.g_l_entries hr (pa_cons (pv 2) (pa_cons (pv 4) (pa_cons (pv 14) (pa_cons (pe_op op_add pe_int (pe_fn D_l_take T.g_l_take hr (pa_cons (pv 2) (pa_cons pe_int pa_nil)))) pa_nil))))) rfl))
    (pss_cons (ps_set (i := 16) sc_law.nd rfl (Or.inl rfl) (pe_mkc D_Walk_init T.mk_Walk T.g_Walk hr (pa_cons (pe_fn D_l_world T.g_l_world hr (pa_cons (pv 4) pa_nil)) (pa_cons (pv 15) pa_nil))))
    (pss_cons (ps_if (PW.pt (pw_or (pt_not (pt_val (pe_fn D_l_kept T.g_l_kept hr (pa_cons (pe_me0 D_Walk_done T.cl_Walk T.me_Walk_done hr (pv 7)) (pa_cons (pe_me0 D_Walk_done T.cl_Walk T.me_Walk_done hr (pv 16)) pa_nil))))) (pw_or1 (pt_not (pt_val (pe_fn D_l_safe T.g_l_safe hr (pa_cons (pv 4) (pa_cons (pe_me0 D_Walk_done T.cl_Walk T.me_Walk_done hr (pv 16)) pa_nil)))))))) (pss_one (ps_ret pe_bl)) pss_nil)
    (pss_one (ps_if (pt_cmpR (op_neNilK K hr) (pe_lc (own := [("_law_fault", 19)]) (g := (gName 19)) rfl sc_law.nd (pi_list (pe_me0 D_Walk_faults T.cl_Walk T.me_Walk_faults hr (pv 16))) (blkOk_by (own := [("_law_fault", 19)]) (N := N_law) (sc := Z_law) (by decide +kernel)) (fun _ _ _ _ _ => (pg_name (i := 19) sc_law.nd rfl (Or.inl rfl))) (fun _ _ _ _ _ => (pts_one (pt_cmpR op_ne (pe_ix (ix_tupK K) (pv 19) pe_int (fun _ _ => rfl)) (pv 12) (nomark _)))) (fun _ _ _ _ _ => (pv 19))) (pe_lst pa_nil) (nomark _)) (pss_one (ps_ret pe_bl)) pss_nil))))))))))))))))))))))))
    (pss_one (ps_ret pe_bl))), ?_⟩
    refine ⟨_, rfl, _, _, rfl, .inl ⟨_, ha, rfl⟩, _, _, rfl, _, _, rfl, ?_⟩
    have big : ∀ x : Int, 0 ≤ x → (if (if x < 6 then x else 6) > 2 then (if x < 6 then x else 6) else 2) ≤ 6 ∧ 0 ≤ (if (if x < 6 then x else 6) > 2 then (if x < 6 then x else 6) else 2) := fun x hx => by
      by_cases c : x < 6
      · rw [if_pos c]; split <;> omega
      · rw [if_neg c]; decide
    have big := big ((ns.map V.int).length : Int) (by omega)
    generalize (if (if ((ns.map V.int).length : Int) < 6 then ((ns.map V.int).length : Int) else 6) > 2 then (if ((ns.map V.int).length : Int) < 6 then ((ns.map V.int).length : Int) else 6) else 2) = N at big ⊢
    refine ⟨N, rfl, by omega, by omega, for_it (n := N.toNat) (fun i σ H' => ∃ v1 v2 v3 v4 v5 v6 v7 v8 v9 v10 v11 v12 v13 v14 v15 v16, σ = [some (.ref a), v1, v2, v3, v4, v5, v6, v7, v8, v9, v10, v11, v12, v13, v14, v15, v16, none, none, none] ∧ Same H H')
      ⟨_, _, _, _, _, _, _, _, _, _, _, _, _, _, _, _, rfl, Same.refl _⟩ ?_ ?_⟩
    · rintro σ H' ⟨v1, v2, v3, v4, v5, v6, v7, v8, v9, v10, v11, v12, v13, v14, v15, v16, rfl, s⟩
      exact ⟨Nat.le_refl _, fin H' s⟩
    · rintro i σ h0 hi ⟨v1, v2, v3, v4, v5, v6, v7, v8, v9, v10, v11, v12, v13, v14, v15, v16, rfl, S0⟩
      refine ⟨hi, ?_⟩
      rintro y h0' ⟨rfl, rfl⟩
      -- the box, the world
      refine ⟨_, rfl, _, rfl, a, ns, _, rfl, S0.seq ha, by omega, fun ce => ⟨ce, rfl, fun b h1 hb s1 B1 => ?_⟩⟩
      have S1 : Same H (er b h1) := er_lift (S0.trans s1) (S0.noneAt hb)
      refine ⟨_, rfl, b, 2, 0, rfl, B1, by decide, by decide, by decide, fun ah h2 ah0 ah1 e2 B2 => ⟨rfl, ?_⟩⟩
      have S2 : Same H (er b h2) := by rw [e2]; exact S1
      refine ⟨_, rfl, b, 1, rfl, B2, by decide, fun h3 R wd s3 B3 R0 RA3 O c1 nb ns3 => ?_⟩
      have S3 := S2.trans (er_mono s3)
      have vl6 : wd.ves.length ≤ 6 := by unfold Wd.ves; rw [List.length_append]; omega
      refine ⟨_, rfl, R, wd, rfl, RA3.mono er_sub, O, fun h4 wa s4 W4 => ?_⟩
      have S4 := S3.trans (er_lift (er_sub.trans s4) er_at)
      have B4 := B3.mono s4
      have RA4 : RowsAt (er b h4) R wd := RA3.mono (er_lift (er_sub.trans s4) er_at)
      refine ⟨_, rfl, _, rfl, b, R, wd, _, rfl, B4, by decide, RA4, O, c1, fun h5 t tbl s5 B5 TA5 TO E5 ntb t0 => ?_⟩
      have S5 := S4.trans (er_lift s5 er_at)
      have W5 : WorldAt h5 wa wd := by
        obtain ⟨y, ys, hy⟩ := B4.head
        exact (W4.nb hy).mono s5
      have TA5' := TA5.mono er_sub
      have RA5 : RowsAt (er b h5) R wd := RA4.mono (er_lift s5 er_at)
      -- the walk
      refine ⟨_, rfl, _, rfl, ?_⟩
      intro p dz hp hdz ne
      have sx : Same h5 (upd (upd h5 dz (.own p)) p (.ins cWalk dz [])) := (same_new hdz).atFresh hp
      refine ⟨p, dz, wa, t, wd, tbl, rfl, upd_same, W5.mono sx, O, TA5'.mono sx, TO, by omega, fun h6 k ts bu SO it S6 O6 => ⟨rfl, ?_⟩⟩
      have s56 : Same h5 h6 := fun b o e => bu b o (sx b o e) (ne_of_none e hp)
      have lts : ts.length ≤ 40 := by
        have := it.perm.length_eq
        rw [rowsW_len, told_num tbl wd.ves wd.ves fun v h => h] at this
        omega
      have TOt := TO.told O
      refine ⟨_, rfl, p, k.dx, _, rfl, S6.T.at_, rfl, p, wd, k, _, rfl, S6, fun lf xf hlf pwf => ?_⟩
      have s67 := same_new (o := .lst xf) hlf
      have S7 := S6.mono s67
      refine ⟨_, rfl, p, k.dx, _, rfl, S7.T.at_, rfl, p, wd, k, _, ts.length, rfl, S7, SO, O6, by omega, fun h8 g s78 TG => ?_⟩
      have S8 := S7.mono s78
      refine ⟨_, rfl, p, k.dx, _, rfl, S8.T.at_, rfl, p, _, rfl, S8.done, fun l9 x9 hl9 pg9 => ⟨szOf rfl, fun T9 hT9 => ?_⟩⟩
      have s89 := (same_new (o := .lst x9) hl9).trans (same_new (o := .tup [.str "good", .ref l9]) hT9)
      have G9 : GoodAt (upd (upd h8 l9 (.lst x9)) T9 (.tup [.str "good", .ref l9])) T9 (walkT wd ts).gone := ⟨l9, x9, upd_same, same_new hT9 _ _ upd_same, pg9.to fun _ _ q => q.mono s89⟩
      have s59 := ((s56.trans s67).trans s78).trans s89
      have S9 := S8.mono s89
      have TG9 := TG.mono s89
      have glf9 := s89 _ _ (s78 _ _ (upd_same (H := h6) (a := lf) (o := .lst xf)))
      have pwf9 := pwf.to fun _ _ (q : WrongR h6 _ _) => q.mono ((s67.trans s78).trans s89)
      generalize upd (upd h8 l9 (.lst x9)) T9 (.tup [.str "good", .ref l9]) = h9 at G9 s59 S9 TG9 glf9 pwf9 ⊢
      refine ⟨fun σ' H' => ∃ T10, σ' = [some (.ref a), some (.int (0 + (i : Nat))), some (.ref b), some (.bl (decide (V.int ah = V.int 0))), some (.ref R), some (.ref wa), some (.ref t), some (.ref p), some (.ref lf), some (.ref g), some (.ref T10), v11, v12, v13, v14, v15, v16, none, none, none] ∧ Same h9 H' ∧
        ((walkT wd ts).wrong = [] ∧ GoodAt H' T10 (walkT wd ts).gone ∨ ∃ r rs, (walkT wd ts).wrong = r :: rs ∧ FaultAt H' T10 [r]), ?_, ?_⟩
      · refine ⟨_, rfl, szOf rfl, fun z hz => ⟨lf, z, xf, rfl, rfl, .of (same_new hz _ _ glf9), .of upd_same, _, rfl, ?_⟩⟩
        have sz := same_new (o := .lst []) hz
        cases hw : (walkT wd ts).wrong with
        | nil =>
          rw [hw] at pwf9
          cases pwf9
          exact ifF rfl ⟨T9, rfl, sz, .inl ⟨rfl, G9.mono sz⟩⟩
        | cons r rs =>
          rw [hw] at pwf9
          cases pwf9 with
          | @cons u _ us _ q0 qs =>
            refine ifT rfl ?_
            refine ⟨_, rfl, 1, rfl, lf, _, rfl, .of (sz _ _ glf9), fun c hc => ⟨szOf rfl, fun T hT => ?_⟩⟩
            have sc := sz.trans ((same_new (o := .lst (cutV (u :: us) none (some 1))) hc).trans (same_new (o := .tup [.str "faulty", .ref c]) hT))
            refine ⟨T, rfl, sc, .inr ⟨r, rs, rfl, c, [u], upd_same, ?_, .cons (q0.mono sc) .nil⟩⟩
            rw [same_new hT _ _ (upd_same (H := upd h9 z (.lst [])) (a := c) (o := .lst (cutV (u :: us) none (some 1)))), cutV_lo _ (by decide)]
            rfl
      · rintro σ' h10 ⟨T10, rfl, s910, due⟩
        have W10 : WorldAt h10 wa wd := (W5.mono s59).mono s910
        have TA10 : TableAt h10 t tbl := (TA5'.mono s59).mono s910
        have TG10 := TG9.mono s910
        have S10 := S9.mono s910
        have TOg := tab_ok O TOt it (by omega)
        have Eg : entNum (tabOf (walkT wd ts) wd.ves) wd.ves ≤ 60 := Nat.le_trans (tab_num O TOt it) (by omega)
        have sg := safe_gone wd ts WS.init fun r h => (nomatch h)
        have gsh : SeqAt.shaped (goodD (walkT wd ts).gone) = true := good_sh fun r hr => (sg r hr).ok O
        have wok := wrong_ok O ts WS.init fun r h => (nomatch h)
        refine ⟨fun σ' H' => σ' = [some (.ref a), some (.int (0 + (i : Nat))), some (.ref b), some (.bl (decide (V.int ah = V.int 0))), some (.ref R), some (.ref wa), some (.ref t), some (.ref p), some (.ref lf), some (.ref g), some (.ref T10), v11, v12, v13, v14, v15, v16, none, none, none] ∧ Same h9 H', ?_, ?_⟩
        · rcases due with ⟨hw, G10⟩ | ⟨r, rs, hw, F10⟩
          · refine ⟨_, rfl, _, rfl, wa, t, wd, tbl, rfl, W10, O, TA10, TO, by omega, fun h11 T11 ts' s11 it' hw' G11 => ?_, fun h11 T11 ts' r rs s11 it' hw' _ => by rw [turns_uniq TOt it' it, hw] at hw'; cases hw'⟩
            rw [turns_uniq TOt it' it] at G11
            refine ⟨_, rfl, _, _, G11.dp, (G10.mono s11).dp, gsh, gsh, _, rfl, ifF (by rw [shaped_self gsh]; rfl) ?_⟩
            refine ⟨_, rfl, _, rfl, wa, g, wd, _, rfl, W10.mono s11, O, TG10.mono s11, TOg, Eg, fun h12 T12 ts2 s12 it2 hw2 G12 => ?_, fun h12 T12 ts2 r2 rs2 s12 it2 hw2 _ => ?_⟩
            · obtain ⟨_, eg, _, _⟩ := walk_again O TOt it (by omega) it2
              have S12 := (S10.mono s11).mono s12
              refine ⟨_, rfl, p, k.dx, _, rfl, S12.T.at_, rfl, p, _, rfl, S12.done, fun l x hl pg => ⟨szOf rfl, fun TT hTT => ?_⟩⟩
              have sT := (same_new (o := .lst x) hl).trans (same_new (o := .tup [.str "good", .ref l]) hTT)
              have G13 : GoodAt (upd (upd h12 l (.lst x)) TT (.tup [.str "good", .ref l])) TT (walkT wd ts).gone := ⟨l, x, upd_same, same_new hTT _ _ upd_same, pg.to fun _ _ q => q.mono sT⟩
              rw [eg] at G12
              refine ⟨_, _, (G12.mono sT).dp, G13.dp, gsh, gsh, _, rfl, ifF (by rw [shaped_self gsh]; rfl) ?_⟩
              exact ⟨rfl, ((s910.trans s11).trans s12).trans sT⟩
            · obtain ⟨w0, _⟩ := walk_again O TOt it (by omega) it2
              rw [w0] at hw2
              cases hw2
          · have fsh : SeqAt.shaped (faultD [r]) = true := fault_sh fun f hf => wok f (by rw [List.mem_singleton.mp hf]; show r ∈ (walkT wd ts).wrong; rw [hw]; exact List.mem_cons_self ..)
            refine ⟨_, rfl, _, rfl, wa, t, wd, tbl, rfl, W10, O, TA10, TO, by omega, fun h11 T11 ts' s11 it' hw' G11 => (by rw [turns_uniq TOt it' it, hw] at hw'; cases hw'), fun h11 T11 ts' r' rs' s11 it' hw' F11 => ?_⟩
            rw [turns_uniq TOt it' it, hw] at hw'
            injection hw' with e1 e2
            rw [← e1] at F11
            refine ⟨_, rfl, _, _, F11.dp, (F10.mono s11).dp, fsh, fsh, _, rfl, ifF (by rw [shaped_self fsh]; rfl) ?_⟩
            refine ⟨_, rfl, _, rfl, wa, g, wd, _, rfl, W10.mono s11, O, TG10.mono s11, TOg, Eg, fun h12 T12 ts2 s12 it2 hw2 G12 => ?_, fun h12 T12 ts2 r2 rs2 s12 it2 hw2 _ => ?_⟩
            · obtain ⟨_, eg, _, _⟩ := walk_again O TOt it (by omega) it2
              have S12 := (S10.mono s11).mono s12
              refine ⟨_, rfl, p, k.dx, _, rfl, S12.T.at_, rfl, p, _, rfl, S12.done, fun l x hl pg => ⟨szOf rfl, fun TT hTT => ?_⟩⟩
              have sT := (same_new (o := .lst x) hl).trans (same_new (o := .tup [.str "good", .ref l]) hTT)
              have G13 : GoodAt (upd (upd h12 l (.lst x)) TT (.tup [.str "good", .ref l])) TT (walkT wd ts).gone := ⟨l, x, upd_same, same_new hTT _ _ upd_same, pg.to fun _ _ q => q.mono sT⟩
              rw [eg] at G12
              refine ⟨_, _, (G12.mono sT).dp, G13.dp, gsh, gsh, _, rfl, ifF (by rw [shaped_self gsh]; rfl) ?_⟩
              exact ⟨rfl, ((s910.trans s11).trans s12).trans sT⟩
            · obtain ⟨w0, _⟩ := walk_again O TOt it (by omega) it2
              rw [w0] at hw2
              cases hw2
        · rintro σ' h11 ⟨rfl, s911⟩
          have W11 : WorldAt h11 wa wd := (W5.mono s59).mono s911
          have TG11 := TG9.mono s911
          have S11 := S9.mono s911
          have RA11 : RowsAt h11 R wd := ((RA5.mono er_sub).mono s59).mono s911
          refine ⟨fun σ' H' => σ' = [some (.ref a), some (.int (0 + (i : Nat))), some (.ref b), some (.bl (decide (V.int ah = V.int 0))), some (.ref R), some (.ref wa), some (.ref t), some (.ref p), some (.ref lf), some (.ref g), some (.ref T10), v11, v12, v13, v14, v15, v16, none, none, none] ∧ Same h9 H' ∧ ∃ ts2, IsTurns wd (toldL (tabOf (walkT wd ts) wd.ves) wd.ves) ts2, ?_, ?_⟩
          · refine ⟨_, rfl, _, rfl, ?_⟩
            intro p2 dz2 hp2 hdz2 ne2
            have sx2 : Same h11 (upd (upd h11 dz2 (.own p2)) p2 (.ins cWalk dz2 [])) := (same_new hdz2).atFresh hp2
            refine ⟨p2, dz2, wa, g, wd, _, rfl, upd_same, W11.mono sx2, O, TG11.mono sx2, TOg, Eg, fun h13 k2 ts3 bu2 SO2 it3 S13 O13 => ⟨rfl, ?_⟩⟩
            have s13 : Same h11 h13 := fun b o e => bu2 b o (sx2 b o e) (ne_of_none e hp2)
            obtain ⟨w0, _⟩ := walk_again O TOt it (by omega) it3
            refine ⟨p2, k2.dx, _, rfl, S13.T.at_, rfl, p2, wd, k2, _, rfl, S13, fun l x hl pw => ⟨szOf rfl, fun z hz => ?_⟩⟩
            rw [w0] at pw
            cases pw
            have s15 := s13.trans ((same_new (o := .lst []) hl).trans (same_new (o := .lst []) hz))
            refine ⟨l, z, [], rfl, rfl, .of (same_new hz _ _ upd_same), .of upd_same, _, rfl, ifF rfl ?_⟩
            have S15 := S11.mono s15
            refine ⟨_, rfl, _, rfl, p, k.dx, _, rfl, S15.T.at_, rfl, p, _, rfl, S15.done, fun l2 x2 hl2 pg2 => ?_⟩
            have sl2 := same_new (o := .lst x2) hl2
            refine ⟨R, l2, wd, x2, _, rfl, (RA11.mono s15).mono sl2, O, upd_same, pg2.to fun _ _ q => q.mono sl2, sg, fun h16 s16 => ⟨true, rfl, ifF rfl ⟨rfl, ((s911.trans s15).trans sl2).trans s16, ts3, it3⟩⟩⟩
          · rintro σ' h12 ⟨rfl, s912, ts2, it2⟩
            have s512 := s59.trans s912
            have B12 : Box h12 b 1001 := B5.mono s512
            have D12 := (S9.mono s912).done
            have TG12 := TG9.mono s912
            have RA12 : RowsAt (er b h12) R wd := RA5.mono (er_lift (er_sub.trans s512) er_at)
            have S12 : Same H (er b h12) := S5.trans (er_lift (er_sub.trans s512) er_at)
            obtain ⟨lp, lc, lb, ls, gR, L12⟩ := id RA12
            have gRb := gR
            have nRb : R ≠ b := fun z => by rw [z, er_at] at gR; cases gR
            obtain ⟨gp, ⟨xc, gc, pc⟩, ⟨xb, gb, pb⟩, ⟨xs, gs, ps⟩⟩ := id L12
            have lxb := Paired.length pb
            have lxs := Paired.length ps
            -- the names of the vessels
            refine ⟨_, rfl, R, _, _, _, rfl, rfl, .of (er_sub _ _ gR), rfl, _, rfl, R, _, _, _, rfl, rfl, .of (er_sub _ _ gR), rfl, lb, ls, xb, xs, rfl, rfl, er_sub _ _ gb, er_sub _ _ gs, small64k (by omega), fun C hC => ?_⟩
            have sC := same_new (o := .lst (xb ++ xs)) hC
            have pV : Paired (RowV (er b h12)) (xb ++ xs) wd.ves := pair_app pb ps
            have lV := Paired.length pV
            refine ⟨C, rfl, ⟨_, .of upd_same⟩, fun D hD => lc_mapV (K := K) (σ := [some (.ref a), some (.int (0 + (i : Nat))), some (.ref b), some (.bl (decide (V.int ah = V.int 0))), some (.ref R), some (.ref wa), some (.ref t), some (.ref p), some (.ref lf), some (.ref g), some (.ref T10), v11, v12, v13, v14, v15, v16, none, none, none])
              (ys := (wd.ves.map (·.name)).map V.str) upd_same hD (by omega) (by rw [List.length_map, List.length_map]; exact lV) ?_ gName_m fun h13 s13 gD13 => ?_⟩
            · intro j x y H' h1 h2 s' Q' q
              obtain ⟨v, hv, u, rfl, gu⟩ := pair_l pV h1
              obtain ⟨z, hz, rfl⟩ := map_at h2
              obtain ⟨v', hv', rfl⟩ := map_at hz
              rw [hv] at hv'
              cases hv'
              obtain ⟨rest, er_⟩ : ∃ rest, v.row = .str v.name :: rest := by unfold Ves.row; cases v.isB <;> exact ⟨_, rfl⟩
              have gu' := s' _ _ (sC _ _ (er_sub _ _ gu))
              rw [er_] at gu'
              exact ⟨rfl, _, rfl, u, _, _, _, rfl, rfl, .of gu', atI_nat (j := 0) rfl, q H' (Same.refl _)⟩
            have s1213 := sC.trans s13
            -- a new name
            refine ⟨szOf rfl, fun C2 hC2 => ?_⟩
            have sC2 := same_new (o := .lst (cands.map V.str)) hC2
            have gDC := sC2 _ _ gD13
            refine ⟨C2, rfl, ⟨_, .of upd_same⟩, fun D2 hD2 => lc_list (K := K) (a := C2) (xs := cands.map V.str) (σ := [some (.ref a), some (.int (0 + (i : Nat))), some (.ref b), some (.bl (decide (V.int ah = V.int 0))), some (.ref R), some (.ref wa), some (.ref t), some (.ref p), some (.ref lf), some (.ref g), some (.ref T10), some (.ref D), v12, v13, v14, v15, v16, none, none, none])
              (fun j H' => Same (upd h13 C2 (.lst (cands.map V.str))) H' ∧ H' D2 = some (.lst (((cands.take j).filter fun x => !decide (x ∈ wd.ves.map (·.name))).map V.str))) ⟨same_new hD2, upd_same⟩ (fun j H' _ e => .of (e.1 _ _ upd_same)) ?_ ?_⟩
            · rintro j y H' hj ⟨s', gD2⟩
              obtain ⟨x, hx, rfl⟩ := map_at hj
              have hj2 := (List.getElem?_eq_some_iff.mp hx).1
              refine ⟨rfl, _, rfl, _, rfl, D, _, rfl, .inl (.of (s' _ _ gDC)), rfl, all_flat_str _, _, rfl, ?_⟩
              show if (!inV (V.str x) ((wd.ves.map (·.name)).map V.str)) = true then _ else _
              rw [inV_str, take_succ_of hx, List.filter_append]
              have c7 : cands.length = 7 := rfl
              have fl := List.length_filter_le (fun x => !decide (x ∈ wd.ves.map (·.name))) (cands.take j)
              rw [List.length_take] at fl
              by_cases e : x ∈ wd.ves.map (·.name)
              · refine ifF (by rw [decide_eq_true e]; rfl) ⟨s', ?_⟩
                rw [List.filter_cons_of_neg (by rw [decide_eq_true e]; decide), List.filter_nil, List.append_nil]
                exact gD2
              · refine ifT (by rw [decide_eq_false e]; rfl) ⟨_, rfl, _, gD2, by rw [List.length_map]; exact small64l (by omega), s'.atFresh hD2, ?_⟩
                rw [upd_same, List.filter_cons_of_pos (by rw [decide_eq_false e]; decide), List.filter_nil, List.map_append]
                rfl
            · rintro h14 ⟨s14, gD14⟩
              rw [List.length_map, List.take_length] at gD14
              obtain ⟨nm, rest, hF⟩ : ∃ nm rest, (cands.filter fun x => !decide (x ∈ wd.ves.map (·.name))) = nm :: rest := by
                cases hf : cands.filter fun x => !decide (x ∈ wd.ves.map (·.name)) with
                | cons x r => exact ⟨x, r, rfl⟩
                | nil =>
                  exfalso
                  rw [List.filter_eq_nil_iff] at hf
                  have := few_in cands_nd (D := wd.ves.map (·.name)) fun x hx => by simpa using hf x hx
                  rw [List.length_map] at this
                  have : 7 ≤ wd.ves.length := this
                  omega
              have hnm : nm ∈ cands ∧ nm ∉ wd.ves.map (·.name) := by
                have : nm ∈ cands.filter fun x => !decide (x ∈ wd.ves.map (·.name)) := by rw [hF]; exact List.mem_cons_self ..
                obtain ⟨q1, q2⟩ := List.mem_filter.mp this
                exact ⟨q1, by simpa using q2⟩
              rw [hF] at gD14
              refine ⟨D2, _, 0, .str nm, rfl, rfl, .of gD14, atI_nat (j := 0) rfl, ?_⟩
              have s1214 := s1213.trans (sC2.trans s14)
              have B14 := B12.mono s1214
              have D14 := D12.mono s1214
              have TG14 := TG12.mono s1214
              have e1214 : Same (er b h12) (er b h14) := er_lift (er_sub.trans s1214) er_at
              have S14 := S12.trans e1214
              have gR14 := e1214 _ _ gR
              have L14 := L12.mono e1214
              obtain ⟨p0, pr, hp0⟩ : ∃ p0 pr, wd.ports = p0 :: pr := by
                have := O.p0
                cases hp : wd.ports with
                | nil => rw [hp] at this; exact absurd this (by decide)
                | cons x r => exact ⟨x, r, rfl⟩
              have gp14 := L14.hp
              rw [hp0] at gp14
              -- the new breaker
              refine ⟨_, rfl, _, rfl, R, _, _, _, rfl, rfl, .of (er_sub _ _ gR14), rfl, lp, _, 0, _, rfl, rfl, .of (er_sub _ _ gp14), atI_nat (j := 0) rfl, _, rfl, R, _, _, _, rfl, rfl, .of (er_sub _ _ gR14), rfl, _, rfl, b, 60, _, rfl, B14, by decide, by decide, by decide, fun q1 h15 q10 q11 e15 B15 => ?_⟩
              refine ⟨_, _, rfl, rfl, _, rfl, b, 5, _, rfl, B15, by decide, by decide, by decide, fun q2 h16 q20 q21 e16 B16 => ?_⟩
              refine ⟨_, rfl, b, 40, _, rfl, B16, by decide, by decide, by decide, fun q3 h17 q30 q31 e17 B17 => ?_⟩
              refine ⟨_, _, rfl, rfl, szOf rfl, fun Mo hMo => ?_⟩
              have e1417 : er b h17 = er b h14 := e17.trans (e16.trans e15)
              obtain ⟨hy, hys, hb14⟩ := B14.head
              have D17 : DoneAt (er b h17) p (walkT wd ts).gone := by rw [e1417]; exact D14.nb hb14
              have TG17 : TableAt (er b h17) g (tabOf (walkT wd ts) wd.ves) := by rw [e1417]; exact TG14.nb hb14
              have gR17 : er b h17 R = some (.lst [.int wd.begin_, .ref lp, .ref lc, .ref lb, .ref ls]) := by rw [e1417]; exact gR14
              have L17 : RowsL (er b h17) wd lp lc lb ls := by rw [e1417]; exact L14
              have S17 : Same H (er b h17) := by rw [e1417]; exact S14
              generalize hnv : (⟨true, nm, p0, p0, wd.begin_, 10 + q1, q2, 1 + q3⟩ : Ves) = nv
              have nB : nv.isB = true := by rw [← hnv]
              have nvn : nv.name = nm := by rw [← hnv]
              have nvp : nv.port ∈ wd.ports := by rw [← hnv, hp0]; exact List.mem_cons_self ..
              have nvr : nv.row = [.str nm, .str p0, .int wd.begin_, .int (10 + q1), .int q2, .int (1 + q3)] := by rw [← hnv]; rfl
              have nvo : nv.Ok := by
                rw [← hnv]
                have := O.b0; have := O.b1
                exact ⟨cands_ok nm hnm.1, O.pn p0 (by rw [hp0]; exact List.mem_cons_self ..), (fun z => nomatch z), O.b0, O.b1, by dsimp only; omega, by dsimp only; omega, by dsimp only; omega, by dsimp only; omega, fun _ => by dsimp only; omega, fun _ => by dsimp only; omega⟩
              have nn : nv.name ∉ wd.ves.map (·.name) := by rw [nvn]; exact hnm.2
              have sM := same_new (o := .tup [.str nm, .str p0, .int wd.begin_, .int (10 + q1), .int q2, .int (1 + q3)]) hMo
              have gMo : upd h17 Mo (.tup [.str nm, .str p0, .int wd.begin_, .int (10 + q1), .int q2, .int (1 + q3)]) Mo = some (.tup nv.row) := by rw [nvr]; exact upd_same
              have B18 := B17.mono sM
              have e1718 := er_lift (er_sub.trans sM) (er_at (F := b) (H := h17))
              generalize upd h17 Mo (.tup [.str nm, .str p0, .int wd.begin_, .int (10 + q1), .int q2, .int (1 + q3)]) = h18 at sM gMo B18 e1718 ⊢
              refine ⟨fun σ' H' => ∃ brs2, σ' = [some (.ref a), some (.int (0 + (i : Nat))), some (.ref b), some (.bl (decide (V.int ah = V.int 0))), some (.ref R), some (.ref wa), some (.ref t), some (.ref p), some (.ref lf), some (.ref g), some (.ref T10), some (.ref D), some (.str nm), some (.ref Mo), v14, v15, v16, none, none, none] ∧
                (brs2 = nv :: wd.brs ∨ brs2 = wd.brs ++ [nv]) ∧ Box H' b 1004 ∧ RowsAt (er b H') R { wd with brs := brs2 } ∧ DoneAt H' p (walkT wd ts).gone ∧ TableAt H' g (tabOf (walkT wd ts) wd.ves) ∧ Same H (er b H'), ?_, ?_⟩
              · have L18 := L17.mono e1718
                obtain ⟨gp', ⟨xc', gc', pc'⟩, ⟨xb', gb', pb'⟩, ⟨xs', gs', ps'⟩⟩ := id L18
                have gR18 := e1718 _ _ gR17
                have lxb' := Paired.length pb'
                refine ⟨_, rfl, szOf rfl, fun M1 hM1 => ?_⟩
                have t1 := same_new (o := .lst [.ref Mo]) hM1
                refine ⟨_, rfl, R, _, _, _, rfl, rfl, .of (t1 _ _ (er_sub _ _ gR18)), rfl, M1, lb, _, xb', rfl, rfl, upd_same, t1 _ _ (er_sub _ _ gb'), small64k (by show 1 + xb'.length ≤ 4096; omega), fun L1 hL1 => ?_⟩
                have t2 := t1.trans (same_new (o := .lst ([.ref Mo] ++ xb')) hL1)
                refine ⟨_, rfl, R, _, _, _, rfl, rfl, .of (t2 _ _ (er_sub _ _ gR18)), rfl, _, rfl, szOf rfl, fun M2 hM2 => ?_⟩
                have t3 := t2.trans (same_new (o := .lst [.ref Mo]) hM2)
                refine ⟨lb, M2, xb', _, rfl, rfl, t3 _ _ (er_sub _ _ gb'), upd_same, small64k (by show xb'.length + 1 ≤ 4096; omega), fun L2 hL2 => ⟨szOf rfl, fun LL hLL => ?_⟩⟩
                have t4 := (same_new (o := .lst (xb' ++ [.ref Mo])) hL2)
                have t5 := (same_new (o := .lst [.ref L1, .ref L2]) hLL)
                have tA := (t3.trans t4).trans t5
                have gL1 := t5 _ _ (t4 _ _ (same_new (o := .lst [.ref Mo]) hM2 _ _ (upd_same (H := upd h18 M1 (.lst [.ref Mo])) (a := L1) (o := .lst ([.ref Mo] ++ xb')))))
                have gL2 := t5 _ _ (upd_same (H := upd (upd (upd h18 M1 (.lst [.ref Mo])) L1 (.lst ([.ref Mo] ++ xb'))) M2 (.lst [.ref Mo])) (a := L2) (o := .lst (xb' ++ [.ref Mo])))
                have gLL : upd (upd (upd (upd (upd h18 M1 (.lst [.ref Mo])) L1 (.lst ([.ref Mo] ++ xb'))) M2 (.lst [.ref Mo])) L2 (.lst (xb' ++ [.ref Mo]))) LL (.lst [.ref L1, .ref L2]) LL = some (.lst [.ref L1, .ref L2]) := upd_same
                generalize upd (upd (upd (upd (upd h18 M1 (.lst [.ref Mo])) L1 (.lst ([.ref Mo] ++ xb'))) M2 (.lst [.ref Mo])) L2 (.lst (xb' ++ [.ref Mo]))) LL (.lst [.ref L1, .ref L2]) = h19 at tA gL1 gL2 gLL ⊢
                have tE := er_lift (er_sub.trans tA) (er_at (F := b) (H := h18))
                obtain ⟨Lx, xb2, brs2, hat, gLx, pLx, hbr⟩ : ∃ Lx xb2 brs2, atI [V.ref L1, .ref L2] (if decide (V.int ah = V.int 0) = true then 1 else 0) = some (.ref Lx) ∧ h19 Lx = some (.lst xb2) ∧ Paired (RowV h19) xb2 brs2 ∧ (brs2 = nv :: wd.brs ∨ brs2 = wd.brs ++ [nv]) := by
                  have gMo19 := tA _ _ gMo
                  have pb19 : Paired (RowV h19) xb' wd.brs := pb'.to fun _ _ q => (q.mono er_sub).mono tA
                  by_cases c : V.int ah = V.int 0
                  · exact ⟨L2, _, wd.brs ++ [nv], by rw [if_pos (decide_eq_true c)]; rfl, gL2, Paired.snoc pb19 ⟨Mo, rfl, gMo19⟩, .inr rfl⟩
                  · exact ⟨L1, _, nv :: wd.brs, by rw [if_neg (by rw [decide_eq_false c]; decide)]; rfl, gL1, .cons ⟨Mo, rfl, gMo19⟩ pb19, .inl rfl⟩
                have gR19 := tE _ _ gR18
                refine ⟨_, rfl, .inr ⟨_, rfl, LL, _, _, .ref Lx, rfl, rfl, .of gLL, hat, ?_⟩⟩
                refine ⟨_, rfl, R, _, _, _, rfl, rfl, er_sub _ _ gR19, rfl, ?_⟩
                have B19 := B18.mono tA
                obtain ⟨by_, bys, hb19⟩ := B19.head
                have gLxE := nb_lst hb19 gLx (pair_refs pLx fun _ _ ⟨u, e, _⟩ => ⟨u, e⟩)
                have L19 : RowsL (er b h19) { wd with brs := brs2 } lp lc Lx ls := by
                  have L := L18.mono tE
                  exact ⟨L.hp, L.hc, ⟨xb2, gLxE, pLx.to fun _ _ ⟨u, e, q⟩ => ⟨u, e, nb_tup hb19 q⟩⟩, L.hs⟩
                refine ⟨brs2, rfl, hbr, (B19.st nRb).le (by decide), ⟨lp, lc, Lx, ls, by rw [er_ne nRb, upd_same]; rfl, (L19.nb gR19).mono (er_set nRb)⟩, ?_, ?_, ?_⟩
                · exact (((D17.mono e1718).mono tE).nb gR19).mono ((er_set nRb).trans er_sub)
                · exact (((TG17.mono e1718).mono tE).nb gR19).mono ((er_set nRb).trans er_sub)
                · have HR : H R = none := S2.noneAt R0
                  exact (er_lift ((S17.trans e1718).trans tE) HR).trans (er_set nRb)
              · rintro σ' h20 ⟨brs2, rfl, hbr, B20, RA20, D20, TG20, S20⟩
                have M := more_of O nB nn hbr
                have O2 := ok_more O nb nB nvo nvp nn hbr
                generalize hwd2 : ({ wd with brs := brs2 } : Wd) = wd2 at M O2 RA20
                have vl2 := O2.vl
                have c12 : 1 ≤ wd2.chans.length := by rw [M.ch]; exact c1
                have nvm : nv ∈ wd2.ves := M.pv.mem_iff.mpr (List.mem_cons_self ..)
                -- its row
                refine ⟨_, rfl, R, wd2, rfl, RA20.mono er_sub, O2, fun h21 lv xv s21 hlv glv pv => ?_⟩
                have lpv := Paired.length pv
                refine ⟨lv, rfl, ⟨_, .of glv⟩, fun D3 hD3 => lc_list (K := K) (a := lv) (xs := xv) (σ := [some (.ref a), some (.int (0 + (i : Nat))), some (.ref b), some (.bl (decide (V.int ah = V.int 0))), some (.ref R), some (.ref wa), some (.ref t), some (.ref p), some (.ref lf), some (.ref g), some (.ref T10), some (.ref D), some (.str nm), some (.ref Mo), v14, v15, v16, none, none, none])
                  (fun j H' => Same h21 H' ∧ ∃ acc, H' D3 = some (.lst acc) ∧ acc.length ≤ j ∧ (∀ y ∈ acc, ∃ x ∈ wd2.ves, VRow wd2 h21 y x) ∧ (nv ∈ wd2.ves.take j → acc ≠ [])) ⟨same_new hD3, [], upd_same, Nat.le_refl _, (fun y h => nomatch h), (fun h => nomatch h)⟩ (fun j H' _ e => .of (e.1 _ _ glv)) ?_ ?_⟩
                · rintro j y H' hj ⟨s', acc, gD3, al, ar, an⟩
                  obtain ⟨x, hx, u, rfl, gu⟩ := pair_l pv hj
                  have hj2 := (List.getElem?_eq_some_iff.mp hx).1
                  have gu' := s' _ _ gu
                  unfold Wd.vrow at gu'
                  refine ⟨rfl, _, rfl, u, _, _, _, rfl, rfl, .of gu', rfl, _, rfl, rfl, _, rfl, ?_⟩
                  by_cases e : V.str x.name = V.str nm
                  · refine ifT (decT e) ⟨_, rfl, acc, gD3, small64l (by omega), s'.atFresh hD3, _, upd_same, by rw [List.length_append]; exact Nat.succ_le_succ al, fun z hz => ?_, fun _ z => ?_⟩
                    · rcases List.mem_append.mp hz with hz | hz
                      · exact ar z hz
                      · rw [List.mem_singleton.mp hz]; exact ⟨x, List.mem_of_getElem? hx, u, rfl, gu⟩
                    · exact absurd z (by simp)
                  · refine ifF (decF e) ⟨s', acc, gD3, by omega, ar, fun h => ?_⟩
                    rw [take_succ_of hx] at h
                    rcases List.mem_append.mp h with h | h
                    · exact an h
                    · exact absurd (by rw [← List.mem_singleton.mp h, nvn]) e
                · rintro h22 ⟨s22, acc, gD3, al, ar, an⟩
                  rw [lpv] at al an
                  rw [List.take_length] at an
                  obtain ⟨y0, ys0, hacc⟩ : ∃ y ys, acc = y :: ys := by
                    cases hq : acc with
                    | nil => exact absurd hq (an nvm)
                    | cons y ys => exact ⟨y, ys, rfl⟩
                  obtain ⟨xv0, hxv0, vt, evt, gvt⟩ := ar y0 (by rw [hacc]; exact List.mem_cons_self ..)
                  rw [hacc] at gD3
                  refine ⟨D3, _, 0, y0, rfl, rfl, .of gD3, atI_nat (j := 0) rfl, ?_⟩
                  rw [evt]
                  have s2022 := s21.trans s22
                  have gvt22 := s22 _ _ gvt
                  -- the table widened
                  obtain ⟨kvs, ggv, pgv⟩ := TG20.mono s2022
                  refine ⟨_, rfl, g, kvs, rfl, .inl ggv, fun W1 hW1 => ?_⟩
                  have sW := same_new (o := .dK kvs) hW1
                  have s2023 := s2022.trans sW
                  have B23 := B20.mono s2023
                  have e2023 := er_lift (er_sub.trans s2023) (er_at (F := b) (H := h20))
                  have nW1 : W1 ≠ b := (B20.mono s2022).ne hW1
                  have W10' : H W1 = none := by
                    have := (S20.trans er_sub).trans s2022
                    exact this.noneAt hW1
                  have TW23 : TableAt (upd h22 W1 (.dK kvs)) W1 (tabOf (walkT wd ts) wd.ves) := ⟨kvs, upd_same, pgv.to fun _ _ q => q.mono sW⟩
                  have gvt23 := sW _ _ gvt22
                  have RA23 := RA20.mono e2023
                  have D23 := D20.mono s2023
                  have S23 := S20.trans e2023
                  generalize upd h22 W1 (.dK kvs) = h23 at TW23 gvt23 B23 RA23 D23 S23 ⊢
                  obtain ⟨_, _, hb23⟩ := B23.head
                  refine ⟨fun σ' H' => ∃ es : List Ent, σ' = [some (.ref a), some (.int (0 + (i : Nat))), some (.ref b), some (.bl (decide (V.int ah = V.int 0))), some (.ref R), some (.ref wa), some (.ref t), some (.ref p), some (.ref lf), some (.ref g), some (.ref T10), some (.ref D), some (.str nm), some (.ref Mo), some (.ref vt), some (.ref W1), v16, none, none, none] ∧ EntsOk wd.begin_ (wd.chans.map (·.name)) es ∧ es.length ≤ 5 ∧ RowsAt H' R wd2 ∧ DoneAt H' p (walkT wd ts).gone ∧ TableAt H' W1 (tabOf (walkT wd ts) wd.ves ++ [(nm, es)]) ∧ Same H H', ?_, ?_⟩
                  · refine ⟨_, rfl, _, rfl, _, rfl, _, rfl, b, 5, _, rfl, B23, by decide, by decide, by decide, fun q5 h24 q50 q51 e24 B24 => ⟨_, _, rfl, rfl, b, R, vt, wd2, xv0, 1 + q5, _, rfl, B24, by decide, by rw [e24]; exact RA23, O2, c12, ⟨vt, rfl, by rw [e24]; exact nb_tup hb23 gvt23⟩, hxv0, by omega, by omega, fun h25 le es s25 B25 ea nle le0 eo el => ?_⟩⟩
                    have s2325 : Same (er b h23) h25 := by rw [← e24]; exact s25
                    obtain ⟨kvs', gW, pW⟩ := (TW23.nb hb23).mono s2325
                    have nk : nv.name ∉ (tabOf (walkT wd ts) wd.ves).map (·.1) := fun z => nn ((tabOf_sub _ _).subset z)
                    have tl := (tabOf_sub (walkT wd ts) wd.ves).length_le
                    rw [List.length_map, List.length_map] at tl
                    have hvn : valV kvs' (Sum.inr nm : Key) = none := by
                      rcases tb_get nm pW with ⟨q, _⟩ | ⟨l', q, _⟩
                      · exact q
                      · exfalso
                        cases q2 : kvs'.find? fun kv => decide (kv.1 = (Sum.inr nm : Key)) with
                        | none => unfold valV at q; rw [q2] at q; cases q
                        | some kv =>
                          obtain ⟨p', h3, h4⟩ := paired_mem pW kv (List.mem_of_find?_eq_some q2)
                          have h5 : decide (kv.1 = (Sum.inr nm : Key)) = true := List.find?_some (p := fun kv : Key × V => decide (kv.1 = (Sum.inr nm : Key))) q2
                          exact nk (by rw [nvn]; exact List.mem_map.mpr ⟨p', h3, Sum.inr.inj (h4.1.symm.trans (of_decide_eq_true h5))⟩)
                    refine ⟨_, rfl, _, rfl, W1, _, rfl, DPut.k (k := (Sum.inr nm : Key)) gW (by rw [Paired.length pW]; exact small64l (by omega)), ?_⟩
                    have gWn : ∀ {x : Addr} {o : HO}, h25 x = some o → (∀ kk, o ≠ .dK kk) → upd h25 W1 (.dK (putK kvs' (Sum.inr nm) (.ref le))) x = some o := fun {x o} e n => by
                      rw [upd_ne fun z => by rw [z, gW] at e; exact n _ (Option.some.inj e).symm]; exact e
                    have D25 := (D23.nb hb23).mono s2325
                    refine ⟨es, rfl, by rw [M.bg, M.ch] at eo; exact eo, by omega, ?_, ?_, ?_, ?_⟩
                    · obtain ⟨lp', lc', lb', ls', gR', gp', ⟨xc', gc', pc'⟩, ⟨xb', gb', pb'⟩, ⟨xs', gs', ps'⟩⟩ := RA23.mono s2325
                      exact ⟨lp', lc', lb', ls', gWn gR' (fun _ z => by cases z), gWn gp' (fun _ z => by cases z), ⟨xc', gWn gc' (fun _ z => by cases z), pc'.to fun _ _ ⟨u, e, q⟩ => ⟨u, e, gWn q (fun _ z => by cases z)⟩⟩,
                        ⟨xb', gWn gb' (fun _ z => by cases z), pb'.to fun _ _ ⟨u, e, q⟩ => ⟨u, e, gWn q (fun _ z => by cases z)⟩⟩, ⟨xs', gWn gs' (fun _ z => by cases z), ps'.to fun _ _ ⟨u, e, q⟩ => ⟨u, e, gWn q (fun _ z => by cases z)⟩⟩⟩
                    · obtain ⟨k', xs', a1, a2, a3⟩ := D25
                      exact ⟨k', xs', gWn a1 (fun _ z => by cases z), gWn a2 (fun _ z => by cases z), a3.to fun _ _ ⟨u, e, q⟩ => ⟨u, e, gWn q (fun _ z => by cases z)⟩⟩
                    · refine ⟨_, by rw [upd_same, putK_new _ hvn], Paired.snoc (pW.to fun _ _ ⟨a1, l1, a2, a3⟩ => ⟨a1, l1, a2, a3.other gW (fun _ z => by cases z) fun _ z => by cases z⟩) ⟨rfl, le, rfl, (ea.mono er_sub).other gW (fun _ z => by cases z) fun _ z => by cases z⟩⟩
                    · exact (S23.trans s2325).atFresh W10'
                  · rintro σ' h26 ⟨es, rfl, eo, el, RA26, D26, TW26, S26⟩
                    have nk : nv.name ∉ (tabOf (walkT wd ts) wd.ves).map (·.1) := fun z => nn ((tabOf_sub _ _).subset z)
                    have tl := (tabOf_sub (walkT wd ts) wd.ves).length_le
                    rw [List.length_map, List.length_map] at tl
                    rw [← nvn] at TW26
                    have TOw : TblOk wd2 (tabOf (walkT wd ts) wd.ves ++ [(nv.name, es)]) := wide_ok M O TOg (by omega) eo
                    have Ew : entNum (tabOf (walkT wd ts) wd.ves ++ [(nv.name, es)]) wd2.ves ≤ 60 := by
                      rw [wide_num M nk es]
                      have := tab_num O TOt it
                      omega
                    -- the second walk
                    refine ⟨_, rfl, R, wd2, rfl, RA26, O2, fun h27 wb s27 W27 => ⟨_, rfl, ?_⟩⟩
                    intro p4 dz4 hp4 hdz4 ne4
                    have sx4 : Same h27 (upd (upd h27 dz4 (.own p4)) p4 (.ins cWalk dz4 [])) := (same_new hdz4).atFresh hp4
                    refine ⟨p4, dz4, wb, W1, wd2, _, rfl, upd_same, W27.mono sx4, O2, (TW26.mono s27).mono sx4, TOw, Ew, fun h28 k4 ts4 bu4 SO4 it4 S28 O28 => ⟨rfl, ?_⟩⟩
                    have s28 : Same h27 h28 := fun b o e => bu4 b o (sx4 b o e) (ne_of_none e hp4)
                    have s2628 := s27.trans s28
                    obtain ⟨SI, nd4, sf4⟩ := walk_more M O O2 TOt eo it (by omega) it2 TOw it4
                    obtain ⟨_, eg, _, _⟩ := walk_again O TOt it (by omega) it2
                    have l4 : ts4.length ≤ 60 := by
                      have := it4.perm.length_eq
                      rw [rowsW_len, told_num _ wd2.ves wd2.ves fun v h => h] at this
                      omega
                    obtain ⟨kp, xp, hpi, hpg, ppg⟩ := D26.mono s2628
                    refine ⟨_, rfl, p, kp.dx, _, rfl, hpi, rfl, p, _, rfl, ⟨kp, xp, hpi, hpg, ppg⟩, fun m1 x1 hm1 pg1 => ?_⟩
                    have t1 := same_new (o := .lst x1) hm1
                    have S29 := S28.mono t1
                    refine ⟨_, rfl, p4, k4.dx, _, rfl, S29.T.at_, rfl, p4, _, rfl, S29.done, fun m2 x2 hm2 pg2 => ?_⟩
                    have t2 := same_new (o := .lst x2) hm2
                    refine ⟨m1, m2, x1, x2, _, _, rfl, t2 _ _ upd_same, (pg1.to fun _ _ q => (q.mono t1).mono t2), upd_same, (pg2.to fun _ _ q => q.mono t2), by have := O6.gn; omega, by have := O28.gn; omega, nd4, (by rw [← eg]; exact SI.gn), fun h30 s30 => ⟨true, rfl, ifF rfl ?_⟩⟩
                    have s2830 := (t1.trans t2).trans s30
                    have S30 := S28.mono s2830
                    refine ⟨_, rfl, _, rfl, p4, k4.dx, _, rfl, S30.T.at_, rfl, p4, _, rfl, S30.done, fun m3 x3 hm3 pg3 => ?_⟩
                    have t3 := same_new (o := .lst x3) hm3
                    refine ⟨R, m3, wd2, x3, _, rfl, ((RA26.mono s2628).mono s2830).mono t3, O2, upd_same, (pg3.to fun _ _ q => q.mono t3), sf4, fun h31 s31 => ⟨true, rfl, ifF rfl ?_⟩⟩
                    have s3031 := t3.trans s31
                    have S31 := S30.mono s3031
                    have S26' : Same H h31 := ((S26.trans s2628).trans s2830).trans s3031
                    -- whose faults they are
                    refine ⟨_, rfl, p4, k4.dx, _, rfl, S31.T.at_, rfl, p4, wd2, k4, _, rfl, S31, fun m5 x5 hm5 pw5 => ?_⟩
                    have t5 := same_new (o := .lst x5) hm5
                    refine ⟨m5, rfl, ⟨_, .of upd_same⟩, fun D5 hD5 => lc_list (K := K) (a := m5) (xs := x5) (σ := [some (.ref a), some (.int (0 + (i : Nat))), some (.ref b), some (.bl (decide (V.int ah = V.int 0))), some (.ref R), some (.ref wa), some (.ref t), some (.ref p), some (.ref lf), some (.ref g), some (.ref T10), some (.ref D), some (.str nm), some (.ref Mo), some (.ref vt), some (.ref W1), some (.ref p4), none, none, none])
                      (fun j H' => Same (upd h31 m5 (.lst x5)) H' ∧ H' D5 = some (.lst [])) ⟨same_new hD5, upd_same⟩ (fun j H' _ e => .of (e.1 _ _ upd_same)) ?_ ?_⟩
                    · rintro j y H' hj ⟨s', gD5⟩
                      obtain ⟨f, hf, u, rfl, gu⟩ := pair_l pw5 hj
                      have fn := SI.wr f (List.mem_of_getElem? hf)
                      refine ⟨rfl, _, rfl, u, _, _, _, rfl, rfl, .of (s' _ _ (t5 _ _ gu)), rfl, _, rfl, rfl, _, rfl, ifF ?_ ⟨s', gD5⟩⟩
                      show (!decide (V.str f.1 = V.str nm)) = false
                      rw [decide_eq_true (by rw [fn, nvn])]; rfl
                    · rintro h32 ⟨s32, gD5⟩
                      refine ⟨szOf rfl, fun z hz => ⟨D5, z, [], rfl, rfl, .of (same_new hz _ _ gD5), .of upd_same, _, rfl, ifF rfl ?_⟩⟩
                      exact ⟨_, _, _, _, _, _, _, _, _, _, _, _, _, _, _, _, rfl, ((S26'.trans t5).trans s32).trans (same_new hz)⟩
end
end Ik


namespace Ik
open PySem PySem.Spec L2
open PySem.W (Frag)
theorem law_of {P : Program} {w : World} {K : Frag} {mg : Str → Option Value} {base : Heap} (T : Txt K mg) : ∃ fd, Fun K "law" "law" S_law a_law fd ∧ FnOk P w K mg base CX0 11 a_law fd P_law (sp_law K) := by
  have D_is_whole := ok_is_whole (P := P) (w := w) (base := base) T
  have D_is_within := ok_is_within (P := P) (w := w) (base := base) T D_is_whole
  have D_is_name := ok_is_name (P := P) (w := w) (base := base) T
  have D_need_names := ok_need_names (P := P) (w := w) (base := base) T D_is_name
  have D_need_numbers := ok_need_numbers (P := P) (w := w) (base := base) T D_is_within
  have D_Channel_init := ok_Channel_init (P := P) (w := w) (base := base) T D_need_names D_need_numbers
  have D_Channel_ends := ok_Channel_ends (P := P) (w := w) (base := base) T
  have D_Channel_beyond := ok_Channel_beyond (P := P) (w := w) (base := base) T
  have D_Vessel_settle := ok_Vessel_settle (P := P) (w := w) (base := base) T
  have D_Vessel_init := ok_Vessel_init (P := P) (w := w) (base := base) T D_need_names D_need_numbers D_Vessel_settle
  have D_Breaker_init := ok_Breaker_init (P := P) (w := w) (base := base) T D_need_numbers D_Vessel_init
  have D_Ship_init := ok_Ship_init (P := P) (w := w) (base := base) T D_need_names D_Vessel_init
  have D_Vessel_thins := ok_Vessel_thins (P := P) (w := w) (base := base) T
  have D_Breaker_thins := ok_Breaker_thins (P := P) (w := w) (base := base) T
  have D_Vessel_lets := ok_Vessel_lets (P := P) (w := w) (base := base) T
  have D_Ice_init := ok_Ice_init (P := P) (w := w) (base := base) T D_is_within
  have D_Ice_need_hour := ok_need_hour (P := P) (w := w) (base := base) T D_is_within
  have D_Ice_need_breaking := ok_need_breaking (P := P) (w := w) (base := base) T D_is_within
  have D_Ice_grown := ok_grown (P := P) (w := w) (base := base) T
  have D_Ice_breakings := ok_breakings (P := P) (w := w) (base := base) T
  have D_Ice_rows := ok_rows (P := P) (w := w) (base := base) T D_Ice_grown
  have D_Ice_bases := ok_bases (P := P) (w := w) (base := base) T D_Ice_rows
  have D_Ice_thick := ok_Ice_thick (P := P) (w := w) (base := base) T D_Ice_need_hour D_Ice_grown D_Ice_bases
  have D_Ice_break_at := ok_break_at (P := P) (w := w) (base := base) T D_Ice_need_breaking D_Ice_breakings
  have D_is_list := ok_is_list (P := P) (w := w) (base := base) T
  have D_need_unlike := ok_need_unlike (P := P) (w := w) (base := base) T
  have D_need_ports := ok_need_ports (P := P) (w := w) (base := base) T
  have D_need_kinds := ok_need_kinds (P := P) (w := w) (base := base) T D_is_list D_is_name
  have D_World_begin_hour := ok_begin_hour (P := P) (w := w) (base := base) T
  have D_World_channels := ok_channels (P := P) (w := w) (base := base) T
  have D_World_vessels := ok_vessels (P := P) (w := w) (base := base) T
  have D_World_channel := ok_channel (P := P) (w := w) (base := base) T
  have D_World_vessel := ok_vessel (P := P) (w := w) (base := base) T D_World_vessels
  have D_World_from_hour := ok_from_hour (P := P) (w := w) (base := base) T
  have D_World_init := ok_World_init (P := P) (w := w) (base := base) T D_is_within D_need_kinds D_need_unlike D_need_ports
  have D_Waters_ice := ok_Waters_ice (P := P) (w := w) (base := base) T
  have D_Waters_thick := ok_Waters_thick (P := P) (w := w) (base := base) T D_Waters_ice D_Ice_thick
  have D_Waters_init := ok_Waters_init (P := P) (w := w) (base := base) T D_World_channels D_World_begin_hour D_Ice_init
  have D_is_entry := ok_is_entry (P := P) (w := w) (base := base) T D_is_within
  have D_are_entries := ok_are_entries (P := P) (w := w) (base := base) T D_is_entry
  have D_is_table := ok_is_table (P := P) (w := w) (base := base) T D_World_vessels D_World_channels D_World_begin_hour D_are_entries
  have D_table_told := ok_table_told (P := P) (w := w) (base := base) T D_World_vessels D_is_table
  have D_turns_of := ok_turns_of (P := P) (w := w) (base := base) T D_World_vessels D_World_channels
  have D_Leg_init := ok_Leg_init (P := P) (w := w) (base := base) T
  have D_Leg_arrives := ok_Leg_arrives (P := P) (w := w) (base := base) T
  have D_Leg_lands := ok_Leg_lands (P := P) (w := w) (base := base) T D_Channel_beyond
  have D_Walk_faults := ok_faults (P := P) (w := w) (base := base) T
  have D_Walk_done := ok_done (P := P) (w := w) (base := base) T
  have D_Walk_at_end := ok_at_end (P := P) (w := w) (base := base) T D_World_vessel D_World_from_hour D_Leg_lands D_Leg_arrives
  have D_Walk_word_for := ok_word_for (P := P) (w := w) (base := base) T D_Walk_at_end D_Channel_ends D_Vessel_lets
  have D_Walk_look := ok_look (P := P) (w := w) (base := base) T D_World_vessel D_Walk_at_end D_Waters_thick D_Walk_word_for D_Leg_init D_Breaker_thins D_Vessel_thins D_Waters_ice D_Ice_break_at
  have D_Faulty_init := ok_Faulty_init (P := P) (w := w) (base := base) T
  have D_Walk_init := ok_Walk_init (P := P) (w := w) (base := base) T D_World_vessels D_Waters_init D_turns_of D_table_told D_Walk_look D_World_channel
  have D_Walk_table := ok_Walk_table (P := P) (w := w) (base := base) T
  have D_good_walk := ok_good_walk (P := P) (w := w) (base := base) T D_Walk_init D_Walk_faults D_Faulty_init
  have D_l_box := ok_l_box (P := P) (w := w) (base := base) T
  have D_l_take := ok_l_take (P := P) (w := w) (base := base) T
  have D_l_cell := ok_l_cell (P := P) (w := w) (base := base) T
  have D_l_names := ok_l_names (P := P) (w := w) (base := base) T D_l_take
  have D_l_vessels := ok_l_vessels (P := P) (w := w) (base := base) T
  have D_l_world := ok_l_world (P := P) (w := w) (base := base) T D_Channel_init D_Breaker_init D_Ship_init D_World_init
  have D_l_small_world := ok_l_small_world (P := P) (w := w) (base := base) T D_l_take D_l_names
  have D_l_entries := ok_l_entries (P := P) (w := w) (base := base) T D_l_take
  have D_l_table := ok_l_table (P := P) (w := w) (base := base) T D_l_take D_l_vessels D_l_entries
  have D_l_asked := ok_l_asked (P := P) (w := w) (base := base) T D_good_walk D_Walk_done
  have D_l_safe := ok_l_safe (P := P) (w := w) (base := base) T D_l_vessels
  have D_l_kept := ok_l_kept (P := P) (w := w) (base := base) T
  exact ok_law T D_l_cell D_l_box D_l_take D_l_small_world D_l_world D_l_table D_Walk_init D_Walk_faults D_Walk_table D_Walk_done D_l_asked D_l_safe D_l_vessels D_l_entries D_l_kept
theorem facts {P : Program} {w : World} {K : Frag} {h : Heap} {mg : Str → Option Value} {f : Addr} (X : K.In h) (G : h.Ns mainGlobals mg) (hfa : mg ("law" : Str) = some (.ref f)) (c : Says K) :
    ∃ fd : FuncData, (∀ (s : Shared) (v : Value), BindsTo s fd ⟨[v], []⟩ [("_law_script", v)]) ∧ ∀ base : Heap, K.In base → base.Ns mainGlobals mg → FnOk P w K mg base CX0 11 f fd ["_law_script"] (sp_law K) := by
  have T := txt_of X G c
  have e := hfa.symm.trans T.g_law
  cases e
  obtain ⟨fd, F, b⟩ := T.f_law
  refine ⟨fd, ?_, fun base _ _ => ?_⟩
  · obtain ⟨oc, od, kV, doc, pm, an, cdv, ct, osl, rfl, lk, hcd⟩ := F.ex
    exact fun s v => .of_eq rfl
  · obtain ⟨fd2, F2, K2⟩ := law_of (P := P) (w := w) (base := base) T
    obtain ⟨oc, od, kV, doc, pm, an, cdv, ct, osl, e1, lk, hcd⟩ := F.ex
    obtain ⟨oc', od', kV', doc', pm', an', cdv', ct', osl', e1', lk', hcd'⟩ := F2.ex
    have : fd2 = fd := by
      rw [lk] at lk'
      injection lk' with z
      injection z with z1 z2 z3 z4
      injection z3 with z3
      exact z3.symm
    rw [← this]
    exact K2
end Ik


open PySem PySem.W PySem.Calls PyProof.Rows
set_option maxRecDepth 100000 in
set_option maxHeartbeats 0 in
theorem PySem.Challenge.cw_iceopened_k36_whole_more_breaking_holds : PySem.Challenge.rw_iceopened_k36_whole_more_breaking.Holds := by
  w_on; o_law
  refine HandSHeadRun.head_any (r := Ik.R) (q := view Ik.R.prog [78]) (H := Ik.hk) (ob := Ik.obT) (M := 8000) (loose := Ik.los) (d := HandSHeadRun.topDef Ik.R.prog 78) (kwd := []) Ik.obT_eq
    (by kernel_rfl) (fun s => by kernel_rfl) Ik.run (by kernel_rfl) (by kernel_rfl) (by kernel_rfl) (by rfl) (by first | assumption | decide +kernel) (by decide +kernel) ⟨rfl, rfl, rfl, rfl, rfl, by decide +kernel⟩ ?hw ?hc
  case hw => w_witness2
  case hc =>
    refine L2.walk_ofE (l := PySem.Challenge.rw_iceopened_k36_whole_more_breaking) (n := 63) (k := 11) (x := "_law_script") (CX := L2.CX0) rfl (by decide) (by kernel_rfl) ⟨rfl, by decide, by decide⟩ ?F (fun _ _ _ _ z => z)
    intro w mg fa h Y G hmg0
    obtain ⟨K, KX, c⟩ := Y
    have hmg : mg ("law" : PySem.Str) = some (.ref fa) := by
      have e : (HandSHeadRun.topDef Ik.R.prog 78).name = ("law" : PySem.Str) := by kernel_rfl
      rw [← e]
      exact hmg0
    obtain ⟨fd, hb, hF⟩ := Ik.facts (P := (PySem.Challenge.rw_iceopened_k36_whole_more_breaking).prog) (w := w) KX G hmg c
    exact ⟨K, fd, Ik.sp_law K, KX, hb, fun H a ns hl _ hS => ⟨a, ns, rfl, hS, fun _ _ => rfl⟩, hF⟩
#print axioms PySem.Challenge.cw_iceopened_k36_whole_more_breaking_holds


