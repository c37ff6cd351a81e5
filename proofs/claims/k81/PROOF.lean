import PyProof.Rows.All
import Wide.All
import OpenK.AllK
import Wide.FinOn
import KE.KStateDown
import KE.KExcSuper
import KE.KSuper
import HandS.ForMost
import HandS.Defaults
import HandS.Property
import HandS.Exc
import HandS.ExcInit
import HandS.HeadEnd
import HandS.HeadHook1
import HandS.HeadHook2
import HandS.Head0
import HandS.Head1
import HandS.Head2
import KE.KDictKeyed
import KE.KDictLaw
import KE.KDictDisplayH
import HandS.Deep
import HandS.Conv
import HandS.Walk
import HandS.IsInst
import HandS.Flow
import HandS.TupAny
import HandS.Star
import HandS.Codes
import PyProof.CollectStr
import PyProof.ListStr
import HandS.More
import PyProof.Draws
import KE.GoesMore
import KE.GoesEnum
import HandS.OwnEq
import HandS.OwnIter
import HandS.IterVal
import HandS.ExcCtx
import KE.KExcIs
import HandS.HotCalls
import PyProof.Rows.TupIter
import HandS.Hot
import HandS.Comp
import HandS.ExcField
import PySem.Challenge.RW_truetouch_k81_whole_plays_are_ringings
set_option Elab.async false
set_option linter.all false
set_option maxRecDepth 100000
set_option maxHeartbeats 4000000
/-! # The text by places, the addresses behind the top -/
namespace K81
open PySem PySem.Spec PyProof.Rows L2
def top (i : Nat) : Stmt := PySem.Challenge.pw_truetouch_k81_whole_plays_are_ringings.main.body.getD i (.Pass ⟨0, 0, 0, 0⟩)
abbrev s_is_integer : Stmt := top 22
abbrev s_deep : Stmt := top 24
abbrev s_is_letter : Stmt := top 25
abbrev s_is_rising : Stmt := top 26
abbrev s_first_row : Stmt := top 28
abbrev s_times : Stmt := top 29
abbrev s_change_move : Stmt := top 30
abbrev s_is_sound_row : Stmt := top 31
abbrev s_is_heard_pair : Stmt := top 38
abbrev s_check_hears : Stmt := top 39
abbrev s_letters_rung : Stmt := top 40
abbrev s_ways_behind : Stmt := top 42
abbrev s_is_sound_number : Stmt := top 43
abbrev s_leads_into : Stmt := top 45
abbrev s_sure_leads : Stmt := top 46
abbrev s_worst_behind : Stmt := top 47
abbrev s_is_sound_change : Stmt := top 50
abbrev s_are_changes : Stmt := top 52
abbrev s_check_plain : Stmt := top 53
abbrev s_is_call : Stmt := top 54
abbrev s_check_calls : Stmt := top 55
abbrev s_rows_through : Stmt := top 56
abbrev s_check_calling : Stmt := top 59
abbrev s_is_slip : Stmt := top 66
abbrev s_mark_of : Stmt := top 67
abbrev s_check_slips : Stmt := top 68
abbrev s_head_rung : Stmt := top 69
abbrev s_lead_rung : Stmt := top 70
abbrev s_law_draw : Stmt := top 73
abbrev s_law_mix : Stmt := top 74
abbrev s_law_pick : Stmt := top 75
abbrev s_law_rounds : Stmt := top 76
abbrev s_law_moved : Stmt := top 77
abbrev s_law_change_move : Stmt := top 78
abbrev s_law_change : Stmt := top 79
abbrev s_law_led_change : Stmt := top 80
abbrev s_law_letter : Stmt := top 81
abbrev s_law_hunting : Stmt := top 82
abbrev s_law_kept_last : Stmt := top 83
abbrev s_law_world : Stmt := top 84
abbrev s_law_letters : Stmt := top 85
abbrev s_law_lead_of : Stmt := top 86
abbrev s_law_body_of : Stmt := top 87
abbrev s_law_moves : Stmt := top 88
abbrev s_law_heads : Stmt := top 89
abbrev s_law_is_int : Stmt := top 90
abbrev s_law_hears : Stmt := top 91
abbrev s_law_can_ring : Stmt := top 92
abbrev s_law_no_play : Stmt := top 93
abbrev s_law_played : Stmt := top 94
abbrev s_law_ringing_fits : Stmt := top 95
abbrev s_law : Stmt := top 96
abbrev s_Heads_init : Stmt := inClass (top 34) 0
abbrev s_Band_init : Stmt := inClass (top 41) 0
abbrev s_Band_nodes : Stmt := inClass (top 41) 2
abbrev s_Seeing_init : Stmt := inClass (top 48) 0
abbrev s_Seeing_told_node : Stmt := inClass (top 48) 1
abbrev s_Seeing_value : Stmt := inClass (top 48) 2
abbrev s_Seeing_plan : Stmt := inClass (top 48) 3
abbrev s_Seeing_called_at : Stmt := inClass (top 48) 4
abbrev s_Seeing_trap : Stmt := inClass (top 48) 6
abbrev s_Seeing_play : Stmt := inClass (top 48) 7
abbrev s_Method_init : Stmt := inClass (top 57) 1
abbrev s_Method_told_letter : Stmt := inClass (top 57) 4
abbrev s_Method_lead : Stmt := inClass (top 57) 5
abbrev s_Method_contains : Stmt := inClass (top 57) 8
abbrev s_Touch_init : Stmt := inClass (top 62) 0
abbrev s_Touch_heads : Stmt := inClass (top 62) 1
abbrev s_Touch_iter : Stmt := inClass (top 62) 8
abbrev s_Touch_len : Stmt := inClass (top 62) 6
abbrev s_Ringing_init : Stmt := inClass (top 71) 0
abbrev s_Ringing_heads : Stmt := inClass (top 71) 1
abbrev s_Ringing_end : Stmt := inClass (top 71) 2
abbrev s_Ringing_iter : Stmt := inClass (top 71) 8
abbrev s_Ringing_len : Stmt := inClass (top 71) 6
abbrev s_nv : Stmt := inClass (top 18) 0
def a_is_integer : Addr := 377
def a_deep : Addr := 390
def a_is_letter : Addr := 397
def a_is_rising : Addr := 404
def a_first_row : Addr := 411
def a_times : Addr := 416
def a_change_move : Addr := 423
def a_is_sound_row : Addr := 430
def a_is_heard_pair : Addr := 501
def a_check_hears : Addr := 508
def a_letters_rung : Addr := 515
def a_ways_behind : Addr := 569
def a_is_sound_number : Addr := 576
def a_leads_into : Addr := 583
def a_sure_leads : Addr := 588
def a_worst_behind : Addr := 593
def a_is_sound_change : Addr := 683
def a_are_changes : Addr := 690
def a_check_plain : Addr := 697
def a_is_call : Addr := 704
def a_check_calls : Addr := 711
def a_rows_through : Addr := 718
def a_check_calling : Addr := 827
def a_is_slip : Addr := 950
def a_mark_of : Addr := 957
def a_check_slips : Addr := 964
def a_head_rung : Addr := 971
def a_lead_rung : Addr := 978
def a_law_draw : Addr := 1071
def a_law_mix : Addr := 1078
def a_law_pick : Addr := 1085
def a_law_rounds : Addr := 1092
def a_law_moved : Addr := 1097
def a_law_change_move : Addr := 1102
def a_law_change : Addr := 1109
def a_law_led_change : Addr := 1116
def a_law_letter : Addr := 1121
def a_law_hunting : Addr := 1126
def a_law_kept_last : Addr := 1131
def a_law_world : Addr := 1136
def a_law_letters : Addr := 1141
def a_law_lead_of : Addr := 1148
def a_law_body_of : Addr := 1155
def a_law_moves : Addr := 1162
def a_law_heads : Addr := 1169
def a_law_is_int : Addr := 1176
def a_law_hears : Addr := 1181
def a_law_can_ring : Addr := 1188
def a_law_no_play : Addr := 1195
def a_law_played : Addr := 1202
def a_law_ringing_fits : Addr := 1209
def a_law : Addr := 1216
def a_Heads_init : Addr := 444
def a_Band_init : Addr := 529
def a_Band_nodes : Addr := 541
def a_Seeing_init : Addr := 605
def a_Seeing_told_node : Addr := 612
def a_Seeing_value : Addr := 620
def a_Seeing_plan : Addr := 628
def a_Seeing_called_at : Addr := 635
def a_Seeing_trap : Addr := 647
def a_Seeing_play : Addr := 655
def a_Method_init : Addr := 734
def a_Method_told_letter : Addr := 757
def a_Method_lead : Addr := 764
def a_Method_contains : Addr := 785
def a_Touch_init : Addr := 847
def a_Touch_heads : Addr := 854
def a_Touch_iter : Addr := 908
def a_Touch_len : Addr := 894
def a_Ringing_init : Addr := 992
def a_Ringing_heads : Addr := 999
def a_Ringing_end : Addr := 1007
def a_Ringing_iter : Addr := 1052
def a_Ringing_len : Addr := 1038
def c_Heads : Addr := 483
def c_Band : Addr := 558
def c_Seeing : Addr := 672
def c_Method : Addr := 816
def c_Touch : Addr := 932
def c_Ringing : Addr := 1062
def c_NoValue : Addr := 368
def c_TouchError : Addr := 31
def p_Ringing_end : Addr := 1008
def p_Ringing_heads : Addr := 1000
def p_Seeing_trap : Addr := 648
def p_Touch_heads : Addr := 855
def a_nv : Addr := 365
def nvCell : Addr := 353
def fdOf (K : PySem.W.Frag) (a : Addr) : FuncData := match K.lookup a with
  | some o => (match o.data with
    | .func z => z
    | _ => default)
  | none => default
theorem fdOf_eq {K : PySem.W.Frag} {a : Addr} {o : Obj} {z : FuncData} (h : K.lookup a = some o) (d : o.data = .func z) : fdOf K a = z := by
  unfold fdOf
  rw [h]
  show (match o.data with | .func z => z | _ => default) = z
  rw [d]
/-- the def of this statement stands at a, with these defaults -/
abbrev FnAt (K : PySem.W.Frag) (x q : Str) (st : Stmt) (dvs : List V) (a : Addr) : Prop := FunD K x q (defArgs st) (defBody st) (defScope st) dvs [] a (fdOf K a)
/-- NoValue, its __init__ and the cell of its class -/
structure NvTxt (K : PySem.W.Frag) : Prop where
  cls : ∃ nm q N bs bm sn sub ab col dd k0 k1 k2 k3 k5, K.lookup c_NoValue = some (excClassObj nm q c_NoValue N bs bm true sn sub ab col dd k0 k1 k2 k3 k5 "ValueError.__new__") ∧ PySem.HandSPX.refsVE bm = true
  init : PySem.W.findIn K (.ref c_NoValue) "__init__" = some (some (.ref a_nv))
  kp : PySem.W.keepIn K (.ref c_NoValue) = true
  sa : PySem.W.findIn K (.ref c_NoValue) "__setattr__" = some (some (.builtin "object.__setattr__"))
  ga : PySem.W.findIn K (.ref c_NoValue) "__getattribute__" = some (some (.builtin "BaseException.__getattribute__"))
  gg : PySem.W.findIn K (.ref c_NoValue) "__getattr__" = some none
  noR : PySem.W.findIn K (.ref c_NoValue) "row" = some none
  tI : PySem.W.typeIn K (.ref a_nv) = some (.type "function")
  exC : PySem.W.subIn K (.ref c_NoValue) (.type "BaseException") = some true
  tyC : PySem.W.typeIn K (.ref c_NoValue) = some (.type "type")
  hdC : PySem.W.hasDictIn K c_NoValue = true
  te : PySem.W.exmOne K (.ref c_NoValue) (.ref c_NoValue) = some true
  isT : PySem.W.kitOne K (.ref c_NoValue) (.ref c_TouchError) = some true
  third : PySem.W.nsIn K cStatics "thirdparty.any" = some none
  sup : PySem.W.ks_superIn K c_NoValue c_NoValue "__init__" = some (some (.builtin "ValueError.__init__"))
  subV : PySem.W.subIn K (.ref c_NoValue) (.type "ValueError") = some true
  mro : PySem.W.mroIn K c_NoValue (.ref c_NoValue) = some true
  caC : PySem.W.findIn K (.ref c_NoValue) "__class__" = some (some (.builtin "object.__class__"))
  moC : PySem.W.mroIn K c_NoValue (.type "object") = some true
  cell : ∃ cl cld csl, K.lookup nvCell = some ⟨cl, cld, .cell (some (.ref c_NoValue)), csl⟩
  fn : ∃ oc od osl kV doc pm an cda ct ccl cdd vs ccs tf, K.lookup a_nv = some ⟨oc, od, .func (PySem.W.ksFn "__init__" "NoValue.__init__" (defArgs s_nv) (defBody s_nv) (defScope s_nv) .none kV doc pm an (.ref cda) ct nvCell), osl⟩ ∧
    PySem.W.codeIn K (.ref cda) "NoValue.__init__" = true ∧ K.lookup cda = some ⟨ccl, cdd, .fields vs, ccs⟩ ∧ vs[2]? = some (.str (PySem.Challenge.pw_truetouch_k81_whole_plays_are_ringings.main.file : Str) tf)
/-- what the top leaves -/
structure Txt (K : PySem.W.Frag) (mg : Str → Option Value) : Prop where
  g_is_integer : mg "is_integer" = some (.ref a_is_integer)
  g_deep : mg "deep" = some (.ref a_deep)
  g_is_letter : mg "is_letter" = some (.ref a_is_letter)
  g_is_rising : mg "is_rising" = some (.ref a_is_rising)
  g_first_row : mg "first_row" = some (.ref a_first_row)
  g_times : mg "times" = some (.ref a_times)
  g_change_move : mg "change_move" = some (.ref a_change_move)
  g_is_sound_row : mg "is_sound_row" = some (.ref a_is_sound_row)
  g_is_heard_pair : mg "is_heard_pair" = some (.ref a_is_heard_pair)
  g_check_hears : mg "check_hears" = some (.ref a_check_hears)
  g_letters_rung : mg "letters_rung" = some (.ref a_letters_rung)
  g_ways_behind : mg "ways_behind" = some (.ref a_ways_behind)
  g_is_sound_number : mg "is_sound_number" = some (.ref a_is_sound_number)
  g_leads_into : mg "leads_into" = some (.ref a_leads_into)
  g_sure_leads : mg "sure_leads" = some (.ref a_sure_leads)
  g_worst_behind : mg "worst_behind" = some (.ref a_worst_behind)
  g_is_sound_change : mg "is_sound_change" = some (.ref a_is_sound_change)
  g_are_changes : mg "are_changes" = some (.ref a_are_changes)
  g_check_plain : mg "check_plain" = some (.ref a_check_plain)
  g_is_call : mg "is_call" = some (.ref a_is_call)
  g_check_calls : mg "check_calls" = some (.ref a_check_calls)
  g_rows_through : mg "rows_through" = some (.ref a_rows_through)
  g_check_calling : mg "check_calling" = some (.ref a_check_calling)
  g_is_slip : mg "is_slip" = some (.ref a_is_slip)
  g_mark_of : mg "mark_of" = some (.ref a_mark_of)
  g_check_slips : mg "check_slips" = some (.ref a_check_slips)
  g_head_rung : mg "head_rung" = some (.ref a_head_rung)
  g_lead_rung : mg "lead_rung" = some (.ref a_lead_rung)
  g_law_draw : mg "_law_draw" = some (.ref a_law_draw)
  g_law_mix : mg "_law_mix" = some (.ref a_law_mix)
  g_law_pick : mg "_law_pick" = some (.ref a_law_pick)
  g_law_rounds : mg "_law_rounds" = some (.ref a_law_rounds)
  g_law_moved : mg "_law_moved" = some (.ref a_law_moved)
  g_law_change_move : mg "_law_change_move" = some (.ref a_law_change_move)
  g_law_change : mg "_law_change" = some (.ref a_law_change)
  g_law_led_change : mg "_law_led_change" = some (.ref a_law_led_change)
  g_law_letter : mg "_law_letter" = some (.ref a_law_letter)
  g_law_hunting : mg "_law_hunting" = some (.ref a_law_hunting)
  g_law_kept_last : mg "_law_kept_last" = some (.ref a_law_kept_last)
  g_law_world : mg "_law_world" = some (.ref a_law_world)
  g_law_letters : mg "_law_letters" = some (.ref a_law_letters)
  g_law_lead_of : mg "_law_lead_of" = some (.ref a_law_lead_of)
  g_law_body_of : mg "_law_body_of" = some (.ref a_law_body_of)
  g_law_moves : mg "_law_moves" = some (.ref a_law_moves)
  g_law_heads : mg "_law_heads" = some (.ref a_law_heads)
  g_law_is_int : mg "_law_is_int" = some (.ref a_law_is_int)
  g_law_hears : mg "_law_hears" = some (.ref a_law_hears)
  g_law_can_ring : mg "_law_can_ring" = some (.ref a_law_can_ring)
  g_law_no_play : mg "_law_no_play" = some (.ref a_law_no_play)
  g_law_played : mg "_law_played" = some (.ref a_law_played)
  g_law_ringing_fits : mg "_law_ringing_fits" = some (.ref a_law_ringing_fits)
  g_law : mg "law" = some (.ref a_law)
  g_Heads : mg "Heads" = some (.ref c_Heads)
  g_Band : mg "Band" = some (.ref c_Band)
  g_Seeing : mg "Seeing" = some (.ref c_Seeing)
  g_Method : mg "Method" = some (.ref c_Method)
  g_Touch : mg "Touch" = some (.ref c_Touch)
  g_Ringing : mg "Ringing" = some (.ref c_Ringing)
  g_NoValue : mg "NoValue" = some (.ref c_NoValue)
  g_TouchError : mg "TouchError" = some (.ref c_TouchError)
  z_len : mg "len" = none
  z_list : mg "list" = none
  z_range : mg "range" = none
  z_tuple : mg "tuple" = none
  z_sorted : mg "sorted" = none
  z_isinstance : mg "isinstance" = none
  z_max : mg "max" = none
  z_enumerate : mg "enumerate" = none
  z_sum : mg "sum" = none
  z_int : mg "int" = none
  z_abs : mg "abs" = none
  z_str : mg "str" = none
  z_bool : mg "bool" = none
  z_super : mg "super" = none
  z_iter : mg "iter" = none
  i_MOST_LEVELS : ∃ t, mg "MOST_LEVELS" = some (.int 60 t)
  i_MOST_HEADS : ∃ t, mg "MOST_HEADS" = some (.int 800 t)
  i_MOST_NODES : ∃ t, mg "MOST_NODES" = some (.int 1000 t)
  i_MOST_SLIPS : ∃ t, mg "MOST_SLIPS" = some (.int 20 t)
  i_LETTERS : ∃ t, mg "LETTERS" = some (.str "abcdefghijklmnopqrstuvwxyz" t)
  cl_Heads : Cls K c_Heads
  mk_Heads : Mk K c_Heads a_Heads_init
  n_Heads_method : NoAttr K c_Heads "method"
  n_Heads_rows : NoAttr K c_Heads "rows"
  n_Heads_callings : NoAttr K c_Heads "callings"
  n_Heads_numbers : NoAttr K c_Heads "numbers"
  cl_Band : Cls K c_Band
  mk_Band : Mk K c_Band a_Band_init
  n_Band_method : NoAttr K c_Band "method"
  n_Band_hears : NoAttr K c_Band "hears"
  n_Band_most : NoAttr K c_Band "most"
  n_Band_rung_for : NoAttr K c_Band "rung_for"
  m_Band_nodes : Meth K c_Band "nodes" a_Band_nodes
  cl_Seeing : Cls K c_Seeing
  mk_Seeing : Mk K c_Seeing a_Seeing_init
  n_Seeing_band : NoAttr K c_Seeing "band"
  n_Seeing_worths : NoAttr K c_Seeing "worths"
  n_Seeing_table : NoAttr K c_Seeing "table"
  m_Seeing_told_node : Meth K c_Seeing "told_node" a_Seeing_told_node
  m_Seeing_value : Meth K c_Seeing "value" a_Seeing_value
  m_Seeing_plan : Meth K c_Seeing "plan" a_Seeing_plan
  m_Seeing_called_at : Meth K c_Seeing "called_at" a_Seeing_called_at
  pr_Seeing_trap : PropOf K c_Seeing "trap" p_Seeing_trap a_Seeing_trap
  m_Seeing_play : Meth K c_Seeing "play" a_Seeing_play
  cl_Method : Cls K c_Method
  mk_Method : Mk K c_Method a_Method_init
  n_Method_stage : NoAttr K c_Method "stage"
  n_Method_plain : NoAttr K c_Method "plain"
  n_Method_calls : NoAttr K c_Method "calls"
  n_Method_opening : NoAttr K c_Method "opening"
  n_Method_leads : NoAttr K c_Method "leads"
  n_Method_row_of_letters : NoAttr K c_Method "row_of_letters"
  n_Method_moves : NoAttr K c_Method "moves"
  n_Method_bodies : NoAttr K c_Method "bodies"
  m_Method_told_letter : Meth K c_Method "told_letter" a_Method_told_letter
  m_Method_lead : Meth K c_Method "lead" a_Method_lead
  m_Method_contains : Meth K c_Method "__contains__" a_Method_contains
  cl_Touch : Cls K c_Touch
  mk_Touch : Mk K c_Touch a_Touch_init
  n_Touch_method : NoAttr K c_Touch "method"
  n_Touch_calling : NoAttr K c_Touch "calling"
  n_Touch_start : NoAttr K c_Touch "start"
  n_Touch_row_of_heads : NoAttr K c_Touch "row_of_heads"
  n_Touch_rows : NoAttr K c_Touch "rows"
  pr_Touch_heads : PropOf K c_Touch "heads" p_Touch_heads a_Touch_heads
  m_Touch_iter : Meth K c_Touch "__iter__" a_Touch_iter
  m_Touch_len : Meth K c_Touch "__len__" a_Touch_len
  cl_Ringing : Cls K c_Ringing
  mk_Ringing : Mk K c_Ringing a_Ringing_init
  n_Ringing_method : NoAttr K c_Ringing "method"
  n_Ringing_calling : NoAttr K c_Ringing "calling"
  n_Ringing_slips : NoAttr K c_Ringing "slips"
  n_Ringing_row_of_heads : NoAttr K c_Ringing "row_of_heads"
  n_Ringing_row_of_meant : NoAttr K c_Ringing "row_of_meant"
  n_Ringing_rows : NoAttr K c_Ringing "rows"
  pr_Ringing_heads : PropOf K c_Ringing "heads" p_Ringing_heads a_Ringing_heads
  pr_Ringing_end : PropOf K c_Ringing "end" p_Ringing_end a_Ringing_end
  m_Ringing_iter : Meth K c_Ringing "__iter__" a_Ringing_iter
  m_Ringing_len : Meth K c_Ringing "__len__" a_Ringing_len
  F_is_integer : FnAt K "is_integer" "is_integer" s_is_integer [] a_is_integer
  F_deep : FnAt K "deep" "deep" s_deep [.int 0] a_deep
  F_is_letter : FnAt K "is_letter" "is_letter" s_is_letter [] a_is_letter
  F_is_rising : FnAt K "is_rising" "is_rising" s_is_rising [] a_is_rising
  F_first_row : FnAt K "first_row" "first_row" s_first_row [] a_first_row
  F_times : FnAt K "times" "times" s_times [] a_times
  F_change_move : FnAt K "change_move" "change_move" s_change_move [] a_change_move
  F_is_sound_row : FnAt K "is_sound_row" "is_sound_row" s_is_sound_row [] a_is_sound_row
  F_is_heard_pair : FnAt K "is_heard_pair" "is_heard_pair" s_is_heard_pair [] a_is_heard_pair
  F_check_hears : FnAt K "check_hears" "check_hears" s_check_hears [] a_check_hears
  F_letters_rung : FnAt K "letters_rung" "letters_rung" s_letters_rung [] a_letters_rung
  F_ways_behind : FnAt K "ways_behind" "ways_behind" s_ways_behind [] a_ways_behind
  F_is_sound_number : FnAt K "is_sound_number" "is_sound_number" s_is_sound_number [] a_is_sound_number
  F_leads_into : FnAt K "leads_into" "leads_into" s_leads_into [] a_leads_into
  F_sure_leads : FnAt K "sure_leads" "sure_leads" s_sure_leads [] a_sure_leads
  F_worst_behind : FnAt K "worst_behind" "worst_behind" s_worst_behind [] a_worst_behind
  F_is_sound_change : FnAt K "is_sound_change" "is_sound_change" s_is_sound_change [] a_is_sound_change
  F_are_changes : FnAt K "are_changes" "are_changes" s_are_changes [] a_are_changes
  F_check_plain : FnAt K "check_plain" "check_plain" s_check_plain [] a_check_plain
  F_is_call : FnAt K "is_call" "is_call" s_is_call [] a_is_call
  F_check_calls : FnAt K "check_calls" "check_calls" s_check_calls [] a_check_calls
  F_rows_through : FnAt K "rows_through" "rows_through" s_rows_through [] a_rows_through
  F_check_calling : FnAt K "check_calling" "check_calling" s_check_calling [] a_check_calling
  F_is_slip : FnAt K "is_slip" "is_slip" s_is_slip [] a_is_slip
  F_mark_of : FnAt K "mark_of" "mark_of" s_mark_of [] a_mark_of
  F_check_slips : FnAt K "check_slips" "check_slips" s_check_slips [] a_check_slips
  F_head_rung : FnAt K "head_rung" "head_rung" s_head_rung [] a_head_rung
  F_lead_rung : FnAt K "lead_rung" "lead_rung" s_lead_rung [] a_lead_rung
  F_law_draw : FnAt K "_law_draw" "_law_draw" s_law_draw [] a_law_draw
  F_law_mix : FnAt K "_law_mix" "_law_mix" s_law_mix [] a_law_mix
  F_law_pick : FnAt K "_law_pick" "_law_pick" s_law_pick [] a_law_pick
  F_law_rounds : FnAt K "_law_rounds" "_law_rounds" s_law_rounds [] a_law_rounds
  F_law_moved : FnAt K "_law_moved" "_law_moved" s_law_moved [] a_law_moved
  F_law_change_move : FnAt K "_law_change_move" "_law_change_move" s_law_change_move [] a_law_change_move
  F_law_change : FnAt K "_law_change" "_law_change" s_law_change [] a_law_change
  F_law_led_change : FnAt K "_law_led_change" "_law_led_change" s_law_led_change [] a_law_led_change
  F_law_letter : FnAt K "_law_letter" "_law_letter" s_law_letter [] a_law_letter
  F_law_hunting : FnAt K "_law_hunting" "_law_hunting" s_law_hunting [] a_law_hunting
  F_law_kept_last : FnAt K "_law_kept_last" "_law_kept_last" s_law_kept_last [] a_law_kept_last
  F_law_world : FnAt K "_law_world" "_law_world" s_law_world [] a_law_world
  F_law_letters : FnAt K "_law_letters" "_law_letters" s_law_letters [] a_law_letters
  F_law_lead_of : FnAt K "_law_lead_of" "_law_lead_of" s_law_lead_of [] a_law_lead_of
  F_law_body_of : FnAt K "_law_body_of" "_law_body_of" s_law_body_of [] a_law_body_of
  F_law_moves : FnAt K "_law_moves" "_law_moves" s_law_moves [] a_law_moves
  F_law_heads : FnAt K "_law_heads" "_law_heads" s_law_heads [] a_law_heads
  F_law_is_int : FnAt K "_law_is_int" "_law_is_int" s_law_is_int [] a_law_is_int
  F_law_hears : FnAt K "_law_hears" "_law_hears" s_law_hears [] a_law_hears
  F_law_can_ring : FnAt K "_law_can_ring" "_law_can_ring" s_law_can_ring [] a_law_can_ring
  F_law_no_play : FnAt K "_law_no_play" "_law_no_play" s_law_no_play [] a_law_no_play
  F_law_played : FnAt K "_law_played" "_law_played" s_law_played [] a_law_played
  F_law_ringing_fits : FnAt K "_law_ringing_fits" "_law_ringing_fits" s_law_ringing_fits [] a_law_ringing_fits
  F_law : FnAt K "law" "law" s_law [] a_law
  F_Heads_init : FnAt K "__init__" "Heads.__init__" s_Heads_init [] a_Heads_init
  F_Band_init : FnAt K "__init__" "Band.__init__" s_Band_init [] a_Band_init
  F_Band_nodes : FnAt K "nodes" "Band.nodes" s_Band_nodes [] a_Band_nodes
  F_Seeing_init : FnAt K "__init__" "Seeing.__init__" s_Seeing_init [] a_Seeing_init
  F_Seeing_told_node : FnAt K "told_node" "Seeing.told_node" s_Seeing_told_node [] a_Seeing_told_node
  F_Seeing_value : FnAt K "value" "Seeing.value" s_Seeing_value [.int 0] a_Seeing_value
  F_Seeing_plan : FnAt K "plan" "Seeing.plan" s_Seeing_plan [.int 0] a_Seeing_plan
  F_Seeing_called_at : FnAt K "called_at" "Seeing.called_at" s_Seeing_called_at [] a_Seeing_called_at
  F_Seeing_trap : FnAt K "trap" "Seeing.trap" s_Seeing_trap [] a_Seeing_trap
  F_Seeing_play : FnAt K "play" "Seeing.play" s_Seeing_play [] a_Seeing_play
  F_Method_init : FnAt K "__init__" "Method.__init__" s_Method_init [.ref 726] a_Method_init
  F_Method_told_letter : FnAt K "told_letter" "Method.told_letter" s_Method_told_letter [] a_Method_told_letter
  F_Method_lead : FnAt K "lead" "Method.lead" s_Method_lead [] a_Method_lead
  F_Method_contains : FnAt K "__contains__" "Method.__contains__" s_Method_contains [] a_Method_contains
  F_Touch_init : FnAt K "__init__" "Touch.__init__" s_Touch_init [.non] a_Touch_init
  F_Touch_heads : FnAt K "heads" "Touch.heads" s_Touch_heads [] a_Touch_heads
  F_Touch_iter : FnAt K "__iter__" "Touch.__iter__" s_Touch_iter [] a_Touch_iter
  F_Touch_len : FnAt K "__len__" "Touch.__len__" s_Touch_len [] a_Touch_len
  F_Ringing_init : FnAt K "__init__" "Ringing.__init__" s_Ringing_init [.ref 986] a_Ringing_init
  F_Ringing_heads : FnAt K "heads" "Ringing.heads" s_Ringing_heads [] a_Ringing_heads
  F_Ringing_end : FnAt K "end" "Ringing.end" s_Ringing_end [] a_Ringing_end
  F_Ringing_iter : FnAt K "__iter__" "Ringing.__iter__" s_Ringing_iter [] a_Ringing_iter
  F_Ringing_len : FnAt K "__len__" "Ringing.__len__" s_Ringing_len [] a_Ringing_len
  nv : NvTxt K
end K81

namespace K81
open PySem PySem.Spec PyProof.Rows L2
/-! # The head: the checks, the run, Txt -/
def adrs0 : List (Addr) := [2, 3, 30, 31, 353, 364, 365, 367, 368, 376, 377, 385, 389, 390, 396, 397, 403, 404, 410, 411]
def adrs1 : List (Addr) := [415, 416, 422, 423, 429, 430, 443, 444, 482, 483, 500, 501, 507, 508, 514, 515, 528, 529, 540, 541]
def adrs2 : List (Addr) := [557, 558, 568, 569, 575, 576, 582, 583, 587, 588, 592, 593, 604, 605, 611, 612, 613, 619, 620, 621]
def adrs3 : List (Addr) := [627, 628, 634, 635, 646, 647, 648, 654, 655, 671, 672, 682, 683, 689, 690, 696, 697, 703, 704, 710]
def adrs4 : List (Addr) := [711, 717, 718, 727, 733, 734, 756, 757, 763, 764, 784, 785, 815, 816, 826, 827, 842, 846, 847, 853]
def adrs5 : List (Addr) := [854, 855, 893, 894, 907, 908, 931, 932, 949, 950, 956, 957, 963, 964, 970, 971, 977, 978, 987, 991]
def adrs6 : List (Addr) := [992, 998, 999, 1000, 1006, 1007, 1008, 1037, 1038, 1051, 1052, 1061, 1062, 1070, 1071, 1077, 1078, 1084, 1085, 1091]
def adrs7 : List (Addr) := [1092, 1096, 1097, 1101, 1102, 1108, 1109, 1115, 1116, 1120, 1121, 1125, 1126, 1130, 1131, 1135, 1136, 1140, 1141, 1147]
def adrs8 : List (Addr) := [1148, 1154, 1155, 1161, 1162, 1168, 1169, 1175, 1176, 1180, 1181, 1187, 1188, 1194, 1195, 1201, 1202, 1208, 1209, 1215]
def adrs9 : List (Addr) := [1216]
def adrs : List (Addr) := adrs0 ++ (adrs1 ++ (adrs2 ++ (adrs3 ++ (adrs4 ++ (adrs5 ++ (adrs6 ++ (adrs7 ++ (adrs8 ++ (adrs9)))))))))
def glB (K : PySem.W.Frag) (x : Str) (a : Addr) : Bool := He.eqO (PySem.W.nsIn K mainGlobals x) (some (some (.ref a)))
def naB (K : PySem.W.Frag) (C : Addr) (f : Str) : Bool := He.eqO (PySem.W.findIn K (.ref C) f) (some none)
def clB (K : PySem.W.Frag) (C : Addr) : Bool := PySem.W.plainGet K C Str.empty && (PySem.W.hasDictIn K C && (PySem.W.plainOver K C && He.eqO (PySem.W.findIn K (.ref C) "__setattr__") (some (some (.builtin "object.__setattr__")))))
theorem clB_ok {K : PySem.W.Frag} {C : Addr} (h : clB K C = true) : Cls K C := by
  obtain ⟨h1, h⟩ := He.ba h
  obtain ⟨h2, h⟩ := He.ba h
  obtain ⟨h3, h4⟩ := He.ba h
  exact ⟨h1, h2, h3, He.eqO_ok h4⟩
def mkB (K : PySem.W.Frag) (C f : Addr) : Bool := PySem.W.makesIn K C && (He.eqO (PySem.W.findIn K (.ref C) "__init__") (some (some (.ref f))) && (PySem.W.isFn K (.ref f) && PySem.W.keepIn K (.ref C)))
theorem mkB_ok {K : PySem.W.Frag} {C f : Addr} (h : mkB K C f = true) : Mk K C f := by
  obtain ⟨h1, h⟩ := He.ba h
  obtain ⟨h2, h⟩ := He.ba h
  obtain ⟨h3, h4⟩ := He.ba h
  exact ⟨h1, He.eqO_ok h2, h3, h4⟩
def meB (K : PySem.W.Frag) (C : Addr) (m : Str) (f : Addr) : Bool := He.eqO (PySem.W.findIn K (.ref C) m) (some (some (.ref f))) && (PySem.W.isFn K (.ref f) && PySem.W.keepIn K (.ref f))
theorem meB_ok {K : PySem.W.Frag} {C f : Addr} {m : Str} (h : meB K C m f = true) : Meth K C m f := by
  obtain ⟨h1, h⟩ := He.ba h
  obtain ⟨h2, h3⟩ := He.ba h
  exact ⟨He.eqO_ok h1, h2, h3⟩
def prB (K : PySem.W.Frag) (C : Addr) (f : Str) (p g : Addr) : Bool := He.eqO (PySem.W.findIn K (.ref C) f) (some (some (.ref p))) && (He.eqO (PySem.W.specialIn K (.ref p) "__get__") (some (some (.builtin "property.__get__"))) &&
  (decide (PySem.W.takesIn K (.ref p) = some true) && (match PySem.W.recIn K p "property" with
    | some (.ref c :: _) => decide (c = g)
    | _ => false)))
theorem prB_ok {K : PySem.W.Frag} {C p g : Addr} {f : Str} (h : prB K C f p g = true) : PropOf K C f p g := by
  obtain ⟨h1, h⟩ := He.ba h
  obtain ⟨h2, h⟩ := He.ba h
  obtain ⟨h3, h4⟩ := He.ba h
  refine ⟨He.eqO_ok h1, He.eqO_ok h2, of_decide_eq_true h3, ?_⟩
  cases e : PySem.W.recIn K p "property" with
  | none =>
    rw [e] at h4
    cases h4
  | some l =>
    rw [e] at h4
    cases l with
    | nil => cases h4
    | cons v r =>
      cases v with
      | ref c =>
        have e2 : c = g := of_decide_eq_true h4
        exact ⟨r, by rw [e2]⟩
      | _ => cases h4
def fnP (K : PySem.W.Frag) (a : Addr) : He.FnW := match K.lookup a with
  | some o => (match o.data with
    | .func z => some (z.name, z.qualname, z.params, z.body, z.scope, z.globals, z.closure, z.builtins)
    | _ => none)
  | none => none
def okP (K : PySem.W.Frag) (a : Addr) (q : Str) (dvs : List V) : Bool := PySem.W.keepIn K (.ref a) && (match K.lookup a with
  | some o => (match o.data with
    | .func z => PySem.W.codeIn K z.code q && He.dflB K z.defaults dvs
    | _ => false)
  | none => false)
def vP (x q : Str) (st : Stmt) : He.FnW := some (x, q, defArgs st, .stmts (defBody st), defScope st, mainGlobals, [], builtinsNs)
theorem funP {K : PySem.W.Frag} {a : Addr} {x q : Str} {st : Stmt} {dvs : List V} (e : fnP K a = vP x q st) (c : okP K a q dvs = true) : FnAt K x q st dvs a := by
  obtain ⟨kp, c2⟩ := He.ba c
  unfold fnP at e
  cases lk : K.lookup a with
  | none =>
    rw [lk] at c2
    cases c2
  | some o =>
    obtain ⟨oc, od, dt, osl⟩ := o
    rw [lk] at c2 e
    cases dt with
    | func z =>
      have ez : fdOf K a = z := fdOf_eq lk rfl
      obtain ⟨c3, c4⟩ := He.ba c2
      obtain ⟨n1, n2, n3, n4, n5, n6, n7, n8, n9, n10, n11, n12, n13, n14, n15⟩ := z
      have e2 : (some (n1, n2, n3, n4, n5, n6, n7, n15) : He.FnW) = some (x, q, defArgs st, .stmts (defBody st), defScope st, mainGlobals, [], builtinsNs) := e
      simp only [Option.some.injEq, Prod.mk.injEq] at e2
      obtain ⟨h1, h2, h3, h4, h5, h6, h7, h8⟩ := e2
      subst h1 h2 h3 h4 h5 h6 h7 h8
      show FunD _ _ _ _ _ _ _ _ _ (fdOf K a)
      rw [ez]
      exact ⟨⟨oc, od, n8, n9, n10, n11, n12, n13, n14, osl, rfl, lk, c3, He.dflB_ok c4, .inl rfl⟩, kp⟩
    | _ => cases c2
def nvC2 (t : String) (cd : ClassData) : List (Option Value) → List Value → Bool
  | [_, _, _, _, some (.builtin n), _], .ref C :: bm => decide (t = "type") && (decide (C = c_NoValue) && (decide (n = "ValueError.__new__") && (cd.hasDict && (!cd.hasDel && PySem.HandSPX.refsVE bm))))
  | _, _ => false
def nvCl (K : PySem.W.Frag) : Bool := match K.lookup c_NoValue with
  | some ⟨.type t, _, .cls cd, sl⟩ => nvC2 t cd sl.toList cd.mro
  | _ => false
def nvFn (K : PySem.W.Frag) : Bool := match K.lookup a_nv with
  | some o => (match o.data with
    | .func z => PySem.W.codeIn K z.code "NoValue.__init__" && (decide (z.defaults = .none) && (match z.code with
      | .ref cda => (match K.lookup cda with
        | some oc => (match oc.data with
          | .fields vs => (match (vs[2]? : Option Value) with
            | some (.str f _) => decide (f = (PySem.Challenge.pw_truetouch_k81_whole_plays_are_ringings.main.file : Str))
            | _ => false)
          | _ => false)
        | none => false)
      | _ => false))
    | _ => false)
  | none => false
def nvCe (K : PySem.W.Frag) : Bool := match K.lookup nvCell with
  | some o => (match o.data with
    | .cell (some (.ref c)) => decide (c = c_NoValue)
    | _ => false)
  | none => false
def nvVal : He.FnW := some ("__init__", "NoValue.__init__", defArgs s_nv, .stmts (defBody s_nv), defScope s_nv, mainGlobals, [("__class__", nvCell)], builtinsNs)
theorem nvCl_ok {K : PySem.W.Frag} (h : nvCl K = true) : ∃ nm q N bs bm sn sub ab col dd k0 k1 k2 k3 k5, K.lookup c_NoValue = some (excClassObj nm q c_NoValue N bs bm true sn sub ab col dd k0 k1 k2 k3 k5 "ValueError.__new__") ∧ PySem.HandSPX.refsVE bm = true := by
  unfold nvCl at h
  cases lk : K.lookup c_NoValue with
  | none =>
    rw [lk] at h
    cases h
  | some o =>
    obtain ⟨oc, od, dt, osl⟩ := o
    rw [lk] at h
    cases oc with
    | type t =>
      cases dt with
      | cls cd =>
        obtain ⟨nm, bs, mro, ns, qn, hd, sn, sub, ab, col, del⟩ := cd
        obtain ⟨l⟩ := osl
        have h2 : nvC2 t ⟨nm, bs, mro, ns, qn, hd, sn, sub, ab, col, del⟩ l mro = true := h
        unfold nvC2 at h2
        split at h2
        · rename_i k0 k1 k2 k3 n k5 C bm
          obtain ⟨h1, h2⟩ := He.ba h2
          obtain ⟨h3, h2⟩ := He.ba h2
          obtain ⟨h4, h2⟩ := He.ba h2
          obtain ⟨h5, h2⟩ := He.ba h2
          obtain ⟨h6, h7⟩ := He.ba h2
          have q1 : t = "type" := of_decide_eq_true h1
          have q2 : C = c_NoValue := of_decide_eq_true h3
          have q3 : n = "ValueError.__new__" := of_decide_eq_true h4
          have q4 : hd = true := h5
          have q5 : del = false := by
            have z : (!del) = true := h6
            cases del with
            | false => rfl
            | true => cases z
          rw [q2, q1, q3, q4, q5]
          exact ⟨nm, qn, ns, bs, bm, sn, sub, ab, col, od, k0, k1, k2, k3, k5, rfl, h7⟩
        · cases h2
      | _ => cases h
    | _ => cases dt <;> cases h
theorem nvCe_ok {K : PySem.W.Frag} (h : nvCe K = true) : ∃ cl cld csl, K.lookup nvCell = some ⟨cl, cld, .cell (some (.ref c_NoValue)), csl⟩ := by
  unfold nvCe at h
  cases lk : K.lookup nvCell with
  | none =>
    rw [lk] at h
    cases h
  | some o =>
    obtain ⟨oc, od, dt, osl⟩ := o
    rw [lk] at h
    cases dt with
    | cell v =>
      cases v with
      | none => cases h
      | some u =>
        cases u with
        | ref c =>
          have q : c = c_NoValue := of_decide_eq_true h
          rw [q]
          exact ⟨oc, od, osl, rfl⟩
        | _ => cases h
    | _ => cases h
theorem nvFn_ok {K : PySem.W.Frag} (h : nvFn K = true) (e : fnP K a_nv = nvVal) : ∃ oc od osl kV doc pm an cda ct ccl cdd vs ccs tf, K.lookup a_nv = some ⟨oc, od, .func (PySem.W.ksFn "__init__" "NoValue.__init__" (defArgs s_nv) (defBody s_nv) (defScope s_nv) .none kV doc pm an (.ref cda) ct nvCell), osl⟩ ∧
    PySem.W.codeIn K (.ref cda) "NoValue.__init__" = true ∧ K.lookup cda = some ⟨ccl, cdd, .fields vs, ccs⟩ ∧ vs[2]? = some (.str (PySem.Challenge.pw_truetouch_k81_whole_plays_are_ringings.main.file : Str) tf) := by
  unfold nvFn at h
  unfold fnP at e
  cases lk : K.lookup a_nv with
  | none =>
    rw [lk] at h
    cases h
  | some o =>
    obtain ⟨oc, od, dt, osl⟩ := o
    rw [lk] at h e
    cases dt with
    | func z =>
      obtain ⟨n1, n2, n3, n4, n5, n6, n7, n8, n9, n10, n11, n12, n13, n14, n15⟩ := z
      have e2 : (some (n1, n2, n3, n4, n5, n6, n7, n15) : He.FnW) = some (("__init__" : Str), ("NoValue.__init__" : Str), defArgs s_nv, FuncBody.stmts (defBody s_nv), defScope s_nv, mainGlobals, [(("__class__" : Str), nvCell)], builtinsNs) := e
      simp only [Option.some.injEq, Prod.mk.injEq] at e2
      obtain ⟨h1, h2, h3, h4, h5, h6, h7, h8⟩ := e2
      subst h1 h2 h3 h4 h5 h6 h7 h8
      obtain ⟨c1, c3⟩ := He.ba h
      obtain ⟨c0, c2⟩ := He.ba c3
      have q8 : n8 = .none := of_decide_eq_true c0
      clear c3 c0
      subst q8
      dsimp only at c1 c2
      split at c2
      · rename_i cda
        cases l2 : K.lookup cda with
        | none =>
          rw [l2] at c2
          cases c2
        | some o2 =>
          obtain ⟨pc, pd, pt, ps⟩ := o2
          rw [l2] at c2
          dsimp only at c2
          split at c2
          · rename_i vs
            split at c2
            · rename_i f tf ev
              have q : f = _ := of_decide_eq_true c2
              subst q
              exact ⟨oc, od, osl, n9, n10, n11, n12, cda, n14, pc, pd, vs, ps, tf, rfl, c1, l2, ev⟩
            · cases c2
          · cases c2
      · cases c2
    | _ => cases h
/-! ### all checks -/
def ck0 (K : PySem.W.Frag) : List Bool := [glB K "is_integer" a_is_integer, glB K "deep" a_deep, glB K "is_letter" a_is_letter, glB K "is_rising" a_is_rising, glB K "first_row" a_first_row, glB K "times" a_times, glB K "change_move" a_change_move, glB K "is_sound_row" a_is_sound_row, glB K "is_heard_pair" a_is_heard_pair, glB K "check_hears" a_check_hears, glB K "letters_rung" a_letters_rung, glB K "ways_behind" a_ways_behind, glB K "is_sound_number" a_is_sound_number, glB K "leads_into" a_leads_into, glB K "sure_leads" a_sure_leads, glB K "worst_behind" a_worst_behind, glB K "is_sound_change" a_is_sound_change, glB K "are_changes" a_are_changes]
def ck1 (K : PySem.W.Frag) : List Bool := [glB K "check_plain" a_check_plain, glB K "is_call" a_is_call, glB K "check_calls" a_check_calls, glB K "rows_through" a_rows_through, glB K "check_calling" a_check_calling, glB K "is_slip" a_is_slip, glB K "mark_of" a_mark_of, glB K "check_slips" a_check_slips, glB K "head_rung" a_head_rung, glB K "lead_rung" a_lead_rung, glB K "_law_draw" a_law_draw, glB K "_law_mix" a_law_mix, glB K "_law_pick" a_law_pick, glB K "_law_rounds" a_law_rounds, glB K "_law_moved" a_law_moved, glB K "_law_change_move" a_law_change_move, glB K "_law_change" a_law_change, glB K "_law_led_change" a_law_led_change]
def ck2 (K : PySem.W.Frag) : List Bool := [glB K "_law_letter" a_law_letter, glB K "_law_hunting" a_law_hunting, glB K "_law_kept_last" a_law_kept_last, glB K "_law_world" a_law_world, glB K "_law_letters" a_law_letters, glB K "_law_lead_of" a_law_lead_of, glB K "_law_body_of" a_law_body_of, glB K "_law_moves" a_law_moves, glB K "_law_heads" a_law_heads, glB K "_law_is_int" a_law_is_int, glB K "_law_hears" a_law_hears, glB K "_law_can_ring" a_law_can_ring, glB K "_law_no_play" a_law_no_play, glB K "_law_played" a_law_played, glB K "_law_ringing_fits" a_law_ringing_fits, glB K "law" a_law, glB K "Heads" c_Heads, glB K "Band" c_Band]
def ck3 (K : PySem.W.Frag) : List Bool := [glB K "Seeing" c_Seeing, glB K "Method" c_Method, glB K "Touch" c_Touch, glB K "Ringing" c_Ringing, glB K "NoValue" c_NoValue, glB K "TouchError" c_TouchError, (He.Fa.free "len").ok K, (He.Fa.free "list").ok K, (He.Fa.free "range").ok K, (He.Fa.free "tuple").ok K, (He.Fa.free "sorted").ok K, (He.Fa.free "isinstance").ok K, (He.Fa.free "max").ok K, (He.Fa.free "enumerate").ok K, (He.Fa.free "sum").ok K, (He.Fa.free "int").ok K, (He.Fa.free "abs").ok K, (He.Fa.free "str").ok K]
def ck4 (K : PySem.W.Frag) : List Bool := [(He.Fa.free "bool").ok K, (He.Fa.free "super").ok K, (He.Fa.free "iter").ok K, (He.Fa.int "MOST_LEVELS" 60).ok K, (He.Fa.int "MOST_HEADS" 800).ok K, (He.Fa.int "MOST_NODES" 1000).ok K, (He.Fa.int "MOST_SLIPS" 20).ok K, (He.Fa.str "LETTERS" "abcdefghijklmnopqrstuvwxyz").ok K, clB K c_Heads, mkB K c_Heads a_Heads_init, naB K c_Heads "method", naB K c_Heads "rows", naB K c_Heads "callings", naB K c_Heads "numbers", clB K c_Band, mkB K c_Band a_Band_init, naB K c_Band "method", naB K c_Band "hears"]
def ck5 (K : PySem.W.Frag) : List Bool := [naB K c_Band "most", naB K c_Band "rung_for", meB K c_Band "nodes" a_Band_nodes, clB K c_Seeing, mkB K c_Seeing a_Seeing_init, naB K c_Seeing "band", naB K c_Seeing "worths", naB K c_Seeing "table", meB K c_Seeing "told_node" a_Seeing_told_node, meB K c_Seeing "value" a_Seeing_value, meB K c_Seeing "plan" a_Seeing_plan, meB K c_Seeing "called_at" a_Seeing_called_at, prB K c_Seeing "trap" p_Seeing_trap a_Seeing_trap, meB K c_Seeing "play" a_Seeing_play, clB K c_Method, mkB K c_Method a_Method_init, naB K c_Method "stage", naB K c_Method "plain"]
def ck6 (K : PySem.W.Frag) : List Bool := [naB K c_Method "calls", naB K c_Method "opening", naB K c_Method "leads", naB K c_Method "row_of_letters", naB K c_Method "moves", naB K c_Method "bodies", meB K c_Method "told_letter" a_Method_told_letter, meB K c_Method "lead" a_Method_lead, meB K c_Method "__contains__" a_Method_contains, clB K c_Touch, mkB K c_Touch a_Touch_init, naB K c_Touch "method", naB K c_Touch "calling", naB K c_Touch "start", naB K c_Touch "row_of_heads", naB K c_Touch "rows", prB K c_Touch "heads" p_Touch_heads a_Touch_heads, meB K c_Touch "__iter__" a_Touch_iter]
def ck7 (K : PySem.W.Frag) : List Bool := [meB K c_Touch "__len__" a_Touch_len, clB K c_Ringing, mkB K c_Ringing a_Ringing_init, naB K c_Ringing "method", naB K c_Ringing "calling", naB K c_Ringing "slips", naB K c_Ringing "row_of_heads", naB K c_Ringing "row_of_meant", naB K c_Ringing "rows", prB K c_Ringing "heads" p_Ringing_heads a_Ringing_heads, prB K c_Ringing "end" p_Ringing_end a_Ringing_end, meB K c_Ringing "__iter__" a_Ringing_iter, meB K c_Ringing "__len__" a_Ringing_len]
def cd0 (K : PySem.W.Frag) : List Bool := [okP K a_is_integer "is_integer" [], okP K a_deep "deep" [.int 0], okP K a_is_letter "is_letter" [], okP K a_is_rising "is_rising" [], okP K a_first_row "first_row" [], okP K a_times "times" [], okP K a_change_move "change_move" [], okP K a_is_sound_row "is_sound_row" [], okP K a_is_heard_pair "is_heard_pair" [], okP K a_check_hears "check_hears" [], okP K a_letters_rung "letters_rung" [], okP K a_ways_behind "ways_behind" [], okP K a_is_sound_number "is_sound_number" [], okP K a_leads_into "leads_into" [], okP K a_sure_leads "sure_leads" [], okP K a_worst_behind "worst_behind" [], okP K a_is_sound_change "is_sound_change" [], okP K a_are_changes "are_changes" []]
def fo0 (K : PySem.W.Frag) : List He.FnW := [fnP K a_is_integer, fnP K a_deep, fnP K a_is_letter, fnP K a_is_rising, fnP K a_first_row, fnP K a_times, fnP K a_change_move, fnP K a_is_sound_row, fnP K a_is_heard_pair, fnP K a_check_hears, fnP K a_letters_rung, fnP K a_ways_behind, fnP K a_is_sound_number, fnP K a_leads_into, fnP K a_sure_leads, fnP K a_worst_behind, fnP K a_is_sound_change, fnP K a_are_changes]
def fv0 : List He.FnW := [vP "is_integer" "is_integer" s_is_integer, vP "deep" "deep" s_deep, vP "is_letter" "is_letter" s_is_letter, vP "is_rising" "is_rising" s_is_rising, vP "first_row" "first_row" s_first_row, vP "times" "times" s_times, vP "change_move" "change_move" s_change_move, vP "is_sound_row" "is_sound_row" s_is_sound_row, vP "is_heard_pair" "is_heard_pair" s_is_heard_pair, vP "check_hears" "check_hears" s_check_hears, vP "letters_rung" "letters_rung" s_letters_rung, vP "ways_behind" "ways_behind" s_ways_behind, vP "is_sound_number" "is_sound_number" s_is_sound_number, vP "leads_into" "leads_into" s_leads_into, vP "sure_leads" "sure_leads" s_sure_leads, vP "worst_behind" "worst_behind" s_worst_behind, vP "is_sound_change" "is_sound_change" s_is_sound_change, vP "are_changes" "are_changes" s_are_changes]
def cd1 (K : PySem.W.Frag) : List Bool := [okP K a_check_plain "check_plain" [], okP K a_is_call "is_call" [], okP K a_check_calls "check_calls" [], okP K a_rows_through "rows_through" [], okP K a_check_calling "check_calling" [], okP K a_is_slip "is_slip" [], okP K a_mark_of "mark_of" [], okP K a_check_slips "check_slips" [], okP K a_head_rung "head_rung" [], okP K a_lead_rung "lead_rung" [], okP K a_law_draw "_law_draw" [], okP K a_law_mix "_law_mix" [], okP K a_law_pick "_law_pick" [], okP K a_law_rounds "_law_rounds" [], okP K a_law_moved "_law_moved" [], okP K a_law_change_move "_law_change_move" [], okP K a_law_change "_law_change" [], okP K a_law_led_change "_law_led_change" []]
def fo1 (K : PySem.W.Frag) : List He.FnW := [fnP K a_check_plain, fnP K a_is_call, fnP K a_check_calls, fnP K a_rows_through, fnP K a_check_calling, fnP K a_is_slip, fnP K a_mark_of, fnP K a_check_slips, fnP K a_head_rung, fnP K a_lead_rung, fnP K a_law_draw, fnP K a_law_mix, fnP K a_law_pick, fnP K a_law_rounds, fnP K a_law_moved, fnP K a_law_change_move, fnP K a_law_change, fnP K a_law_led_change]
def fv1 : List He.FnW := [vP "check_plain" "check_plain" s_check_plain, vP "is_call" "is_call" s_is_call, vP "check_calls" "check_calls" s_check_calls, vP "rows_through" "rows_through" s_rows_through, vP "check_calling" "check_calling" s_check_calling, vP "is_slip" "is_slip" s_is_slip, vP "mark_of" "mark_of" s_mark_of, vP "check_slips" "check_slips" s_check_slips, vP "head_rung" "head_rung" s_head_rung, vP "lead_rung" "lead_rung" s_lead_rung, vP "_law_draw" "_law_draw" s_law_draw, vP "_law_mix" "_law_mix" s_law_mix, vP "_law_pick" "_law_pick" s_law_pick, vP "_law_rounds" "_law_rounds" s_law_rounds, vP "_law_moved" "_law_moved" s_law_moved, vP "_law_change_move" "_law_change_move" s_law_change_move, vP "_law_change" "_law_change" s_law_change, vP "_law_led_change" "_law_led_change" s_law_led_change]
def cd2 (K : PySem.W.Frag) : List Bool := [okP K a_law_letter "_law_letter" [], okP K a_law_hunting "_law_hunting" [], okP K a_law_kept_last "_law_kept_last" [], okP K a_law_world "_law_world" [], okP K a_law_letters "_law_letters" [], okP K a_law_lead_of "_law_lead_of" [], okP K a_law_body_of "_law_body_of" [], okP K a_law_moves "_law_moves" [], okP K a_law_heads "_law_heads" [], okP K a_law_is_int "_law_is_int" [], okP K a_law_hears "_law_hears" [], okP K a_law_can_ring "_law_can_ring" [], okP K a_law_no_play "_law_no_play" [], okP K a_law_played "_law_played" [], okP K a_law_ringing_fits "_law_ringing_fits" [], okP K a_law "law" [], okP K a_Heads_init "Heads.__init__" [], okP K a_Band_init "Band.__init__" []]
def fo2 (K : PySem.W.Frag) : List He.FnW := [fnP K a_law_letter, fnP K a_law_hunting, fnP K a_law_kept_last, fnP K a_law_world, fnP K a_law_letters, fnP K a_law_lead_of, fnP K a_law_body_of, fnP K a_law_moves, fnP K a_law_heads, fnP K a_law_is_int, fnP K a_law_hears, fnP K a_law_can_ring, fnP K a_law_no_play, fnP K a_law_played, fnP K a_law_ringing_fits, fnP K a_law, fnP K a_Heads_init, fnP K a_Band_init]
def fv2 : List He.FnW := [vP "_law_letter" "_law_letter" s_law_letter, vP "_law_hunting" "_law_hunting" s_law_hunting, vP "_law_kept_last" "_law_kept_last" s_law_kept_last, vP "_law_world" "_law_world" s_law_world, vP "_law_letters" "_law_letters" s_law_letters, vP "_law_lead_of" "_law_lead_of" s_law_lead_of, vP "_law_body_of" "_law_body_of" s_law_body_of, vP "_law_moves" "_law_moves" s_law_moves, vP "_law_heads" "_law_heads" s_law_heads, vP "_law_is_int" "_law_is_int" s_law_is_int, vP "_law_hears" "_law_hears" s_law_hears, vP "_law_can_ring" "_law_can_ring" s_law_can_ring, vP "_law_no_play" "_law_no_play" s_law_no_play, vP "_law_played" "_law_played" s_law_played, vP "_law_ringing_fits" "_law_ringing_fits" s_law_ringing_fits, vP "law" "law" s_law, vP "__init__" "Heads.__init__" s_Heads_init, vP "__init__" "Band.__init__" s_Band_init]
def cd3 (K : PySem.W.Frag) : List Bool := [okP K a_Band_nodes "Band.nodes" [], okP K a_Seeing_init "Seeing.__init__" [], okP K a_Seeing_told_node "Seeing.told_node" [], okP K a_Seeing_value "Seeing.value" [.int 0], okP K a_Seeing_plan "Seeing.plan" [.int 0], okP K a_Seeing_called_at "Seeing.called_at" [], okP K a_Seeing_trap "Seeing.trap" [], okP K a_Seeing_play "Seeing.play" [], okP K a_Method_init "Method.__init__" [.ref 726], okP K a_Method_told_letter "Method.told_letter" [], okP K a_Method_lead "Method.lead" [], okP K a_Method_contains "Method.__contains__" [], okP K a_Touch_init "Touch.__init__" [.non], okP K a_Touch_heads "Touch.heads" [], okP K a_Touch_iter "Touch.__iter__" [], okP K a_Touch_len "Touch.__len__" [], okP K a_Ringing_init "Ringing.__init__" [.ref 986], okP K a_Ringing_heads "Ringing.heads" []]
def fo3 (K : PySem.W.Frag) : List He.FnW := [fnP K a_Band_nodes, fnP K a_Seeing_init, fnP K a_Seeing_told_node, fnP K a_Seeing_value, fnP K a_Seeing_plan, fnP K a_Seeing_called_at, fnP K a_Seeing_trap, fnP K a_Seeing_play, fnP K a_Method_init, fnP K a_Method_told_letter, fnP K a_Method_lead, fnP K a_Method_contains, fnP K a_Touch_init, fnP K a_Touch_heads, fnP K a_Touch_iter, fnP K a_Touch_len, fnP K a_Ringing_init, fnP K a_Ringing_heads]
def fv3 : List He.FnW := [vP "nodes" "Band.nodes" s_Band_nodes, vP "__init__" "Seeing.__init__" s_Seeing_init, vP "told_node" "Seeing.told_node" s_Seeing_told_node, vP "value" "Seeing.value" s_Seeing_value, vP "plan" "Seeing.plan" s_Seeing_plan, vP "called_at" "Seeing.called_at" s_Seeing_called_at, vP "trap" "Seeing.trap" s_Seeing_trap, vP "play" "Seeing.play" s_Seeing_play, vP "__init__" "Method.__init__" s_Method_init, vP "told_letter" "Method.told_letter" s_Method_told_letter, vP "lead" "Method.lead" s_Method_lead, vP "__contains__" "Method.__contains__" s_Method_contains, vP "__init__" "Touch.__init__" s_Touch_init, vP "heads" "Touch.heads" s_Touch_heads, vP "__iter__" "Touch.__iter__" s_Touch_iter, vP "__len__" "Touch.__len__" s_Touch_len, vP "__init__" "Ringing.__init__" s_Ringing_init, vP "heads" "Ringing.heads" s_Ringing_heads]
def cd4 (K : PySem.W.Frag) : List Bool := [okP K a_Ringing_end "Ringing.end" [], okP K a_Ringing_iter "Ringing.__iter__" [], okP K a_Ringing_len "Ringing.__len__" []]
def fo4 (K : PySem.W.Frag) : List He.FnW := [fnP K a_Ringing_end, fnP K a_Ringing_iter, fnP K a_Ringing_len]
def fv4 : List He.FnW := [vP "end" "Ringing.end" s_Ringing_end, vP "__iter__" "Ringing.__iter__" s_Ringing_iter, vP "__len__" "Ringing.__len__" s_Ringing_len]
def cn (K : PySem.W.Frag) : List Bool := [nvCl K, nvFn K, nvCe K, decide (PySem.W.findIn K (.ref c_NoValue) "__init__" = some (some (.ref a_nv))), PySem.W.keepIn K (.ref c_NoValue), decide (PySem.W.findIn K (.ref c_NoValue) "__setattr__" = some (some (.builtin "object.__setattr__"))), decide (PySem.W.findIn K (.ref c_NoValue) "__getattribute__" = some (some (.builtin "BaseException.__getattribute__"))), decide (PySem.W.findIn K (.ref c_NoValue) "__getattr__" = some none), decide (PySem.W.findIn K (.ref c_NoValue) "row" = some none), decide (PySem.W.typeIn K (.ref a_nv) = some (.type "function")), decide (PySem.W.subIn K (.ref c_NoValue) (.type "BaseException") = some true), decide (PySem.W.typeIn K (.ref c_NoValue) = some (.type "type")), PySem.W.hasDictIn K c_NoValue, decide (PySem.W.exmOne K (.ref c_NoValue) (.ref c_NoValue) = some true), decide (PySem.W.kitOne K (.ref c_NoValue) (.ref c_TouchError) = some true), decide (PySem.W.nsIn K cStatics "thirdparty.any" = some none), decide (PySem.W.ks_superIn K c_NoValue c_NoValue "__init__" = some (some (.builtin "ValueError.__init__"))), decide (PySem.W.subIn K (.ref c_NoValue) (.type "ValueError") = some true), decide (PySem.W.mroIn K c_NoValue (.ref c_NoValue) = some true), decide (PySem.W.findIn K (.ref c_NoValue) "__class__" = some (some (.builtin "object.__class__"))), decide (PySem.W.mroIn K c_NoValue (.type "object") = some true)]
abbrev AlX : Type := Bool × List (List He.FnW)
def allB (K : PySem.W.Frag) : Bool := [(ck0 K).all id, (ck1 K).all id, (ck2 K).all id, (ck3 K).all id, (ck4 K).all id, (ck5 K).all id, (ck6 K).all id, (ck7 K).all id, (cd0 K).all id, (cd1 K).all id, (cd2 K).all id, (cd3 K).all id, (cd4 K).all id, (cn K).all id].all id
def obsX (K : PySem.W.Frag) : AlX := (allB K, [fo0 K, fo1 K, fo2 K, fo3 K, fo4 K, [fnP K a_nv]])
def valX : AlX := (true, [fv0, fv1, fv2, fv3, fv4, [nvVal]])
def obsXG (g : Addr → Option Obj) : AlX := obsX (He.frG g adrs)
def SaysX (K : PySem.W.Frag) : Prop := obsX K = valX
def hookX : PySem.W.Hook where
  α := AlX
  obs := fun s => obsXG s.heap.get?
  val := fun _ => valX
  says := fun _ h => ∃ K : PySem.W.Frag, K.In h ∧ SaysX K
  of := fun _ _ e => ⟨_, He.frG_in, e⟩
  keeps := fun _ _ _ ⟨K, hK, c⟩ k => ⟨K, PySem.W.Frag.In.keeps hK k, c⟩
abbrev R : PySem.W.OpenRow := PySem.W.OpenLaw.row PySem.Challenge.rw_truetouch_k81_whole_plays_are_ringings
def ob (s : PySem.W.SharedT) : AlX := obsXG (HandSHeadRun.getT s)
theorem ob_eq (s : PySem.W.SharedT) : ob s = hookX.obs s.abs := by
  have e : HandSHeadRun.getT s = s.abs.heap.get? := funext (HandSHeadRun.getT_eq s)
  show obsXG (HandSHeadRun.getT s) = obsXG s.abs.heap.get?
  rw [e]
theorem pick {l : List Bool} (h : l.all id = true) (i : Nat) {b : Bool} (e : l[i]? = some b) : b = true := List.all_eq_true.mp h b (List.mem_of_getElem? e)
theorem same {a b : List He.FnW} (h : a = b) (i : Nat) {x y : He.FnW} (e1 : a[i]? = some x) (e2 : b[i]? = some y) : x = y := by
  rw [h, e2] at e1
  exact (Option.some.inj e1).symm
theorem txt_of {K : PySem.W.Frag} {h : Heap} {mg : Str → Option Value} (X : K.In h) (G : h.Ns mainGlobals mg) (c : SaysX K) : Txt K mg := by
  have cb : allB K = true := congrArg (fun z : AlX => z.1) c
  have cl : [fo0 K, fo1 K, fo2 K, fo3 K, fo4 K, [fnP K a_nv]] = [fv0, fv1, fv2, fv3, fv4, [nvVal]] := congrArg (fun z : AlX => z.2) c
  injection cl with l0 cl
  injection cl with l1 cl
  injection cl with l2 cl
  injection cl with l3 cl
  injection cl with l4 cl
  injection cl with ln cl
  have k0 : (ck0 K).all id = true := pick cb 0 rfl
  have k1 : (ck1 K).all id = true := pick cb 1 rfl
  have k2 : (ck2 K).all id = true := pick cb 2 rfl
  have k3 : (ck3 K).all id = true := pick cb 3 rfl
  have k4 : (ck4 K).all id = true := pick cb 4 rfl
  have k5 : (ck5 K).all id = true := pick cb 5 rfl
  have k6 : (ck6 K).all id = true := pick cb 6 rfl
  have k7 : (ck7 K).all id = true := pick cb 7 rfl
  have d0 : (cd0 K).all id = true := pick cb 8 rfl
  have d1 : (cd1 K).all id = true := pick cb 9 rfl
  have d2 : (cd2 K).all id = true := pick cb 10 rfl
  have d3 : (cd3 K).all id = true := pick cb 11 rfl
  have d4 : (cd4 K).all id = true := pick cb 12 rfl
  have n0 : (cn K).all id = true := pick cb 13 rfl
  exact {
    g_is_integer := PySem.W.mg_of X G (He.eqO_ok (pick k0 0 rfl))
    g_deep := PySem.W.mg_of X G (He.eqO_ok (pick k0 1 rfl))
    g_is_letter := PySem.W.mg_of X G (He.eqO_ok (pick k0 2 rfl))
    g_is_rising := PySem.W.mg_of X G (He.eqO_ok (pick k0 3 rfl))
    g_first_row := PySem.W.mg_of X G (He.eqO_ok (pick k0 4 rfl))
    g_times := PySem.W.mg_of X G (He.eqO_ok (pick k0 5 rfl))
    g_change_move := PySem.W.mg_of X G (He.eqO_ok (pick k0 6 rfl))
    g_is_sound_row := PySem.W.mg_of X G (He.eqO_ok (pick k0 7 rfl))
    g_is_heard_pair := PySem.W.mg_of X G (He.eqO_ok (pick k0 8 rfl))
    g_check_hears := PySem.W.mg_of X G (He.eqO_ok (pick k0 9 rfl))
    g_letters_rung := PySem.W.mg_of X G (He.eqO_ok (pick k0 10 rfl))
    g_ways_behind := PySem.W.mg_of X G (He.eqO_ok (pick k0 11 rfl))
    g_is_sound_number := PySem.W.mg_of X G (He.eqO_ok (pick k0 12 rfl))
    g_leads_into := PySem.W.mg_of X G (He.eqO_ok (pick k0 13 rfl))
    g_sure_leads := PySem.W.mg_of X G (He.eqO_ok (pick k0 14 rfl))
    g_worst_behind := PySem.W.mg_of X G (He.eqO_ok (pick k0 15 rfl))
    g_is_sound_change := PySem.W.mg_of X G (He.eqO_ok (pick k0 16 rfl))
    g_are_changes := PySem.W.mg_of X G (He.eqO_ok (pick k0 17 rfl))
    g_check_plain := PySem.W.mg_of X G (He.eqO_ok (pick k1 0 rfl))
    g_is_call := PySem.W.mg_of X G (He.eqO_ok (pick k1 1 rfl))
    g_check_calls := PySem.W.mg_of X G (He.eqO_ok (pick k1 2 rfl))
    g_rows_through := PySem.W.mg_of X G (He.eqO_ok (pick k1 3 rfl))
    g_check_calling := PySem.W.mg_of X G (He.eqO_ok (pick k1 4 rfl))
    g_is_slip := PySem.W.mg_of X G (He.eqO_ok (pick k1 5 rfl))
    g_mark_of := PySem.W.mg_of X G (He.eqO_ok (pick k1 6 rfl))
    g_check_slips := PySem.W.mg_of X G (He.eqO_ok (pick k1 7 rfl))
    g_head_rung := PySem.W.mg_of X G (He.eqO_ok (pick k1 8 rfl))
    g_lead_rung := PySem.W.mg_of X G (He.eqO_ok (pick k1 9 rfl))
    g_law_draw := PySem.W.mg_of X G (He.eqO_ok (pick k1 10 rfl))
    g_law_mix := PySem.W.mg_of X G (He.eqO_ok (pick k1 11 rfl))
    g_law_pick := PySem.W.mg_of X G (He.eqO_ok (pick k1 12 rfl))
    g_law_rounds := PySem.W.mg_of X G (He.eqO_ok (pick k1 13 rfl))
    g_law_moved := PySem.W.mg_of X G (He.eqO_ok (pick k1 14 rfl))
    g_law_change_move := PySem.W.mg_of X G (He.eqO_ok (pick k1 15 rfl))
    g_law_change := PySem.W.mg_of X G (He.eqO_ok (pick k1 16 rfl))
    g_law_led_change := PySem.W.mg_of X G (He.eqO_ok (pick k1 17 rfl))
    g_law_letter := PySem.W.mg_of X G (He.eqO_ok (pick k2 0 rfl))
    g_law_hunting := PySem.W.mg_of X G (He.eqO_ok (pick k2 1 rfl))
    g_law_kept_last := PySem.W.mg_of X G (He.eqO_ok (pick k2 2 rfl))
    g_law_world := PySem.W.mg_of X G (He.eqO_ok (pick k2 3 rfl))
    g_law_letters := PySem.W.mg_of X G (He.eqO_ok (pick k2 4 rfl))
    g_law_lead_of := PySem.W.mg_of X G (He.eqO_ok (pick k2 5 rfl))
    g_law_body_of := PySem.W.mg_of X G (He.eqO_ok (pick k2 6 rfl))
    g_law_moves := PySem.W.mg_of X G (He.eqO_ok (pick k2 7 rfl))
    g_law_heads := PySem.W.mg_of X G (He.eqO_ok (pick k2 8 rfl))
    g_law_is_int := PySem.W.mg_of X G (He.eqO_ok (pick k2 9 rfl))
    g_law_hears := PySem.W.mg_of X G (He.eqO_ok (pick k2 10 rfl))
    g_law_can_ring := PySem.W.mg_of X G (He.eqO_ok (pick k2 11 rfl))
    g_law_no_play := PySem.W.mg_of X G (He.eqO_ok (pick k2 12 rfl))
    g_law_played := PySem.W.mg_of X G (He.eqO_ok (pick k2 13 rfl))
    g_law_ringing_fits := PySem.W.mg_of X G (He.eqO_ok (pick k2 14 rfl))
    g_law := PySem.W.mg_of X G (He.eqO_ok (pick k2 15 rfl))
    g_Heads := PySem.W.mg_of X G (He.eqO_ok (pick k2 16 rfl))
    g_Band := PySem.W.mg_of X G (He.eqO_ok (pick k2 17 rfl))
    g_Seeing := PySem.W.mg_of X G (He.eqO_ok (pick k3 0 rfl))
    g_Method := PySem.W.mg_of X G (He.eqO_ok (pick k3 1 rfl))
    g_Touch := PySem.W.mg_of X G (He.eqO_ok (pick k3 2 rfl))
    g_Ringing := PySem.W.mg_of X G (He.eqO_ok (pick k3 3 rfl))
    g_NoValue := PySem.W.mg_of X G (He.eqO_ok (pick k3 4 rfl))
    g_TouchError := PySem.W.mg_of X G (He.eqO_ok (pick k3 5 rfl))
    z_len := He.free_ok X G (pick k3 6 rfl)
    z_list := He.free_ok X G (pick k3 7 rfl)
    z_range := He.free_ok X G (pick k3 8 rfl)
    z_tuple := He.free_ok X G (pick k3 9 rfl)
    z_sorted := He.free_ok X G (pick k3 10 rfl)
    z_isinstance := He.free_ok X G (pick k3 11 rfl)
    z_max := He.free_ok X G (pick k3 12 rfl)
    z_enumerate := He.free_ok X G (pick k3 13 rfl)
    z_sum := He.free_ok X G (pick k3 14 rfl)
    z_int := He.free_ok X G (pick k3 15 rfl)
    z_abs := He.free_ok X G (pick k3 16 rfl)
    z_str := He.free_ok X G (pick k3 17 rfl)
    z_bool := He.free_ok X G (pick k4 0 rfl)
    z_super := He.free_ok X G (pick k4 1 rfl)
    z_iter := He.free_ok X G (pick k4 2 rfl)
    i_MOST_LEVELS := He.int_ok X G (pick k4 3 rfl)
    i_MOST_HEADS := He.int_ok X G (pick k4 4 rfl)
    i_MOST_NODES := He.int_ok X G (pick k4 5 rfl)
    i_MOST_SLIPS := He.int_ok X G (pick k4 6 rfl)
    i_LETTERS := He.str_ok X G (pick k4 7 rfl)
    cl_Heads := clB_ok (pick k4 8 rfl)
    mk_Heads := mkB_ok (pick k4 9 rfl)
    n_Heads_method := He.eqO_ok (pick k4 10 rfl)
    n_Heads_rows := He.eqO_ok (pick k4 11 rfl)
    n_Heads_callings := He.eqO_ok (pick k4 12 rfl)
    n_Heads_numbers := He.eqO_ok (pick k4 13 rfl)
    cl_Band := clB_ok (pick k4 14 rfl)
    mk_Band := mkB_ok (pick k4 15 rfl)
    n_Band_method := He.eqO_ok (pick k4 16 rfl)
    n_Band_hears := He.eqO_ok (pick k4 17 rfl)
    n_Band_most := He.eqO_ok (pick k5 0 rfl)
    n_Band_rung_for := He.eqO_ok (pick k5 1 rfl)
    m_Band_nodes := meB_ok (pick k5 2 rfl)
    cl_Seeing := clB_ok (pick k5 3 rfl)
    mk_Seeing := mkB_ok (pick k5 4 rfl)
    n_Seeing_band := He.eqO_ok (pick k5 5 rfl)
    n_Seeing_worths := He.eqO_ok (pick k5 6 rfl)
    n_Seeing_table := He.eqO_ok (pick k5 7 rfl)
    m_Seeing_told_node := meB_ok (pick k5 8 rfl)
    m_Seeing_value := meB_ok (pick k5 9 rfl)
    m_Seeing_plan := meB_ok (pick k5 10 rfl)
    m_Seeing_called_at := meB_ok (pick k5 11 rfl)
    pr_Seeing_trap := prB_ok (pick k5 12 rfl)
    m_Seeing_play := meB_ok (pick k5 13 rfl)
    cl_Method := clB_ok (pick k5 14 rfl)
    mk_Method := mkB_ok (pick k5 15 rfl)
    n_Method_stage := He.eqO_ok (pick k5 16 rfl)
    n_Method_plain := He.eqO_ok (pick k5 17 rfl)
    n_Method_calls := He.eqO_ok (pick k6 0 rfl)
    n_Method_opening := He.eqO_ok (pick k6 1 rfl)
    n_Method_leads := He.eqO_ok (pick k6 2 rfl)
    n_Method_row_of_letters := He.eqO_ok (pick k6 3 rfl)
    n_Method_moves := He.eqO_ok (pick k6 4 rfl)
    n_Method_bodies := He.eqO_ok (pick k6 5 rfl)
    m_Method_told_letter := meB_ok (pick k6 6 rfl)
    m_Method_lead := meB_ok (pick k6 7 rfl)
    m_Method_contains := meB_ok (pick k6 8 rfl)
    cl_Touch := clB_ok (pick k6 9 rfl)
    mk_Touch := mkB_ok (pick k6 10 rfl)
    n_Touch_method := He.eqO_ok (pick k6 11 rfl)
    n_Touch_calling := He.eqO_ok (pick k6 12 rfl)
    n_Touch_start := He.eqO_ok (pick k6 13 rfl)
    n_Touch_row_of_heads := He.eqO_ok (pick k6 14 rfl)
    n_Touch_rows := He.eqO_ok (pick k6 15 rfl)
    pr_Touch_heads := prB_ok (pick k6 16 rfl)
    m_Touch_iter := meB_ok (pick k6 17 rfl)
    m_Touch_len := meB_ok (pick k7 0 rfl)
    cl_Ringing := clB_ok (pick k7 1 rfl)
    mk_Ringing := mkB_ok (pick k7 2 rfl)
    n_Ringing_method := He.eqO_ok (pick k7 3 rfl)
    n_Ringing_calling := He.eqO_ok (pick k7 4 rfl)
    n_Ringing_slips := He.eqO_ok (pick k7 5 rfl)
    n_Ringing_row_of_heads := He.eqO_ok (pick k7 6 rfl)
    n_Ringing_row_of_meant := He.eqO_ok (pick k7 7 rfl)
    n_Ringing_rows := He.eqO_ok (pick k7 8 rfl)
    pr_Ringing_heads := prB_ok (pick k7 9 rfl)
    pr_Ringing_end := prB_ok (pick k7 10 rfl)
    m_Ringing_iter := meB_ok (pick k7 11 rfl)
    m_Ringing_len := meB_ok (pick k7 12 rfl)
    F_is_integer := funP (same l0 0 rfl rfl) (pick d0 0 rfl)
    F_deep := funP (same l0 1 rfl rfl) (pick d0 1 rfl)
    F_is_letter := funP (same l0 2 rfl rfl) (pick d0 2 rfl)
    F_is_rising := funP (same l0 3 rfl rfl) (pick d0 3 rfl)
    F_first_row := funP (same l0 4 rfl rfl) (pick d0 4 rfl)
    F_times := funP (same l0 5 rfl rfl) (pick d0 5 rfl)
    F_change_move := funP (same l0 6 rfl rfl) (pick d0 6 rfl)
    F_is_sound_row := funP (same l0 7 rfl rfl) (pick d0 7 rfl)
    F_is_heard_pair := funP (same l0 8 rfl rfl) (pick d0 8 rfl)
    F_check_hears := funP (same l0 9 rfl rfl) (pick d0 9 rfl)
    F_letters_rung := funP (same l0 10 rfl rfl) (pick d0 10 rfl)
    F_ways_behind := funP (same l0 11 rfl rfl) (pick d0 11 rfl)
    F_is_sound_number := funP (same l0 12 rfl rfl) (pick d0 12 rfl)
    F_leads_into := funP (same l0 13 rfl rfl) (pick d0 13 rfl)
    F_sure_leads := funP (same l0 14 rfl rfl) (pick d0 14 rfl)
    F_worst_behind := funP (same l0 15 rfl rfl) (pick d0 15 rfl)
    F_is_sound_change := funP (same l0 16 rfl rfl) (pick d0 16 rfl)
    F_are_changes := funP (same l0 17 rfl rfl) (pick d0 17 rfl)
    F_check_plain := funP (same l1 0 rfl rfl) (pick d1 0 rfl)
    F_is_call := funP (same l1 1 rfl rfl) (pick d1 1 rfl)
    F_check_calls := funP (same l1 2 rfl rfl) (pick d1 2 rfl)
    F_rows_through := funP (same l1 3 rfl rfl) (pick d1 3 rfl)
    F_check_calling := funP (same l1 4 rfl rfl) (pick d1 4 rfl)
    F_is_slip := funP (same l1 5 rfl rfl) (pick d1 5 rfl)
    F_mark_of := funP (same l1 6 rfl rfl) (pick d1 6 rfl)
    F_check_slips := funP (same l1 7 rfl rfl) (pick d1 7 rfl)
    F_head_rung := funP (same l1 8 rfl rfl) (pick d1 8 rfl)
    F_lead_rung := funP (same l1 9 rfl rfl) (pick d1 9 rfl)
    F_law_draw := funP (same l1 10 rfl rfl) (pick d1 10 rfl)
    F_law_mix := funP (same l1 11 rfl rfl) (pick d1 11 rfl)
    F_law_pick := funP (same l1 12 rfl rfl) (pick d1 12 rfl)
    F_law_rounds := funP (same l1 13 rfl rfl) (pick d1 13 rfl)
    F_law_moved := funP (same l1 14 rfl rfl) (pick d1 14 rfl)
    F_law_change_move := funP (same l1 15 rfl rfl) (pick d1 15 rfl)
    F_law_change := funP (same l1 16 rfl rfl) (pick d1 16 rfl)
    F_law_led_change := funP (same l1 17 rfl rfl) (pick d1 17 rfl)
    F_law_letter := funP (same l2 0 rfl rfl) (pick d2 0 rfl)
    F_law_hunting := funP (same l2 1 rfl rfl) (pick d2 1 rfl)
    F_law_kept_last := funP (same l2 2 rfl rfl) (pick d2 2 rfl)
    F_law_world := funP (same l2 3 rfl rfl) (pick d2 3 rfl)
    F_law_letters := funP (same l2 4 rfl rfl) (pick d2 4 rfl)
    F_law_lead_of := funP (same l2 5 rfl rfl) (pick d2 5 rfl)
    F_law_body_of := funP (same l2 6 rfl rfl) (pick d2 6 rfl)
    F_law_moves := funP (same l2 7 rfl rfl) (pick d2 7 rfl)
    F_law_heads := funP (same l2 8 rfl rfl) (pick d2 8 rfl)
    F_law_is_int := funP (same l2 9 rfl rfl) (pick d2 9 rfl)
    F_law_hears := funP (same l2 10 rfl rfl) (pick d2 10 rfl)
    F_law_can_ring := funP (same l2 11 rfl rfl) (pick d2 11 rfl)
    F_law_no_play := funP (same l2 12 rfl rfl) (pick d2 12 rfl)
    F_law_played := funP (same l2 13 rfl rfl) (pick d2 13 rfl)
    F_law_ringing_fits := funP (same l2 14 rfl rfl) (pick d2 14 rfl)
    F_law := funP (same l2 15 rfl rfl) (pick d2 15 rfl)
    F_Heads_init := funP (same l2 16 rfl rfl) (pick d2 16 rfl)
    F_Band_init := funP (same l2 17 rfl rfl) (pick d2 17 rfl)
    F_Band_nodes := funP (same l3 0 rfl rfl) (pick d3 0 rfl)
    F_Seeing_init := funP (same l3 1 rfl rfl) (pick d3 1 rfl)
    F_Seeing_told_node := funP (same l3 2 rfl rfl) (pick d3 2 rfl)
    F_Seeing_value := funP (same l3 3 rfl rfl) (pick d3 3 rfl)
    F_Seeing_plan := funP (same l3 4 rfl rfl) (pick d3 4 rfl)
    F_Seeing_called_at := funP (same l3 5 rfl rfl) (pick d3 5 rfl)
    F_Seeing_trap := funP (same l3 6 rfl rfl) (pick d3 6 rfl)
    F_Seeing_play := funP (same l3 7 rfl rfl) (pick d3 7 rfl)
    F_Method_init := funP (same l3 8 rfl rfl) (pick d3 8 rfl)
    F_Method_told_letter := funP (same l3 9 rfl rfl) (pick d3 9 rfl)
    F_Method_lead := funP (same l3 10 rfl rfl) (pick d3 10 rfl)
    F_Method_contains := funP (same l3 11 rfl rfl) (pick d3 11 rfl)
    F_Touch_init := funP (same l3 12 rfl rfl) (pick d3 12 rfl)
    F_Touch_heads := funP (same l3 13 rfl rfl) (pick d3 13 rfl)
    F_Touch_iter := funP (same l3 14 rfl rfl) (pick d3 14 rfl)
    F_Touch_len := funP (same l3 15 rfl rfl) (pick d3 15 rfl)
    F_Ringing_init := funP (same l3 16 rfl rfl) (pick d3 16 rfl)
    F_Ringing_heads := funP (same l3 17 rfl rfl) (pick d3 17 rfl)
    F_Ringing_end := funP (same l4 0 rfl rfl) (pick d4 0 rfl)
    F_Ringing_iter := funP (same l4 1 rfl rfl) (pick d4 1 rfl)
    F_Ringing_len := funP (same l4 2 rfl rfl) (pick d4 2 rfl)
    nv := {
      cls := nvCl_ok (pick n0 0 rfl)
      fn := nvFn_ok (pick n0 1 rfl) (same ln 0 rfl rfl)
      cell := nvCe_ok (pick n0 2 rfl)
      init := of_decide_eq_true (pick n0 3 rfl)
      kp := (pick n0 4 rfl)
      sa := of_decide_eq_true (pick n0 5 rfl)
      ga := of_decide_eq_true (pick n0 6 rfl)
      gg := of_decide_eq_true (pick n0 7 rfl)
      noR := of_decide_eq_true (pick n0 8 rfl)
      tI := of_decide_eq_true (pick n0 9 rfl)
      exC := of_decide_eq_true (pick n0 10 rfl)
      tyC := of_decide_eq_true (pick n0 11 rfl)
      hdC := (pick n0 12 rfl)
      te := of_decide_eq_true (pick n0 13 rfl)
      isT := of_decide_eq_true (pick n0 14 rfl)
      third := of_decide_eq_true (pick n0 15 rfl)
      sup := of_decide_eq_true (pick n0 16 rfl)
      subV := of_decide_eq_true (pick n0 17 rfl)
      mro := of_decide_eq_true (pick n0 18 rfl)
      caC := of_decide_eq_true (pick n0 19 rfl)
      moC := of_decide_eq_true (pick n0 20 rfl)
    } }
def loose0 : List (Str) := ["_wall", "__name__", "TouchError", "BadStage", "BadRow", "BadLead", "BadCall", "BadLetter", "BadCalling", "BadTimes", "BadSlip", "BadRung", "BadHears", "BadMost", "TooMany", "Twice", "Unreached", "NoSpot", "NoValue", "LETTERS"]
def loose1 : List (Str) := ["MOST_LEVELS", "is_integer", "flat", "deep", "is_letter", "is_rising", "first_row", "times", "change_move", "is_sound_row", "MOST_HEADS", "Heads", "is_hashable_row", "MOST_NODES", "is_heard_pair", "check_hears", "letters_rung", "Band", "ways_behind", "is_sound_number"]
def loose2 : List (Str) := ["leads_into", "sure_leads", "worst_behind", "Seeing", "is_sound_change", "are_changes", "check_plain", "is_call", "check_calls", "rows_through", "Method", "check_calling", "told_row", "Touch", "MOST_SLIPS", "exchange_in", "is_slip", "mark_of", "check_slips", "head_rung"]
def loose3 : List (Str) := ["lead_rung", "Ringing", "_law_draw", "_law_mix", "_law_pick", "_law_rounds", "_law_moved", "_law_change_move", "_law_change", "_law_led_change", "_law_letter", "_law_hunting", "_law_kept_last", "_law_world", "_law_letters", "_law_lead_of", "_law_body_of", "_law_moves", "_law_heads", "_law_is_int"]
def loose4 : List (Str) := ["_law_hears", "_law_can_ring", "_law_no_play", "_law_played", "_law_ringing_fits"]
def loose : List (Str) := loose0 ++ (loose1 ++ (loose2 ++ (loose3 ++ (loose4))))
set_option maxHeartbeats 0 in
theorem run (w : World) : HandSHeadRun.RunEq R (PySem.W.view R.prog [96]) hookX ob 10100 loose w := by
  intro os
  kernel_rfl
end K81

namespace K81
open PySem PySem.Spec PyProof.Rows L2
/-! # My own rules: plain data in the abstract heap, dicts keyed by such data -/
abbrev D := NestedKey
abbrev St := L2.St
/-! ### data -/
mutual
/-- the value is this data: None, ints, texts, tracked tuples of data -/
inductive At (H : Hp) : D → V → Prop
  | none : At H .none .non
  | num (i : Int) : At H (.num i) (.int i)
  | text (x : Str) : At H (.text x) (.str x)
  | tup {a : Addr} {vs : List V} {ks : List D} : H a = some (.tup vs) → Ats H ks vs → At H (.tup ks) (.ref a)
inductive Ats (H : Hp) : List D → List V → Prop
  | nil : Ats H [] []
  | cons {k : D} {v : V} {ks : List D} {vs : List V} : At H k v → Ats H ks vs → Ats H (k :: ks) (v :: vs)
end
/-- the tracked tuples stay -/
def Tk (H H' : Hp) : Prop := ∀ b xs, H b = some (.tup xs) → H' b = some (.tup xs)
theorem Tk.refl (H : Hp) : Tk H H := fun _ _ h => h
theorem Tk.trans {H H1 H2 : Hp} (a : Tk H H1) (b : Tk H1 H2) : Tk H H2 := fun c xs h => b c xs (a c xs h)
theorem Tk.same {H H' : Hp} (e : Same H H') : Tk H H' := fun b xs h => e b _ h
theorem Tk.new {H : Hp} {a : Addr} {o : HO} (h : H a = Option.none) : Tk H (upd H a o) := fun b xs e => by
  rw [upd_ne (ne_of_none e h)]
  exact e
theorem Tk.put {H : Hp} {a : Addr} {u o : HO} (h : H a = some u) (n : ∀ xs, u ≠ .tup xs) : Tk H (upd H a o) := fun b xs e => by
  have ne : b ≠ a := fun z => by
    rw [z, h] at e
    exact n xs (Option.some.inj e)
  rw [upd_ne ne]
  exact e
mutual
theorem At.mono {H H' : Hp} (t : Tk H H') : ∀ {k : D} {v : V}, At H k v → At H' k v
  | _, _, .none => .none
  | _, _, .num i => .num i
  | _, _, .text x => .text x
  | _, _, .tup h r => .tup (t _ _ h) (Ats.mono t r)
theorem Ats.mono {H H' : Hp} (t : Tk H H') : ∀ {ks : List D} {vs : List V}, Ats H ks vs → Ats H' ks vs
  | _, _, .nil => .nil
  | _, _, .cons h r => .cons (At.mono t h) (Ats.mono t r)
end
theorem Ats.length {H : Hp} : ∀ {ks : List D} {vs : List V}, Ats H ks vs → ks.length = vs.length
  | _, _, .nil => rfl
  | _, _, .cons _ r => congrArg Nat.succ (Ats.length r)
theorem Ats.snoc {H : Hp} {k : D} {v : V} (h : At H k v) : ∀ {ks : List D} {vs : List V}, Ats H ks vs → Ats H (ks ++ [k]) (vs ++ [v])
  | _, _, .nil => .cons h .nil
  | _, _, .cons g r => .cons g (Ats.snoc h r)
theorem Ats.append {H : Hp} : ∀ {ks ls : List D} {vs ws : List V}, Ats H ks vs → Ats H ls ws → Ats H (ks ++ ls) (vs ++ ws)
  | _, _, _, _, .nil, s => s
  | _, _, _, _, .cons g r, s => .cons g (Ats.append r s)
theorem Ats.get {H : Hp} : ∀ {ks : List D} {vs : List V} {i : Nat} {v : V}, Ats H ks vs → vs[i]? = some v → ∃ k, ks[i]? = some k ∧ At H k v
  | _, _, i, v, .nil, e => by simp at e
  | _, _, 0, v, .cons g r, e => by
    have e' := Option.some.inj e
    subst e'
    exact ⟨_, rfl, g⟩
  | _, _, i + 1, v, .cons g r, e => Ats.get (i := i) (v := v) r e
theorem Ats.at {H : Hp} : ∀ {ks : List D} {vs : List V} {i : Nat} {k : D}, Ats H ks vs → ks[i]? = some k → ∃ v, vs[i]? = some v ∧ At H k v
  | _, _, i, k, .nil, e => by simp at e
  | _, _, 0, k, .cons g r, e => by
    have e' := Option.some.inj e
    subst e'
    exact ⟨_, rfl, g⟩
  | _, _, i + 1, k, .cons g r, e => Ats.at (i := i) (k := k) r e
theorem Ats.take {H : Hp} : ∀ {ks : List D} {vs : List V} (n : Nat), Ats H ks vs → Ats H (ks.take n) (vs.take n)
  | _, _, 0, _ => .nil
  | _, _, _ + 1, .nil => .nil
  | _, _, n + 1, .cons g r => .cons g (Ats.take n r)
theorem Ats.drop {H : Hp} : ∀ {ks : List D} {vs : List V} (n : Nat), Ats H ks vs → Ats H (ks.drop n) (vs.drop n)
  | _, _, 0, r => r
  | _, _, _ + 1, .nil => .nil
  | _, _, n + 1, .cons _ r => Ats.drop n r
theorem At.ref {H : Hp} {ks : List D} {v : V} (h : At H (.tup ks) v) : ∃ a vs, v = .ref a ∧ H a = some (.tup vs) ∧ Ats H ks vs := by
  cases h with
  | tup h r => exact ⟨_, _, rfl, h, r⟩
theorem At.int_ {H : Hp} {i : Int} {v : V} (h : At H (.num i) v) : v = .int i := by
  cases h
  rfl
theorem At.str_ {H : Hp} {x : Str} {v : V} (h : At H (.text x) v) : v = .str x := by
  cases h
  rfl
/-- ints -/
def nums (r : List Int) : List D := r.map NestedKey.num
theorem ats_nums {H : Hp} : ∀ r : List Int, Ats H (nums r) (r.map V.int)
  | [] => .nil
  | i :: r => .cons (.num i) (ats_nums r)
theorem nums_of {H : Hp} : ∀ {r : List Int} {vs : List V}, Ats H (nums r) vs → vs = r.map V.int
  | [], _, h => by
    cases h
    rfl
  | i :: r, _, h => by
    cases h with
    | cons g t =>
      cases g
      rw [nums_of t]
      rfl
/-- a row: a tuple of ints -/
def rowD (r : List Int) : D := .tup (nums r)
theorem at_row {H : Hp} {a : Addr} {r : List Int} (h : H a = some (.tup (r.map V.int))) : At H (rowD r) (.ref a) := .tup h (ats_nums r)
theorem row_of {H : Hp} {r : List Int} {v : V} (h : At H (rowD r) v) : ∃ a, v = .ref a ∧ H a = some (.tup (r.map V.int)) := by
  obtain ⟨a, vs, e, h1, h2⟩ := At.ref h
  rw [nums_of h2] at h1
  exact ⟨a, e, h1⟩
theorem nums_inj : ∀ {r q : List Int}, nums r = nums q → r = q
  | [], [], _ => rfl
  | [], _ :: _, h => by cases h
  | _ :: _, [], h => by cases h
  | i :: r, j :: q, h => by
    have h' : NestedKey.num i :: nums r = NestedKey.num j :: nums q := h
    injection h' with h1 h2
    injection h1 with h1
    rw [h1, nums_inj h2]
theorem rowD_inj {r q : List Int} (h : rowD r = rowD q) : r = q := by
  unfold rowD at h
  injection h with h
  exact nums_inj h
theorem depth_nums : ∀ r : List Int, NestedKey.depthAll (nums r) = 0
  | [] => rfl
  | i :: r => by
    show max (NestedKey.depth (.num i)) (NestedKey.depthAll (nums r)) = 0
    rw [depth_nums r]
    rfl
theorem depth_row (r : List Int) : (rowD r).depth = 1 := by
  show NestedKey.depthAll (nums r) + 1 = 1
  rw [depth_nums]
/-- a text of one sign -/
def sg (c : Nat) : Str := ⟨#[c]⟩
/-- a text of signs -/
def tx (l : List Nat) : Str := ⟨l.toArray⟩

/-! ### data as the library tells it -/
section
variable {X : Cx} {pins : List (Addr × Obj)} {σ : St} {H : Hp} {s : Shared}
mutual
theorem At.nested (I : Inv X pins σ H s) : ∀ {k : D} {v : V} {u : Value}, At H k v → RelV v u → NestedIs s.heap k u
  | _, _, u, .none, r => by
    cases r
    exact .none
  | _, _, u, .num i, r => by
    obtain ⟨t, e⟩ := (show ∃ t, u = Value.int i t from r)
    rw [e]
    exact .int i t
  | _, _, u, .text x, r => by
    obtain ⟨t, e⟩ := (show ∃ t, u = Value.str x t from r)
    rw [e]
    exact .text x t
  | _, _, u, .tup (a := a) (vs := vs) h q, r => by
    obtain rfl : u = Value.ref a := r
    obtain ⟨_, its, rv, o, h1, h2, n, h3⟩ := (show ObjOk X.prog X.w H s.heap a (.tup vs) from I.hok a _ h)
    exact .tup h1 h2 h3 (Ats.nested I q (by simpa using rv))
theorem Ats.nested (I : Inv X pins σ H s) : ∀ {ks : List D} {vs : List V} {us : List Value}, Ats H ks vs → Vals vs us → NestedAll s.heap ks us
  | _, _, _, .nil, .nil => .nil
  | _, _, _, .cons g t, .cons r rs => .cons (At.nested I g r) (Ats.nested I t rs)
end
theorem room_n {A : Around} (hu : A.units + 64 < cLine) {prog : Program} {w : World} : (nestedKind prog w).room A.in1 := by
  show A.units + 1 + 8 < cLine
  omega
/-! ### == and in -/
mutual
theorem eqv_data : ∀ k l : D, PyData.eqv k.data l.data = decide (k = l)
  | .none, .none => by simp [NestedKey.data, PyData.eqv]
  | .none, .num _ => by simp [NestedKey.data, PyData.eqv]
  | .none, .text _ => by simp [NestedKey.data, PyData.eqv]
  | .none, .tup _ => by simp [NestedKey.data, PyData.eqv]
  | .num _, .none => by simp [NestedKey.data, PyData.eqv]
  | .num i, .num j => by
    simp only [NestedKey.data, PyData.eqv]
    rw [Bool.eq_iff_iff]
    simp
  | .num _, .text _ => by simp [NestedKey.data, PyData.eqv]
  | .num _, .tup _ => by simp [NestedKey.data, PyData.eqv]
  | .text _, .none => by simp [NestedKey.data, PyData.eqv]
  | .text _, .num _ => by simp [NestedKey.data, PyData.eqv]
  | .text x, .text y => by
    simp only [NestedKey.data, PyData.eqv]
    rw [Bool.eq_iff_iff]
    simp
  | .text _, .tup _ => by simp [NestedKey.data, PyData.eqv]
  | .tup _, .none => by simp [NestedKey.data, PyData.eqv]
  | .tup _, .num _ => by simp [NestedKey.data, PyData.eqv]
  | .tup _, .text _ => by simp [NestedKey.data, PyData.eqv]
  | .tup ks, .tup ls => by
    simp only [NestedKey.data, PyData.eqv]
    rw [eqv_datas ks ls, Bool.eq_iff_iff]
    simp
theorem eqv_datas : ∀ ks ls : List D, PyData.eqvAll (NestedKey.datas ks) (NestedKey.datas ls) = decide (ks = ls)
  | [], [] => by simp [NestedKey.datas, PyData.eqvAll]
  | [], _ :: _ => by simp [NestedKey.datas, PyData.eqvAll]
  | _ :: _, [] => by simp [NestedKey.datas, PyData.eqvAll]
  | k :: ks, l :: ls => by
    simp only [NestedKey.datas, PyData.eqvAll]
    rw [eqv_data k l, eqv_datas ks ls, Bool.eq_iff_iff]
    simp
end
mutual
/-- its texts are plain -/
def okD : D → Bool
  | .none => true
  | .num _ => true
  | .text x => PyData.strOk x
  | .tup ks => okDs ks
def okDs : List D → Bool
  | [] => true
  | k :: ks => okD k && okDs ks
end
mutual
theorem lay_data : ∀ k : D, okD k = true → k.data.canLay0 = true
  | .none, _ => by simp [NestedKey.data, PyData.canLay0]
  | .num _, _ => by simp [NestedKey.data, PyData.canLay0]
  | .text x, h => by
    have h : PyData.strOk x = true := h
    simp only [NestedKey.data, PyData.canLay0]
    exact h
  | .tup ks, h => by
    have h : okDs ks = true := h
    simp only [NestedKey.data, PyData.canLay0]
    exact lay_datas ks h
theorem lay_datas : ∀ ks : List D, okDs ks = true → PyData.canLayAll0 (NestedKey.datas ks) = true
  | [], _ => by simp [NestedKey.datas, PyData.canLayAll0]
  | k :: ks, h => by
    have h : (okD k && okDs ks) = true := h
    rw [Bool.and_eq_true] at h
    simp [NestedKey.datas, PyData.canLayAll0, lay_data k h.1, lay_datas ks h.2]
end
theorem ok_nums : ∀ r : List Int, okDs (nums r) = true
  | [] => rfl
  | i :: r => ok_nums r
theorem ok_row (r : List Int) : okD (rowD r) = true := ok_nums r
theorem okDs_all : ∀ ks : List D, (∀ k ∈ ks, okD k = true) → okDs ks = true
  | [], _ => rfl
  | k :: ks, h => by
    show (okD k && okDs ks) = true
    rw [h k (List.mem_cons_self ..), okDs_all ks fun l hl => h l (List.mem_cons_of_mem _ hl)]
    rfl
theorem depthAll_le {n : Nat} : ∀ ks : List D, (∀ k ∈ ks, k.depth ≤ n) → NestedKey.depthAll ks ≤ n
  | [], _ => Nat.zero_le _
  | k :: ks, h => by
    show max k.depth (NestedKey.depthAll ks) ≤ n
    have h1 := h k (List.mem_cons_self ..)
    have h2 := depthAll_le ks fun l hl => h l (List.mem_cons_of_mem _ hl)
    omega
mutual
theorem depth_data : ∀ k : D, k.data.depth = k.depth
  | .none => by simp [NestedKey.data, PyData.depth, NestedKey.depth]
  | .num _ => by simp [NestedKey.data, PyData.depth, NestedKey.depth]
  | .text _ => by simp [NestedKey.data, PyData.depth, NestedKey.depth]
  | .tup ks => by
    have h := depth_datas ks
    simp only [NestedKey.data, PyData.depth, NestedKey.depth]
    omega
theorem depth_datas : ∀ ks : List D, PyData.depthAll (NestedKey.datas ks) = NestedKey.depthAll ks
  | [] => by simp [NestedKey.datas, PyData.depthAll, NestedKey.depthAll]
  | k :: ks => by
    have h1 := depth_data k
    have h2 := depth_datas ks
    simp only [NestedKey.datas, PyData.depthAll, NestedKey.depthAll]
    omega
end
mutual
theorem At.dp {K : PySem.W.Frag} {H : Hp} : ∀ {k : D} {v : V}, At H k v → Dp K H v k.data
  | _, _, .none => by
    simp only [NestedKey.data]
    exact .non
  | _, _, .num i => by
    simp only [NestedKey.data]
    exact .int i
  | _, _, .text x => by
    simp only [NestedKey.data]
    exact .str x
  | _, _, .tup h q => by
    simp only [NestedKey.data]
    exact .tup (SqT.of h) (Ats.dp q)
theorem Ats.dp {K : PySem.W.Frag} {H : Hp} : ∀ {ks : List D} {vs : List V}, Ats H ks vs → DpAll K H vs (NestedKey.datas ks)
  | _, _, .nil => by
    simp only [NestedKey.datas]
    exact .nil
  | _, _, .cons g t => by
    simp only [NestedKey.datas]
    exact .cons (At.dp g) (Ats.dp t)
end
/-- data that is compared -/
def Sm (k : D) : Prop := k.depth ≤ 60 ∧ okD k = true
def Sms (ks : List D) : Prop := NestedKey.depthAll ks ≤ 60 ∧ okDs ks = true
theorem sm_row (r : List Int) : Sm (rowD r) := ⟨by rw [depth_row]; decide, ok_row r⟩
theorem sms_all {ks : List D} (h : ∀ k ∈ ks, Sm k) : Sms ks := ⟨depthAll_le ks fun k hk => (h k hk).1, okDs_all ks fun k hk => (h k hk).2⟩
theorem shaped_data {k : D} (h : Sm k) : SeqAt.shaped k.data = true := by
  show (k.data.canLay0 && decide (k.data.depth ≤ 64)) = true
  rw [Bool.and_eq_true]
  exact ⟨lay_data k h.2, decide_eq_true (by have := h.1; rw [depth_data]; omega)⟩
theorem shaped_list {ks : List D} (h : Sms ks) : SeqAt.shaped (.list (NestedKey.datas ks)) = true := by
  show (PyData.canLay0 (.list (NestedKey.datas ks)) && decide (PyData.depth (.list (NestedKey.datas ks)) ≤ 64)) = true
  rw [Bool.and_eq_true]
  refine ⟨?_, decide_eq_true ?_⟩
  · simp only [PyData.canLay0]
    exact lay_datas ks h.2
  · simp only [PyData.depth]
    have := depth_datas ks
    have := h.1
    omega
/-- == of data, of lists of data -/
def rEqK : R2 := fun x y H Q => ∃ k l, At H k x ∧ At H l y ∧ Sm k ∧ Sm l ∧ Q (.bl (decide (k = l))) H
def rNeK : R2 := fun x y H Q => ∃ k l, At H k x ∧ At H l y ∧ Sm k ∧ Sm l ∧ Q (.bl (!decide (k = l))) H
def rEqKL : R2 := fun x y H Q => ∃ a b vs ws ks ls, x = .ref a ∧ y = .ref b ∧ H a = some (.lst vs) ∧ H b = some (.lst ws) ∧ Ats H ks vs ∧ Ats H ls ws ∧ Sms ks ∧ Sms ls ∧ Q (.bl (decide (ks = ls))) H
def rNeKL : R2 := fun x y H Q => ∃ a b vs ws ks ls, x = .ref a ∧ y = .ref b ∧ H a = some (.lst vs) ∧ H b = some (.lst ws) ∧ Ats H ks vs ∧ Ats H ls ws ∧ Sms ks ∧ Sms ls ∧ Q (.bl (!decide (ks = ls))) H
theorem op_eqK (hu : X.A.units + 64 < cLine) : OpR X (compareOp .Eq) rEqK := by
  intro pins s σ H x y v u Q I rx ry h
  obtain ⟨k, l, hk, hl, dk, dl, q⟩ := h
  refine op_eqD hu pins s σ H x y v u Q I rx ry ⟨k.data, l.data, hk.dp, hl.dp, shaped_data dk, shaped_data dl, ?_⟩
  rw [eqv_data]
  exact q
theorem op_neK (hu : X.A.units + 64 < cLine) : OpR X (compareOp .NotEq) rNeK := by
  intro pins s σ H x y v u Q I rx ry h
  obtain ⟨k, l, hk, hl, dk, dl, q⟩ := h
  refine op_neD hu pins s σ H x y v u Q I rx ry ⟨k.data, l.data, hk.dp, hl.dp, shaped_data dk, shaped_data dl, ?_⟩
  rw [eqv_data]
  exact q
theorem op_eqKL (hu : X.A.units + 64 < cLine) : OpR X (compareOp .Eq) rEqKL := by
  intro pins s σ H x y v u Q I rx ry h
  obtain ⟨a, b, vs, ws, ks, ls, rfl, rfl, ha, hb, hk, hl, dk, dl, q⟩ := h
  refine op_eqD hu pins s σ H _ _ v u Q I rx ry ⟨.list (NestedKey.datas ks), .list (NestedKey.datas ls), .lst (SqL.of ha) hk.dp, .lst (SqL.of hb) hl.dp, shaped_list dk, shaped_list dl, ?_⟩
  have e : PyData.eqv (.list (NestedKey.datas ks)) (.list (NestedKey.datas ls)) = decide (ks = ls) := by
    simp only [PyData.eqv]
    exact eqv_datas ks ls
  rw [e]
  exact q
theorem op_neKL (hu : X.A.units + 64 < cLine) : OpR X (compareOp .NotEq) rNeKL := by
  intro pins s σ H x y v u Q I rx ry h
  obtain ⟨a, b, vs, ws, ks, ls, rfl, rfl, ha, hb, hk, hl, dk, dl, q⟩ := h
  refine op_neD hu pins s σ H _ _ v u Q I rx ry ⟨.list (NestedKey.datas ks), .list (NestedKey.datas ls), .lst (SqL.of ha) hk.dp, .lst (SqL.of hb) hl.dp, shaped_list dk, shaped_list dl, ?_⟩
  have e : PyData.eqv (.list (NestedKey.datas ks)) (.list (NestedKey.datas ls)) = decide (ks = ls) := by
    simp only [PyData.eqv]
    exact eqv_datas ks ls
  rw [e]
  exact q
theorem any_data (k : D) : ∀ ks : List D, ((NestedKey.datas ks).any fun z => PyData.eqv z k.data) = decide (k ∈ ks)
  | [] => by simp [NestedKey.datas]
  | l :: ks => by
    simp only [NestedKey.datas, List.any_cons]
    rw [any_data k ks, eqv_data]
    by_cases e : l = k
    · rw [e]
      simp
    · rw [decide_eq_false e, Bool.false_or]
      by_cases m : k ∈ ks
      · rw [decide_eq_true m, decide_eq_true (List.mem_cons_of_mem _ m)]
      · rw [decide_eq_false m, decide_eq_false fun z => (List.mem_cons.mp z).elim (fun q => e q.symm) m]
/-- x in t, t a tuple of data -/
def rInK : R2 := fun x y H Q => ∃ k ks, At H k x ∧ At H (.tup ks) y ∧ Sm k ∧ okDs ks = true ∧ Q (.bl (decide (k ∈ ks))) H
theorem op_inK (hu : X.A.units + 64 < cLine) : OpR X (compareOp .In) rInK := by
  intro pins s σ H x y v u Q I rx ry h
  obtain ⟨k, ks, hk, hl, dk, oks, q⟩ := h
  obtain ⟨as, r1⟩ := Dp.reads I k.data x v hk.dp rx
  obtain ⟨bs, r2⟩ := Dp.reads I (NestedKey.data (.tup ks)) y u hl.dp ry
  have r2' : Reads s.heap u (.tuple (NestedKey.datas ks)) bs := by
    simp only [NestedKey.data] at r2
    exact r2
  refine SeqAt.in_tuple_reads r2' r1 (lay_datas ks oks) (lay_data k dk.2) ?_ ?_
  · have h1 := depth_data k
    have h3 := dk.1
    have h2 := Nat.min_le_right (PyData.depthAll (NestedKey.datas ks)) k.data.depth
    omega
  · rw [any_data]
    exact ⟨.bl _, H, I, rfl, q⟩
end

/-! ### dicts keyed by data -/
/-- the object at a: a dict of these entries (key, the key's tuple, value) -/
def dnO (P : Program) (w : World) (a : Addr) (xs : List (D × Addr × Value)) : Heap → Prop := fun h => (a == sysModules) = false ∧ ∃ o es ep, h.get? a = some o ∧ o.ExactDict ∧ o.data = .dict es ep ∧ es.toList = xs.map (entryOfKey (nestedKind P w)) ∧ (xs.map (·.1)).Nodup
abbrev KN (H : Hp) : List (D × V) → List (D × Addr × Value) → Prop := Paired fun p q => p.1 = q.1 ∧ (At H p.1 (.ref q.2.1) ∧ p.1.depth ≤ 8) ∧ RelV p.2 q.2.2
/-- at a: a dict with these keys and values -/
def DN (P : Program) (w : World) (H : Hp) (a : Addr) (kvs : List (D × V)) : Prop := ∃ xs, H a = some (.ext (dnO P w a xs)) ∧ KN H kvs xs ∧ kvs.length ≤ sizeLine
theorem KN.mono {H H' : Hp} (t : Tk H H') {kvs : List (D × V)} {xs : List (D × Addr × Value)} (r : KN H kvs xs) : KN H' kvs xs := Paired.mapP r fun _ _ z => ⟨z.1, ⟨z.2.1.1.mono t, z.2.1.2⟩, z.2.2⟩
theorem DN.mono {P : Program} {w : World} {H H' : Hp} {a : Addr} {kvs : List (D × V)} (d : DN P w H a kvs) (t : Tk H H') (e : ∀ o, H a = some o → H' a = some o) : DN P w H' a kvs := by
  obtain ⟨xs, h, r, l⟩ := d
  exact ⟨xs, e _ h, r.mono t, l⟩
theorem DN.same {P : Program} {w : World} {H H' : Hp} {a : Addr} {kvs : List (D × V)} (d : DN P w H a kvs) (e : Same H H') : DN P w H' a kvs := d.mono (Tk.same e) fun o h => e a o h
theorem DN.at {P : Program} {w : World} {H : Hp} {a : Addr} {kvs : List (D × V)} (d : DN P w H a kvs) : ∃ φ, H a = some (.ext φ) := let ⟨xs, h, _⟩ := d; ⟨_, h⟩
theorem KN.keys {H : Hp} {kvs : List (D × V)} {xs : List (D × Addr × Value)} (r : KN H kvs xs) : kvs.map (·.1) = xs.map (·.1) := by
  induction r with
  | nil => rfl
  | cons z t ih => rw [List.map_cons, List.map_cons, ih, z.1]
theorem DN.nodup {P : Program} {w : World} {H : Hp} {h : Heap} {a : Addr} {kvs : List (D × V)} (ok : HOk P w H h) (d : DN P w H a kvs) : (kvs.map (·.1)).Nodup := by
  obtain ⟨xs, e, r, _⟩ := d
  obtain ⟨⟨_, _, _, _, _, _, _, _, nd⟩, _⟩ := (show ObjOk P w H h a (.ext (dnO P w a xs)) from ok a _ e)
  rw [KN.keys r]
  exact nd
theorem dnO_ok {P : Program} {w : World} {H : Hp} {h : Heap} {a : Addr} {xs : List (D × Addr × Value)} (d : dnO P w a xs h) : ObjOk P w H h a (.ext (dnO P w a xs)) := by
  refine ⟨d, ?_, ?_⟩
  · obtain ⟨_, o, _, _, e, _⟩ := d
    exact ⟨o, e⟩
  · rintro h1 h2 ⟨z, o, es, ep, e, c⟩ k
    exact ⟨z, o, es, ep, k _ e, c⟩
theorem KN.val {H : Hp} {kvs : List (D × V)} {xs : List (D × Addr × Value)} (r : KN H kvs xs) (k : D) : RelO (valV kvs k) ((atKey xs k).map (·.2)) := by
  induction r with
  | nil => exact True.intro
  | @cons p q ps qs h t ih =>
    obtain ⟨h1, _, h2⟩ := h
    by_cases e : p.1 = k
    · have b : atKey (q :: qs) k = some q.2 := by simp [atKey, List.find?_cons, h1.symm.trans e]
      rw [valV_pos e, b]
      exact h2
    · have b : atKey (q :: qs) k = atKey qs k := by simp [atKey, List.find?_cons, show ¬ q.1 = k from fun z => e (h1.trans z)]
      rw [valV_neg e, b]
      exact ih
theorem KN.repl {H : Hp} {kvs : List (D × V)} {xs : List (D × Addr × Value)} (r : KN H kvs xs) (k : D) {y : V} {u : Value} (ry : RelV y u) : KN H (kvs.map fun kv => if kv.1 = k then (kv.1, y) else kv) (xs.map (putAt k u)) := by
  induction r with
  | nil => exact .nil
  | @cons p q ps qs h t ih =>
    rw [List.map_cons, List.map_cons]
    refine .cons ?_ ih
    obtain ⟨h1, h2, h3⟩ := h
    unfold putAt
    by_cases e : p.1 = k
    · rw [if_pos e, if_pos (h1.symm.trans e)]
      exact ⟨h1, h2, ry⟩
    · rw [if_neg e, if_neg (fun z => e (h1.trans z))]
      exact ⟨h1, h2, h3⟩
theorem KN.put {H : Hp} {kvs : List (D × V)} {xs : List (D × Addr × Value)} (r : KN H kvs xs) (k : D) {b : Addr} {y : V} {u : Value} (hb : At H k (.ref b)) (hd : k.depth ≤ 8) (ry : RelV y u) : KN H (putK kvs k y) (storedH xs k b u) := by
  have e : (kvs.any fun kv => decide (kv.1 = k)) = (atKey xs k).isSome := by rw [valV_any, (r.val k).isSome_eq, Option.isSome_map]
  unfold putK storedH
  rw [e]
  by_cases q : (atKey xs k).isSome = true
  · rw [if_pos q, if_pos q]
    exact r.repl k ry
  · rw [if_neg q, if_neg q]
    exact Paired.snoc r ⟨rfl, ⟨hb, hd⟩, ry⟩
section
variable {X : Cx} {pins : List (Addr × Obj)} {σ : St} {H : Hp} {s : Shared} {a : Addr} {kvs : List (D × V)} {k : D} {v : V}
theorem isKey (I : Inv X pins σ H s) {b : Addr} (hk : At H k (.ref b)) (hd : k.depth ≤ 8) : (nestedKind X.prog X.w).is s.heap k b := ⟨At.nested I hk rfl, hd⟩
theorem dn_of (I : Inv X pins σ H s) (d : DN X.prog X.w H a kvs) : ∃ xs, H a = some (.ext (dnO X.prog X.w a xs)) ∧ KN H kvs xs ∧ kvs.length ≤ sizeLine ∧ (a == sysModules) = false ∧ s.heap.DictOfH (nestedKind X.prog X.w) a xs := by
  obtain ⟨xs, e, r, l⟩ := d
  obtain ⟨⟨z, o, es, ep, h1, h2, h3, h4, h5⟩, _⟩ := (show ObjOk X.prog X.w H s.heap a (.ext (dnO X.prog X.w a xs)) from I.hok a _ e)
  refine ⟨xs, e, r, l, z, o, es, ep, h1, h2, h3, h4, fun x hx => ?_, h5⟩
  have all : ∀ {l : List (D × V)} {m : List (D × Addr × Value)}, KN H l m → ∀ x ∈ m, (nestedKind X.prog X.w).is s.heap x.1 x.2.1 := by
    intro l m q
    induction q with
    | nil => intro x hx; exact nomatch hx
    | @cons p q ps qs hq t ih =>
      intro x hx
      rcases List.mem_cons.mp hx with e | hx
      · subst e
        rw [← hq.1]
        exact isKey I hq.2.1.1 hq.2.1.2
      · exact ih x hx
  exact all r x hx
/-- k in d, k not in d, d[k] -/
def rInN (P : Program) (w : World) (neg : Bool) : R2 := fun x y H Q => ∃ b d kvs k, x = .ref b ∧ y = .ref d ∧ DN P w H d kvs ∧ At H k (.ref b) ∧ k.depth ≤ 8 ∧ Q (.bl (if neg = true then !(valV kvs k).isSome else (valV kvs k).isSome)) H
theorem op_inN (hu : X.A.units + 64 < cLine) : OpR X (compareOp .In) (rInN X.prog X.w false) := by
  intro pins s σ H x y v u Q I rx ry h
  obtain ⟨b, d, kvs, k, rfl, rfl, hd, hk, dk, q⟩ := h
  cases rx
  cases ry
  obtain ⟨xs, _, r, _, z, dd⟩ := dn_of I hd
  refine wpAny_in_heap (knd := nestedKind X.prog X.w) (room_n hu) (isKey I hk dk) z dd ?_
  have e := (r.val k).isSome_eq
  rw [Option.isSome_map] at e
  rw [← e]
  exact ⟨.bl _, H, I.tok _, rfl, q⟩
theorem op_notInN (hu : X.A.units + 64 < cLine) : OpR X (compareOp .NotIn) (rInN X.prog X.w true) := by
  intro pins s σ H x y v u Q I rx ry h
  obtain ⟨b, d, kvs, k, rfl, rfl, hd, hk, dk, q⟩ := h
  cases rx
  cases ry
  obtain ⟨xs, _, r, _, z, dd⟩ := dn_of I hd
  refine wpAny_notIn_heap (knd := nestedKind X.prog X.w) (room_n hu) (isKey I hk dk) z dd ?_
  have e := (r.val k).isSome_eq
  rw [Option.isSome_map] at e
  rw [← e]
  exact ⟨.bl _, H, I.tok _, rfl, q⟩
def rGetN (P : Program) (w : World) : R2 := fun x y H Q => ∃ b d kvs k v, x = .ref d ∧ y = .ref b ∧ DN P w H d kvs ∧ At H k (.ref b) ∧ k.depth ≤ 8 ∧ valV kvs k = some v ∧ Q v H
theorem get_dN (hu : X.A.units + 64 < cLine) : PGet X (rGetN X.prog X.w) := by
  intro pins s σ H o i ov iv Q I ro ri h
  obtain ⟨b, d, kvs, k, v, rfl, rfl, hd, hk, dk, hv, q⟩ := h
  cases ro
  cases ri
  obtain ⟨xs, _, r, _, z, dd⟩ := dn_of I hd
  obtain ⟨w', hw, rw'⟩ := RelO.some_of (v := v) (o := (atKey xs k).map (·.2)) (by rw [← hv]; exact r.val k)
  obtain ⟨p, hp, hp2⟩ := Option.map_eq_some_iff.mp hw
  refine wpAny_getItem_heap (knd := nestedKind X.prog X.w) (room_n hu) (isKey I hk dk) dd hp ?_
  rw [hp2]
  exact ⟨v, H, I.tok _, rw', q⟩
theorem pe_getN {o i : Expr} {to ti : TE} {pos : Pos} (hu : X.A.units + 64 < cLine) (ho : PE X o to) (hi : PE X i ti) (hs : PlainIx i) : PE X (.Subscript o i pos) (tOp (rGetN X.prog X.w) to ti) := by
  refine pe_ix (fun value slice pins s σ H x y v u Q I rx ry q hs => ?_) ho hi hs
  have q' := q
  obtain ⟨b, d, kvs, k, z, rfl, rfl, hd, _⟩ := q'
  cases rx
  obtain ⟨xs, _, r, _, _, dd⟩ := dn_of I hd
  exact tail_any dd.typeIs PySem.F.slot_dict_getitem.lookup (get_dN hu pins s σ H (.ref d) (.ref b) _ _ Q I rfl ry q) hs
/-- d[k] = v -/
def rPutN (P : Program) (w : World) : TSet := fun o i v H Q => ∃ b d kvs k, o = .ref d ∧ i = .ref b ∧ DN P w H d kvs ∧ At H k (.ref b) ∧ k.depth ≤ 8 ∧ kvs.length < sizeLine ∧ ∀ φ, DN P w (upd H d (.ext φ)) d (putK kvs k v) → Q (upd H d (.ext φ))
theorem set_dN (hu : X.A.units + 64 < cLine) : PSet X (rPutN X.prog X.w) := by
  intro pins s σ H o i v ov iv u Q I ro ri rv h
  obtain ⟨b, d, kvs, k, rfl, rfl, hd, hk, dk, hl, q⟩ := h
  cases ro
  cases ri
  obtain ⟨xs, e, r, l, z, dd⟩ := dn_of I hd
  have hz : xs.length ≤ sizeLine := by rw [← Paired.length r]; exact l
  have hl2 : (putK kvs k v).length ≤ sizeLine := by have := length_putK kvs k v; omega
  refine wpAny_setItem_heap (knd := nestedKind X.prog X.w) (hsz := hz) (room_n hu) (isKey I hk dk) dd fun h' dd' hs => ?_
  obtain ⟨q', es, ep, hq, h2, h3, h4, h6, h5⟩ := dd'
  have new : dnO X.prog X.w d (storedH xs k b u) h' := ⟨z, q', es, ep, hq, h2, h3, h4, h5⟩
  have tk : Tk H (upd H d (.ext (dnO X.prog X.w d (storedH xs k b u)))) := Tk.put e fun xs => by intro z; cases z
  refine ⟨_, d_write I (by rw [e]; exact True.intro) hs ⟨q', hq⟩ (dnO_ok new), q _ ⟨_, upd_same, (r.put k hk dk rv).mono tk, hl2⟩⟩
/-- {} -/
def tNewN (P : Program) (w : World) : TE := fun _ H Q => ∀ d, H d = none → ∀ φ, DN P w (upd H d (.ext φ)) d [] → Q (.ref d) (upd H d (.ext φ))
theorem pe_newN {pos : Pos} : PE X (.Dict [] [] pos) (tNewN X.prog X.w) := ⟨fun pins s σ H Q I h => by
  have hn := I.hok.fresh (Nat.le_refl s.heap.objs.size)
  have new : dnO X.prog X.w s.heap.objs.size [] (s.heap.push { cls := .type "dict", data := .dict #[] }) :=
    ⟨beq_eq_false_iff_ne.mpr (Ne.symm (Nat.ne_of_lt I.big)), _, #[], 0, Heap.get?_push_size _ rfl, ⟨rfl, rfl, rfl⟩, rfl, rfl, List.nodup_nil⟩
  exact wpAny_Dict_empty ⟨.ref s.heap.objs.size, _, I.laid (a := s.heap.objs.size) (t' := s.toks) (fun _ _ q => Heap.get?_push_of_some _ q) (Nat.le_refl _) (dnO_ok new), rfl, h _ hn _ ⟨[], upd_same, .nil, Nat.zero_le _⟩⟩⟩
end
end K81

namespace K81
/-! # Rows and changes, in plain Lean -/
abbrev Row := List Int
/-- rounds on n bells -/
def rnd (n : Nat) : Row := (List.range n).map fun i : Nat => (i : Int) + 1
/-- a row behind a move -/
def tms (r m : Row) : Row := m.map fun p => r.getD (p.toNat - 1) 0
/-- the move of a change, as the program's loop makes it -/
def cmvGo (n : Nat) (c : Row) : Nat → Nat → Row → Option Row
  | 0, _, _ => none
  | f + 1, p, out => if p ≤ n then (if (p : Int) ∈ c then cmvGo n c f (p + 1) out else if p < n then cmvGo n c f (p + 2) ((out.set (p - 1) (p + 1 : Nat)).set p (p : Nat)) else none) else some out
def cmv (n : Nat) (c : Row) : Row := (cmvGo n c (n + 1) 1 (rnd n)).getD []
/-- .. as the law's loop makes it -/
def lmvGo (n : Nat) (c : Row) : Nat → Nat → Row → Row
  | 0, _, out => out
  | f + 1, p, out => if p < n ∧ (p : Int) ∉ c then lmvGo n c f (p + 2) ((out.set (p - 1) (p + 1 : Nat)).set p (p : Nat)) else lmvGo n c f (p + 1) out
/-- the sound changes -/
def chgs : Nat → List Row
  | 3 => [[1, 2, 3], [1], [3]]
  | 4 => [[1, 2, 3, 4], [1, 2], [1, 4], [3, 4], []]
  | 5 => [[1, 2, 3, 4, 5], [1, 2, 3], [1, 2, 5], [1, 4, 5], [3, 4, 5], [1], [3], [5]]
  | _ => []
def Bells (n : Nat) : Prop := n = 3 ∨ n = 4 ∨ n = 5
theorem bells_all {q : Nat → Bool} (h : (q 3 && q 4 && q 5) = true) {n : Nat} (b : Bells n) : q n = true := by
  simp only [Bool.and_eq_true] at h
  rcases b with rfl | rfl | rfl
  · exact h.1.1
  · exact h.1.2
  · exact h.2
theorem chg_all {q : Nat → Row → Bool} (h : (([3, 4, 5] : List Nat).all fun n => (chgs n).all (q n)) = true) {n : Nat} {c : Row} (b : Bells n) (m : c ∈ chgs n) : q n c = true := by
  simp only [List.all_eq_true] at h
  exact h n (by rcases b with rfl | rfl | rfl <;> decide) c m
theorem cmv_go {n : Nat} {c : Row} (b : Bells n) (m : c ∈ chgs n) : cmvGo n c (n + 1) 1 (rnd n) = some (cmv n c) :=
  of_decide_eq_true (chg_all (q := fun n c => decide (cmvGo n c (n + 1) 1 (rnd n) = some (cmv n c))) (by decide +kernel) b m)
theorem lmv_go {n : Nat} {c : Row} (b : Bells n) (m : c ∈ chgs n) : lmvGo n c n 1 (rnd n) = cmv n c :=
  of_decide_eq_true (chg_all (q := fun n c => decide (lmvGo n c n 1 (rnd n) = cmv n c)) (by decide +kernel) b m)
/-- entries from 1 to n -/
def In1 (n : Nat) (r : Row) : Prop := ∀ p ∈ r, 1 ≤ p ∧ p ≤ n
instance (n : Nat) (r : Row) : Decidable (In1 n r) := by unfold In1; infer_instance
theorem cmv_in {n : Nat} {c : Row} (b : Bells n) (m : c ∈ chgs n) : In1 n (cmv n c) :=
  of_decide_eq_true (chg_all (q := fun n c => decide (In1 n (cmv n c))) (by decide +kernel) b m)
theorem cmv_len {n : Nat} {c : Row} (b : Bells n) (m : c ∈ chgs n) : (cmv n c).length = n :=
  of_decide_eq_true (chg_all (q := fun n c => decide ((cmv n c).length = n)) (by decide +kernel) b m)
theorem chg_len {n : Nat} {c : Row} (b : Bells n) (m : c ∈ chgs n) : c.length ≤ 5 :=
  of_decide_eq_true (chg_all (q := fun n c => decide (c.length ≤ 5)) (by decide +kernel) b m)
theorem chg_in {n : Nat} {c : Row} (b : Bells n) (m : c ∈ chgs n) : In1 n c :=
  of_decide_eq_true (chg_all (q := fun n c => decide (In1 n c)) (by decide +kernel) b m)
theorem rnd_len (n : Nat) : (rnd n).length = n := by
  unfold rnd
  rw [List.length_map, List.length_range]
theorem rnd_get {n i : Nat} (h : i < n) : (rnd n)[i]? = some ((i : Int) + 1) := by
  unfold rnd
  rw [List.getElem?_map, List.getElem?_range h]
  rfl
theorem tms_len (r m : Row) : (tms r m).length = m.length := by
  unfold tms
  rw [List.length_map]
theorem bells_le {n : Nat} (b : Bells n) : n ≤ 5 := by
  rcases b with rfl | rfl | rfl <;> decide
theorem bells_pos {n : Nat} (b : Bells n) : 3 ≤ n := by
  rcases b with rfl | rfl | rfl <;> decide
/-- rising, the gaps even: what the program asks of a change -/
def risB : Int → Int → Option Int → Row → Bool
  | _, _, _, [] => true
  | lo, hi, last, x :: r => decide (lo ≤ x ∧ x ≤ hi) && (match last with | none => true | some l => decide (l < x)) && risB lo hi (some x) r
def gapB : Int → Row → Bool
  | _, [] => true
  | b, x :: r => decide ((x - b - 1) % 2 ≠ 1) && gapB x r
theorem chg_ris {n : Nat} {c : Row} (b : Bells n) (m : c ∈ chgs n) : risB 1 n none c = true :=
  chg_all (q := fun n c => risB 1 n none c) (by decide +kernel) b m
theorem chg_gap {n : Nat} {c : Row} (b : Bells n) (m : c ∈ chgs n) : gapB 0 (c ++ [(n : Int) + 1]) = true :=
  chg_all (q := fun n c => gapB 0 (c ++ [(n : Int) + 1])) (by decide +kernel) b m
end K81
namespace K81
/-! the law's drawn changes -/
def chStep (n : Nat) (st : Nat × Row) : List (Nat × Row) :=
  if st.1 < n then [(st.1 + 2, st.2), (st.1 + 1, st.2 ++ [(st.1 : Int)])] else if st.1 ≤ n then [(st.1 + 1, st.2 ++ [(st.1 : Int)])] else [(st.1 + 1, st.2)]
def chAt (n : Nat) : Nat → List (Nat × Row)
  | 0 => [(1, [])]
  | t + 1 => (chAt n t).flatMap (chStep n)
theorem chAt_step {n t : Nat} {st st' : Nat × Row} (h : st ∈ chAt n t) (h' : st' ∈ chStep n st) : st' ∈ chAt n (t + 1) := List.mem_flatMap.mpr ⟨st, h, h'⟩
theorem chAt_end {n : Nat} (b : Bells n) {st : Nat × Row} (h : st ∈ chAt n n) : st.2 ∈ chgs n := by
  have e := bells_all (q := fun n => (chAt n n).all fun st => decide (st.2 ∈ chgs n)) (by decide +kernel) b
  simp only [List.all_eq_true, decide_eq_true_eq] at e
  exact e st h
def ledStep (n low : Nat) (st : Nat × Row) : List (Nat × Row) :=
  if st.1 = low then [(st.1 + 2, st.2)] else if st.1 < n ∧ st.1 + 1 ≠ low ∧ 1 < st.1 + low then [(st.1 + 2, st.2), (st.1 + 1, st.2 ++ [(st.1 : Int)])] else if st.1 ≤ n then [(st.1 + 1, st.2 ++ [(st.1 : Int)])] else [(st.1 + 1, st.2)]
def ledAt (n low : Nat) : Nat → List (Nat × Row)
  | 0 => [(1, [])]
  | t + 1 => (ledAt n low t).flatMap (ledStep n low)
theorem ledAt_step {n low t : Nat} {st st' : Nat × Row} (h : st ∈ ledAt n low t) (h' : st' ∈ ledStep n low st) : st' ∈ ledAt n low (t + 1) := List.mem_flatMap.mpr ⟨st, h, h'⟩
/-- the led changes -/
def leds (n low : Nat) : List Row := (ledAt n low n).map Prod.snd
theorem led_all {q : Nat → Nat → Row → Bool} (h : (([3, 4, 5] : List Nat).all fun n => (List.range n).all fun low => (leds n low).all (q n low)) = true) {n low : Nat} {c : Row} (b : Bells n) (hl : low < n) (m : c ∈ leds n low) : q n low c = true := by
  simp only [List.all_eq_true] at h
  exact h n (by rcases b with rfl | rfl | rfl <;> decide) low (List.mem_range.mpr hl) c m
theorem led_chg {n low : Nat} {c : Row} (b : Bells n) (hl : low < n) (m : c ∈ leds n low) : c ∈ chgs n :=
  of_decide_eq_true (led_all (q := fun n _ c => decide (c ∈ chgs n)) (by decide +kernel) b hl m)
end K81

namespace K81
open PySem PySem.Spec PyProof.Rows L2
/-! # How the heap grows; lists of data; texts' dicts; walks -/
/-- all stands but what S names; tuples stand in any case; what was there is there -/
structure Grow (S : Addr → Prop) (H H' : Hp) : Prop where
  kp : ∀ b o, H b = some o → (¬ S b ∨ ∃ xs, o = .tup xs) → H' b = some o
  ex : ∀ b, H' b = none → H b = none
abbrev No : Addr → Prop := fun _ => False
abbrev On (a : Addr) : Addr → Prop := fun b => b = a
theorem Grow.refl {S : Addr → Prop} (H : Hp) : Grow S H H := ⟨fun _ _ h _ => h, fun _ h => h⟩
theorem Grow.trans {S : Addr → Prop} {H H1 H2 : Hp} (g : Grow S H H1) (g' : Grow S H1 H2) : Grow S H H2 := ⟨fun b o h n => g'.kp b o (g.kp b o h n) n, fun b h => g.ex b (g'.ex b h)⟩
theorem Grow.mono {S S' : Addr → Prop} {H H1 : Hp} (g : Grow S H H1) (i : ∀ b, S b → S' b) : Grow S' H H1 := ⟨fun b o h n => g.kp b o h (n.imp (fun z y => z (i b y)) id), g.ex⟩
theorem Grow.any {S : Addr → Prop} {H H1 : Hp} (g : Grow No H H1) : Grow S H H1 := g.mono fun _ z => z.elim
theorem Grow.then {S : Addr → Prop} {H H1 H2 : Hp} (g : Grow S H H1) (g' : Grow No H1 H2) : Grow S H H2 := g.trans g'.any
theorem Grow.after {S : Addr → Prop} {H H1 H2 : Hp} (g : Grow No H H1) (g' : Grow S H1 H2) : Grow S H H2 := g.any.trans g'
/-- growth that changes what is new to H alone -/
theorem Grow.but {S S' : Addr → Prop} {H H1 H2 : Hp} (g : Grow S H H1) (g' : Grow S' H1 H2) (i : ∀ b, S' b → S b ∨ H b = none) : Grow S H H2 := ⟨fun b o h n => by
  refine g'.kp b o (g.kp b o h n) ?_
  rcases n with n | n
  · refine .inl fun z => (i b z).elim n fun e => ?_
    rw [h] at e
    cases e
  · exact .inr n, fun b h => g.ex b (g'.ex b h)⟩
theorem Grow.tk {S : Addr → Prop} {H H1 : Hp} (g : Grow S H H1) : Tk H H1 := fun b xs h => g.kp b _ h (.inr ⟨xs, rfl⟩)
theorem Grow.o {S : Addr → Prop} {H H1 : Hp} {b : Addr} {o : HO} (g : Grow S H H1) (h : H b = some o) (n : ¬ S b) : H1 b = some o := g.kp b o h (.inl n)
theorem Grow.oN {H H1 : Hp} {b : Addr} {o : HO} (g : Grow No H H1) (h : H b = some o) : H1 b = some o := g.kp b o h (.inl id)
theorem Grow.new {S : Addr → Prop} {H : Hp} {a : Addr} {o : HO} (h : H a = none) : Grow S H (upd H a o) := ⟨fun b u e _ => by
  rw [upd_ne (ne_of_none e h)]
  exact e, fun b e => by
  by_cases z : b = a
  · rw [z]
    exact h
  · rw [upd_ne z] at e
    exact e⟩
theorem Grow.put {S : Addr → Prop} {H : Hp} {a : Addr} {u o : HO} (h : H a = some u) (n : ∀ xs, u ≠ .tup xs) (s : S a) : Grow S H (upd H a o) := ⟨fun b v e m => by
  have ne : b ≠ a := fun z => by
    subst z
    rw [h] at e
    cases e
    rcases m with m | ⟨xs, m⟩
    · exact m s
    · exact n xs m
  rw [upd_ne ne]
  exact e, fun b e => by
  by_cases z : b = a
  · rw [z, upd_same] at e
    cases e
  · rw [upd_ne z] at e
    exact e⟩
theorem Grow.putO {H : Hp} {a : Addr} {u o : HO} (h : H a = some u) (n : ∀ xs, u ≠ .tup xs) : Grow (On a) H (upd H a o) := Grow.put h n rfl
theorem Grow.at {S : Addr → Prop} {H H1 : Hp} (g : Grow S H H1) {k : D} {v : V} (h : At H k v) : At H1 k v := h.mono g.tk
theorem Grow.ats {S : Addr → Prop} {H H1 : Hp} (g : Grow S H H1) {k : List D} {v : List V} (h : Ats H k v) : Ats H1 k v := h.mono g.tk
theorem Grow.ne {S : Addr → Prop} {H H1 : Hp} (g : Grow S H H1) {a p : Addr} {o : HO} (h : H a = some o) (n : H1 p = none) : a ≠ p := ne_of_none h (g.ex p n)
/-- a new tuple of data -/
theorem tup_new {H : Hp} {p : Addr} {ks : List D} {vs : List V} (a : Ats H ks vs) (n : H p = none) : At (upd H p (.tup vs)) (.tup ks) (.ref p) := .tup upd_same (a.mono (Tk.new n))
/-! ### lists of data -/
/-- at a: a list of this data -/
def Ls (H : Hp) (a : Addr) (ks : List D) : Prop := ∃ vs, H a = some (.lst vs) ∧ Ats H ks vs
theorem Ls.grow {S : Addr → Prop} {H H1 : Hp} {a : Addr} {ks : List D} (h : Ls H a ks) (g : Grow S H H1) (n : ¬ S a) : Ls H1 a ks := let ⟨vs, e, r⟩ := h; ⟨vs, g.o e n, g.ats r⟩
theorem Ls.growN {H H1 : Hp} {a : Addr} {ks : List D} (h : Ls H a ks) (g : Grow No H H1) : Ls H1 a ks := h.grow g id
theorem Ls.new {H : Hp} {p : Addr} {ks : List D} {vs : List V} (a : Ats H ks vs) (n : H p = none) : Ls (upd H p (.lst vs)) p ks := ⟨vs, upd_same, a.mono (Tk.new n)⟩
theorem Ls.ne {H : Hp} {a p : Addr} {ks : List D} (h : Ls H a ks) (n : H p = none) : a ≠ p := let ⟨_, e, _⟩ := h; ne_of_none e n
theorem Ls.ex {H : Hp} {a : Addr} {ks : List D} (h : Ls H a ks) : ∃ vs, H a = some (.lst vs) := let ⟨vs, e, _⟩ := h; ⟨vs, e⟩
/-- ints in a list -/
theorem Ls.ints {H : Hp} {a : Addr} {r : List Int} (h : Ls H a (nums r)) : H a = some (.lst (r.map V.int)) := by
  obtain ⟨vs, e, q⟩ := h
  rw [nums_of q] at e
  exact e
theorem ls_ints {H : Hp} {a : Addr} {r : List Int} (h : H a = some (.lst (r.map V.int))) : Ls H a (nums r) := ⟨_, h, ats_nums r⟩
/-! ### rules weakened -/
section
variable {X : Cx}
theorem op_weak {f : Value → Value → Sem Value} {r r' : R2} (h : OpR X f r) (i : ∀ x y H Q, r' x y H Q → r x y H Q) : OpR X f r' := fun pins s σ H x y v u Q I rx ry q => h pins s σ H x y v u Q I rx ry (i _ _ _ _ q)
theorem ix_weak {r r' : R2} (h : IxR X r) (i : ∀ x y H Q, r' x y H Q → r x y H Q) : IxR X r' := fun ve se pins s σ H x y v u Q I rx ry q hs => h ve se pins s σ H x y v u Q I rx ry (i _ _ _ _ q) hs
theorem call_weak {f : Value} {r r' : List V → Hp → VK → Prop} (h : CallR X f r) (i : ∀ xs H Q, r' xs H Q → r xs H Q) : CallR X f r' := fun pins s σ H xs us Q I rx q => h pins s σ H xs us Q I rx (i _ _ _ q)
theorem mt_weak {f : String} {r r' : V → List V → Hp → VK → Prop} (h : MtR X f r) (i : ∀ x xs H Q, r' x xs H Q → r x xs H Q) : MtR X f r' := fun pins s σ H x xs v us Q I rx rxs q => h pins s σ H x xs v us Q I rx rxs (i _ _ _ _ q)
theorem sl_weak {r r' : V → Option Int → Option Int → Hp → VK → Prop} (h : SlR X r) (i : ∀ x lo hi H Q, r' x lo hi H Q → r x lo hi H Q) : SlR X r' := fun pins s σ H x v vl vu lo hi sl Q I rx hs pl pu q => h pins s σ H x v vl vu lo hi sl Q I rx hs pl pu (i _ _ _ _ _ q)
/-! ### items -/
/-- the j-th, by a number of any sign -/
def IxAt (n : Nat) (i : Int) (j : Nat) : Prop := j < n ∧ (i = (j : Int) ∨ i = (j : Int) - n)
theorem ixN_of {n : Nat} {i : Int} {j : Nat} (h : IxAt n i j) : ixN n i = some j := by
  obtain ⟨h1, h2⟩ := h
  unfold ixN
  by_cases h0 : 0 ≤ i
  · have e : i = j := by omega
    subst e
    simp [h1]
  · have e : i = j - n := by omega
    subst e
    simp only [h0, if_false]
    have : -(n : Int) ≤ (j : Int) - n := by omega
    simp [this]
theorem ats_atI {H : Hp} {ks : List D} {vs : List V} {i : Int} {j : Nat} {k : D} (h : Ats H ks vs) (ix : IxAt ks.length i j) (e : ks[j]? = some k) : ∃ v, atI vs i = some v ∧ At H k v := by
  obtain ⟨v, e2, a⟩ := h.at e
  refine ⟨v, ?_, a⟩
  unfold atI
  rw [← h.length, ixN_of ix]
  exact e2
def rIxK : R2 := fun x y H Q => ∃ ks i j k, At H (.tup ks) x ∧ y = .int i ∧ IxAt ks.length i j ∧ ks[j]? = some k ∧ ∀ v, At H k v → Q v H
def rIxLK : R2 := fun x y H Q => ∃ a ks i j k, x = .ref a ∧ Ls H a ks ∧ y = .int i ∧ IxAt ks.length i j ∧ ks[j]? = some k ∧ ∀ v, At H k v → Q v H
theorem ix_tupK : IxR X rIxK := ix_weak ix_tup fun x y H Q h => by
  obtain ⟨ks, i, j, k, a, rfl, ix, e, q⟩ := h
  obtain ⟨p, vs, rfl, h1, h2⟩ := a.ref
  obtain ⟨v, e2, av⟩ := ats_atI h2 ix e
  exact ⟨p, vs, i, v, rfl, rfl, SqT.of h1, e2, q v av⟩
theorem ix_lstK : IxR X rIxLK := ix_weak ix_list fun x y H Q h => by
  obtain ⟨p, ks, i, j, k, rfl, ⟨vs, h1, h2⟩, rfl, ix, e, q⟩ := h
  obtain ⟨v, e2, av⟩ := ats_atI h2 ix e
  exact ⟨p, vs, i, v, rfl, rfl, SqL.of h1, e2, q v av⟩
/-- ints of a row -/
def rIxI : R2 := fun x y H Q => ∃ r i j z, At H (rowD r) x ∧ y = .int i ∧ IxAt r.length i j ∧ r[j]? = some z ∧ Q (.int z) H
theorem ix_tupI : IxR X rIxI := ix_weak ix_tupK fun x y H Q h => by
  obtain ⟨r, i, j, z, a, rfl, ix, e, q⟩ := h
  refine ⟨nums r, i, j, .num z, a, rfl, by unfold nums; rw [List.length_map]; exact ix, by unfold nums; rw [List.getElem?_map, e]; rfl, fun v av => ?_⟩
  rw [av.int_]
  exact q
/-! ### calls on data -/
/-- tuple(list of data) -/
def rTupK : List V → Hp → VK → Prop := fun xs H Q => ∃ a ks, xs = [.ref a] ∧ Ls H a ks ∧ ∀ H' v, Grow No H H' → At H' (.tup ks) v → Q v H'
theorem call_tupK : CallR X (.type "tuple") rTupK := call_weak call_tuple_of fun xs H Q h => by
  obtain ⟨a, ks, rfl, ⟨vs, e, r⟩, q⟩ := h
  exact ⟨a, vs, rfl, .inl ⟨SqL.of e, fun l hl => q _ _ (Grow.new hl) (tup_new r hl)⟩⟩
/-- list(tuple of data), list(list of data) -/
def rLstK : List V → Hp → VK → Prop := fun xs H Q => ∃ x ks, xs = [x] ∧ (At H (.tup ks) x ∨ ∃ a, x = .ref a ∧ Ls H a ks) ∧ ∀ H' p, H p = none → Grow No H H' → Ls H' p ks → Q (.ref p) H'
theorem call_lstK : CallR X (.type "list") rLstK := call_weak call_list_of fun xs H Q h => by
  obtain ⟨x, ks, rfl, o, q⟩ := h
  rcases o with a | ⟨a, rfl, vs, e, r⟩
  · obtain ⟨p, vs, rfl, h1, h2⟩ := a.ref
    exact ⟨p, vs, rfl, .inr (SqT.of h1), fun l hl => q _ _ hl (Grow.new hl) (Ls.new h2 hl)⟩
  · exact ⟨a, vs, rfl, .inl (SqL.of e), fun l hl => q _ _ hl (Grow.new hl) (Ls.new r hl)⟩
/-- len of a tuple or a list of data -/
def rLenK : List V → Hp → VK → Prop := fun xs H Q => ∃ x ks, xs = [x] ∧ (At H (.tup ks) x ∨ ∃ a, x = .ref a ∧ Ls H a ks) ∧ Q (.int (ks.length : Int)) H
theorem call_lenK : CallR X (.builtin "len") rLenK := call_weak call_len_seq fun xs H Q h => by
  obtain ⟨x, ks, rfl, o, q⟩ := h
  rcases o with a | ⟨a, rfl, vs, e, r⟩
  · obtain ⟨p, vs, rfl, h1, h2⟩ := a.ref
    exact ⟨p, vs, rfl, .inr (SqT.of h1), by rw [← h2.length]; exact q⟩
  · exact ⟨a, vs, rfl, .inl (SqL.of e), by rw [← r.length]; exact q⟩
/-- xs.append(data) -/
def rAppK : V → List V → Hp → VK → Prop := fun x xs H Q => ∃ l ks k y, x = .ref l ∧ xs = [y] ∧ Ls H l ks ∧ At H k y ∧ ks.length < sizeLine ∧ ∀ H', Grow (On l) H H' → Ls H' l (ks ++ [k]) → Q .non H'
theorem lst_ne_tup (xs ys : List V) : HO.lst xs ≠ .tup ys := fun z => by cases z
theorem mt_appK : MtR X "list.append" rAppK := mt_weak mt_append fun x xs H Q h => by
  obtain ⟨l, ks, k, y, rfl, rfl, ⟨vs, e, r⟩, a, z, q⟩ := h
  have g : Grow (On l) H (upd H l (.lst (vs ++ [y]))) := Grow.putO e (lst_ne_tup vs)
  exact ⟨l, vs, y, rfl, rfl, e, by rw [← r.length]; exact z, q _ g ⟨_, upd_same, g.ats (Ats.snoc a r)⟩⟩
theorem tyL {K : PySem.W.Frag} {H : Hp} {l : Addr} {ks : List D} (h : Ls H l ks) : tyV K "list" (.ref l) H := let ⟨vs, e, _⟩ := h; .inl ⟨rfl, vs, SqL.of e⟩
/-- t + u, t[i:j] -/
def rCatK : R2 := fun x y H Q => ∃ ks ls, At H (.tup ks) x ∧ At H (.tup ls) y ∧ ks.length + ls.length ≤ sizeLine ∧ ∀ H' v, Grow No H H' → At H' (.tup (ks ++ ls)) v → Q v H'
theorem op_catK : OpR X (binaryOp .Add) rCatK := op_weak op_catA fun x y H Q h => by
  obtain ⟨ks, ls, a, b, z, q⟩ := h
  obtain ⟨p, vs, rfl, h1, h2⟩ := a.ref
  obtain ⟨t, ws, rfl, h3, h4⟩ := b.ref
  refine ⟨p, t, vs, ws, rfl, rfl, SqT.of h1, SqT.of h3, by rw [← h2.length, ← h4.length]; exact z, fun e => ?_, fun _ e => ?_, fun _ _ l hl => q _ _ (Grow.new hl) (tup_new (h2.append h4) hl)⟩
  · subst e
    cases h2
    exact q _ _ (Grow.refl H) b
  · subst e
    cases h4
    refine q _ _ (Grow.refl H) ?_
    rw [List.append_nil]
    exact a
theorem cutV_take (xs : List V) (n : Nat) : cutV xs none (some (n : Int)) = xs.take n := by
  unfold cutV
  rw [HT.sIx_none, HT.sIx_nat, List.drop_zero, Nat.sub_zero]
  by_cases h : n ≤ xs.length
  · rw [Nat.min_eq_left h]
  · rw [Nat.min_eq_right (by omega), List.take_length, List.take_of_length_le (by omega)]
theorem cutV_drop (xs : List V) (n : Nat) : cutV xs (some (n : Int)) none = xs.drop n := by
  unfold cutV
  rw [HT.sIx_none, HT.sIx_nat]
  by_cases h : n ≤ xs.length
  · rw [Nat.min_eq_left h, List.take_of_length_le (by rw [List.length_drop]; omega)]
  · rw [Nat.min_eq_right (by omega), List.drop_of_length_le (by omega), List.drop_of_length_le (by omega), List.take_nil]
/-- t[:n], t[n:] -/
def rTake : V → Option Int → Option Int → Hp → VK → Prop := fun x lo hi H Q => ∃ ks, ∃ n : Nat, At H (.tup ks) x ∧ lo = none ∧ hi = some (n : Int) ∧ ∀ H' v, Grow No H H' → At H' (.tup (ks.take n)) v → Q v H'
def rDrop : V → Option Int → Option Int → Hp → VK → Prop := fun x lo hi H Q => ∃ ks, ∃ n : Nat, At H (.tup ks) x ∧ lo = some (n : Int) ∧ hi = none ∧ ∀ H' v, Grow No H H' → At H' (.tup (ks.drop n)) v → Q v H'
theorem sl_takeK : SlR X rTake := sl_weak sl_tupA fun x lo hi H Q h => by
  obtain ⟨ks, n, a, rfl, rfl, q⟩ := h
  obtain ⟨p, vs, rfl, h1, h2⟩ := a.ref
  refine ⟨p, vs, rfl, SqT.of h1, fun w => ?_, fun _ l hl => ?_⟩
  · rw [HT.sIx_nat] at w
    refine q _ _ (Grow.refl H) ?_
    rw [List.take_of_length_le (by rw [h2.length]; omega)]
    exact a
  · rw [cutV_take]
    exact q _ _ (Grow.new hl) (tup_new (h2.take n) hl)
theorem sl_dropK : SlR X rDrop := sl_weak sl_tupA fun x lo hi H Q h => by
  obtain ⟨ks, n, a, rfl, rfl, q⟩ := h
  obtain ⟨p, vs, rfl, h1, h2⟩ := a.ref
  refine ⟨p, vs, rfl, SqT.of h1, fun w => ?_, fun _ l hl => ?_⟩
  · rw [HT.sIx_nat] at w
    refine q _ _ (Grow.refl H) ?_
    by_cases z : n = 0
    · subst z
      exact a
    · have e : vs.length = 0 := by omega
      have e2 : ks = [] := List.length_eq_zero_iff.mp (h2.length.trans e)
      subst e2
      rw [List.drop_nil]
      exact a
  · rw [cutV_drop]
    exact q _ _ (Grow.new hl) (tup_new (h2.drop n) hl)
/-- l[:n], l[n:], l + m -/
def rTakeL : V → Option Int → Option Int → Hp → VK → Prop := fun x lo hi H Q => ∃ a ks, ∃ n : Nat, x = .ref a ∧ Ls H a ks ∧ lo = none ∧ hi = some (n : Int) ∧ ∀ H' p, H p = none → Grow No H H' → Ls H' p (ks.take n) → Q (.ref p) H'
def rDropL : V → Option Int → Option Int → Hp → VK → Prop := fun x lo hi H Q => ∃ a ks, ∃ n : Nat, x = .ref a ∧ Ls H a ks ∧ lo = some (n : Int) ∧ hi = none ∧ ∀ H' p, H p = none → Grow No H H' → Ls H' p (ks.drop n) → Q (.ref p) H'
theorem sl_takeL : SlR X rTakeL := sl_weak sl_list fun x lo hi H Q h => by
  obtain ⟨a, ks, n, rfl, ⟨vs, e, r⟩, rfl, rfl, q⟩ := h
  refine ⟨a, vs, rfl, SqL.of e, fun l hl => ?_⟩
  rw [cutV_take]
  exact q _ _ hl (Grow.new hl) (Ls.new (r.take n) hl)
theorem sl_dropL : SlR X rDropL := sl_weak sl_list fun x lo hi H Q h => by
  obtain ⟨a, ks, n, rfl, ⟨vs, e, r⟩, rfl, rfl, q⟩ := h
  refine ⟨a, vs, rfl, SqL.of e, fun l hl => ?_⟩
  rw [cutV_drop]
  exact q _ _ hl (Grow.new hl) (Ls.new (r.drop n) hl)
def rCatLK : R2 := fun x y H Q => ∃ a b ks ls, x = .ref a ∧ y = .ref b ∧ Ls H a ks ∧ Ls H b ls ∧ ks.length + ls.length ≤ sizeLine ∧ ∀ H' p, H p = none → Grow No H H' → Ls H' p (ks ++ ls) → Q (.ref p) H'
theorem op_catLK : OpR X (binaryOp .Add) rCatLK := op_weak op_cat fun x y H Q h => by
  obtain ⟨a, b, ks, ls, rfl, rfl, ⟨vs, e, r⟩, ⟨ws, e2, r2⟩, z, q⟩ := h
  exact ⟨a, b, vs, ws, rfl, rfl, e, e2, by rw [← r.length, ← r2.length]; exact z, fun l hl => q _ _ hl (Grow.new hl) (Ls.new (r.append r2) hl)⟩
/-- l[i] = data -/
def rSetK : TSet := fun o i v H Q => ∃ p ks k j, ∃ n : Nat, o = .ref p ∧ i = .int (n : Int) ∧ Ls H p ks ∧ n < ks.length ∧ j = n ∧ At H k v ∧ ∀ H', Grow (On p) H H' → Ls H' p (ks.set j k) → Q H'
theorem Ats.set {H : Hp} {k : D} {v : V} (a : At H k v) : ∀ {ks : List D} {vs : List V} (j : Nat), Ats H ks vs → Ats H (ks.set j k) (vs.set j v)
  | _, _, _, .nil => .nil
  | _, _, 0, .cons g r => .cons a r
  | _, _, j + 1, .cons g r => .cons g (Ats.set a j r)
theorem set_lstK : PSet X rSetK := fun pins s σ H o i v ov iv u Q I ro ri rv h => by
  obtain ⟨p, ks, k, j, n, rfl, rfl, ⟨vs, e, r⟩, hl, rfl, a, q⟩ := h
  have g : Grow (On p) H (upd H p (.lst (vs.set j v))) := Grow.putO e (lst_ne_tup vs)
  exact set_list pins s σ H _ _ v ov iv u Q I ro ri rv ⟨p, vs, (j : Int), j, rfl, rfl, e, ixN_of ⟨by rw [← r.length]; exact hl, .inl rfl⟩, q _ g ⟨_, upd_same, g.ats (Ats.set a j r)⟩⟩
end
/-! ### walks -/
section
variable {K : PySem.W.Frag} {a : Addr} {ks : List D}
theorem walk_tupK : Walk (Itt K a) ks.length (fun H => At H (.tup ks) (.ref a)) (fun i H x H' => H' = H ∧ ∃ k, ks[i]? = some k ∧ At H k x) := by
  refine ⟨fun i H hi q => ?_, fun H q => ?_, fun i H x H' hi q y => ⟨y.1, ?_⟩⟩
  · obtain ⟨p, vs, e, h1, h2⟩ := q.ref
    cases e
    have hi' : i < vs.length := by rw [← h2.length]; exact hi
    exact ⟨vs, vs[i], SqT.of h1, by simp [hi']⟩
  · obtain ⟨p, vs, e, h1, h2⟩ := q.ref
    cases e
    exact ⟨vs, SqT.of h1, Nat.le_of_eq h2.length.symm⟩
  · obtain ⟨p, vs, e, h1, h2⟩ := q.ref
    cases e
    exact h2.get (y.2 vs (SqT.of h1))
theorem walk_lstK : Walk (Itl K a) ks.length (fun H => Ls H a ks) (fun i H x H' => H' = H ∧ ∃ k, ks[i]? = some k ∧ At H k x) := by
  refine ⟨fun i H hi q => ?_, fun H q => ?_, fun i H x H' hi q y => ⟨y.1, ?_⟩⟩
  · obtain ⟨vs, h1, h2⟩ := q
    have hi' : i < vs.length := by rw [← h2.length]; exact hi
    exact ⟨vs, vs[i], SqL.of h1, by simp [hi']⟩
  · obtain ⟨vs, h1, h2⟩ := q
    exact ⟨vs, SqL.of h1, Nat.le_of_eq h2.length.symm⟩
  · obtain ⟨vs, h1, h2⟩ := q
    exact h2.get (y.2 vs (SqL.of h1))
/-- a text of these signs -/
theorem walk_tx {l : List Nat} : Walk (Its (tx l)) l.length (fun _ => True) (fun i H x H' => H' = H ∧ ∃ c, l[i]? = some c ∧ x = .str (sg c)) := by
  have w := walk_str (z := tx l)
  have e : (tx l).cps.size = l.length := by simp [tx]
  rw [e] at w
  refine w.mono (fun _ h => h) fun i H x H' _ _ y => ⟨y.1, ?_⟩
  obtain ⟨c, h1, h2⟩ := y.2
  exact ⟨c, by simpa [tx] using h1, h2⟩
theorem take_more {α : Type} (xs : List α) (i : Nat) (hi : i < xs.length) : xs.take (i + 1) = xs.take i ++ [xs[i]] := by
  rw [List.take_add_one]
  simp [hi]
/-- a walk over n things told by a list, by what is behind -/
theorem for_pre {α : Type} {J : It} {G : Hp → Prop} {Y : Nat → Hp → V → Hp → Prop} {g : TG} {tb : TS} {D : Ends} {σ : L2.St} {H : Hp} {n : Nat} (w : Walk J n G Y) (xs : List α) (en : xs.length = n) (Pv : List α → L2.St → Hp → Prop) (h0 : Pv [] σ H) (hG : ∀ pre σ H, Pv pre σ H → G H)
    (hs : ∀ pre k post x σ H H', xs = pre ++ k :: post → Pv pre σ H → Y pre.length H x H' → g x σ H' fun σ2 H2 => tb { D with nx := Pv (pre ++ [k]), ct := Pv (pre ++ [k]), bk := D.nx } σ2 H2) (hd : ∀ σ H, Pv xs σ H → D.nx σ H) :
    ∃ W : Nat → Nat → L2.St → Hp → Prop, (∃ m, W 0 m σ H) ∧ ∀ i m σ H, W i m σ H →
      (J.stop i H ∧ D.nx σ H) ∨ (J.go i H ∧ ∃ N : L2.St → Hp → Prop, (∀ σ' H', N σ' H' → ∃ m', m' < m ∧ W (i + 1) m' σ' H') ∧ ∀ x H', J.yld i H x H' → g x σ H' fun σ2 H2 => tb { D with nx := N, ct := N, bk := D.nx } σ2 H2) := by
  subst en
  refine for_it w (fun i => Pv (xs.take i)) h0 (fun i σ H _ p => hG _ σ H p) (fun i x σ H H' hi p y => ?_) fun σ H p => hd σ H (by rw [List.take_length] at p; exact p)
  have e : xs = xs.take i ++ xs[i] :: xs.drop (i + 1) := by
    rw [← List.drop_eq_getElem_cons hi, List.take_append_drop]
  have e2 : xs.take (i + 1) = xs.take i ++ [xs[i]] := take_more xs i hi
  have hl : (xs.take i).length = i := by rw [List.length_take]; omega
  have h := hs (xs.take i) xs[i] (xs.drop (i + 1)) x σ H H' e p (by rw [hl]; exact y)
  rw [e2]
  exact h
/-- over a tuple of data, over a list of data, over a text -/
theorem at_mid {α : Type} {xs pre post : List α} {k : α} {j : α} (e : xs = pre ++ k :: post) (h : xs[pre.length]? = some j) : j = k := by
  subst e
  rw [List.getElem?_append_right (Nat.le_refl _), Nat.sub_self, List.getElem?_cons_zero] at h
  exact (Option.some.inj h).symm
theorem for_tupK {g : TG} {tb : TS} {E : Ends} {σ : L2.St} {H : Hp} (Pv : List D → L2.St → Hp → Prop) (h0 : Pv [] σ H) (hG : ∀ pre σ H, Pv pre σ H → At H (.tup ks) (.ref a))
    (hs : ∀ pre k post x σ H, ks = pre ++ k :: post → Pv pre σ H → At H k x → g x σ H fun σ2 H2 => tb { E with nx := Pv (pre ++ [k]), ct := Pv (pre ++ [k]), bk := E.nx } σ2 H2) (hd : ∀ σ H, Pv ks σ H → E.nx σ H) :
    ∃ W : Nat → Nat → L2.St → Hp → Prop, (∃ m, W 0 m σ H) ∧ ∀ i m σ H, W i m σ H →
      ((Itt K a).stop i H ∧ E.nx σ H) ∨ ((Itt K a).go i H ∧ ∃ N : L2.St → Hp → Prop, (∀ σ' H', N σ' H' → ∃ m', m' < m ∧ W (i + 1) m' σ' H') ∧ ∀ x H', (Itt K a).yld i H x H' → g x σ H' fun σ2 H2 => tb { E with nx := N, ct := N, bk := E.nx } σ2 H2) :=
  for_pre walk_tupK ks rfl Pv h0 hG (fun pre k post x σ H H' e p y => by
    obtain ⟨rfl, j, h1, h2⟩ := y
    have := at_mid e h1
    subst this
    exact hs pre j post x σ _ e p h2) hd
theorem for_lstK {g : TG} {tb : TS} {E : Ends} {σ : L2.St} {H : Hp} (Pv : List D → L2.St → Hp → Prop) (h0 : Pv [] σ H) (hG : ∀ pre σ H, Pv pre σ H → Ls H a ks)
    (hs : ∀ pre k post x σ H, ks = pre ++ k :: post → Pv pre σ H → At H k x → g x σ H fun σ2 H2 => tb { E with nx := Pv (pre ++ [k]), ct := Pv (pre ++ [k]), bk := E.nx } σ2 H2) (hd : ∀ σ H, Pv ks σ H → E.nx σ H) :
    ∃ W : Nat → Nat → L2.St → Hp → Prop, (∃ m, W 0 m σ H) ∧ ∀ i m σ H, W i m σ H →
      ((Itl K a).stop i H ∧ E.nx σ H) ∨ ((Itl K a).go i H ∧ ∃ N : L2.St → Hp → Prop, (∀ σ' H', N σ' H' → ∃ m', m' < m ∧ W (i + 1) m' σ' H') ∧ ∀ x H', (Itl K a).yld i H x H' → g x σ H' fun σ2 H2 => tb { E with nx := N, ct := N, bk := E.nx } σ2 H2) :=
  for_pre walk_lstK ks rfl Pv h0 hG (fun pre k post x σ H H' e p y => by
    obtain ⟨rfl, j, h1, h2⟩ := y
    have := at_mid e h1
    subst this
    exact hs pre j post x σ _ e p h2) hd
theorem for_txK {l : List Nat} {g : TG} {tb : TS} {E : Ends} {σ : L2.St} {H : Hp} (Pv : List Nat → L2.St → Hp → Prop) (h0 : Pv [] σ H)
    (hs : ∀ pre k post σ H, l = pre ++ k :: post → Pv pre σ H → g (.str (sg k)) σ H fun σ2 H2 => tb { E with nx := Pv (pre ++ [k]), ct := Pv (pre ++ [k]), bk := E.nx } σ2 H2) (hd : ∀ σ H, Pv l σ H → E.nx σ H) :
    ∃ W : Nat → Nat → L2.St → Hp → Prop, (∃ m, W 0 m σ H) ∧ ∀ i m σ H, W i m σ H →
      ((Its (tx l)).stop i H ∧ E.nx σ H) ∨ ((Its (tx l)).go i H ∧ ∃ N : L2.St → Hp → Prop, (∀ σ' H', N σ' H' → ∃ m', m' < m ∧ W (i + 1) m' σ' H') ∧ ∀ x H', (Its (tx l)).yld i H x H' → g x σ H' fun σ2 H2 => tb { E with nx := N, ct := N, bk := E.nx } σ2 H2) :=
  for_pre walk_tx l rfl Pv h0 (fun _ _ _ _ => trivial) (fun pre k post x σ H H' e p y => by
    obtain ⟨rfl, j, h1, rfl⟩ := y
    have := at_mid e h1
    subst this
    exact hs pre j post σ _ e p) hd
/-- a comprehension that makes data: Pd of what is behind and what is made -/
theorem lc_pre {α : Type} {J : It} {G : Hp → Prop} {Y : Nat → Hp → V → Hp → Prop} {n : Nat} (w : Walk J n G Y) (xs : List α) (en : xs.length = n) (S : Addr → Prop) {g : TG} {tt : TT} {te : TE} {vs : List Nat} {σ : L2.St} {H1 : Hp} {L : Addr} {Qd : Hp → Prop} (Pd : List α → List D → Hp → Prop)
    (hL : H1 L = none) (hS : ¬ S L) (hz : n < sizeLine) (hG : ∀ H, Grow S H1 H → G H) (h0 : ∀ H, Grow No H1 H → Pd [] [] H)
    (hs : ∀ pre k post acc x H H' (Kq : VK) (N : Hp → Prop), xs = pre ++ k :: post → acc.length ≤ pre.length → Grow S H1 H → Pd pre acc H → Y pre.length H x H' →
      (∀ y H4 d, Grow S H H4 → At H4 d y → (∀ H5, Grow (On L) H4 H5 → Pd (pre ++ [k]) (acc ++ [d]) H5) → Kq y H4) → (∀ H3, Grow S H H3 → Pd (pre ++ [k]) acc H3 → N H3) →
      g x (wipe σ vs) H' fun σ2 H2 => wipe σ2 vs = wipe σ vs ∧ tt σ2 H2 fun b H3 => if b = true then te σ2 H3 Kq else N H3)
    (hd : ∀ H acc, acc.length ≤ n → Grow S H1 H → Ls H L acc → Pd xs acc H → Qd H) :
    ∃ W : Nat → Nat → Hp → Prop, (∃ m, W 0 m (upd H1 L (.lst []))) ∧ ∀ i m H, W i m H →
      (J.stop i H ∧ Qd H) ∨ (J.go i H ∧ ∃ Nx : Hp → Prop, (∀ H', Nx H' → ∃ m', m' < m ∧ W (i + 1) m' H') ∧ ∀ x H', J.yld i H x H' → g x (wipe σ vs) H' fun σ2 H2 => wipe σ2 vs = wipe σ vs ∧ tt σ2 H2 fun b H3 =>
        if b = true then te σ2 H3 fun y H4 => ∃ acc, H4 L = some (.lst acc) ∧ acc.length < sizeLine ∧ Nx (upd H4 L (.lst (acc ++ [y]))) else Nx H3) := by
  subst en
  refine lc_it w (fun i H => Grow S H1 H ∧ ∃ acc, acc.length ≤ i ∧ Ls H L acc ∧ Pd (xs.take i) acc H) ⟨Grow.new hL, [], Nat.le_refl _, ⟨[], upd_same, .nil⟩, h0 _ (Grow.new hL)⟩ (fun i H _ p => hG H p.1) (fun i x H H' hi p y => ?_) fun H p => ?_
  · obtain ⟨g0, acc, hl, la, pd⟩ := p
    have e : xs = xs.take i ++ xs[i] :: xs.drop (i + 1) := by
      rw [← List.drop_eq_getElem_cons hi, List.take_append_drop]
    have e2 : xs.take (i + 1) = xs.take i ++ [xs[i]] := take_more xs i hi
    have hli : (xs.take i).length = i := by rw [List.length_take]; omega
    refine hs (xs.take i) xs[i] (xs.drop (i + 1)) acc x H H' _ _ e (by rw [hli]; exact hl) g0 pd (by rw [hli]; exact y) (fun y H4 d g4 a pd4 => ?_) fun H3 g3 pd3 => ?_
    · obtain ⟨ws, hw, rw⟩ := la.grow g4 hS
      refine ⟨ws, hw, by rw [← rw.length]; omega, ?_, acc ++ [d], by rw [List.length_append]; simp; omega, ?_, ?_⟩
      · exact (g0.trans g4).but (Grow.putO hw (lst_ne_tup ws)) fun b z => .inr (z ▸ hL)
      · exact ⟨_, upd_same, (Grow.putO hw (lst_ne_tup ws)).ats (Ats.snoc a rw)⟩
      · rw [e2]
        exact pd4 _ (Grow.putO hw (lst_ne_tup ws))
    · exact ⟨g0.trans g3, acc, Nat.le_succ_of_le hl, la.grow g3 hS, by rw [e2]; exact pd3⟩
  · obtain ⟨g0, acc, hl, la, pd⟩ := p
    rw [List.take_length] at pd
    exact hd H acc hl g0 la pd
end
end K81

namespace K81
open PySem PySem.Spec PyProof.Rows L2
/-! # The frame of a walk; isinstance of data -/
section
variable {P : Program} {w : World} {K : PySem.W.Frag} {mg : Str → Option Value} {base : Heap} {x qual : Str} {params : Arguments} {body : List Stmt} {scope : Scope} {dvs : List V} {kws : List (Str × V)} {f : Addr} {fd : FuncData}
theorem ok0 {N ps : List Str} {k : Nat} {sp : Sp} (F : FunD K x qual params body scope dvs kws f fd) (S : FnScope N ps scope) (len : ∀ vs H Q E, sp vs H Q E → vs.length = ps.length)
    (hbody : ∀ (cdv : Value) (A : Around) (outer : List Env) (s : Shared) (H : Hp) (vs : List V) (Q : VK) (E : XK), Room k (A.deeper (envOfC qual scope s.heap.objs.size f cdv)) → sp vs H Q E →
      ∃ t, PSs (cxOf CX0 P w K mg base N qual scope f cdv A outer s H E).nox body t ∧ t { nx := fun _ H' => Q .non H', rt := Q } (start N vs) H) : FnOk P w K mg base CX0 (k + 1) f fd ps sp :=
  F.ok S len fun cdv A outer s H vs Q E hr hsp => let ⟨t, h, q⟩ := hbody cdv A outer s H vs Q E hr hsp; ⟨t, h.nox, q⟩
theorem bindsFull {ps : List Str} {dvs : List V} (h : ∃ ds, Vals (dvs.drop dvs.length) ds ∧ Binds K fd ps ds) : Binds K fd ps [] := by
  obtain ⟨ds, h1, h2⟩ := h
  rw [List.drop_length] at h1
  cases h1
  exact h2
end
theorem mem_nums {i : Int} {r : Row} : NestedKey.num i ∈ nums r ↔ i ∈ r := by
  unfold nums
  rw [List.mem_map]
  constructor
  · rintro ⟨j, h, e⟩
    cases e
    exact h
  · exact fun h => ⟨i, h, rfl⟩
/-- a power of any base, the answer not too long -/
theorem op_powB {X : Cx} : OpR X (binaryOp .Pow) (rI (fun i j => 0 ≤ j ∧ (Builtin.Int.intBits i : Int) * j ≤ 2 ^ 27) fun i j => .int (i ^ j.toNat)) := opI fun _ _ _ _ _ _ _ hc q => pow_int hc.1 hc.2 q
/-- a test whose answer is known -/
theorem iteT' {b : Bool} {A B : Prop} (h : b = true) (a : A) : if b = true then A else B := by
  rw [if_pos h]
  exact a
theorem iteF' {b : Bool} {A B : Prop} (h : b = false) (a : B) : if b = true then A else B := by
  rw [if_neg (by rw [h]; decide)]
  exact a
theorem dT {p : Prop} [Decidable p] (h : p) : decide p = true := decide_eq_true h
theorem dF {p : Prop} [Decidable p] (h : ¬ p) : decide p = false := decide_eq_false h
theorem nT {p : Prop} [Decidable p] (h : ¬ p) : (!decide p) = true := by rw [decide_eq_false h]; rfl
theorem nF {p : Prop} [Decidable p] (h : p) : (!decide p) = false := by rw [decide_eq_true h]; rfl
/-- i in row -/
def rInI : R2 := fun x y H Q => ∃ i r, x = .int i ∧ At H (rowD r) y ∧ Q (.bl (decide (i ∈ r))) H
def rNotInI : R2 := fun x y H Q => ∃ i r, x = .int i ∧ At H (rowD r) y ∧ Q (.bl (!decide (i ∈ r))) H
section
variable {X : Cx}
theorem op_inI (hu : X.A.units + 64 < cLine) : OpR X (compareOp .In) rInI := op_weak (op_inK hu) fun x y H Q h => by
  obtain ⟨i, r, rfl, a, q⟩ := h
  refine ⟨.num i, nums r, .num i, a, ⟨Nat.zero_le _, rfl⟩, ok_nums r, ?_⟩
  have e : decide (NestedKey.num i ∈ nums r) = decide (i ∈ r) := by rw [Bool.eq_iff_iff, decide_eq_true_iff, decide_eq_true_iff]; exact mem_nums
  rw [e]
  exact q
theorem op_notInK (hu : X.A.units + 64 < cLine) : OpR X (compareOp .NotIn) (fun x y H Q => ∃ k ks, At H k x ∧ At H (.tup ks) y ∧ Sm k ∧ okDs ks = true ∧ Q (.bl (!decide (k ∈ ks))) H) := by
  intro pins s σ H x y v u Q I rx ry h
  obtain ⟨k, ks, hk, hl, dk, oks, q⟩ := h
  obtain ⟨as, r1⟩ := Dp.reads I k.data x v hk.dp rx
  obtain ⟨bs, r2⟩ := Dp.reads I (NestedKey.data (.tup ks)) y u hl.dp ry
  have r2' : Reads s.heap u (.tuple (NestedKey.datas ks)) bs := by
    simp only [NestedKey.data] at r2
    exact r2
  refine SeqAt.notIn_tuple_reads r2' r1 (lay_datas ks oks) (lay_data k dk.2) ?_ ?_
  · have h1 := depth_data k
    have h3 := dk.1
    have h2 := Nat.min_le_right (PyData.depthAll (NestedKey.datas ks)) k.data.depth
    omega
  · rw [any_data]
    exact ⟨.bl _, H, I, rfl, q⟩
theorem op_notInI (hu : X.A.units + 64 < cLine) : OpR X (compareOp .NotIn) rNotInI := op_weak (op_notInK hu) fun x y H Q h => by
  obtain ⟨i, r, rfl, a, q⟩ := h
  refine ⟨.num i, nums r, .num i, a, ⟨Nat.zero_le _, rfl⟩, ok_nums r, ?_⟩
  have e : decide (NestedKey.num i ∈ nums r) = decide (i ∈ r) := by rw [Bool.eq_iff_iff, decide_eq_true_iff, decide_eq_true_iff]; exact mem_nums
  rw [e]
  exact q
end
/-- the class of data -/
def tyD : D → String
  | .none => "NoneType"
  | .num _ => "int"
  | .text _ => "str"
  | .tup _ => "tuple"
section
variable {X : Cx}
theorem At.tyX {K : PySem.W.Frag} {H : Hp} {k : D} {v : V} (h : At H k v) : TyX K H v (.type (tyD k)) := by
  cases h with
  | none => exact .base .non
  | num i => exact .base (.int i)
  | text x => exact .base (.str x)
  | tup h r => exact .base (.tup h)
def rIsK : List V → Hp → VK → Prop := fun xs H Q => ∃ x k T b, xs = [x, .ty T] ∧ At H k x ∧ kitB (tyD k) T = some b ∧ Q (.bl b) H
theorem call_isK : CallR X (.builtin "isinstance") rIsK := call_weak call_isi fun xs H Q h => by
  obtain ⟨x, k, T, b, rfl, a, e, q⟩ := h
  exact ⟨x, .ty T, _, _, b, rfl, .ty T, a.tyX, kit_ty e, q⟩
theorem kt_ib {i : Int} : kitB (tyD (.num i)) "bool" = some false := (by decide +kernel : kitB "int" "bool" = some false)
theorem kt_ii {i : Int} : kitB (tyD (.num i)) "int" = some true := (by decide +kernel : kitB "int" "int" = some true)
theorem kt_it {i : Int} : kitB (tyD (.num i)) "tuple" = some false := (by decide +kernel : kitB "int" "tuple" = some false)
theorem kt_il {i : Int} : kitB (tyD (.num i)) "list" = some false := (by decide +kernel : kitB "int" "list" = some false)
theorem kt_ss {x : Str} : kitB (tyD (.text x)) "str" = some true := (by decide +kernel : kitB "str" "str" = some true)
theorem kt_st {x : Str} : kitB (tyD (.text x)) "tuple" = some false := (by decide +kernel : kitB "str" "tuple" = some false)
theorem kt_sl {x : Str} : kitB (tyD (.text x)) "list" = some false := (by decide +kernel : kitB "str" "list" = some false)
theorem kt_tt {x : List D} : kitB (tyD (.tup x)) "tuple" = some true := (by decide +kernel : kitB "tuple" "tuple" = some true)
theorem kt_tl {x : List D} : kitB (tyD (.tup x)) "list" = some false := (by decide +kernel : kitB "tuple" "list" = some false)
theorem kt_nt : kitB (tyD .none) "tuple" = some false := (by decide +kernel : kitB "NoneType" "tuple" = some false)
theorem kt_nl : kitB (tyD .none) "list" = some false := (by decide +kernel : kitB "NoneType" "list" = some false)
theorem kt_ns : kitB (tyD .none) "str" = some false := (by decide +kernel : kitB "NoneType" "str" = some false)
def rIsTK : List V → Hp → VK → Prop := fun xs H Q => ∃ x k S T p b, xs = [x, .ref p] ∧ H p = some (.tup [.ty S, .ty T]) ∧ At H k x ∧ b = (kitB (tyD k) S == some true || kitB (tyD k) T == some true) ∧ (kitB (tyD k) S).isSome = true ∧ (kitB (tyD k) T).isSome = true ∧ Q (.bl b) H
theorem call_isTK : CallR X (.builtin "isinstance") rIsTK := call_weak call_isiT fun xs H Q h => by
  obtain ⟨x, k, S, T, p, b, rfl, hp, a, e, h1, h2, q⟩ := h
  obtain ⟨b1, e1⟩ := Option.isSome_iff_exists.mp h1
  obtain ⟨b2, e2⟩ := Option.isSome_iff_exists.mp h2
  rw [e1, e2] at e
  refine ⟨x, p, _, _, _, b, rfl, hp, .cons (.ty S) (.cons (.ty T) .nil), a.tyX, ?_, q⟩
  subst e
  cases b1 with
  | true => exact kitAny_cons (kit_ty e1) (fun z => by cases z) fun _ => rfl
  | false => exact kitAny_cons (kit_ty e1) (fun _ => kitAny_cons (kit_ty e2) (fun z => by subst z; exact kitAny_nil) fun z => by subst z; rfl) fun z => by cases z
end
end K81

namespace K81
open PySem PySem.Spec PyProof.Rows L2
/-! # Signs and texts: sorted, list(text), join, enumerate -/
/-- signs as data -/
def txts (l : List Nat) : List D := l.map fun c => NestedKey.text (sg c)
theorem txts_len (l : List Nat) : (txts l).length = l.length := by
  unfold txts
  rw [List.length_map]
theorem ats_txts {H : Hp} : ∀ l : List Nat, Ats H (txts l) ((l.map sg).map V.str)
  | [] => .nil
  | c :: l => .cons (.text (sg c)) (ats_txts l)
theorem txts_of {H : Hp} : ∀ {l : List Nat} {vs : List V}, Ats H (txts l) vs → vs = (l.map sg).map V.str
  | [], _, h => by
    cases h
    rfl
  | c :: l, _, h => by
    cases h with
    | cons g t =>
      cases g
      rw [txts_of t]
      rfl
theorem sg_inj {a b : Nat} (h : sg a = sg b) : a = b := by
  unfold sg at h
  injection h with h
  have := congrArg Array.toList h
  simpa using this
/-- the sign of a one-sign text -/
def cd (x : Str) : Nat := x.cps.toList.headD 0
theorem cd_sg (c : Nat) : cd (sg c) = c := rfl
theorem sg_perm {ys : List Str} {l : List Nat} (h : ys.Perm (l.map sg)) : ∃ zs : List Nat, ys = zs.map sg ∧ zs.Perm l := by
  refine ⟨ys.map cd, ?_, ?_⟩
  · rw [List.map_map]
    have : ∀ y ∈ ys, (sg ∘ cd) y = y := fun y hy => by
      obtain ⟨c, _, rfl⟩ := List.mem_map.mp (h.mem_iff.mp hy)
      rfl
    conv => lhs; rw [← List.map_id ys]
    exact (List.map_congr_left fun y hy => (this y hy)).symm
  · have h2 := h.map cd
    rw [List.map_map] at h2
    have e : l.map (cd ∘ sg) = l := by
      conv => rhs; rw [← List.map_id l]
      exact List.map_congr_left fun c _ => rfl
    rw [e] at h2
    exact h2
theorem ris_sg : ∀ (l : List Nat) (p : Nat), risingS (sg p) (l.map sg) = true → (∀ x ∈ l, p ≤ x) ∧ l.Pairwise (· ≤ ·)
  | [], p, _ => ⟨fun x h => (List.not_mem_nil h).elim, .nil⟩
  | c :: l, p, h => by
    have h : (!ltCps [c] [p] && risingS (sg c) (l.map sg)) = true := h
    rw [Bool.and_eq_true] at h
    obtain ⟨h1, h2⟩ := ris_sg l c h.2
    have hc : p ≤ c := by
      have h3 := h.1
      simp [ltCps] at h3
      omega
    refine ⟨fun x hx => ?_, List.pairwise_cons.mpr ⟨h1, h2⟩⟩
    rcases List.mem_cons.mp hx with rfl | hx
    · exact hc
    · exact Nat.le_trans hc (h1 x hx)
theorem sorted_sg : ∀ {l : List Nat}, sortedS (l.map sg) = true → l.Pairwise (· ≤ ·)
  | [], _ => .nil
  | c :: l, h => List.pairwise_cons.mpr (ris_sg l c h)
section
variable {X : Cx}
/-- sorted(list of signs) -/
def rSortT : List V → Hp → VK → Prop := fun xs H Q => ∃ a l, xs = [.ref a] ∧ Ls H a (txts l) ∧ l.length < 64 ∧ ∀ ys p H', ys.Perm l → ys.Pairwise (· ≤ ·) → H p = none → Grow No H H' → Ls H' p (txts ys) → Q (.ref p) H'
theorem call_sortT : CallR X (.builtin "sorted") rSortT := call_weak cr_sortedS fun xs H Q h => by
  obtain ⟨a, l, rfl, ⟨vs, e, r⟩, hl, q⟩ := h
  rw [txts_of r] at e
  refine ⟨a, l.map sg, rfl, SqL.of e, by rw [List.length_map]; exact hl, fun ys p hp hs hn => ?_⟩
  obtain ⟨zs, rfl, hz⟩ := sg_perm hp
  exact q zs p _ hz (sorted_sg hs) hn (Grow.new hn) ⟨_, upd_same, ats_txts zs⟩
/-- sorted(dict keyed by signs) -/
def rSortDT : List V → Hp → VK → Prop := fun xs H Q => ∃ a kvs l, xs = [.ref a] ∧ H a = some (.dK kvs) ∧ kvs.map (·.1) = l.map (fun c => Sum.inr (sg c)) ∧ l.length < 64 ∧ ∀ ys p H', ys.Perm l → ys.Pairwise (· ≤ ·) → H p = none → Grow No H H' → Ls H' p (txts ys) → Q (.ref p) H'
theorem call_sortDT (hc : X.calm = true) : CallR X (.builtin "sorted") rSortDT := call_weak (call_sortedD hc) fun xs H Q h => by
  obtain ⟨a, kvs, l, rfl, e, ek, hl, q⟩ := h
  refine ⟨a, kvs, l.map sg, rfl, .inl e, by rw [List.map_map]; exact ek, by rw [List.length_map]; exact hl, fun ys p hp hs hn => ?_⟩
  obtain ⟨zs, rfl, hz⟩ := sg_perm hp
  exact q zs p _ hz (sorted_sg hs) hn (Grow.new hn) ⟨_, upd_same, ats_txts zs⟩
/-- the signs of a text as values -/
theorem vals_signs {l : List Nat} {acc : Array Value} (h : ItemsOf (SignAt (tx l)) acc (tx l).cps.size) : Vals ((l.map sg).map V.str) acc.toList := by
  have e : acc.toList.length = l.length := by
    have := h.1
    rw [Array.length_toList, this]
    simp [tx]
  refine vals_of_at (by rw [List.length_map, List.length_map, e]) fun j x u h1 h2 => ?_
  obtain ⟨c, t, h3, rfl⟩ := h.2 j u (by rw [← Array.getElem?_toList]; exact h2)
  rw [List.getElem?_map, List.getElem?_map] at h1
  have h4 : l[j]? = some c := by simpa [tx] using h3
  rw [h4] at h1
  cases h1
  exact ⟨t, rfl⟩
/-- list(text) -/
def rListS : List V → Hp → VK → Prop := fun xs H Q => ∃ l, xs = [.str (tx l)] ∧ l.length ≤ 100000 ∧ ∀ p H', H p = none → Grow No H H' → Ls H' p (txts l) → Q (.ref p) H'
theorem call_listS (hc : X.calm = true) : CallR X (.type "list") rListS := by
  intro pins s σ H xs us Q I r h
  obtain ⟨l, rfl, hl, q⟩ := h
  obtain ⟨u, rfl, t, rfl⟩ := vals1 r
  have hz : (tx l).cps.size ≤ sizeLine := by
    have : (tx l).cps.size = l.length := by simp [tx]
    rw [this, sizeLine_eq]
    omega
  refine call_list_str (I.ok.hd hc) (tx l) t (hn := hz) fun h' tk acc c' hk e hi => ?_
  have hn := I.hok.fresh (Nat.le_refl s.heap.objs.size)
  refine ⟨.ref s.heap.objs.size, upd H s.heap.objs.size (.lst ((l.map sg).map V.str)), I.laid hk (Nat.le_refl _) (show ObjOk X.prog X.w _ _ _ (.lst ((l.map sg).map V.str)) from ⟨?_, acc.toList, c', vals_signs hi, ?_⟩), rfl, q _ _ hn (Grow.new hn) ⟨_, upd_same, ats_txts l⟩⟩
  · rw [List.length_map, List.length_map, sizeLine_eq]
    omega
  · rw [Array.toArray_toList]
    exact e
/-- sorted(text) -/
def rSortS : List V → Hp → VK → Prop := fun xs H Q => ∃ l, xs = [.str (tx l)] ∧ l.length < 64 ∧ ∀ ys p H', ys.Perm l → ys.Pairwise (· ≤ ·) → H p = none → Grow No H H' → Ls H' p (txts ys) → Q (.ref p) H'
theorem call_sortS (hc : X.calm = true) : CallR X (.builtin "sorted") rSortS := by
  intro pins s σ H xs us Q I r h
  obtain ⟨l, rfl, hl, q⟩ := h
  obtain ⟨u, rfl, t, rfl⟩ := vals1 r
  have hsz : (tx l).cps.size = l.length := by simp [tx]
  have hz : (tx l).cps.size ≤ sizeLine := by
    rw [hsz, sizeLine_eq]
    omega
  refine Calls.call_function_entry PyProof.Rows.kind_sorted PyProof.Rows.plain_sorted PyProof.Rows.entry_sorted (PyProof.Rows.args_sorted1 _) ?_
  unfold Builtin.«sorted»
  refine wpAny_bind (m := checkCount "sorted" 1 1 _) (wpAny_pure ?_)
  refine wpAny_bind (wpAny_collect_str (A := X.A.in1) (I.ok.hd hc) (tx l) t (hn := hz) fun s' acc hk hg hd ho hacc => ?_)
  have es : s' = { s with heap := s'.heap, toks := s'.toks } := by
    cases s'
    cases s
    simp only at hg hd ho
    subst hg hd ho
    rfl
  generalize s'.heap = h' at hk es
  generalize s'.toks = tk at es
  subst es
  have hal : acc.toList.length = l.length := by rw [Array.length_toList, hacc.1, hsz]
  have hS : StrsAre acc.toList (l.map sg) := strs_at (by rw [hal, List.length_map]) fun j v e => by
    obtain ⟨c, t, h3, rfl⟩ := hacc.2 j v (by rw [← Array.getElem?_toList]; exact e)
    have h4 : l[j]? = some c := by simpa [tx] using h3
    exact ⟨sg c, t, by rw [List.getElem?_map, h4]; rfl, rfl⟩
  have I1 : Inv X pins σ H ⟨h', s.gens, s.drawn, tk, s.os⟩ := I.kept hk
  have hl16 : acc.toList.toArray.size ≤ sizeLine := by
    rw [List.size_toArray, hal, sizeLine_eq]
    omega
  refine wpAny_bind (wpAny_newList ?_ (by first | exact hl16 | (rw [hal, sizeLine_eq]; omega)))
  have hoL : (h'.push (seqObj "list" acc.toList.toArray 0)).get? h'.objs.size = some (seqObj "list" acc.toList.toArray 0) :=
    Heap.get?_push_size _ rfl
  show wpAny _ _ _ _ _ (Shared.mk (h'.push (seqObj "list" acc.toList.toArray 0)) s.gens s.drawn tk s.os)
  refine wpAny_bind (wpAny_holding (wpAny_call_entry PyProof.Rows.slot_list_sort ⟨_, hoL, rfl⟩ PyProof.Rows.entry_list_sort (list_sort_treeK strKind_oneLt
    (s := Shared.mk (h'.push (seqObj "list" acc.toList.toArray 0)) s.gens s.drawn tk s.os) hoL hS.keysOf (fun v₁ v₂ rest e => keyKind_strs (by rw [← e]; exact hS)) (by rw [hal]; exact hl) fun st' hp hs => ⟨_, rfl, ?_⟩)
    (PyProof.Rows.args_list_sort _)))
  obtain ⟨ys, g1, g2, g3⟩ := sorted_out_str hS hp hs
  obtain ⟨zs, rfl, hzs⟩ := sg_perm g2
  obtain ⟨e', he'⟩ := PyProof.Rows.sortedHeap_at (vs := acc.toList) (out := (arrOf st').map Prod.snd) hoL
  have hlen : ((zs.map sg).map V.str).length ≤ sizeLine := by
    rw [List.length_map, List.length_map, hzs.length_eq, sizeLine_eq]
    omega
  have hfr : H h'.objs.size = none := I1.hok.fresh (Nat.le_refl _)
  refine wpAny_pure ⟨_, rfl, .ref h'.objs.size, upd H h'.objs.size (.lst ((zs.map sg).map V.str)), I1.laid (t' := tk) (fun b u e => ?_) (Nat.le_refl _) ⟨hlen, ((arrOf st').map Prod.snd).toList, e', vals_of_strs g1, by rw [Array.toArray_toList]; exact he'⟩, rfl,
    q zs _ _ hzs (sorted_sg g3) hfr (Grow.new hfr) ⟨_, upd_same, ats_txts zs⟩⟩
  have hb := Heap.lt_size e
  have hb2 := Nat.lt_succ_of_lt hb
  rw [PyProof.Rows.sortedHeap_old (Nat.ne_of_lt hb) (by rw [size_push']; exact hb2)]
  exact Heap.get?_push_of_some _ e
end
/-! ### texts of signs -/
theorem tx_nil : ("" : Str) = tx [] := by decide +kernel
theorem sg_tx (c : Nat) : sg c = tx [c] := rfl
theorem tx_app (a b : List Nat) : tx a ++ tx b = tx (a ++ b) := by
  show (⟨(tx a).cps ++ (tx b).cps⟩ : Str) = _
  unfold tx
  simp
theorem tx_sg (a : List Nat) (c : Nat) : tx a ++ sg c = tx (a ++ [c]) := tx_app a [c]
theorem tx_len (a : List Nat) : (tx a).length = a.length := by
  show (tx a).cps.size = _
  simp [tx]
theorem tx_inj {a b : List Nat} (h : tx a = tx b) : a = b := by
  unfold tx at h
  injection h with h
  simpa using congrArg Array.toList h
theorem tx_cps (a : List Nat) : (tx a).cps.toList = a := by simp [tx]
theorem fold_sg : ∀ (l : List Nat) (acc : Array Nat), (l.map sg).foldl (fun (acc : Array Nat) (p : Str) => acc ++ (Str.empty).cps ++ p.cps) acc = acc ++ l.toArray
  | [], acc => by simp
  | c :: l, acc => by
    rw [List.map_cons, List.foldl_cons, fold_sg l]
    simp [sg, Str.empty]
theorem joinE (l : List Nat) : Txt.join ("" : Str) (l.map sg) = tx l := by
  have e : ("" : Str) = Str.empty := by decide +kernel
  rw [e]
  cases l with
  | nil => rfl
  | cons c l =>
    show (⟨((l.map sg)).foldl (fun acc p => acc ++ (Str.empty).cps ++ p.cps) (sg c).cps⟩ : Str) = _
    rw [fold_sg]
    simp [tx, sg]
theorem sum_sg : ∀ l : List Nat, ((l.map sg).map (·.length)).sum = l.length
  | [] => rfl
  | c :: l => by
    rw [List.map_cons, List.map_cons, List.sum_cons, sum_sg l, List.length_cons]
    show 1 + l.length = l.length + 1
    omega
/-- ''.join(list of signs) -/
theorem join_txts {K : PySem.W.Frag} {H : Hp} {p : Addr} {l : List Nat} {Q : V → Hp → Prop} (h : Ls H p (txts l)) (z : l.length ≤ 100000) (q : Q (.str (tx l)) H) :
    ∃ a p', ∃ ys : List Str, V.str ("" : Str) = .str a ∧ [V.ref p] = [.ref p'] ∧ (SqL K H p' (ys.map V.str) ∨ SqT K H p' (ys.map V.str)) ∧ (ys.map (·.length)).sum + ys.length * a.length ≤ 16777216 ∧ Q (.str (Txt.join a ys)) H := by
  obtain ⟨vs, e, r⟩ := h
  rw [txts_of r] at e
  refine ⟨"", p, l.map sg, rfl, rfl, .inl (SqL.of e), ?_, ?_⟩
  · have e0 : ("" : Str).length = 0 := by decide +kernel
    rw [sum_sg, e0]
    omega
  · rw [joinE]
    exact q
theorem join_parts {K : PySem.W.Frag} {H : Hp} {p : Addr} {l : List Nat} (h : Ls H p (txts l)) (z : l.length ≤ 100000) :
    (SqL K H p ((l.map sg).map V.str) ∨ SqT K H p ((l.map sg).map V.str)) ∧ ((l.map sg).map (·.length)).sum + (l.map sg).length * ("" : Str).length ≤ 16777216 := by
  obtain ⟨vs, e, r⟩ := h
  rw [txts_of r] at e
  refine ⟨.inl (SqL.of e), ?_⟩
  have e0 : ("" : Str).length = 0 := by decide +kernel
  rw [sum_sg, e0]
  omega
end K81

namespace K81
open PySem PySem.Spec PyProof.Rows L2
/-! # enumerate of a tuple and of a text -/
/-- the tuple at a, each item in a new pair with its number -/
def ItEt (a : Addr) : It := ⟨fun i H => ∃ vs x, H a = some (.tup vs) ∧ vs[i]? = some x,
  fun i H v H' => ∃ T x, v = .ref T ∧ H T = none ∧ H' = upd H T (.tup [.int (i : Nat), x]) ∧ ∀ vs, H a = some (.tup vs) → vs[i]? = some x,
  fun i H => ∃ vs, H a = some (.tup vs) ∧ vs.length = i⟩
/-- the text z, each sign in a new pair with its number -/
def ItEs (z : Str) : It := ⟨fun i _ => i < z.cps.size,
  fun i H v H' => ∃ T c, v = .ref T ∧ H T = none ∧ H' = upd H T (.tup [.int (i : Nat), .str ⟨#[c]⟩]) ∧ z.cps[i]? = some c,
  fun i _ => z.cps.size = i⟩
section
variable {P : Program} {w : World} {K : PySem.W.Frag} {elts : List Expr} {kk : Nat} {tpos : Pos}
/-- the pair is laid, the enumerate object goes on -/
theorem enum_pair {X : Cx} {pins : List (Addr × Obj)} {s : Shared} {σ : L2.St} {H : Hp} {E : Value → Shared → Prop} {e it : Addr} {i tk : Nat} {x : Value} {y : V} {h' : Heap} {Qx : Value → Hp → Prop} {St' : Heap → Prop} (I : Inv X pins σ H s)
    (hf : ∀ b ∈ [e, it], FpOk X pins H b) (hne : e ≠ it) (he : ∃ o, s.heap.get? e = some o) (hi : ∃ o, s.heap.get? it = some o) (ry : RelV y x)
    (ho : IsEnumOut h' e it ((i : Int) + 1) x s.heap.objs.size) (hT : h'.get? s.heap.objs.size = some { cls := .type "tuple", data := .seq #[.int i tk, x] })
    (hk : ∀ b o, b ≠ e → b ≠ it → s.heap.get? b = some o → h'.get? b = some o) (hs : St' h') (ks : ∀ h2, (∀ o, h'.get? it = some o → h2.get? it = some o) → St' h' → St' h2) :
    wpAny (model X.prog X.w) X.A (letOwnedTupleGo (.Tuple elts kk tpos) (.ref e) (.ref s.heap.objs.size)) (fun _ s2 => ∃ T, Inv X pins σ (upd H T (.tup [.int (i : Nat), y])) s2 ∧ T = s.heap.objs.size ∧ H T = none ∧ (∃ old, IsEnum s2.heap e it ((i + 1 : Nat) : Int) old) ∧ St' s2.heap ∧ ∀ b ∈ [e, it], upd H T (.tup [.int (i : Nat), y]) b = none) E { s with heap := h', toks := tk + 1 } := by
  obtain ⟨oe, he⟩ := he
  obtain ⟨oi, hi⟩ := hi
  have l1 : e < s.heap.objs.size := Heap.lt_size he
  have l2 : it < s.heap.objs.size := Heap.lt_size hi
  refine wpAny_letOwnedTupleGo_enum (s := { s with heap := h', toks := tk + 1 }) ho fun h2 he2 sb => ?_
  have hT2 : h2.get? s.heap.objs.size = some { cls := .type "tuple", data := .seq #[.int i tk, x] } := (sb.2 _ (Nat.ne_of_gt l1)).trans hT
  have new : ObjOk X.prog X.w (upd H s.heap.objs.size (.tup [.int (i : Nat), y])) h2 s.heap.objs.size (.tup [.int (i : Nat), y]) :=
    ⟨(by decide : 2 ≤ sizeLine), [.int i tk, x], .cons ⟨tk, rfl⟩ (.cons ry .nil), ⟨_, hT2, rfl, 0, rfl⟩⟩
  have fr : H s.heap.objs.size = none := I.hok.fresh (Nat.le_refl _)
  have I1 := I.turnedNew (t' := tk + 1) (ch := [e, it]) (fun b o hb q => (sb.2 b fun z => hb (by simp [z])).trans (hk b o (fun z => hb (by simp [z])) (fun z => hb (by simp [z])) q)) hf (Nat.le_refl _) new
  refine ⟨s.heap.objs.size, I1, rfl, fr, ⟨x, ?_⟩, ks h2 (fun o q => (sb.2 it (Ne.symm hne)).trans q) hs, fun b hb => ?_⟩
  · rw [show ((i + 1 : Nat) : Int) = (i : Int) + 1 by omega]
    exact he2
  · have : b < s.heap.objs.size := by
      rcases List.mem_cons.mp hb with z | z
      · rw [z]
        exact l1
      · rw [List.mem_singleton.mp z]
        exact l2
    rw [upd_ne (Nat.ne_of_lt this)]
    exact (hf b hb).1
theorem turn_enumT (a e it : Addr) : Turn P w K (.Tuple elts kk tpos) (ItEt a) [e, it] e (fun i h => (∃ old, IsEnum h e it ((i : Nat) : Int) old) ∧ h.IsTupleIter it a i ∧ e ≠ it) where
  mem := List.mem_cons_self ..
  obj := fun i h st b hb => by
    obtain ⟨⟨old, he⟩, ⟨o, ho, hc, hd⟩, _⟩ := st
    rcases List.mem_cons.mp hb with z | z
    · subst z
      exact ⟨_, he, fun v q => nomatch q⟩
    · cases List.mem_singleton.mp z
      exact ⟨o, ho, fun v q => by rw [hd] at q; cases q⟩
  keep := fun i h h' st k => by
    obtain ⟨⟨old, he⟩, hi, hne⟩ := st
    exact ⟨⟨old, k e (by simp) _ he⟩, hi.at fun o q => k it (by simp) o q, hne⟩
  item := by
    intro X hP hw hK hc i pins s σ H E I hf st hg
    subst hP hw hK
    obtain ⟨⟨old, he⟩, hit, hne⟩ := st
    obtain ⟨vs, x, hq, hx⟩ := hg
    obtain ⟨its, rv, p, hz⟩ := I.tuple (SqT.of hq)
    obtain ⟨u, hu, ru⟩ := rv.get hx
    have hae : a ≠ e := ne_of_none hq (hf e (by simp)).1
    have hai : a ≠ it := ne_of_none hq (hf it (by simp)).1
    have hlt : i < its.toArray.size := by
      rw [List.size_toArray]
      exact (List.getElem?_eq_some_iff.mp hu).1
    refine wpAny_pyNext_enum_itemD (Draws.tuple (A := X.A.in1) (I.ok.hd hc) it a hai its.toArray) he ⟨hit, p⟩ hlt hne (by simp [hne, Ne.symm hae]) fun x' h' tk hx' ho hs hT hsz hk => ?_
    have ex : x' = u := by
      have h3 : its.toArray[i]? = some u := by simpa using hu
      rw [h3] at hx'
      exact (Option.some.inj hx').symm
    subst ex
    refine ⟨_, rfl, ?_⟩
    have Z := enum_pair (elts := elts) (kk := kk) (tpos := tpos) (E := E) (Qx := fun _ _ => True) (St' := fun h => h.IsTupleIter it a (i + 1)) I hf hne ⟨_, he⟩ (let ⟨o, z, _⟩ := hit; ⟨o, z⟩) ru ho hT hk hs.1 (fun h2 k z => z.at k)
    refine thn Z fun _ s2 ⟨T, I2, eT, hn, h1, h2, h3⟩ => ?_
    subst eT
    exact ⟨.ref s.heap.objs.size, _, I2, rfl, ⟨_, x, rfl, hn, rfl, fun ys hy => by rw [hq] at hy; cases hy; exact hx⟩, ⟨h1, h2, hne⟩, h3⟩
  done := by
    intro X hP hw hK hc i pins s σ H E I hf st hg
    subst hP hw hK
    obtain ⟨⟨old, he⟩, hit, hne⟩ := st
    obtain ⟨vs, hq, rfl⟩ := hg
    obtain ⟨its, rv, p, hz⟩ := I.tuple (SqT.of hq)
    obtain ⟨f0, f1, f2, f3, f4, f5⟩ := hf it (by simp)
    have hai : a ≠ it := ne_of_none hq f0
    have en : vs.length = its.toArray.size := by
      rw [List.size_toArray]
      exact rv.length
    rw [en] at hit he
    exact wpAny_pyNext_enum_endD (Draws.tuple (A := X.A.in1) (I.ok.hd hc) it a hai its.toArray) he ⟨hit, p⟩ fun h' eb => ⟨rfl, I.turned (t' := s.toks) (fun b o hb q => eb b o hb q) f0 f1 f3 f4 f5⟩
  self := fun A i s Q E st h => by
    obtain ⟨⟨old, he⟩, _⟩ := st
    exact wpAny_pyIter_enum he h
theorem turn_enumS (z : Str) (t : Tok) (e it : Addr) : Turn P w K (.Tuple elts kk tpos) (ItEs z) [e, it] e (fun i h => (∃ old, IsEnum h e it ((i : Nat) : Int) old) ∧ h.IsStrIter it (strIterType z) z t i ∧ e ≠ it) where
  mem := List.mem_cons_self ..
  obj := fun i h st b hb => by
    obtain ⟨⟨old, he⟩, ⟨o, ho, hc, hd⟩, _⟩ := st
    rcases List.mem_cons.mp hb with z | z
    · subst z
      exact ⟨_, he, fun v q => nomatch q⟩
    · cases List.mem_singleton.mp z
      exact ⟨o, ho, fun v q => by rw [hd] at q; cases q⟩
  keep := fun i h h' st k => by
    obtain ⟨⟨old, he⟩, ⟨o, ho, r⟩, hne⟩ := st
    exact ⟨⟨old, k e (by simp) _ he⟩, ⟨o, k it (by simp) o ho, r⟩, hne⟩
  item := by
    intro X hP hw hK hc i pins s σ H E I hf st hg
    subst hP hw hK
    obtain ⟨⟨old, he⟩, hit, hne⟩ := st
    refine wpAny_pyNext_enum_itemD (Draws.text (A := X.A.in1) (I.ok.hd hc) it z t) he hit hg hne (by simp [hne]) fun x' h' tk hx' ho hs hT hsz hk => ?_
    obtain ⟨c, u, hx, rfl⟩ := hx'
    refine ⟨_, rfl, ?_⟩
    have Z := enum_pair (elts := elts) (kk := kk) (tpos := tpos) (E := E) (Qx := fun _ _ => True) (y := .str ⟨#[c]⟩) (St' := fun h => h.IsStrIter it (strIterType z) z t (i + 1)) I hf hne ⟨_, he⟩ (let ⟨o, z, _⟩ := hit; ⟨o, z⟩) ⟨u, rfl⟩ ho hT hk hs (fun h2 k ⟨o, q, r⟩ => ⟨o, k o q, r⟩)
    refine thn Z fun _ s2 ⟨T, I2, eT, hn, h1, h2, h3⟩ => ?_
    subst eT
    exact ⟨.ref s.heap.objs.size, _, I2, rfl, ⟨_, c, rfl, hn, rfl, hx⟩, ⟨h1, h2, hne⟩, h3⟩
  done := by
    intro X hP hw hK hc i pins s σ H E I hf st hg
    subst hP hw hK
    obtain ⟨⟨old, he⟩, hit, hne⟩ := st
    obtain ⟨f0, f1, f2, f3, f4, f5⟩ := hf it (by simp)
    have hg : z.cps.size = i := hg
    subst hg
    exact wpAny_pyNext_enum_endD (Draws.text (A := X.A.in1) (I.ok.hd hc) it z t) he hit fun h' eb => ⟨rfl, I.turned (t' := s.toks) (fun b o hb q => eb b o hb q) f0 f1 f3 f4 f5⟩
  self := fun A i s Q E st h => by
    obtain ⟨⟨old, he⟩, _⟩ := st
    exact wpAny_pyIter_enum he h
end
/-! making it -/
theorem meets_enumT (a : Addr) (items : Array Value) :
    Meets (Builtin.«enumerate.__new__» ⟨[.type "enumerate", .ref a], []⟩) (fun _ R s => s.heap.IsTuple a items ∧
      R (.ok (.ret (.ref (s.heap.push { cls := .type "tuple_iterator", data := .fields #[.ref a, .int 0 0] }).objs.size)))
        { s with heap := (s.heap.push { cls := .type "tuple_iterator", data := .fields #[.ref a, .int 0 0] }).push { cls := .type "enumerate", data := .fields #[.none, .bool false, .ref s.heap.objs.size, rawInt 0, .none, .none] } }) :=
  .of_wp fun prog w A R s h => by
    obtain ⟨hp, g, d, tk, os⟩ := s
    obtain ⟨hl, h⟩ := h
    have hsub := sub_enumerate
    have q1 : ∀ {A' : Around} {E : Value → Shared → Prop} {Q : Value → Shared → Prop}, Q (.ref hp.objs.size) ⟨hp.push { cls := .type "tuple_iterator", data := .fields #[.ref a, .int 0 0] }, g, d, tk, os⟩ → wpAny (model prog w) A' (pyIter (.ref a)) Q E ⟨hp, g, d, tk, os⟩ :=
      fun q => (begins_tuple a items).iter prog w _ _ ⟨hp, g, d, tk, os⟩ _ hl q
    wp_walk using q1
    refine wpAny_stack_any fun st => wpAny_pure ?_
    split
    · rename_i c _ _ _ _ _
      cases (c == Value.type "enumerate") <;> (wp_walk using q1; exact ⟨_, rfl, h⟩)
    · wp_walk using q1
      exact ⟨_, rfl, h⟩
theorem call_enumT {prog : Program} {w : World} {A : Around} {E : Value → Shared → Prop} {s : Shared} {a : Addr} {items : Array Value} {Q : Value → Shared → Prop} (hL : s.heap.IsTuple a items)
    (h : ∀ h', IsEnum h' (s.heap.objs.size + 1) s.heap.objs.size 0 .none → h'.IsTupleIter s.heap.objs.size a 0 → (∀ b o, s.heap.get? b = some o → h'.get? b = some o) → Q (.ref (s.heap.objs.size + 1)) { s with heap := h' }) :
    wpAny (model prog w) A (call (.type "enumerate") [.ref a]) Q E s := by
  refine callType_new F.called_enumerate (by decide) (F.typeCall_enumerate_1 _) (F.newCall_enumerate_1 _) (fun obj => F.args_object_init_2 obj _) F.entry_enumerate_new (meets_enumT a items) ⟨hL, ?_⟩
  generalize hoi : ({ cls := .type "tuple_iterator", data := .fields #[.ref a, .int 0 0] } : Obj) = oi
  have hz : (s.heap.push oi).objs.size = s.heap.objs.size + 1 := Heap.size_push ..
  show _ ∧ _
  rw [hz]
  have h0 : (s.heap.push oi).get? s.heap.objs.size = some oi := Heap.get?_push_size _ (by rw [← hoi]; rfl)
  have he : IsEnum ((s.heap.push oi).push { cls := .type "enumerate", data := .fields #[.none, .bool false, .ref s.heap.objs.size, rawInt 0, .none, .none] }) (s.heap.objs.size + 1) s.heap.objs.size 0 .none := by
    have q := Heap.get?_push_size (s.heap.push oi) (o := { cls := .type "enumerate", data := .fields #[.none, .bool false, .ref s.heap.objs.size, rawInt 0, .none, .none] }) rfl
    rw [hz] at q
    exact q
  exact ⟨⟨_, he, rfl⟩, h _ he ⟨oi, Heap.get?_push_of_some _ h0, by subst hoi; rfl, by subst hoi; rfl⟩ fun b o x => Heap.get?_push_of_some _ (Heap.get?_push_of_some _ x)⟩
def iEnumT (ta : TA) : TI := fun σ H R => ta σ H fun vs H1 => ∃ a xs, vs = [.ref a] ∧ H1 a = some (.tup xs) ∧ R (ItEt a) H1
def iEnumS (ta : TA) : TI := fun σ H R => ta σ H fun vs H1 => ∃ z, vs = [.str z] ∧ R (ItEs z) H1
section
variable {X : Cx} {e : Expr} {ta : TA} {p pos tpos : Pos} {elts : List Expr} {kk : Nat}
theorem fp_new {pins : List (Addr × Obj)} {σ : L2.St} {H : Hp} {s : Shared} (I : Inv X pins σ H s) : ∀ b ∈ [s.heap.objs.size + 1, s.heap.objs.size], FpOk X pins H b := fun b hb => by
  have hle : s.heap.objs.size ≤ b := by
    rcases List.mem_cons.mp hb with z | z
    · rw [z]
      exact Nat.le_add_right _ _
    · rw [List.mem_singleton.mp z]
      exact Nat.le_refl _
  exact I.fpOk hle (I.hok.fresh hle)
theorem pi_enumT (hg : Gl X "enumerate") (hm : X.mg "enumerate" = none) (ha : PA X [e] ta) (hs : starEach [e] X.env = [(false, eval e X.env)] := by rfl) : PI X (.Tuple elts kk tpos) (.Call (.Name "enumerate" p) [e] [] pos) (iEnumT ta) := by
  refine ⟨fun pins s σ H R I h => Call_ (ld_blt I hg hm boot_enumerate (PyProof.Rows.callWith_type1 (thn (ha.run pos pins s σ H _ I h) fun us s1 ⟨vs, H1, I1, r1, q1⟩ => ?_) hs rfl))⟩
  obtain ⟨a, xs, rfl, hq, q⟩ := q1
  obtain ⟨u, rfl, r⟩ := vals1 r1
  cases r
  obtain ⟨its, rv, p', hz⟩ := I1.tuple (SqT.of hq)
  refine call_enumT (items := its.toArray) p' fun h' he hit hk => wpAny_pyIter_enum he ?_
  exact ⟨s1.heap.objs.size + 1, [s1.heap.objs.size + 1, s1.heap.objs.size], _, _, H1, rfl, I1.kept (t' := s1.toks) hk, turn_enumT a (s1.heap.objs.size + 1) s1.heap.objs.size, ⟨⟨.none, he⟩, hit, Nat.succ_ne_self _⟩, fp_new I1, q⟩
theorem pi_enumS (hg : Gl X "enumerate") (hm : X.mg "enumerate" = none) (ha : PA X [e] ta) (hs : starEach [e] X.env = [(false, eval e X.env)] := by rfl) : PI X (.Tuple elts kk tpos) (.Call (.Name "enumerate" p) [e] [] pos) (iEnumS ta) := by
  refine ⟨fun pins s σ H R I h => Call_ (ld_blt I hg hm boot_enumerate (PyProof.Rows.callWith_type1 (thn (ha.run pos pins s σ H _ I h) fun us s1 ⟨vs, H1, I1, r1, q1⟩ => ?_) hs rfl))⟩
  obtain ⟨z, rfl, q⟩ := q1
  obtain ⟨u, rfl, t, rfl⟩ := vals1 r1
  refine call_enumerate_str fun h' he hit hsz hk => wpAny_pyIter_enum he ?_
  exact ⟨s1.heap.objs.size + 1, [s1.heap.objs.size + 1, s1.heap.objs.size], _, _, H1, rfl, I1.kept (t' := s1.toks) hk, turn_enumS z t (s1.heap.objs.size + 1) s1.heap.objs.size, ⟨⟨.none, he⟩, hit, Nat.succ_ne_self _⟩, fp_new I1, q⟩
end
/-- a pair of a number and data, new -/
def YNum (ks : List D) : Nat → Hp → V → Hp → Prop := fun i H v H' => ∃ T x k, v = .ref T ∧ H T = none ∧ H' = upd H T (.tup [.int (i : Nat), x]) ∧ ks[i]? = some k ∧ At H k x
theorem walk_enumT {a : Addr} {ks : List D} : Walk (ItEt a) ks.length (fun H => At H (.tup ks) (.ref a)) (YNum ks) := by
  refine ⟨fun i H hi q => ?_, fun H q => ?_, fun i H v H' hi q y => ?_⟩
  · obtain ⟨p, vs, e, h1, h2⟩ := q.ref
    cases e
    have hi' : i < vs.length := by rw [← h2.length]; exact hi
    exact ⟨vs, vs[i], h1, by simp [hi']⟩
  · obtain ⟨p, vs, e, h1, h2⟩ := q.ref
    cases e
    exact ⟨vs, h1, h2.length.symm⟩
  · obtain ⟨p, vs, e, h1, h2⟩ := q.ref
    cases e
    obtain ⟨T, x, rfl, hn, rfl, hx⟩ := y
    obtain ⟨k, e1, e2⟩ := h2.get (hx vs h1)
    exact ⟨T, x, k, rfl, hn, rfl, e1, e2⟩
theorem walk_enumL {K : PySem.W.Frag} {a : Addr} {ks : List D} : Walk (Ite K a) ks.length (fun H => Ls H a ks) (YNum ks) := by
  refine ⟨fun i H hi q => ?_, fun H q => ?_, fun i H v H' hi q y => ?_⟩
  · obtain ⟨vs, h1, h2⟩ := q
    have hi' : i < vs.length := by rw [← h2.length]; exact hi
    exact ⟨vs, vs[i], SqL.of h1, by simp [hi']⟩
  · obtain ⟨vs, h1, h2⟩ := q
    exact ⟨vs, SqL.of h1, Nat.le_of_eq h2.length.symm⟩
  · obtain ⟨vs, h1, h2⟩ := q
    obtain ⟨T, x, rfl, hn, rfl, hx⟩ := y
    obtain ⟨k, e1, e2⟩ := h2.get (hx vs (SqL.of h1))
    exact ⟨T, x, k, rfl, hn, rfl, e1, e2⟩
theorem walk_enumS {l : List Nat} : Walk (ItEs (tx l)) l.length (fun _ => True) (fun i H v H' => ∃ T c, v = .ref T ∧ H T = none ∧ H' = upd H T (.tup [.int (i : Nat), .str (sg c)]) ∧ l[i]? = some c) := by
  have e : (tx l).cps.size = l.length := by simp [tx]
  refine ⟨fun i H hi q => by show i < (tx l).cps.size; rw [e]; exact hi, fun H q => e, fun i H v H' hi q y => ?_⟩
  obtain ⟨T, c, rfl, hn, rfl, hx⟩ := y
  exact ⟨T, c, rfl, hn, rfl, by simpa [tx] using hx⟩
end K81

namespace K81
/-! # The treble's path; the rows that can be heads -/
/-- the change brings what is at index p to index q -/
def StepTo (n : Nat) (c : Row) (p q : Nat) : Prop := (cmv n c)[q]? = some ((p : Int) + 1)
instance (n : Nat) (c : Row) (p q : Nat) : Decidable (StepTo n c p q) := by unfold StepTo; infer_instance
def Path (n : Nat) : Nat → List Row → Nat → Prop
  | p, [], q => p = q
  | p, c :: cs, q => ∃ m, StepTo n c p m ∧ Path n m cs q
theorem Path.append {n : Nat} : ∀ {p m q : Nat} {cs ds : List Row}, Path n p cs m → Path n m ds q → Path n p (cs ++ ds) q
  | _, _, _, [], _, h, h' => by
    cases h
    exact h'
  | _, _, _, c :: cs, _, ⟨m, h1, h2⟩, h' => ⟨m, h1, h2.append h'⟩
theorem Path.one {n p q : Nat} {c : Row} (h : StepTo n c p q) : Path n p [c] q := ⟨q, h, rfl⟩
theorem Path.snoc {n p m q : Nat} {cs : List Row} {c : Row} (h : Path n p cs m) (h' : StepTo n c m q) : Path n p (cs ++ [c]) q := h.append (.one h')
theorem led_up {n low : Nat} {c : Row} (b : Bells n) (h0 : 0 < low) (hl : low < n) (m : c ∈ leds n low) : StepTo n c (low - 1) low := by
  have e := led_all (q := fun n low c => decide (0 < low → StepTo n c (low - 1) low)) (by decide +kernel) b hl m
  exact of_decide_eq_true e h0
theorem led_down {n low : Nat} {c : Row} (b : Bells n) (h0 : 0 < low) (hl : low < n) (m : c ∈ leds n low) : StepTo n c low (low - 1) := by
  have e := led_all (q := fun n low c => decide (0 < low → StepTo n c low (low - 1))) (by decide +kernel) b hl m
  exact of_decide_eq_true e h0
theorem led_zero {n : Nat} {c : Row} (b : Bells n) (m : c ∈ leds n 0) : StepTo n c 0 0 := by
  have e := led_all (q := fun n low c => decide (low = 0 → StepTo n c 0 0)) (by decide +kernel) b (by rcases b with rfl | rfl | rfl <;> decide) m
  exact of_decide_eq_true e rfl
/-- a led change seen from behind -/
def mir (n : Nat) (c : Row) : Row := c.map fun s => (n : Int) + 1 - s
theorem mir_ok {n : Nat} {c : Row} (b : Bells n) (m : c ∈ leds n 0) : (mir n c).reverse ∈ chgs n ∧ (mir n c).reverse.Pairwise (· ≤ ·) ∧ StepTo n (mir n c).reverse (n - 1) (n - 1) := by
  have e := led_all (q := fun n low c => decide (low = 0 → (mir n c).reverse ∈ chgs n ∧ (mir n c).reverse.Pairwise (· ≤ ·) ∧ StepTo n (mir n c).reverse (n - 1) (n - 1))) (by decide +kernel) b (by rcases b with rfl | rfl | rfl <;> decide) m
  exact of_decide_eq_true e rfl
theorem led_len {n low : Nat} {c : Row} (b : Bells n) (hl : low < n) (m : c ∈ leds n low) : c.length ≤ 5 := chg_len b (led_chg b hl m)
theorem sort_uniq {l m : List Int} (p : l.Perm m) (hl : l.Pairwise (· ≤ ·)) (hm : m.Pairwise (· ≤ ·)) : l = m :=
  List.Perm.eq_of_pairwise (fun a b _ _ h1 h2 => Int.le_antisymm h1 h2) hl hm p
theorem mir_sort {n : Nat} {c l : Row} (b : Bells n) (m : c ∈ leds n 0) (p : l.Perm (mir n c)) (s : l.Pairwise (· ≤ ·)) : l ∈ chgs n ∧ StepTo n l (n - 1) (n - 1) := by
  obtain ⟨h1, h2, h3⟩ := mir_ok b m
  have e : l = (mir n c).reverse := sort_uniq (p.trans (List.reverse_perm _).symm) s h2
  rw [e]
  exact ⟨h1, h3⟩
/-! ### the rows -/
def insA (x : Int) : Row → List Row
  | [] => [[x]]
  | y :: ys => (x :: y :: ys) :: (insA x ys).map (y :: ·)
def permsL : Row → List Row
  | [] => [[]]
  | x :: xs => (permsL xs).flatMap (insA x)
/-- all rows; the rows that can be heads -/
def PU (n : Nat) : List Row := permsL (rnd n)
def U (n : Nat) : List Row := if n = 5 then (permsL [2, 3, 4, 5]).map ((1 : Int) :: ·) else permsL (rnd n)
theorem pu_step {n : Nat} {r c : Row} (b : Bells n) (hr : r ∈ PU n) (hc : c ∈ chgs n) : tms r (cmv n c) ∈ PU n := by
  have e := bells_all (q := fun n => (PU n).all fun r => (chgs n).all fun c => decide (tms r (cmv n c) ∈ PU n)) (by decide +kernel) b
  simp only [List.all_eq_true, decide_eq_true_eq] at e
  exact e r hr c hc
theorem u_step {n : Nat} {r m : Row} (b : Bells n) (hr : r ∈ U n) (hm : m ∈ U n) : tms r m ∈ U n := by
  have e := bells_all (q := fun n => (U n).all fun r => (U n).all fun c => decide (tms r c ∈ U n)) (by decide +kernel) b
  simp only [List.all_eq_true, decide_eq_true_eq] at e
  exact e r hr m hm
theorem u_of {n : Nat} {r : Row} (b : Bells n) (hr : r ∈ PU n) (h : n = 5 → r[0]? = some 1) : r ∈ U n := by
  have e := bells_all (q := fun n => (PU n).all fun r => decide ((n = 5 → r[0]? = some 1) → r ∈ U n)) (by decide +kernel) b
  simp only [List.all_eq_true, decide_eq_true_eq] at e
  exact e r hr h
theorem u_facts {n : Nat} {r : Row} (b : Bells n) (hr : r ∈ U n) : r.length = n ∧ In1 n r ∧ r.Nodup ∧ tms (rnd n) r = r ∧ tms r (rnd n) = r ∧ r ∈ PU n := by
  have e := bells_all (q := fun n => (U n).all fun r => decide (r.length = n ∧ In1 n r ∧ r.Nodup ∧ tms (rnd n) r = r ∧ tms r (rnd n) = r ∧ r ∈ PU n)) (by decide +kernel) b
  simp only [List.all_eq_true, decide_eq_true_eq] at e
  exact e r hr
theorem pu_facts {n : Nat} {r : Row} (b : Bells n) (hr : r ∈ PU n) : r.length = n ∧ In1 n r ∧ tms (rnd n) r = r := by
  have e := bells_all (q := fun n => (PU n).all fun r => decide (r.length = n ∧ In1 n r ∧ tms (rnd n) r = r)) (by decide +kernel) b
  simp only [List.all_eq_true, decide_eq_true_eq] at e
  exact e r hr
theorem u_rnd {n : Nat} (b : Bells n) : rnd n ∈ U n := of_decide_eq_true (bells_all (q := fun n => decide (rnd n ∈ U n)) (by decide +kernel) b)
theorem pu_rnd {n : Nat} (b : Bells n) : rnd n ∈ PU n := of_decide_eq_true (bells_all (q := fun n => decide (rnd n ∈ PU n)) (by decide +kernel) b)
theorem u_len {n : Nat} (b : Bells n) : (U n).length ≤ 24 := of_decide_eq_true (bells_all (q := fun n => decide ((U n).length ≤ 24)) (by decide +kernel) b)
theorem u_nodup {n : Nat} (b : Bells n) {l : List Row} (nd : l.Nodup) (h : ∀ r ∈ l, r ∈ U n) : l.length ≤ 24 := Nat.le_trans (List.Nodup.length_le_of_subset nd h) (u_len b)
/-! ### worlds -/
structure Cal where
  c : Nat
  at_ : Nat
  many : List Row
structure Wd where
  n : Nat
  plain : List Row
  calls : List Cal
/-- the lead of a call -/
def splice (plain : List Row) (k : Cal) : List Row := plain.take k.at_ ++ (k.many ++ plain.drop (k.at_ + k.many.length))
def leadOf (W : Wd) (c : Nat) : List Row := match W.calls.find? (fun k => k.c == c) with
  | some k => splice W.plain k
  | none => W.plain
/-- a row behind changes -/
def behind (n : Nat) : Row → List Row → Row
  | r, [] => r
  | r, c :: cs => behind n (tms r (cmv n c)) cs
theorem behind_append (n : Nat) : ∀ (cs ds : List Row) (r : Row), behind n r (cs ++ ds) = behind n (behind n r cs) ds
  | [], _, _ => rfl
  | c :: cs, ds, r => behind_append n cs ds _
theorem behind_snoc (n : Nat) (cs : List Row) (c r : Row) : behind n r (cs ++ [c]) = tms (behind n r cs) (cmv n c) := behind_append n cs [c] r
def mvOf (W : Wd) (c : Nat) : Row := behind W.n (rnd W.n) (leadOf W c)
/-- the letters a call can have -/
def alpha : List Nat := [97, 98, 99, 100, 101, 102, 103, 104, 105, 106, 107, 108, 109, 110, 111, 113, 114, 115, 116, 117, 118, 119, 120, 121, 122]
structure COk (W : Wd) (k : Cal) : Prop where
  al : k.c ∈ alpha
  many : ∀ c ∈ k.many, c ∈ chgs W.n
  ne : k.many ≠ []
  fit : k.at_ + k.many.length ≤ W.plain.length
  trb : W.n = 5 → Path 5 0 (splice W.plain k) 0
structure WOk (W : Wd) : Prop where
  bells : Bells W.n
  plain : ∀ c ∈ W.plain, c ∈ chgs W.n
  ne : W.plain ≠ []
  len : W.plain.length ≤ 10
  calls : ∀ k ∈ W.calls, COk W k
  nd : (W.calls.map Cal.c).Nodup
  few : W.calls.length ≤ 3
  trb : W.n = 5 → Path 5 0 W.plain 0
theorem splice_chg {W : Wd} (ok : WOk W) {k : Cal} (h : COk W k) : ∀ c ∈ splice W.plain k, c ∈ chgs W.n := by
  intro c hc
  unfold splice at hc
  rcases List.mem_append.mp hc with h1 | h1
  · exact ok.plain c (List.mem_of_mem_take h1)
  rcases List.mem_append.mp h1 with h1 | h1
  · exact h.many c h1
  · exact ok.plain c (List.mem_of_mem_drop h1)
theorem splice_len {W : Wd} {k : Cal} (h : COk W k) : (splice W.plain k).length = W.plain.length := by
  have := h.fit
  unfold splice
  rw [List.length_append, List.length_append, List.length_take, List.length_drop]
  omega
theorem lead_cases {W : Wd} (ok : WOk W) (c : Nat) : (leadOf W c = W.plain) ∨ ∃ k, COk W k ∧ leadOf W c = splice W.plain k := by
  unfold leadOf
  cases e : W.calls.find? (fun k => k.c == c) with
  | none => exact .inl rfl
  | some k => exact .inr ⟨k, ok.calls k (List.mem_of_find?_eq_some e), rfl⟩
theorem lead_chg {W : Wd} (ok : WOk W) (c : Nat) : ∀ x ∈ leadOf W c, x ∈ chgs W.n := by
  rcases lead_cases ok c with e | ⟨k, hk, e⟩
  · rw [e]
    exact ok.plain
  · rw [e]
    exact splice_chg ok hk
theorem lead_len {W : Wd} (ok : WOk W) (c : Nat) : (leadOf W c).length ≤ 10 := by
  rcases lead_cases ok c with e | ⟨k, hk, e⟩
  · rw [e]
    exact ok.len
  · rw [e, splice_len hk]
    exact ok.len
theorem behind_pu {n : Nat} (b : Bells n) : ∀ {cs : List Row} {r : Row}, r ∈ PU n → (∀ c ∈ cs, c ∈ chgs n) → behind n r cs ∈ PU n
  | [], _, h, _ => h
  | c :: cs, r, h, a => behind_pu (cs := cs) (r := tms r (cmv n c)) b (pu_step b h (a c (List.mem_cons_self ..))) fun d hd => a d (List.mem_cons_of_mem _ hd)
theorem tms_get {r m : Row} {p q : Nat} {x : Int} (h : m[q]? = some ((p : Int) + 1)) (hr : r[p]? = some x) : (tms r m)[q]? = some x := by
  unfold tms
  rw [List.getElem?_map, h]
  have e : ((p : Int) + 1).toNat - 1 = p := by omega
  simp [e, List.getD_eq_getElem?_getD, hr]
theorem path_row {n : Nat} {x : Int} : ∀ {cs : List Row} {r : Row} {p q : Nat}, Path n p cs q → r[p]? = some x → (behind n r cs)[q]? = some x
  | [], _, _, _, h, hr => by
    cases h
    exact hr
  | c :: cs, r, _, _, ⟨m, h1, h2⟩, hr => path_row (cs := cs) (r := tms r (cmv n c)) h2 (tms_get h1 hr)
theorem mv_in {W : Wd} (ok : WOk W) (c : Nat) : mvOf W c ∈ U W.n := by
  refine u_of ok.bells (behind_pu ok.bells (pu_rnd ok.bells) (lead_chg ok c)) fun h5 => ?_
  have p : Path W.n 0 (leadOf W c) 0 := by
    rcases lead_cases ok c with e | ⟨k, hk, e⟩
    · rw [e, h5]
      exact ok.trb h5
    · rw [e, h5]
      exact hk.trb h5
  exact path_row p (rnd_get (by rw [h5]; decide))
end K81

namespace K81
open PySem PySem.Spec PyProof.Rows L2
/-! # A display of one pair keyed by data; dicts keyed by signs -/
section
variable {X : Cx}
def tDisp1N (P : Program) (w : World) (tk tv : TE) : TE := fun σ H Q => ∀ d, H d = none → ∀ φ, tk σ (upd H d (.ext φ)) fun x H1 => tv σ H1 fun y H2 => H2 d = some (.ext φ) ∧ ∃ b k, x = .ref b ∧ At H2 k (.ref b) ∧ k.depth ≤ 8 ∧
  ∀ φ', DN P w (upd H2 d (.ext φ')) d [(k, y)] → Q (.ref d) (upd H2 d (.ext φ'))
theorem pe_disp1N {k v : Expr} {tk tv : TE} {pos : Pos} (hu : X.A.units + 64 < cLine) (hk : PE X k tk) (hv : PE X v tv) : PE X (.Dict [some k] [v] pos) (tDisp1N X.prog X.w tk tv) := by
  refine ⟨fun pins s σ H Q I h => ?_⟩
  have hn := I.hok.fresh (Nat.le_refl s.heap.objs.size)
  have new : dnO X.prog X.w s.heap.objs.size [] (s.heap.push { cls := .type "dict", data := .dict #[] }) :=
    ⟨beq_eq_false_iff_ne.mpr (Ne.symm (Nat.ne_of_lt I.big)), _, #[], 0, Heap.get?_push_size _ rfl, ⟨rfl, rfl, rfl⟩, rfl, rfl, List.nodup_nil⟩
  have I1 := I.laid (a := s.heap.objs.size) (t' := s.toks) (fun _ _ q => Heap.get?_push_of_some _ q) (Nat.le_refl _) (dnO_ok new)
  have hp : PPs X pos [some k] [v] [(tk, tv)] := pps_cons hk hv pps_nil
  have e1 : pairTrees [some k] [v] X.env pos ≠ [] := by
    intro z
    have := pairTrees_length [some k] [v] X.env pos rfl rfl
    rw [z] at this
    cases this
  have e2 : (pairTrees [some k] [v] X.env pos).length ≤ 15 := by
    rw [pairTrees_length [some k] [v] X.env pos rfl rfl]
    show 1 ≤ 15
    decide
  have room : (nestedKind X.prog X.w).room X.A := by
    show X.A.units + 8 < cLine
    omega
  rw [arm_eval_Dict, zip_pairTrees [some k] [v] X.env pos rfl rfl, dictDisplay_pairs _ e1 (by omega)]
  refine wpAny_bind (wpAny_standAt (wpAny_bind (wpAny_subDictH (knd := nestedKind X.prog X.w) room e2 (thn (hp.run pins _ σ _ (fun ps H2 => match ps with
    | [(x, y)] => H2 s.heap.objs.size = some (.ext (dnO X.prog X.w s.heap.objs.size [])) ∧ ∃ b k, x = .ref b ∧ At H2 k (.ref b) ∧ k.depth ≤ 8 ∧
      ∀ φ', DN X.prog X.w (upd H2 s.heap.objs.size (.ext φ')) s.heap.objs.size [(k, y)] → Q (.ref s.heap.objs.size) (upd H2 s.heap.objs.size (.ext φ'))
    | _ => False) I1 (h s.heap.objs.size hn (dnO X.prog X.w s.heap.objs.size []))) fun vs s2 z => ?_))))
  obtain ⟨ps, H2, I2, rel, q⟩ := z
  cases rel with
  | nil => exact q.elim
  | @cons p u ps us r rs =>
    cases rs with
    | cons _ _ => exact q.elim
    | nil =>
      obtain ⟨x, y⟩ := p
      obtain ⟨ux, uy⟩ := u
      obtain ⟨hd, b, kd, rfl, hk', dk, q⟩ := q
      obtain ⟨rx, ry⟩ := r
      cases rx
      have old : DN X.prog X.w H2 s.heap.objs.size [] := ⟨[], hd, .nil, Nat.zero_le _⟩
      obtain ⟨xs, e, rr, _, z, dd⟩ := dn_of I2 old
      cases rr
      refine ⟨[(kd, b, uy)], ⟨rfl, rfl, isKey I2 hk' dk, trivial⟩, dd, fun h' tk dd' hs => wpAny_pure ?_⟩
      obtain ⟨q', es, ep, hq, h2, h3, h4, h6, h5⟩ := dd'
      have new2 : dnO X.prog X.w s.heap.objs.size (storedAllH [] [(kd, b, uy)]) h' := ⟨z, q', es, ep, hq, h2, h3, h4, h5⟩
      have tkk : Tk H2 (upd H2 s.heap.objs.size (.ext (dnO X.prog X.w s.heap.objs.size (storedAllH [] [(kd, b, uy)])))) := Tk.put hd fun xs => by intro z; cases z
      refine ⟨.ref s.heap.objs.size, _, d_write I2 (by rw [hd]; exact True.intro) hs ⟨q', hq⟩ (dnO_ok new2), rfl, q _ ⟨_, upd_same, ?_, (by decide : 1 ≤ sizeLine)⟩⟩
      exact .cons ⟨rfl, ⟨hk'.mono tkk, dk⟩, ry⟩ .nil
end
/-! ### dicts keyed by signs -/
theorem szL' {n : Nat} (h : n ≤ 1000) : n < sizeLine := Nat.lt_of_le_of_lt h (by decide)
/-- at a: a dict with these signs as keys, in this order, at c the data f c -/
def TD (H : Hp) (a : Addr) (ls : List Nat) (f : Nat → D) : Prop := ∃ kvs, H a = some (.dK kvs) ∧ Paired (fun c (kv : Key × V) => kv.1 = Sum.inr (sg c) ∧ At H (f c) kv.2) ls kvs
section
variable {H H1 : Hp} {a : Addr} {ls : List Nat} {f : Nat → D} {S : Addr → Prop}
theorem TD.grow (h : TD H a ls f) (g : Grow S H H1) (n : ¬ S a) : TD H1 a ls f := by
  obtain ⟨kvs, e, r⟩ := h
  exact ⟨kvs, g.o e n, Paired.mapP r fun _ _ z => ⟨z.1, g.at z.2⟩⟩
theorem TD.growN (h : TD H a ls f) (g : Grow No H H1) : TD H1 a ls f := h.grow g id
theorem TD.ne {p : Addr} (h : TD H a ls f) (n : H p = none) : a ≠ p := let ⟨_, e, _⟩ := h; ne_of_none e n
theorem td_keys {kvs : List (Key × V)} (r : Paired (fun c (kv : Key × V) => kv.1 = Sum.inr (sg c) ∧ At H (f c) kv.2) ls kvs) : kvs.map (·.1) = ls.map fun c => Sum.inr (sg c) := by
  induction r with
  | nil => rfl
  | cons z t ih => rw [List.map_cons, List.map_cons, ih, z.1]
theorem TD.keys (h : TD H a ls f) : ∃ kvs, H a = some (.dK kvs) ∧ kvs.map (·.1) = ls.map fun c => Sum.inr (sg c) := by
  obtain ⟨kvs, e, r⟩ := h
  exact ⟨kvs, e, td_keys r⟩
theorem key_inj {a b : Nat} : (Sum.inr (sg a) : Key) = Sum.inr (sg b) ↔ a = b := ⟨fun h => sg_inj (Sum.inr.inj h), fun h => by rw [h]⟩
theorem td_val {kvs : List (Key × V)} (r : Paired (fun c (kv : Key × V) => kv.1 = Sum.inr (sg c) ∧ At H (f c) kv.2) ls kvs) (c : Nat) : (c ∈ ls → ∃ v, valV kvs (Sum.inr (sg c) : Key) = some v ∧ At H (f c) v) ∧ (c ∉ ls → valV kvs (Sum.inr (sg c) : Key) = none) := by
  induction r with
  | nil => exact ⟨fun h => (List.not_mem_nil h).elim, fun _ => rfl⟩
  | @cons p q ps qs h t ih =>
    obtain ⟨h1, h2⟩ := h
    by_cases e : p = c
    · subst e
      exact ⟨fun _ => ⟨q.2, by rw [valV_pos h1], h2⟩, fun z => (z (List.mem_cons_self ..)).elim⟩
    · have ne : ¬ q.1 = (Sum.inr (sg c) : Key) := fun z => e (key_inj.mp (h1.symm.trans z))
      rw [valV_neg ne]
      refine ⟨fun m => ih.1 ?_, fun m => ih.2 fun z => m (List.mem_cons_of_mem _ z)⟩
      rcases List.mem_cons.mp m with z | z
      · exact (e z.symm).elim
      · exact z
/-- d[c], c in d -/
theorem TD.get (h : TD H a ls f) {c : Nat} (m : c ∈ ls) : ∃ v, DGet H a (.str (sg c)) (some v) ∧ At H (f c) v := by
  obtain ⟨kvs, e, r⟩ := h
  obtain ⟨v, h1, h2⟩ := (td_val r c).1 m
  exact ⟨v, by rw [← h1]; exact DGet.k (k := Sum.inr (sg c)) e, h2⟩
theorem TD.has (h : TD H a ls f) (c : Nat) : ∃ o, DGet H a (.str (sg c)) o ∧ o.isSome = decide (c ∈ ls) := by
  obtain ⟨kvs, e, r⟩ := h
  refine ⟨_, DGet.k (k := Sum.inr (sg c)) e, ?_⟩
  by_cases m : c ∈ ls
  · obtain ⟨v, h1, _⟩ := (td_val r c).1 m
    rw [h1, decide_eq_true m]
    rfl
  · rw [(td_val r c).2 m, decide_eq_false m]
    rfl
theorem td_len {kvs : List (Key × V)} (r : Paired (fun c (kv : Key × V) => kv.1 = Sum.inr (sg c) ∧ At H (f c) kv.2) ls kvs) : ls.length = kvs.length := Paired.length r
theorem dK_ne_tup (xs : List (Key × V)) (ys : List V) : HO.dK xs ≠ .tup ys := fun z => by cases z
/-- d[c] = data, c new -/
theorem TD.put (h : TD H a ls f) {c : Nat} {v : V} (m : c ∉ ls) (av : At H (f c) v) (hl : ls.length ≤ 1000) : ∃ H1, DPut H a (.str (sg c)) v H1 ∧ Grow (On a) H H1 ∧ TD H1 a (ls ++ [c]) f := by
  obtain ⟨kvs, e, r⟩ := h
  have g : Grow (On a) H (upd H a (.dK (putK kvs (Sum.inr (sg c)) v))) := Grow.putO e (dK_ne_tup _)
  have en := putK_new v ((td_val r c).2 m)
  refine ⟨_, DPut.k (k := Sum.inr (sg c)) e (by rw [← td_len r]; exact szL' hl), g, kvs ++ [(Sum.inr (sg c), v)], by rw [upd_same, en], ?_⟩
  exact Paired.snoc (Paired.mapP r fun _ _ z => ⟨z.1, g.at z.2⟩) ⟨rfl, g.at av⟩
end
section
variable {X : Cx}
/-- xs.extend(ys), two lists of data -/
def rExtK : V → List V → Hp → VK → Prop := fun x xs H Q => ∃ l b ks ls, x = .ref l ∧ xs = [.ref b] ∧ Ls H l ks ∧ Ls H b ls ∧ ks.length + ls.length ≤ sizeLine ∧ ∀ H', Grow (On l) H H' → Ls H' l (ks ++ ls) → Q .non H'
theorem mt_extK : MtR X "list.extend" rExtK := mt_weak mt_extend fun x xs H Q h => by
  obtain ⟨l, b, ks, ls, rfl, rfl, ⟨vs, e, r⟩, ⟨ws, e2, r2⟩, z, q⟩ := h
  have g : Grow (On l) H (upd H l (.lst (vs ++ ws))) := Grow.putO e (lst_ne_tup vs)
  exact ⟨l, b, vs, ws, rfl, rfl, e, e2, by rw [← r.length, ← r2.length]; exact z, q _ g ⟨_, upd_same, (g.ats r).append (g.ats r2)⟩⟩
end
theorem ix10 {a : D} : IxAt [a].length 0 0 := ⟨(by decide : 0 < 1), .inl rfl⟩
theorem ix20 {a b : D} : IxAt [a, b].length 0 0 := ⟨(by decide : 0 < 2), .inl rfl⟩
theorem ix21 {a b : D} : IxAt [a, b].length 1 1 := ⟨(by decide : 1 < 2), .inl rfl⟩
theorem ix30 {a b c : D} : IxAt [a, b, c].length 0 0 := ⟨(by decide : 0 < 3), .inl rfl⟩
theorem ix31 {a b c : D} : IxAt [a, b, c].length 1 1 := ⟨(by decide : 1 < 3), .inl rfl⟩
theorem ix32 {a b c : D} : IxAt [a, b, c].length 2 2 := ⟨(by decide : 2 < 3), .inl rfl⟩
end K81

namespace K81
open PySem PySem.Spec PyProof.Rows L2
/-! # list(dict keyed by data); entries told by a function -/
section
variable {X : Cx}
/-- list(d) of a dict keyed by data: its keys -/
def rListN (P : Program) (w : World) : List V → Hp → VK → Prop := fun xs H Q => ∃ d kvs, xs = [.ref d] ∧ DN P w H d kvs ∧ ∀ H' p, H p = none → Grow No H H' → Ls H' p (kvs.map (·.1)) → Q (.ref p) H'
theorem kn_ats {H : Hp} {kvs : List (D × V)} {xs : List (D × Addr × Value)} (r : KN H kvs xs) : Ats H (kvs.map (·.1)) (xs.map fun x => V.ref x.2.1) := by
  induction r with
  | nil => exact .nil
  | cons h t ih => exact .cons h.2.1.1 ih
theorem call_listN (hc : X.calm = true) : CallR X (.type "list") (rListN X.prog X.w) := by
  intro pins s σ H vs us Q I r h
  obtain ⟨d, kvs, rfl, hd, q⟩ := h
  obtain ⟨u, rfl, rx⟩ := vals1 r
  cases rx
  obtain ⟨xs, e, kn, lz⟩ := id hd
  obtain ⟨⟨z, o, es, ep, h1, h2, h3, h4, h5⟩, _⟩ := (show ObjOk X.prog X.w H s.heap d (.ext (dnO X.prog X.w d xs)) from I.hok d _ e)
  have sz : es.size = xs.length := by
    have := congrArg List.length h4
    rw [List.length_map, Array.length_toList] at this
    exact this
  have l2 : kvs.length = xs.length := Paired.length kn
  refine PySem.W.kdl_call (kdl_raw z h2 h3) (I.ok.hd hc) h1 (by omega) fun h' tk acc c kp he it => ?_
  have hl : acc.toList.length = xs.length := by rw [Array.length_toList, it.1, sz]
  have rv : Vals (xs.map fun x => V.ref x.2.1) acc.toList := by
    refine vals_of_at (by rw [List.length_map, hl]) fun j x u e1 e2 => ?_
    rw [List.getElem?_map] at e1
    obtain ⟨en, e3, rfl⟩ := it.2 j u (by rw [← Array.getElem?_toList]; exact e2)
    cases e4 : xs[j]? with
    | none =>
      rw [e4] at e1
      cases e1
    | some b =>
      rw [e4] at e1
      cases e1
      have e5 : es.toList[j]? = some en := by rw [Array.getElem?_toList]; exact e3
      rw [h4, List.getElem?_map, e4] at e5
      cases e5
      exact rfl
  have hn := I.hok.fresh (Nat.le_refl s.heap.objs.size)
  refine ⟨.ref s.heap.objs.size, upd H s.heap.objs.size (.lst (xs.map fun x => V.ref x.2.1)), I.laid (t' := tk) kp (Nat.le_refl _) (show ObjOk X.prog X.w _ _ _ (.lst (xs.map fun x => V.ref x.2.1)) from ⟨?_, acc.toList, c, rv, ?_⟩), rfl, q _ _ hn (Grow.new hn) ⟨_, upd_same, (Grow.new (S := No) hn).ats (kn_ats kn)⟩⟩
  · rw [List.length_map, ← l2]
    exact lz
  · rw [Array.toArray_toList]
    exact he
end
/-! ### entries told by a function of the key -/
section
variable {α : Type} [DecidableEq α] {g : α → D}
def kvF (g : α → D) (f : α → V) (l : List α) : List (D × V) := l.map fun x => (g x, f x)
def fupd (f : α → V) (x : α) (y : V) : α → V := fun z => if z = x then y else f z
theorem fupd_same {f : α → V} {x : α} {y : V} : fupd f x y x = y := if_pos rfl
theorem fupd_ne {f : α → V} {x z : α} {y : V} (h : z ≠ x) : fupd f x y z = f z := if_neg h
theorem kvF_len (f : α → V) (l : List α) : (kvF g f l).length = l.length := List.length_map _
theorem kvF_get (gi : ∀ a b, g a = g b → a = b) {f : α → V} {x : α} : ∀ {l : List α}, x ∈ l → valV (kvF g f l) (g x) = some (f x)
  | [], h => (List.not_mem_nil h).elim
  | y :: l, h => by
    unfold kvF
    rw [List.map_cons]
    by_cases e : y = x
    · subst e
      rw [valV_pos rfl]
    · rw [valV_neg (fun z => e (gi _ _ z))]
      exact kvF_get gi ((List.mem_cons.mp h).elim (fun q => (e q.symm).elim) id)
theorem kvF_no (gi : ∀ a b, g a = g b → a = b) {f : α → V} {x : α} : ∀ {l : List α}, x ∉ l → valV (kvF g f l) (g x) = none
  | [], _ => rfl
  | y :: l, h => by
    have ne : ¬ g y = g x := fun z => h (by rw [gi _ _ z]; exact List.mem_cons_self ..)
    unfold kvF
    rw [List.map_cons, valV_neg (p := (g y, f y)) ne]
    exact kvF_no gi fun z => h (List.mem_cons_of_mem _ z)
theorem kvF_congr {f f' : α → V} {l : List α} (h : ∀ x ∈ l, f x = f' x) : kvF g f l = kvF g f' l := List.map_congr_left fun x hx => by rw [h x hx]
theorem kvF_new (gi : ∀ a b, g a = g b → a = b) {f : α → V} {x : α} {l : List α} (h : x ∉ l) (y : V) : putK (kvF g f l) (g x) y = kvF g (fupd f x y) (l ++ [x]) := by
  rw [putK_new y (kvF_no gi h)]
  have e : kvF g f l = kvF g (fupd f x y) l := kvF_congr fun z hz => (fupd_ne fun q => h (by rw [← q]; exact hz)).symm
  rw [e]
  unfold kvF
  rw [List.map_append, List.map_cons, List.map_nil, fupd_same]
theorem kvF_set (gi : ∀ a b, g a = g b → a = b) {f : α → V} {x : α} {l : List α} (h : x ∈ l) (y : V) : putK (kvF g f l) (g x) y = kvF g (fupd f x y) l := by
  have ha : ((kvF g f l).any fun kv => decide (kv.1 = g x)) = true := by
    rw [List.any_eq_true]
    exact ⟨(g x, f x), List.mem_map.mpr ⟨x, h, rfl⟩, by simp⟩
  unfold putK
  rw [if_pos ha]
  unfold kvF
  rw [List.map_map]
  refine List.map_congr_left fun z hz => ?_
  show (if (g z, f z).1 = g x then ((g z, f z).1, y) else (g z, f z)) = (g z, fupd f x y z)
  by_cases e : z = x
  · subst e
    rw [if_pos rfl, fupd_same]
  · rw [if_neg (fun q => e (gi _ _ q)), fupd_ne e]
end
end K81

namespace K81
/-! # Values of nodes, in plain Lean -/
abbrev Nd := Row × Nat
abbrev Wy := Nat × Nd
abbrev Ky := Nd × Nat
section
variable (wy : Nd → Nat → List Wy)
def keysOf (ns : List Nd) (ls : List Nat) : List Ky := ns.flatMap fun v => ls.map fun c => (v, c)
def evs (k : Ky) : List (Nd × Ky) := (wy k.1 k.2).map fun y => (y.2, k)
/-- the keys whose ways come to u -/
def intoOf (ev : List (Nd × Ky)) (u : Nd) : List Ky := (ev.filter fun e => decide (e.1 = u)).map Prod.snd
def cntW (k : Ky) (u : Nd) : Nat := ((wy k.1 k.2).filter fun y => decide (y.2 = u)).length
theorem intoOf_app (a b : List (Nd × Ky)) (u : Nd) : intoOf (a ++ b) u = intoOf a u ++ intoOf b u := by
  unfold intoOf
  rw [List.filter_append, List.map_append]
theorem intoOf_one (e : Nd × Ky) (u : Nd) : intoOf [e] u = if e.1 = u then [e.2] else [] := by
  unfold intoOf
  by_cases h : e.1 = u
  · rw [if_pos h]
    simp [h]
  · rw [if_neg h]
    simp [h]
theorem count_evs (k' k : Ky) (u : Nd) : (intoOf (evs wy k') u).count k = if k' = k then cntW wy k u else 0 := by
  have e : intoOf (evs wy k') u = ((wy k'.1 k'.2).filter fun y => decide (y.2 = u)).map fun _ => k' := by
    unfold intoOf evs
    rw [List.filter_map, List.map_map]
    rfl
  rw [e]
  by_cases h : k' = k
  · subst h
    rw [if_pos rfl]
    unfold cntW
    rw [List.map_const', List.count_replicate_self]
  · rw [if_neg h, List.map_const', List.count_replicate, if_neg (by simpa using h)]
theorem count_into (k : Ky) (u : Nd) : ∀ {l : List Ky}, l.Nodup → (intoOf (l.flatMap (evs wy)) u).count k = if k ∈ l then cntW wy k u else 0
  | [], _ => rfl
  | x :: l, nd => by
    have nd' := List.nodup_cons.mp nd
    rw [List.flatMap_cons, intoOf_app, List.count_append, count_evs, count_into k u nd'.2]
    by_cases h : x = k
    · subst h
      rw [if_pos rfl, if_neg nd'.1, if_pos (List.mem_cons_self ..)]
      rfl
    · rw [if_neg h]
      by_cases h2 : k ∈ l
      · rw [if_pos h2, if_pos (List.mem_cons_of_mem _ h2)]
        omega
      · rw [if_neg h2, if_neg (fun z => (List.mem_cons.mp z).elim (fun q => h q.symm) h2)]
theorem into_keys {ev : List (Nd × Ky)} {u : Nd} {k : Ky} (h : k ∈ intoOf ev u) : ∃ e ∈ ev, e.1 = u ∧ e.2 = k := by
  unfold intoOf at h
  obtain ⟨e, he, rfl⟩ := List.mem_map.mp h
  rw [List.mem_filter] at he
  exact ⟨e, he.1, of_decide_eq_true he.2, rfl⟩
theorem keys_mem {ns : List Nd} {ls : List Nat} {v : Nd} {c : Nat} : (v, c) ∈ keysOf ns ls ↔ v ∈ ns ∧ c ∈ ls := by
  unfold keysOf
  rw [List.mem_flatMap]
  constructor
  · rintro ⟨x, hx, h⟩
    obtain ⟨y, hy, e⟩ := List.mem_map.mp h
    cases e
    exact ⟨hx, hy⟩
  · exact fun ⟨a, b⟩ => ⟨v, a, List.mem_map.mpr ⟨c, b, rfl⟩⟩
theorem keys_nodup {ls : List Nat} (hl : ls.Nodup) : ∀ {ns : List Nd}, ns.Nodup → (keysOf ns ls).Nodup
  | [], _ => List.nodup_nil
  | v :: ns, nd => by
    have nd' := List.nodup_cons.mp nd
    have ih := keys_nodup hl nd'.2
    unfold keysOf at ih ⊢
    rw [List.flatMap_cons, List.nodup_append]
    refine ⟨?_, ih, fun a ha b hb e => ?_⟩
    · exact List.Pairwise.map _ (fun a b h e => h (by cases e; rfl)) hl
    · subst e
      obtain ⟨c, _, rfl⟩ := List.mem_map.mp ha
      have := (keys_mem (ns := ns) (ls := ls)).mp (show (v, c) ∈ keysOf ns ls from hb)
      exact nd'.1 this.1
/-- how many ways of a key are not yet done -/
def lfI (P : List Nd) (k : Ky) : Int := (((wy k.1 k.2).filter fun y => decide (y.2 ∉ P)).length : Nat)
theorem filt_split (l : List Wy) (P : List Nd) (u : Nd) (hu : u ∉ P) : (l.filter fun y => decide (y.2 ∉ P)).length = (l.filter fun y => decide (y.2 ∉ P ++ [u])).length + (l.filter fun y => decide (y.2 = u)).length := by
  induction l with
  | nil => rfl
  | cons y l ih =>
    by_cases h1 : y.2 = u
    · have a : (decide (y.2 ∉ P)) = true := by rw [h1]; exact decide_eq_true hu
      have b : (decide (y.2 ∉ P ++ [u])) = false := by rw [h1]; exact decide_eq_false (by simp)
      rw [List.filter_cons_of_pos (by exact a), List.filter_cons_of_neg (by rw [b]; decide), List.filter_cons_of_pos (by exact decide_eq_true h1), List.length_cons, List.length_cons, ih]
      omega
    · by_cases h2 : y.2 ∈ P
      · rw [List.filter_cons_of_neg (by simpa using h2), List.filter_cons_of_neg (by simp [h2]), List.filter_cons_of_neg (by simpa using h1), ih]
      · rw [List.filter_cons_of_pos (by simpa using h2), List.filter_cons_of_pos (by simp [h1, h2]), List.filter_cons_of_neg (by simpa using h1), List.length_cons, List.length_cons, ih]
        omega
theorem lfI_step (P : List Nd) (u : Nd) (hu : u ∉ P) (k : Ky) : lfI wy (P ++ [u]) k = lfI wy P k - cntW wy k u := by
  have := filt_split (wy k.1 k.2) P u hu
  unfold lfI cntW
  omega
theorem lfI_zero {P : List Nd} {k : Ky} (h : lfI wy P k = 0) : ∀ y ∈ wy k.1 k.2, y.2 ∈ P := by
  intro y hy
  unfold lfI at h
  have h' : ((wy k.1 k.2).filter fun y => decide (y.2 ∉ P)).length = 0 := by omega
  have h2 := List.length_eq_zero_iff.mp h'
  rw [List.filter_eq_nil_iff] at h2
  simpa using h2 y hy
theorem lfI_nonneg (P : List Nd) (k : Ky) : 0 ≤ lfI wy P k := by
  unfold lfI
  omega
theorem cntW_pos {k : Ky} {u : Nd} (h : 0 < cntW wy k u) : ∃ y ∈ wy k.1 k.2, y.2 = u := by
  unfold cntW at h
  obtain ⟨y, hy⟩ := List.exists_mem_of_length_pos h
  rw [List.mem_filter] at hy
  exact ⟨y, hy.1, of_decide_eq_true hy.2⟩
/-! ### the invariant -/
variable (z0 : Row) (ls : List Nat) (ns : List Nd)
/-- a node is found: all ways of one letter are valued, the worst of them at N -/
def Rdy (val : Nd → Int) (P : List Nd) (N : Int) (v : Nd) : Prop := ∃ c ∈ ls, (∀ y ∈ wy v c, y.2 ∈ P) ∧ ∃ y ∈ wy v c, val y.2 = N
structure VInv (val : Nd → Int) (P : List Nd) (N : Nat) : Prop where
  nd : P.Nodup
  sub : ∀ v ∈ P, v ∈ ns
  vP : ∀ v ∈ P, 0 ≤ val v ∧ val v < N
  vN : ∀ v, v ∉ P → val v = -1
  z : ∀ v ∈ P, (val v = 0 ↔ v.1 = z0)
  good : ∀ v ∈ P, val v ≠ 0 → ∃ c ∈ ls, (∀ y ∈ wy v c, y.2 ∈ P ∧ val y.2 ≤ val v - 1) ∧ ∃ y ∈ wy v c, val y.2 = val v - 1
  all0 : 0 < N → ∀ v ∈ ns, v.1 = z0 → v ∈ P
  len : N ≤ P.length
structure LInv (val : Nd → Int) (P : List Nd) (N : Nat) (lev : List Nd) : Prop where
  nd : lev.Nodup
  sub : ∀ v ∈ lev, v ∈ ns
  dis : ∀ v ∈ lev, v ∉ P
  first : N = 0 → P = [] ∧ ∀ v ∈ ns, (v ∈ lev ↔ v.1 = z0)
  rdy : 0 < N → ∀ v ∈ lev, v.1 ≠ z0 ∧ Rdy wy ls val P ((N : Int) - 1) v
/-- the level is valued -/
def setV (val : Nd → Int) (lev : List Nd) (N : Nat) : Nd → Int := fun v => if v ∈ lev then (N : Int) else val v
theorem setV_in {val : Nd → Int} {lev : List Nd} {N : Nat} {v : Nd} (h : v ∈ lev) : setV val lev N v = N := if_pos h
theorem setV_out {val : Nd → Int} {lev : List Nd} {N : Nat} {v : Nd} (h : v ∉ lev) : setV val lev N v = val v := if_neg h
variable {wy z0 ls ns}
theorem VInv.step {val : Nd → Int} {P : List Nd} {N : Nat} {lev : List Nd} (h : VInv wy z0 ls ns val P N) (l : LInv wy z0 ls ns val P N lev) (ne : lev ≠ []) : VInv wy z0 ls ns (setV val lev N) (P ++ lev) (N + 1) := by
  have old : ∀ v ∈ P, setV val lev N v = val v := fun v hv => setV_out fun z => l.dis v z hv
  refine ⟨?_, ?_, ?_, ?_, ?_, ?_, ?_, ?_⟩
  · rw [List.nodup_append]
    exact ⟨h.nd, l.nd, fun a ha b hb e => l.dis b hb (e ▸ ha)⟩
  · intro v hv
    rcases List.mem_append.mp hv with z | z
    · exact h.sub v z
    · exact l.sub v z
  · intro v hv
    rcases List.mem_append.mp hv with z | z
    · rw [old v z]
      have := h.vP v z
      omega
    · rw [setV_in z]
      omega
  · intro v hv
    have h1 : v ∉ lev := fun z => hv (List.mem_append_right _ z)
    rw [setV_out h1]
    exact h.vN v fun z => hv (List.mem_append_left _ z)
  · intro v hv
    rcases List.mem_append.mp hv with z | z
    · rw [old v z]
      exact h.z v z
    · rw [setV_in z]
      by_cases hN : N = 0
      · have := ((l.first hN).2 v (l.sub v z)).mp z
        simp [hN, this]
      · have := (l.rdy (by omega) v z).1
        simp [this, hN]
  · intro v hv hne
    rcases List.mem_append.mp hv with z | z
    · rw [old v z] at hne
      obtain ⟨c, hc, h1, y, hy, h2⟩ := h.good v z hne
      refine ⟨c, hc, fun y hy => ⟨List.mem_append_left _ (h1 y hy).1, ?_⟩, y, hy, ?_⟩
      · rw [old _ (h1 y hy).1, old v z]
        exact (h1 y hy).2
      · rw [old _ (h1 y hy).1, old v z]
        exact h2
    · rw [setV_in z] at hne
      obtain ⟨c, hc, h1, y, hy, h2⟩ := (l.rdy (by omega) v z).2
      refine ⟨c, hc, fun y hy => ⟨List.mem_append_left _ (h1 y hy), ?_⟩, y, hy, ?_⟩
      · rw [old _ (h1 y hy), setV_in z]
        have := h.vP _ (h1 y hy)
        omega
      · rw [old _ (h1 y hy), setV_in z]
        exact h2
  · intro _ v hv hz
    by_cases hN : N = 0
    · exact List.mem_append_right _ (((l.first hN).2 v hv).mpr hz)
    · exact List.mem_append_left _ (h.all0 (by omega) v hv hz)
  · have := h.len
    have := List.length_pos_iff.mpr ne
    rw [List.length_append]
    omega
/-- the next level -/
theorem LInv.next {val : Nd → Int} {P : List Nd} {N : Nat} {lev F : List Nd} (h' : VInv wy z0 ls ns val P (N + 1)) (nd : F.Nodup) (hF : ∀ f ∈ F, f ∈ ns ∧ f ∉ P ∧ Rdy wy ls val P N f) : LInv wy z0 ls ns val P (N + 1) F :=
  ⟨nd, fun v hv => (hF v hv).1, fun v hv => (hF v hv).2.1, fun z => by omega, fun _ v hv => ⟨fun z => (hF v hv).2.1 (h'.all0 (by omega) v (hF v hv).1 z), by
    have := (hF v hv).2.2
    have e : ((N + 1 : Nat) : Int) - 1 = N := by omega
    rw [e]
    exact this⟩⟩
theorem VInv.zero : VInv wy z0 ls ns (fun _ => -1) [] 0 :=
  ⟨List.nodup_nil, (fun _ h => (List.not_mem_nil h).elim), (fun _ h => (List.not_mem_nil h).elim), fun _ _ => rfl, (fun _ h => (List.not_mem_nil h).elim), (fun _ h => (List.not_mem_nil h).elim), fun h => absurd h (Nat.lt_irrefl 0), Nat.le_refl _⟩
theorem VInv.few {val : Nd → Int} {P : List Nd} {N : Nat} (h : VInv wy z0 ls ns val P N) : P.length ≤ ns.length := List.Nodup.length_le_of_subset h.nd h.sub
/-! ### the worst way, the plan -/
def maxL (l : List Int) : Int := l.foldl max (-1)
theorem foldl_max : ∀ (l : List Int) (a : Int), a ≤ l.foldl max a ∧ (∀ x ∈ l, x ≤ l.foldl max a) ∧ (l.foldl max a = a ∨ l.foldl max a ∈ l)
  | [], a => ⟨Int.le_refl _, (fun _ h => (List.not_mem_nil h).elim), .inl rfl⟩
  | x :: l, a => by
    obtain ⟨h1, h2, h3⟩ := foldl_max l (max a x)
    rw [List.foldl_cons]
    refine ⟨Int.le_trans (Int.le_max_left ..) h1, fun y hy => ?_, ?_⟩
    · rcases List.mem_cons.mp hy with e | hy
      · rw [e]
        exact Int.le_trans (Int.le_max_right ..) h1
      · exact h2 y hy
    · rcases h3 with e | e
      · rw [e]
        by_cases q : a ≤ x
        · rw [Int.max_eq_right q]
          exact .inr (List.mem_cons_self ..)
        · rw [Int.max_eq_left (by omega)]
          exact .inl rfl
      · exact .inr (List.mem_cons_of_mem _ e)
theorem maxL_eq {l : List Int} {m : Int} (h1 : m ∈ l) (h2 : ∀ x ∈ l, x ≤ m) (h3 : -1 ≤ m) : maxL l = m := by
  obtain ⟨a, b, c⟩ := foldl_max l (-1)
  unfold maxL
  have := b m h1
  rcases c with e | e
  · omega
  · have := h2 _ e
    omega
def wst (wy : Nd → Nat → List Wy) (val : Nd → Int) (v : Nd) (c : Nat) : Int := if (-1 : Int) ∈ (wy v c).map (fun y => val y.2) then -1 else maxL ((wy v c).map fun y => val y.2)
def planF (wy : Nd → Nat → List Wy) (ls : List Nat) (val : Nd → Int) (v : Nd) : Option Nat := if val v = 0 then none else ls.find? fun c => wst wy val v c == val v - 1
/-- what the values are good for -/
structure Good (wy : Nd → Nat → List Wy) (z0 : Row) (ls : List Nat) (ns : List Nd) (val : Nd → Int) : Prop where
  low : ∀ v, -1 ≤ val v
  high : ∀ v, val v ≤ 119
  z : ∀ v ∈ ns, (val v = 0 ↔ v.1 = z0)
  plan : ∀ v ∈ ns, 0 < val v → ∃ c ∈ ls, planF wy ls val v = some c ∧ ∀ y ∈ wy v c, 0 ≤ val y.2 ∧ val y.2 ≤ val v - 1
theorem VInv.good' {val : Nd → Int} {P : List Nd} {N : Nat} (h : VInv wy z0 ls ns val P N) (hN : 0 < N) (hns : ns.length ≤ 120) : Good wy z0 ls ns val := by
  have few := h.few
  have len := h.len
  have low : ∀ v, -1 ≤ val v := fun v => by
    by_cases hv : v ∈ P
    · have := h.vP v hv
      omega
    · rw [h.vN v hv]
      exact Int.le_refl _
  refine ⟨low, fun v => ?_, fun v hv => ?_, fun v hv hpos => ?_⟩
  · by_cases hv : v ∈ P
    · have := h.vP v hv
      omega
    · rw [h.vN v hv]
      decide
  · by_cases hp : v ∈ P
    · exact h.z v hp
    · rw [h.vN v hp]
      exact ⟨fun z => absurd z (by decide), fun z => (hp (h.all0 hN v hv z)).elim⟩
  · have hp : v ∈ P := by
      by_cases hp : v ∈ P
      · exact hp
      · rw [h.vN v hp] at hpos
        exact absurd hpos (by decide)
    obtain ⟨c0, hc0, g1, y0, hy0, g2⟩ := h.good v hp (by omega)
    have w0 : wst wy val v c0 = val v - 1 := by
      unfold wst
      have hno : (-1 : Int) ∉ (wy v c0).map fun y => val y.2 := fun z => by
        obtain ⟨y, hy, e⟩ := List.mem_map.mp z
        have := h.vP _ (g1 y hy).1
        omega
      rw [if_neg hno]
      refine maxL_eq (List.mem_map.mpr ⟨y0, hy0, g2⟩) (fun x hx => ?_) (by omega)
      obtain ⟨y, hy, rfl⟩ := List.mem_map.mp hx
      exact (g1 y hy).2
    have hf : (ls.find? fun c => wst wy val v c == val v - 1).isSome = true := by
      rw [List.find?_isSome]
      exact ⟨c0, hc0, by simp [w0]⟩
    obtain ⟨c, hc⟩ := Option.isSome_iff_exists.mp hf
    have hcl := List.mem_of_find?_eq_some hc
    have hcw : wst wy val v c = val v - 1 := by simpa using List.find?_some hc
    refine ⟨c, hcl, ?_, fun y hy => ?_⟩
    · unfold planF
      rw [if_neg (by omega), hc]
    · unfold wst at hcw
      by_cases hno : (-1 : Int) ∈ (wy v c).map fun y => val y.2
      · rw [if_pos hno] at hcw
        omega
      · rw [if_neg hno] at hcw
        have h1 : val y.2 ≠ -1 := fun z => hno (List.mem_map.mpr ⟨y, hy, z⟩)
        have h2 := low y.2
        have h3 := (foldl_max ((wy v c).map fun y => val y.2) (-1)).2.1 (val y.2) (List.mem_map.mpr ⟨y, hy, rfl⟩)
        have h4 : ((wy v c).map fun y => val y.2).foldl max (-1) = val v - 1 := hcw
        omega
end
end K81

namespace K81
open PySem PySem.Spec PyProof.Rows L2
section
variable {P : Program} {w : World} {K : PySem.W.Frag} {mg : Str → Option Value} {base : Heap}
/-- is_integer of an int -/
def sp_is_integer : Sp := fun vs H Q _ => ∃ i lo hi, vs = [.int i, .int lo, .int hi] ∧ Q (.bl (decide (lo ≤ i ∧ i ≤ hi))) H
abbrev N_is_integer : List Str := ["thing", "low", "high"]
theorem sc_is_integer : FnScope ["thing", "low", "high"] ["thing", "low", "high"] (defScope s_is_integer) := ⟨rfl, rfl, rfl, by decide +kernel, rfl, by decide +kernel, by decide +kernel⟩
theorem bd_is_integer (T : Txt K mg) : Binds K (fdOf K a_is_integer) ["thing", "low", "high"] [] := FunD.bindsN T.F_is_integer fun _ _ _ _ _ _ us hl => match us, hl with | [_, _, _], _ => rfl
theorem ok_is_integer (T : Txt K mg) : FnOk P w K mg base CX0 1 a_is_integer (fdOf K a_is_integer) ["thing", "low", "high"] (sp_is_integer) := by
  refine ok0 T.F_is_integer sc_is_integer (fun vs H Q E h => ?_) (fun cdv A outer s H vs Q E hr h => ?_)
  · obtain ⟨i, lo, hi, rfl, k⟩ := h
    rfl
  · obtain ⟨i, lo, hi, rfl, k⟩ := h
    have hU := hr.units
    have hu := hu_of hr
    refine ⟨_, (pss_cons (ps_if (PW.pt (pw_or (pt_val (pe_callB call_isK (by rfl) T.z_isinstance (by decide +kernel) (pa_cons (pv 0) (pa_cons (pe_bltn (v := .ty "bool") rfl T.z_bool (by decide +kernel) rfl) pa_nil)))) (pw_or1 (pt_not (pt_val (pe_callB call_isK (by rfl) T.z_isinstance (by decide +kernel) (pa_cons (pv 0) (pa_cons (pe_bltn (v := .ty "int") rfl T.z_int (by decide +kernel) rfl) pa_nil)))))))) (pss_one (ps_ret pe_bl)) pss_nil)
      (pss_one (ps_ret (pe_chain op_le op_le (pv 1) (pv 0) (pv 2))))), ?_⟩
    refine ⟨_, rfl, _, .num i, _, false, rfl, .num i, kt_ib, _, rfl, ?_⟩
    refine iteF ?_
    refine ⟨_, rfl, _, .num i, _, true, rfl, .num i, kt_ii, _, rfl, ?_⟩
    refine iteF ?_
    refine ⟨_, rfl, _, rfl, _, _, rfl, rfl, _, rfl, ?_⟩
    by_cases h1 : lo ≤ i
    · rw [decide_eq_true h1]
      refine iteT ?_
      refine ⟨_, rfl, _, _, rfl, rfl, ?_⟩
      simpa [h1] using k
    · rw [decide_eq_false h1]
      refine iteF ?_
      simpa [h1] using k
/-- is_letter of a sign -/
def sp_is_letter : Sp := fun vs H Q _ => ∃ c, vs = [.str (sg c)] ∧ c ∈ ("abcdefghijklmnopqrstuvwxyz" : Str).cps.toList ∧ Q (.bl true) H
abbrev N_is_letter : List Str := ["thing"]
theorem sc_is_letter : FnScope ["thing"] ["thing"] (defScope s_is_letter) := ⟨rfl, rfl, rfl, by decide +kernel, rfl, by decide +kernel, by decide +kernel⟩
theorem bd_is_letter (T : Txt K mg) : Binds K (fdOf K a_is_letter) ["thing"] [] := FunD.bindsN T.F_is_letter fun _ _ _ _ _ _ us hl => match us, hl with | [_], _ => rfl
theorem ok_is_letter (T : Txt K mg) : FnOk P w K mg base CX0 1 a_is_letter (fdOf K a_is_letter) ["thing"] (sp_is_letter) := by
  refine ok0 T.F_is_letter sc_is_letter (fun vs H Q E h => ?_) (fun cdv A outer s H vs Q E hr h => ?_)
  · obtain ⟨c, rfl, hc, k⟩ := h
    rfl
  · obtain ⟨c, rfl, hc, k⟩ := h
    have hU := hr.units
    have hu := hu_of hr
    obtain ⟨t, h_LETTERS⟩ := T.i_LETTERS
    refine ⟨_, (pss_one (ps_ret (pe_and (pe_callB call_isK (by rfl) T.z_isinstance (by decide +kernel) (pa_cons (pv 0) (pa_cons (pe_bltn (v := .ty "str") rfl T.z_str (by decide +kernel) rfl) pa_nil))) (pe_and (pe_cmpR op_eq (pe_callB call_len_str (by rfl) T.z_len PySem.boot_len (pa_cons (pv 0) pa_nil)) pe_int (nomark _)) (pe_one (pe_cmpR op_in_sign (pv 0) (pe_glob (v := .str "abcdefghijklmnopqrstuvwxyz") rfl h_LETTERS ⟨_, rfl⟩) (by rfl))))))), ?_⟩
    refine ⟨_, rfl, _, .text _, _, true, rfl, .text _, kt_ss, _, rfl, iteT ?_⟩
    refine ⟨_, rfl, _, rfl, (by decide : 1 ≤ sizeLine), rfl, _, rfl, ?_⟩
    refine iteT ?_
    refine ⟨_, rfl, _, _, rfl, rfl, ?_⟩
    rw [decide_eq_true hc]
    exact k
def optV : Option Int → V
  | none => .non
  | some i => .int i
/-- is_rising of a rising row -/
def sp_is_rising : Sp := fun vs H Q _ => ∃ x c lo hi, vs = [x, .int lo, .int hi] ∧ At H (rowD c) x ∧ risB lo hi none c = true ∧ Q (.bl true) H
abbrev N_is_rising : List Str := ["thing", "low", "high", "last", "number"]
theorem sc_is_rising : FnScope ["thing", "low", "high", "last", "number"] ["thing", "low", "high"] (defScope s_is_rising) := ⟨rfl, rfl, rfl, by decide +kernel, rfl, by decide +kernel, by decide +kernel⟩
theorem bd_is_rising (T : Txt K mg) : Binds K (fdOf K a_is_rising) ["thing", "low", "high"] [] := FunD.bindsN T.F_is_rising fun _ _ _ _ _ _ us hl => match us, hl with | [_, _, _], _ => rfl
theorem ok_is_rising (T : Txt K mg) : FnOk P w K mg base CX0 2 a_is_rising (fdOf K a_is_rising) ["thing", "low", "high"] (sp_is_rising) := by
  refine ok0 T.F_is_rising sc_is_rising (fun vs H Q E h => ?_) (fun cdv A outer s H vs Q E hr h => ?_)
  · obtain ⟨x, c, lo, hi, rfl, hx, hc, k⟩ := h
    rfl
  · obtain ⟨x, c, lo, hi, rfl, hx, hc, k⟩ := h
    have hU := hr.units
    have hu := hu_of hr
    refine ⟨_, (pss_cons (ps_if (pt_not (pt_val (pe_callB call_isK (by rfl) T.z_isinstance (by decide +kernel) (pa_cons (pv 0) (pa_cons (pe_bltn (v := .ty "tuple") rfl T.z_tuple (by decide +kernel) rfl) pa_nil))))) (pss_one (ps_ret pe_bl)) pss_nil)
      (pss_cons (ps_set (i := 3) sc_is_rising.nd rfl (Or.inl rfl) pe_non)
      (pss_cons (ps_for PassesOwn.never rfl (pi_tup (pv 0)) (pg_name (i := 4) sc_is_rising.nd rfl (Or.inl rfl)) (pss_cons (ps_if (pt_not (pt_val (pe_call (ok_is_integer T) (hr.mono (by decide)) (by rfl) T.g_is_integer T.F_is_integer.kp (bd_is_integer T) .nil pass0 (pa_cons (pv 4) (pa_cons (pv 1) (pa_cons (pv 2) pa_nil)))))) (pss_one (ps_ret pe_bl)) pss_nil)
      (pss_cons (ps_if (PW.pt (pw_and (pt_cmpR op_notN (pv 3) pe_non (nomark _)) (pw_and1 (pt_cmpR op_le (pv 4) (pv 3) (nomark _))))) (pss_one (ps_ret pe_bl)) pss_nil)
      (pss_one (ps_set (i := 3) sc_is_rising.nd rfl (Or.inl rfl) (pv 4))))))
      (pss_one (ps_ret pe_bl))))), ?_⟩
    obtain ⟨a, rfl, ha⟩ := row_of hx
    refine ⟨_, rfl, _, _, _, true, rfl, hx, kt_tt, _, rfl, ?_⟩
    refine iteF ?_
    refine ⟨_, rfl, _, rfl, ⟨_, SqT.of ha⟩, ?_⟩
    refine for_tupK (ks := nums c) (fun pre σ H' => H' = H ∧ ∃ (last : Option Int) (nv : Option V) (r : Row), nums c = pre ++ nums r ∧ risB lo hi last r = true ∧ σ = [some (.ref a), some (.int lo), some (.int hi), some (optV last), nv]) ⟨rfl, none, none, c, rfl, hc, rfl⟩ (fun pre σ H' p => p.1 ▸ hx) (fun pre d post y σ H' e p hy => ?_) fun σ H' p => ?_
    · obtain ⟨rfl, last, nv, r, e2, hr2, rfl⟩ := p
      have e3 := List.append_cancel_left (e2.symm.trans e)
      cases r with
      | nil => cases e3
      | cons z r =>
        cases e3
        cases hy
        simp only [risB, Bool.and_eq_true] at hr2
        refine ⟨_, rfl, _, rfl, _, rfl, _, _, _, rfl, ?_⟩
        refine ⟨_, rfl, ?_⟩
        rw [decide_eq_true (of_decide_eq_true hr2.1.1)]
        refine iteF ?_
        refine ⟨_, rfl, rfl, _, rfl, ?_⟩
        have fin : risB lo hi (some z) r = true → ∀ σ, σ = [some (.ref a), some (.int lo), some (.int hi), some (.int z), some (.int z)] → (H' = H' ∧ ∃ (last : Option Int) (nv : Option V) (r : Row), nums c = pre ++ [NestedKey.num z] ++ nums r ∧ risB lo hi last r = true ∧ σ = [some (.ref a), some (.int lo), some (.int hi), some (optV last), nv]) := fun h σ e => ⟨rfl, some z, _, r, by rw [e2, List.append_assoc]; rfl, h, e⟩
        cases last with
        | none =>
          refine iteF ?_
          refine iteF ?_
          exact ⟨_, rfl, fin hr2.2 _ rfl⟩
        | some l =>
          refine iteT ?_
          have hl : l < z := of_decide_eq_true hr2.1.2
          refine ⟨_, rfl, _, rfl, _, _, rfl, rfl, _, rfl, ?_⟩
          rw [decide_eq_false (by omega)]
          refine iteF ?_
          exact ⟨_, rfl, fin hr2.2 _ rfl⟩
    · obtain ⟨rfl, _⟩ := p
      exact k
/-- first_row -/
def sp_rnd : Sp := fun vs H Q _ => ∃ n : Nat, vs = [.int n] ∧ n ≤ 8 ∧ ∀ H' v, Grow No H H' → At H' (rowD (rnd n)) v → Q v H'
abbrev sp_first_row : Sp := sp_rnd
theorem rgV_rnd (n : Nat) : rgV 1 ((n : Int) + 1) = (rnd n).map V.int := by
  unfold rgV rnd
  have e : ((n : Int) + 1 - 1).toNat = n := by omega
  rw [e, List.map_map]
  refine List.map_congr_left fun i _ => ?_
  show V.int (1 + (i : Int)) = V.int ((i : Int) + 1)
  rw [Int.add_comm]
abbrev N_first_row : List Str := ["stage"]
theorem sc_first_row : FnScope ["stage"] ["stage"] (defScope s_first_row) := ⟨rfl, rfl, rfl, by decide +kernel, rfl, by decide +kernel, by decide +kernel⟩
theorem bd_first_row (T : Txt K mg) : Binds K (fdOf K a_first_row) ["stage"] [] := FunD.bindsN T.F_first_row fun _ _ _ _ _ _ us hl => match us, hl with | [_], _ => rfl
theorem ok_first_row (T : Txt K mg) : FnOk P w K mg base CX0 1 a_first_row (fdOf K a_first_row) ["stage"] (sp_first_row) := by
  refine ok0 T.F_first_row sc_first_row (fun vs H Q E h => ?_) (fun cdv A outer s H vs Q E hr h => ?_)
  · obtain ⟨n, rfl, hn, k⟩ := h
    rfl
  · obtain ⟨n, rfl, hn, k⟩ := h
    have hU := hr.units
    have hu := hu_of hr
    refine ⟨_, (pss_one (ps_ret (pe_tupRg rfl (by rfl) T.z_tuple (prg_2 (by rfl) T.z_range pe_int (pe_op op_add (pv 0) pe_int))))), ?_⟩
    refine ⟨_, rfl, _, _, rfl, rfl, ?_⟩
    refine ⟨_, _, rfl, rfl, RgOk.of_le (by omega) (by omega) (by omega) (by omega), fun q hq => ?_⟩
    rw [rgV_rnd]
    exact k _ _ (Grow.new hq) (at_row upd_same)
/-- times -/
def sp_tms : Sp := fun vs H Q _ => ∃ x y r m, vs = [x, y] ∧ At H (rowD r) x ∧ At H (rowD m) y ∧ In1 r.length m ∧ m.length ≤ 100 ∧ ∀ H' v, Grow No H H' → At H' (rowD (tms r m)) v → Q v H'
abbrev sp_times : Sp := sp_tms
theorem tms_snoc (r p : Row) (z : Int) : tms r (p ++ [z]) = tms r p ++ [r.getD (z.toNat - 1) 0] := by
  unfold tms
  rw [List.map_append]
  rfl
theorem nums_snoc (p : Row) (z : Int) : nums (p ++ [z]) = nums p ++ [.num z] := by
  unfold nums
  rw [List.map_append]
  rfl
theorem nums_len (p : Row) : (nums p).length = p.length := by
  unfold nums
  rw [List.length_map]
theorem nums_cons (z : Int) (p : Row) : nums (z :: p) = .num z :: nums p := rfl
/-- a place in a list of ints -/
theorem nums_mid {m : Row} {pre post : List D} {k : D} (e : nums m = pre ++ k :: post) : ∃ p z q, m = p ++ z :: q ∧ pre = nums p ∧ k = .num z ∧ post = nums q := by
  induction pre generalizing m with
  | nil =>
    cases m with
    | nil => cases e
    | cons z m =>
      cases e
      exact ⟨[], z, m, rfl, rfl, rfl, rfl⟩
  | cons d pre ih =>
    cases m with
    | nil => cases e
    | cons z m =>
      have e' : NestedKey.num z :: nums m = d :: (pre ++ k :: post) := e
      injection e' with e1 e2
      obtain ⟨p, y, q, rfl, rfl, h1, h2⟩ := ih e2
      exact ⟨z :: p, y, q, rfl, by rw [← e1]; rfl, h1, h2⟩
abbrev N_times : List Str := ["row", "move", "place"]
theorem sc_times : FnScope ["row", "move", "place"] ["row", "move"] (defScope s_times) := ⟨rfl, rfl, rfl, by decide +kernel, rfl, by decide +kernel, by decide +kernel⟩
theorem bd_times (T : Txt K mg) : Binds K (fdOf K a_times) ["row", "move"] [] := FunD.bindsN T.F_times fun _ _ _ _ _ _ us hl => match us, hl with | [_, _], _ => rfl
theorem ok_times (T : Txt K mg) : FnOk P w K mg base CX0 1 a_times (fdOf K a_times) ["row", "move"] (sp_times) := by
  refine ok0 T.F_times sc_times (fun vs H Q E h => ?_) (fun cdv A outer s H vs Q E hr h => ?_)
  · obtain ⟨x, y, r, m, rfl, hx, hy, hm, hl, k⟩ := h
    rfl
  · obtain ⟨x, y, r, m, rfl, hx, hy, hm, hl, k⟩ := h
    have hU := hr.units
    have hu := hu_of hr
    obtain ⟨a, rfl, ha⟩ := row_of hy
    refine ⟨_, (pss_one (ps_ret (pe_callTy call_tupK (by rfl) T.z_tuple (by decide +kernel) (pa_cons (pe_lc (own := [("place", 2)])  rfl sc_times.nd (pi_tup (pv 1)) (blkOk_by (own := [("place", 2)]) (N := N_times) (sc := defScope s_times) (by decide +kernel)) (fun _ _ _ _ _ => pg_name (i := 2) sc_times.nd rfl (Or.inl rfl)) (fun _ _ _ _ _ => pts_nil) (fun _ _ _ _ _ => (pe_ix ix_tupI (pv 0) (pe_op op_sub (pv 2) pe_int) (fun _ _ => rfl)))) pa_nil)))), ?_⟩
    refine ⟨_, rfl, _, rfl, ⟨_, SqT.of ha⟩, fun L hL => ?_⟩
    refine lc_pre (walk_tupK (ks := nums m)) (nums m) rfl No (fun pre acc _ => ∃ p, pre = nums p ∧ acc = nums (tms r p)) hL id (by rw [nums_len]; exact Nat.lt_of_le_of_lt hl (by decide)) (fun H' g => g.at hy) (fun _ _ => ⟨[], rfl, rfl⟩) (fun pre d post acc v H1 H2 Kq N e _ g0 pd y kq kn => ?_) fun H1 acc _ g la pd => ?_
    · obtain ⟨rfl, j, h1, h2⟩ := y
      have e2 := at_mid e h1
      subst e2
      obtain ⟨p, z, q, rfl, rfl, rfl, rfl⟩ := nums_mid e
      obtain ⟨p', e3, rfl⟩ := pd
      have e4 := nums_inj e3
      subst e4
      cases h2
      have hz := hm z (by simp)
      refine ⟨rfl, ?_⟩
      have hlt : z.toNat - 1 < r.length := by omega
      refine ⟨_, rfl, _, rfl, _, _, rfl, rfl, r, _, z.toNat - 1, r.getD (z.toNat - 1) 0, g0.at hx, rfl, ⟨hlt, .inl (by omega)⟩, by rw [List.getD_eq_getElem?_getD, List.getElem?_eq_getElem hlt]; rfl, ?_⟩
      exact kq _ _ (.num (r.getD (z.toNat - 1) 0)) (Grow.refl _) (.num _) fun _ _ => ⟨p ++ [z], (nums_snoc p z).symm, by rw [tms_snoc, nums_snoc]⟩
    · obtain ⟨p, e, rfl⟩ := pd
      have e2 := nums_inj e
      subst e2
      exact ⟨_, _, rfl, la, fun H3 v g3 a3 => k H3 v (g.trans g3) a3⟩
abbrev sp_law_rounds : Sp := sp_rnd
abbrev N_law_rounds : List Str := ["_law_stage"]
theorem sc_law_rounds : FnScope ["_law_stage"] ["_law_stage"] (defScope s_law_rounds) := ⟨rfl, rfl, rfl, by decide +kernel, rfl, by decide +kernel, by decide +kernel⟩
theorem bd_law_rounds (T : Txt K mg) : Binds K (fdOf K a_law_rounds) ["_law_stage"] [] := FunD.bindsN T.F_law_rounds fun _ _ _ _ _ _ us hl => match us, hl with | [_], _ => rfl
theorem ok_law_rounds (T : Txt K mg) : FnOk P w K mg base CX0 1 a_law_rounds (fdOf K a_law_rounds) ["_law_stage"] (sp_law_rounds) := by
  refine ok0 T.F_law_rounds sc_law_rounds (fun vs H Q E h => ?_) (fun cdv A outer s H vs Q E hr h => ?_)
  · obtain ⟨n, rfl, hn, k⟩ := h
    rfl
  · obtain ⟨n, rfl, hn, k⟩ := h
    have hU := hr.units
    have hu := hu_of hr
    refine ⟨_, (pss_one (ps_ret (pe_tupRg rfl (by rfl) T.z_tuple (prg_2 (by rfl) T.z_range pe_int (pe_op op_add (pv 0) pe_int))))), ?_⟩
    refine ⟨_, rfl, _, _, rfl, rfl, ?_⟩
    refine ⟨_, _, rfl, rfl, RgOk.of_le (by omega) (by omega) (by omega) (by omega), fun q hq => ?_⟩
    rw [rgV_rnd]
    exact k _ _ (Grow.new hq) (at_row upd_same)
abbrev sp_law_moved : Sp := sp_tms
abbrev N_law_moved : List Str := ["_law_row", "_law_move", "_law_spot"]
theorem sc_law_moved : FnScope ["_law_row", "_law_move", "_law_spot"] ["_law_row", "_law_move"] (defScope s_law_moved) := ⟨rfl, rfl, rfl, by decide +kernel, rfl, by decide +kernel, by decide +kernel⟩
theorem bd_law_moved (T : Txt K mg) : Binds K (fdOf K a_law_moved) ["_law_row", "_law_move"] [] := FunD.bindsN T.F_law_moved fun _ _ _ _ _ _ us hl => match us, hl with | [_, _], _ => rfl
theorem ok_law_moved (T : Txt K mg) : FnOk P w K mg base CX0 1 a_law_moved (fdOf K a_law_moved) ["_law_row", "_law_move"] (sp_law_moved) := by
  refine ok0 T.F_law_moved sc_law_moved (fun vs H Q E h => ?_) (fun cdv A outer s H vs Q E hr h => ?_)
  · obtain ⟨x, y, r, m, rfl, hx, hy, hm, hl, k⟩ := h
    rfl
  · obtain ⟨x, y, r, m, rfl, hx, hy, hm, hl, k⟩ := h
    have hU := hr.units
    have hu := hu_of hr
    obtain ⟨a, rfl, ha⟩ := row_of hy
    refine ⟨_, (pss_one (ps_ret (pe_callTy call_tupK (by rfl) T.z_tuple (by decide +kernel) (pa_cons (pe_lc (own := [("_law_spot", 2)])  rfl sc_law_moved.nd (pi_tup (pv 1)) (blkOk_by (own := [("_law_spot", 2)]) (N := N_law_moved) (sc := defScope s_law_moved) (by decide +kernel)) (fun _ _ _ _ _ => pg_name (i := 2) sc_law_moved.nd rfl (Or.inl rfl)) (fun _ _ _ _ _ => pts_nil) (fun _ _ _ _ _ => (pe_ix ix_tupI (pv 0) (pe_op op_sub (pv 2) pe_int) (fun _ _ => rfl)))) pa_nil)))), ?_⟩
    refine ⟨_, rfl, _, rfl, ⟨_, SqT.of ha⟩, fun L hL => ?_⟩
    refine lc_pre (walk_tupK (ks := nums m)) (nums m) rfl No (fun pre acc _ => ∃ p, pre = nums p ∧ acc = nums (tms r p)) hL id (by rw [nums_len]; exact Nat.lt_of_le_of_lt hl (by decide)) (fun H' g => g.at hy) (fun _ _ => ⟨[], rfl, rfl⟩) (fun pre d post acc v H1 H2 Kq N e _ g0 pd y kq kn => ?_) fun H1 acc _ g la pd => ?_
    · obtain ⟨rfl, j, h1, h2⟩ := y
      have e2 := at_mid e h1
      subst e2
      obtain ⟨p, z, q, rfl, rfl, rfl, rfl⟩ := nums_mid e
      obtain ⟨p', e3, rfl⟩ := pd
      have e4 := nums_inj e3
      subst e4
      cases h2
      have hz := hm z (by simp)
      refine ⟨rfl, ?_⟩
      have hlt : z.toNat - 1 < r.length := by omega
      refine ⟨_, rfl, _, rfl, _, _, rfl, rfl, r, _, z.toNat - 1, r.getD (z.toNat - 1) 0, g0.at hx, rfl, ⟨hlt, .inl (by omega)⟩, by rw [List.getD_eq_getElem?_getD, List.getElem?_eq_getElem hlt]; rfl, ?_⟩
      exact kq _ _ (.num (r.getD (z.toNat - 1) 0)) (Grow.refl _) (.num _) fun _ _ => ⟨p ++ [z], (nums_snoc p z).symm, by rw [tms_snoc, nums_snoc]⟩
    · obtain ⟨p, e, rfl⟩ := pd
      have e2 := nums_inj e
      subst e2
      exact ⟨_, _, rfl, la, fun H3 v g3 a3 => k H3 v (g.trans g3) a3⟩
/-- the move of a change -/
def sp_cmv : Sp := fun vs H Q _ => ∃ x c, ∃ n : Nat, vs = [x, .int n] ∧ At H (rowD c) x ∧ Bells n ∧ c ∈ chgs n ∧ ∀ H' v, Grow No H H' → At H' (rowD (cmv n c)) v → Q v H'
abbrev sp_change_move : Sp := sp_cmv
theorem nums_set (r : Row) (j : Nat) (z : Int) : (nums r).set j (.num z) = nums (r.set j z) := by
  unfold nums
  rw [List.map_set]
theorem Ls.setI {H : Hp} {o : Addr} {r : Row} {j : Nat} {z : Int} (h : Ls H o ((nums r).set j (.num z))) : Ls H o (nums (r.set j z)) := by
  rw [← nums_set]
  exact h
abbrev N_change_move : List Str := ["change", "stage", "out", "place"]
theorem sc_change_move : FnScope ["change", "stage", "out", "place"] ["change", "stage"] (defScope s_change_move) := ⟨rfl, rfl, rfl, by decide +kernel, rfl, by decide +kernel, by decide +kernel⟩
theorem bd_change_move (T : Txt K mg) : Binds K (fdOf K a_change_move) ["change", "stage"] [] := FunD.bindsN T.F_change_move fun _ _ _ _ _ _ us hl => match us, hl with | [_, _], _ => rfl
theorem ok_change_move (T : Txt K mg) : FnOk P w K mg base CX0 1 a_change_move (fdOf K a_change_move) ["change", "stage"] (sp_change_move) := by
  refine ok0 T.F_change_move sc_change_move (fun vs H Q E h => ?_) (fun cdv A outer s H vs Q E hr h => ?_)
  · obtain ⟨x, c, n, rfl, hx, hn, hc, k⟩ := h
    rfl
  · obtain ⟨x, c, n, rfl, hx, hn, hc, k⟩ := h
    have hU := hr.units
    have hu := hu_of hr
    have h5 := bells_le hn
    refine ⟨_, (pss_cons (ps_set (i := 2) sc_change_move.nd rfl (Or.inl rfl) (pe_listRg rfl (by rfl) T.z_list (prg_2 (by rfl) T.z_range pe_int (pe_op op_add (pv 1) pe_int))))
      (pss_cons (ps_set (i := 3) sc_change_move.nd rfl (Or.inl rfl) pe_int)
      (pss_cons (ps_while PassesOwn.never (pt_cmpR op_le (pv 3) (pv 1) (nomark _)) (pss_one (ps_if (pt_cmpR (op_inI hU) (pv 3) (pv 0) (by rfl)) (pss_one (ps_aug (i := 3) sc_change_move.nd rfl (Or.inl rfl) pe_int ip_add)) (pss_cons (ps_asg (pe_op op_add (pv 3) pe_int) (pg_sub (pv 2) (pe_op op_sub (pv 3) pe_int) set_lstK))
      (pss_cons (ps_asg (pv 3) (pg_sub (pv 2) (pv 3) set_lstK))
      (pss_one (ps_aug (i := 3) sc_change_move.nd rfl (Or.inl rfl) pe_int ip_add)))))))
      (pss_one (ps_ret (pe_callTy call_tupK (by rfl) T.z_tuple (by decide +kernel) (pa_cons (pv 2) pa_nil))))))), ?_⟩
    refine ⟨_, rfl, _, _, rfl, rfl, ?_⟩
    refine ⟨_, _, rfl, rfl, RgOk.of_le (by omega) (by omega) (by omega) (by omega), fun o ho => ?_⟩
    rw [rgV_rnd]
    have g1 : Grow No H (upd H o (.lst ((rnd n).map V.int))) := Grow.new ho
    have l1 : Ls (upd H o (.lst ((rnd n).map V.int))) o (nums (rnd n)) := Ls.new (ats_nums _) ho
    generalize upd H o (.lst ((rnd n).map V.int)) = H1 at g1 l1
    refine ⟨fun f σ H' => Grow No H H' ∧ ∃ (p : Nat) (out : Row), σ = [some x, some (.int n), some (.ref o), some (.int p)] ∧ 1 ≤ p ∧ cmvGo n c f p out = some (cmv n c) ∧ out.length = n ∧ Ls H' o (nums out), ⟨n + 1, g1, 1, rnd n, rfl, Nat.le_refl _, cmv_go hn hc, rnd_len n, l1⟩, fun f σ H' p => ?_⟩
    obtain ⟨g, p, out, rfl, hp, hgo, hlen, hl⟩ := p
    cases f with
    | zero => cases hgo
    | succ f =>
      refine ⟨_, rfl, _, rfl, _, _, rfl, rfl, _, rfl, ?_⟩
      by_cases h1 : p ≤ n
      · refine iteT' (dT (by omega)) ?_
        simp only [cmvGo, if_pos h1] at hgo
        refine ⟨_, fun _ _ z => z, ?_⟩
        refine ⟨_, rfl, _, rfl, _, _, rfl, g.at hx, _, rfl, ?_⟩
        by_cases h2 : (p : Int) ∈ c
        · rw [if_pos h2] at hgo
          refine iteT' (dT h2) ?_
          exact ⟨_, rfl, _, _, rfl, rfl, f, Nat.lt_succ_self f, g, p + 1, out, rfl, by omega, hgo, hlen, hl⟩
        · rw [if_neg h2] at hgo
          by_cases h3 : p < n
          · rw [if_pos h3] at hgo
            refine iteF' (dF h2) ?_
            refine ⟨_, rfl, _, _, rfl, rfl, _, rfl, _, rfl, _, _, rfl, rfl, o, nums out, .num ((p : Int) + 1), p - 1, p - 1, rfl, congrArg V.int (by omega : (p : Int) - 1 = ((p - 1 : Nat) : Int)), hl, by rw [nums_len]; omega, rfl, .num _, fun H2 g2 l2 => ?_⟩
            have l2 := l2.setI
            refine ⟨_, rfl, _, rfl, _, rfl, o, _, .num (p : Int), p, p, rfl, rfl, l2, by rw [nums_len, List.length_set]; omega, rfl, .num _, fun H3 g3 l3 => ?_⟩
            have l3 := l3.setI
            exact ⟨_, rfl, _, _, rfl, rfl, f, Nat.lt_succ_self f, (g.but g2 fun b z => .inr (z ▸ ho)).but g3 fun b z => .inr (z ▸ ho), p + 2, _, rfl, by omega, hgo, by rw [List.length_set, List.length_set]; exact hlen, l3⟩
          · rw [if_neg h3] at hgo
            cases hgo
      · refine iteF' (dF (by omega)) ?_
        simp only [cmvGo, if_neg h1] at hgo
        cases hgo
        exact ⟨_, rfl, _, _, rfl, hl, fun H3 v g3 a3 => k H3 v (g.trans g3) a3⟩
end
end K81

namespace K81
open PySem PySem.Spec PyProof.Rows L2
section
variable {P : Program} {w : World} {K : PySem.W.Frag} {mg : Str → Option Value} {base : Heap}
abbrev sp_law_change_move : Sp := sp_cmv
theorem range_mid {n k : Nat} {pre post : List Nat} (e : List.range n = pre ++ k :: post) : k = pre.length ∧ k < n := by
  have h : (List.range n)[pre.length]? = some k := by rw [e, List.getElem?_append_right (Nat.le_refl _), Nat.sub_self]; rfl
  have hl : pre.length < n := by
    have := congrArg List.length e
    rw [List.length_range, List.length_append, List.length_cons] at this
    omega
  rw [List.getElem?_range hl] at h
  have := Option.some.inj h
  omega
def rgs (l : List Nat) : Row := l.map fun i : Nat => 1 + (i : Int)
theorem rgs_rnd (n : Nat) : rgs (List.range n) = rnd n := by
  unfold rgs rnd
  refine List.map_congr_left fun i _ => Int.add_comm _ _
theorem rgs_snoc (l : List Nat) (k : Nat) : rgs (l ++ [k]) = rgs l ++ [1 + (k : Int)] := by
  unfold rgs
  rw [List.map_append]
  rfl
abbrev N_law_change_move : List Str := ["_law_change_here", "_law_stage", "_law_out", "_law_spot", "_law_turn"]
theorem sc_law_change_move : FnScope ["_law_change_here", "_law_stage", "_law_out", "_law_spot", "_law_turn"] ["_law_change_here", "_law_stage"] (defScope s_law_change_move) := ⟨rfl, rfl, rfl, by decide +kernel, rfl, by decide +kernel, by decide +kernel⟩
theorem bd_law_change_move (T : Txt K mg) : Binds K (fdOf K a_law_change_move) ["_law_change_here", "_law_stage"] [] := FunD.bindsN T.F_law_change_move fun _ _ _ _ _ _ us hl => match us, hl with | [_, _], _ => rfl
theorem ok_law_change_move (T : Txt K mg) : FnOk P w K mg base CX0 1 a_law_change_move (fdOf K a_law_change_move) ["_law_change_here", "_law_stage"] (sp_law_change_move) := by
  refine ok0 T.F_law_change_move sc_law_change_move (fun vs H Q E h => ?_) (fun cdv A outer s H vs Q E hr h => ?_)
  · obtain ⟨x, c, n, rfl, hx, hn, hc, k⟩ := h
    rfl
  · obtain ⟨x, c, n, rfl, hx, hn, hc, k⟩ := h
    have hU := hr.units
    have hu := hu_of hr
    have h5 := bells_le hn
    refine ⟨_, (pss_cons (ps_setLc (i := 2) (own := [("_law_spot", 3)])  rfl sc_law_change_move.nd rfl rfl (sw_true rfl rfl rfl (by decide +kernel)) (pi_range2 (by rfl) T.z_range (pa_cons pe_int (pa_cons (pe_op op_add (pv 1) pe_int) pa_nil))) (blkOk_by (own := [("_law_spot", 3)]) (N := N_law_change_move) (sc := defScope s_law_change_move) (by decide +kernel)) (fun _ _ _ _ _ => pg_name (i := 3) sc_law_change_move.nd rfl (Or.inl rfl)) (fun _ _ _ _ _ => pts_nil) (fun _ _ _ _ _ => (pv 3)))
      (pss_cons (ps_set (i := 3) sc_law_change_move.nd rfl (Or.inl rfl) pe_int)
      (pss_cons (ps_for PassesOwn.never rfl (pi_range1 (by rfl) T.z_range (pa_cons (pv 1) pa_nil)) (pg_name (i := 4) sc_law_change_move.nd rfl (Or.inl rfl)) (pss_cons (ps_if (PW.pt (pw_and (pt_cmpR op_lt (pv 3) (pv 1) (nomark _)) (pw_and1 (pt_cmpR (op_notInI hU) (pv 3) (pv 0) (by rfl))))) (pss_cons (ps_asg (pe_op op_add (pv 3) pe_int) (pg_sub (pv 2) (pe_op op_sub (pv 3) pe_int) set_lstK))
      (pss_cons (ps_asg (pv 3) (pg_sub (pv 2) (pv 3) set_lstK))
      (pss_one (ps_set (i := 3) sc_law_change_move.nd rfl (Or.inl rfl) (pe_op op_add (pv 3) pe_int))))) pss_nil)
      (pss_one (ps_set (i := 3) sc_law_change_move.nd rfl (Or.inl rfl) (pe_op op_add (pv 3) pe_int)))))
      (pss_one (ps_ret (pe_callTy call_tupK (by rfl) T.z_tuple (by decide +kernel) (pa_cons (pv 2) pa_nil))))))), ?_⟩
    refine ⟨_, rfl, _, _, rfl, rfl, _, _, rfl, ⟨by decide, by decide, by omega, by omega⟩, fun L hL => ?_⟩
    have en : ((n : Int) + 1 - 1).toNat = n := by omega
    rw [en]
    refine lc_pre (walk_range (lo := 1) (n := n)) (List.range n) List.length_range No (fun pre acc _ => acc = nums (rgs pre)) hL id (Nat.lt_of_le_of_lt h5 (by decide)) (fun _ _ => trivial) (fun _ _ => rfl) (fun pre d post acc v H1 H2 Kq N e _ g0 pd y kq kn => ?_) fun H1 acc _ g1 l1 pd => ?_
    · obtain ⟨rfl, rfl⟩ := y
      obtain ⟨rfl, _⟩ := range_mid e
      refine ⟨rfl, ?_⟩
      refine ⟨_, rfl, ?_⟩
      exact kq _ _ (.num _) (Grow.refl _) (.num _) fun _ _ => by rw [pd, rgs_snoc, nums_snoc]
    rw [rgs_rnd] at pd
    subst pd
    refine ⟨_, rfl, _, rfl, (by omega), (by omega), ?_⟩
    rw [Int.toNat_natCast]
    refine for_range (fun i σ H' => Grow No H H' ∧ ∃ (p : Nat) (out : Row) (t : Option V), σ = [some x, some (.int n), some (.ref L), some (.int p), t] ∧ 1 ≤ p ∧ lmvGo n c (n - i) p out = cmv n c ∧ out.length = n ∧ Ls H' L (nums out)) ⟨g1, 1, rnd n, none, rfl, Nat.le_refl _, lmv_go hn hc, rnd_len n, l1⟩ (fun i σ H' hi p => ?_) fun σ H' p => ?_
    · obtain ⟨g, p, out, t, rfl, hp, hgo, hlen, hl⟩ := p
      obtain ⟨f, hf⟩ : ∃ f, n - i = f + 1 := ⟨n - i - 1, by omega⟩
      have hf' : n - (i + 1) = f := by omega
      rw [hf] at hgo
      rw [hf']
      refine ⟨_, rfl, _, rfl, _, _, rfl, rfl, _, rfl, ?_⟩
      by_cases h1 : p < n
      · refine iteT' (dT (by omega)) ?_
        refine ⟨_, rfl, _, rfl, _, _, rfl, g.at hx, _, rfl, ?_⟩
        by_cases h2 : (p : Int) ∈ c
        · simp only [lmvGo, if_neg (fun z : p < n ∧ (p : Int) ∉ c => z.2 h2)] at hgo
          refine iteF' (nF h2) ?_
          exact ⟨_, rfl, _, _, rfl, rfl, g, p + 1, out, _, rfl, by omega, hgo, hlen, hl⟩
        · simp only [lmvGo, if_pos (And.intro h1 h2)] at hgo
          refine iteT' (nT h2) ?_
          refine ⟨_, rfl, _, _, rfl, rfl, _, rfl, _, rfl, _, _, rfl, rfl, L, nums out, .num ((p : Int) + 1), p - 1, p - 1, rfl, congrArg V.int (by omega : (p : Int) - 1 = ((p - 1 : Nat) : Int)), hl, by rw [nums_len]; omega, rfl, .num _, fun H2 g2 l2 => ?_⟩
          have l2 := l2.setI
          refine ⟨_, rfl, _, rfl, _, rfl, L, _, .num (p : Int), p, p, rfl, rfl, l2, by rw [nums_len, List.length_set]; omega, rfl, .num _, fun H3 g3 l3 => ?_⟩
          have l3 := l3.setI
          exact ⟨_, rfl, _, _, rfl, rfl, _, rfl, _, _, rfl, rfl, (g.but g2 fun b z => .inr (z ▸ hL)).but g3 fun b z => .inr (z ▸ hL), p + 2, _, _, by rw [show ((p + 2 : Nat) : Int) = (p : Int) + 1 + 1 by omega]; rfl, by omega, hgo, by rw [List.length_set, List.length_set]; exact hlen, l3⟩
      · refine iteF' (dF (by omega)) ?_
        simp only [lmvGo, if_neg (fun z : p < n ∧ (p : Int) ∉ c => h1 z.1)] at hgo
        exact ⟨_, rfl, _, _, rfl, rfl, g, p + 1, out, _, rfl, by omega, hgo, hlen, hl⟩
    · obtain ⟨g, p, out, t, rfl, hp, hgo, hlen, hl⟩ := p
      rw [Nat.sub_self] at hgo
      simp only [lmvGo] at hgo
      subst hgo
      exact ⟨_, rfl, _, _, rfl, hl, fun H3 v g3 a3 => k H3 v (g.trans g3) a3⟩
def sp_law_mix : Sp := fun vs H Q _ => ∃ c t, vs = [.int c, .int t] ∧ ∀ z, Q (.int z) H
theorem emodB (x m : Int) (h : 0 < m) : 0 ≤ x % m ∧ x % m < m := ⟨Int.emod_nonneg x (by omega), Int.emod_lt_of_pos x h⟩
theorem mulB {x m j : Int} (h : 0 < m ∧ m < 4294967296) : CMul (x % m) j := .inl (by have := emodB x m h.1; omega)
abbrev N_law_mix : List Str := ["_law_cell", "_law_turn", "_law_one", "_law_two"]
theorem sc_law_mix : FnScope ["_law_cell", "_law_turn", "_law_one", "_law_two"] ["_law_cell", "_law_turn"] (defScope s_law_mix) := ⟨rfl, rfl, rfl, by decide +kernel, rfl, by decide +kernel, by decide +kernel⟩
theorem bd_law_mix (T : Txt K mg) : Binds K (fdOf K a_law_mix) ["_law_cell", "_law_turn"] [] := FunD.bindsN T.F_law_mix fun _ _ _ _ _ _ us hl => match us, hl with | [_, _], _ => rfl
theorem ok_law_mix (T : Txt K mg) : FnOk P w K mg base CX0 1 a_law_mix (fdOf K a_law_mix) ["_law_cell", "_law_turn"] (sp_law_mix) := by
  refine ok0 T.F_law_mix sc_law_mix (fun vs H Q E h => ?_) (fun cdv A outer s H vs Q E hr h => ?_)
  · obtain ⟨c, t, rfl, k⟩ := h
    rfl
  · obtain ⟨c, t, rfl, k⟩ := h
    have hU := hr.units
    have hu := hu_of hr
    refine ⟨_, (pss_cons (ps_set (i := 2) sc_law_mix.nd rfl (Or.inl rfl) (pe_op op_mod (pe_callTy call_int1 (by rfl) T.z_int (by decide +kernel) (pa_cons (pe_op op_add (pe_op op_add (pe_op op_mul (pv 0) pe_int) (pe_op op_mul (pv 1) pe_int)) pe_int) pa_nil)) pe_int))
      (pss_cons (ps_set (i := 3) sc_law_mix.nd rfl (Or.inl rfl) (pe_op op_mod (pe_callTy call_int1 (by rfl) T.z_int (by decide +kernel) (pa_cons (pe_op op_add (pe_op op_add (pe_op op_mul (pv 2) (pv 2)) (pe_op op_mul (pv 1) pe_int)) (pv 0)) pa_nil)) pe_int))
      (pss_cons (ps_set (i := 3) sc_law_mix.nd rfl (Or.inl rfl) (pe_op op_mod (pe_callTy call_int1 (by rfl) T.z_int (by decide +kernel) (pa_cons (pe_op op_add (pe_op op_mul (pv 3) (pv 3)) (pv 2)) pa_nil)) pe_int))
      (pss_one (ps_ret (pe_op op_fdiv (pv 3) pe_int)))))), ?_⟩
    refine ⟨_, rfl, _, _, rfl, rfl, .inr ⟨by decide, by decide⟩, _, rfl, _, _, rfl, rfl, .inr ⟨by decide, by decide⟩, _, _, rfl, rfl, _, _, rfl, rfl, .inl ⟨_, rfl, _, _, rfl, rfl, (by decide : (0 : Int) < 2147483647), ?_⟩⟩
    refine ⟨_, rfl, _, rfl, _, _, rfl, rfl, mulB ⟨by decide, by decide⟩, _, rfl, _, _, rfl, rfl, .inr ⟨by decide, by decide⟩, _, _, rfl, rfl, _, rfl, _, _, rfl, rfl, .inl ⟨_, rfl, _, _, rfl, rfl, (by decide : (0 : Int) < 998244353), ?_⟩⟩
    exact ⟨_, rfl, _, rfl, _, _, rfl, rfl, mulB ⟨by decide, by decide⟩, _, rfl, _, _, rfl, rfl, .inl ⟨_, rfl, _, _, rfl, rfl, (by decide : (0 : Int) < 1000000007), _, rfl, _, _, rfl, rfl, ⟨by decide, by decide⟩, k _⟩⟩
/-- the draw -/
structure DrawX (H : Hp) (d c : Addr) (cells : List Int) (i b t e s : Int) : Prop where
  l : H d = some (.lst [.ref c, .int i, .int b, .int t, .int e, .int s])
  c : H c = some (.lst (cells.map V.int))
theorem DrawX.dc {H : Hp} {d c : Addr} {cells : List Int} {i b t e s : Int} (h : DrawX H d c cells i b t e s) : c ≠ d := fun z => by
  subst z
  have e1 := h.l.symm.trans h.c
  cases cells with
  | nil => cases e1
  | cons x xs => cases e1
theorem DrawX.put {H : Hp} {d c : Addr} {cells : List Int} {i b t e s : Int} (h : DrawX H d c cells i b t e s) (i' b' t' e' s' : Int) : DrawX (upd H d (.lst [.ref c, .int i', .int b', .int t', .int e', .int s'])) d c cells i' b' t' e' s' ∧ Grow (On d) H (upd H d (.lst [.ref c, .int i', .int b', .int t', .int e', .int s'])) := by
  have ne := h.dc
  exact ⟨⟨upd_same, by rw [upd_ne ne]; exact h.c⟩, Grow.putO h.l (lst_ne_tup _)⟩
def Draw (H : Hp) (d c : Addr) : Prop := ∃ cells i b t e s, DrawX H d c cells i b t e s ∧ 0 ≤ i ∧ 0 ≤ b
theorem Draw.grow {S : Addr → Prop} {H H1 : Hp} {d c : Addr} (h : Draw H d c) (g : Grow S H H1) (hd : ¬ S d) (hc : ¬ S c) : Draw H1 d c := by
  obtain ⟨cells, i, b, t, e, s, ⟨h1, h2⟩, h3⟩ := h
  exact ⟨cells, i, b, t, e, s, ⟨g.o h1 hd, g.o h2 hc⟩, h3⟩
theorem Draw.growN {H H1 : Hp} {d c : Addr} (h : Draw H d c) (g : Grow No H H1) : Draw H1 d c := h.grow g id id
theorem Draw.ne {H : Hp} {d c p : Addr} (h : Draw H d c) (n : H p = none) : d ≠ p := let ⟨_, _, _, _, _, _, e, _⟩ := h; ne_of_none e.l n
theorem Draw.nc {H : Hp} {d c p : Addr} (h : Draw H d c) (n : H p = none) : c ≠ p := let ⟨_, _, _, _, _, _, e, _⟩ := h; ne_of_none e.c n
theorem Draw.dc {H : Hp} {d c : Addr} (h : Draw H d c) : c ≠ d := let ⟨_, _, _, _, _, _, e, _⟩ := h; e.dc
/-- growth at a new place -/
theorem Draw.at {H H1 : Hp} {d c p : Addr} (h : Draw H d c) (g : Grow (On p) H H1) (h1 : d ≠ p) (h2 : c ≠ p) : Draw H1 d c := h.grow g h1 h2
/-- a pick: some number below many (0 where many is 0 or 1) -/
def sp_law_pick : Sp := fun vs H Q _ => ∃ d c, ∃ many : Int, vs = [.ref d, .int many] ∧ Draw H d c ∧ 0 ≤ many ∧ many < 1000 ∧ ∀ H' z, Grow (On d) H H' → Draw H' d c → 0 ≤ z → (z < many ∨ z = 0) → Q (.int z) H'
theorem bigB : (0 : Int) < (10 ^ (60 : Int).toNat) ^ (64 : Int).toNat := by decide +kernel
abbrev N_law_pick : List Str := ["_law_draw_here", "_law_many", "_law_cell", "_law_digit", "_law_found"]
theorem sc_law_pick : FnScope ["_law_draw_here", "_law_many", "_law_cell", "_law_digit", "_law_found"] ["_law_draw_here", "_law_many"] (defScope s_law_pick) := ⟨rfl, rfl, rfl, by decide +kernel, rfl, by decide +kernel, by decide +kernel⟩
theorem bd_law_pick (T : Txt K mg) : Binds K (fdOf K a_law_pick) ["_law_draw_here", "_law_many"] [] := FunD.bindsN T.F_law_pick fun _ _ _ _ _ _ us hl => match us, hl with | [_, _], _ => rfl
theorem ok_law_pick (T : Txt K mg) : FnOk P w K mg base CX0 2 a_law_pick (fdOf K a_law_pick) ["_law_draw_here", "_law_many"] (sp_law_pick) := by
  refine ok0 T.F_law_pick sc_law_pick (fun vs H Q E h => ?_) (fun cdv A outer s H vs Q E hr h => ?_)
  · obtain ⟨d, c, many, rfl, hd, h0, h1, k⟩ := h
    rfl
  · obtain ⟨d, c, many, rfl, hd, h0, h1, k⟩ := h
    have hU := hr.units
    have hu := hu_of hr
    refine ⟨_, (pss_cons (ps_if (pt_cmpR op_lt (pv 1) pe_int (nomark _)) (pss_one (ps_ret pe_int)) pss_nil)
      (C8.pss_cut (ps_if (PW.pt (pw_and (pt_cmpR op_eq (pe_ix ix_list (pv 0) pe_int (fun _ _ => rfl)) pe_int (nomark _)) (pw_and (pt_cmpR op_lt (pe_ix ix_list (pv 0) pe_int (fun _ _ => rfl)) (pe_callB call_len_seq (by rfl) T.z_len PySem.boot_len (pa_cons (pe_ix ix_list (pv 0) pe_int (fun _ _ => rfl)) pa_nil)) (nomark _)) (pw_and1 (pt_cmpR op_eq (pe_ix ix_list (pv 0) pe_int (fun _ _ => rfl)) pe_int (nomark _)))))) (pss_cons (ps_set (i := 2) sc_law_pick.nd rfl (Or.inl rfl) (pe_ix ix_list (pe_ix ix_list (pv 0) pe_int (fun _ _ => rfl)) (pe_ix ix_list (pv 0) pe_int (fun _ _ => rfl)) (fun _ _ => rfl)))
      (pss_one (ps_if (PW.pt (pw_or (pt_cmpR op_ge (pv 2) (pe_op op_pow pe_int pe_int) (nomark _)) (pw_or1 (pt_cmpR op_le (pv 2) (pe_un un_neg (pe_op op_pow pe_int pe_int)) (nomark _))))) (pss_cons (ps_asg (pe_op op_mod (pe_callTy call_int1 (by rfl) T.z_int (by decide +kernel) (pa_cons (pe_callB call_abs (by rfl) T.z_abs (by decide +kernel) (pa_cons (pv 2) pa_nil)) pa_nil)) (pe_op op_powB (pe_op op_pow pe_int pe_int) pe_int)) (pg_sub (pv 0) pe_int set_list))
      (pss_one (ps_asg (pe_op op_add (pe_ix ix_list (pv 0) pe_int (fun _ _ => rfl)) pe_int) (pg_sub (pv 0) pe_int set_list)))) pss_nil))) pss_nil)
      (pss_cons (ps_if (pt_cmpR op_gt (pe_ix ix_list (pv 0) pe_int (fun _ _ => rfl)) pe_int (nomark _)) (pss_cons (ps_set (i := 3) sc_law_pick.nd rfl (Or.inl rfl) (pe_op op_mod (pe_callTy call_int1 (by rfl) T.z_int (by decide +kernel) (pa_cons (pe_ix ix_list (pv 0) pe_int (fun _ _ => rfl)) pa_nil)) (pv 1)))
      (pss_cons (ps_asg (pe_op op_fdiv (pe_ix ix_list (pv 0) pe_int (fun _ _ => rfl)) (pv 1)) (pg_sub (pv 0) pe_int set_list))
      (pss_one (ps_ret (pv 3))))) pss_nil)
      (pss_cons (ps_if (pt_cmpR op_lt (pe_ix ix_list (pv 0) pe_int (fun _ _ => rfl)) (pe_callB call_len_seq (by rfl) T.z_len PySem.boot_len (pa_cons (pe_ix ix_list (pv 0) pe_int (fun _ _ => rfl)) pa_nil)) (nomark _)) (pss_cons (ps_set (i := 2) sc_law_pick.nd rfl (Or.inl rfl) (pe_ix ix_list (pe_ix ix_list (pv 0) pe_int (fun _ _ => rfl)) (pe_ix ix_list (pv 0) pe_int (fun _ _ => rfl)) (fun _ _ => rfl)))
      (pss_cons (ps_asg (pe_op op_add (pe_ix ix_list (pv 0) pe_int (fun _ _ => rfl)) pe_int) (pg_sub (pv 0) pe_int set_list))
      (pss_cons (ps_set (i := 4) sc_law_pick.nd rfl (Or.inl rfl) (pe_op op_mod (pe_callTy call_int1 (by rfl) T.z_int (by decide +kernel) (pa_cons (pe_call (ok_law_mix T) (hr.mono (by decide)) (by rfl) T.g_law_mix T.F_law_mix.kp (bd_law_mix T) .nil pass0 (pa_cons (pe_op op_add (pv 2) (pe_op op_mul pe_int (pe_ix ix_list (pv 0) pe_int (fun _ _ => rfl)))) (pa_cons (pe_ix ix_list (pv 0) pe_int (fun _ _ => rfl)) pa_nil))) pa_nil)) (pv 1)))
      (C8.pss_cut (ps_if (pt_cmpR op_eq (pe_ix ix_list (pv 0) pe_int (fun _ _ => rfl)) pe_int (nomark _)) (pss_cons (ps_asg pe_int (pg_sub (pv 0) pe_int set_list))
      (pss_one (ps_asg (pe_op op_add (pe_ix ix_list (pv 0) pe_int (fun _ _ => rfl)) pe_int) (pg_sub (pv 0) pe_int set_list)))) pss_nil)
      (pss_one (ps_ret (pv 4))))))) pss_nil)
      (pss_cons (ps_asg (pe_op op_add (pe_ix ix_list (pv 0) pe_int (fun _ _ => rfl)) pe_int) (pg_sub (pv 0) pe_int set_list))
      (pss_one (ps_ret (pe_op op_mod (pe_callTy call_int1 (by rfl) T.z_int (by decide +kernel) (pa_cons (pe_call (ok_law_mix T) (hr.mono (by decide)) (by rfl) T.g_law_mix T.F_law_mix.kp (bd_law_mix T) .nil pass0 (pa_cons (pe_ix ix_list (pv 0) pe_int (fun _ _ => rfl)) (pa_cons (pe_op op_add (pe_ix ix_list (pv 0) pe_int (fun _ _ => rfl)) pe_int) pa_nil))) pa_nil)) (pv 1))))))))), ?_⟩
    refine ⟨_, rfl, _, _, rfl, rfl, _, rfl, ?_⟩
    by_cases hm : many < 2
    · refine iteT' (dT hm) ?_
      exact k _ _ (Grow.refl H) hd (Int.le_refl 0) (.inr rfl)
    refine iteF' (dF hm) ?_
    refine ⟨fun σ' H' => Grow (On d) H H' ∧ Draw H' d c ∧ ∃ x2 x3 x4, σ' = [some (.ref d), some (.int many), x2, x3, x4], ?_, ?_⟩
    · obtain ⟨cells, i, b, t, e, s0, hx, hi, hb⟩ := id hd
      have fin : ∀ x2 x3 x4, Grow (On d) H H ∧ Draw H d c ∧ ∃ y2 y3 y4, [some (V.ref d), some (.int many), x2, x3, x4] = [some (.ref d), some (.int many), y2, y3, y4] := fun x2 x3 x4 => ⟨Grow.refl H, hd, _, _, _, rfl⟩
      refine ⟨_, rfl, _, _, 2, _, rfl, rfl, SqL.of hx.l, rfl, rfl, _, rfl, ?_⟩
      by_cases c1 : V.int b = V.int 0
      · refine iteT' (dT c1) ?_
        refine ⟨_, rfl, _, _, 1, _, rfl, rfl, SqL.of hx.l, rfl, _, rfl, _, _, 0, _, rfl, rfl, SqL.of hx.l, rfl, _, _, rfl, .inl (SqL.of hx.c), _, _, rfl, rfl, _, rfl, ?_⟩
        rw [List.length_map]
        by_cases c2 : i < (cells.length : Int)
        · refine iteT' (dT c2) ?_
          refine ⟨_, rfl, _, _, 3, _, rfl, rfl, SqL.of hx.l, rfl, rfl, _, rfl, ?_⟩
          by_cases c3 : V.int t = V.int 0
          · refine iteT' (dT c3) ?_
            have hj : i.toNat < cells.length := by omega
            refine ⟨_, rfl, _, _, 0, _, rfl, rfl, SqL.of hx.l, rfl, _, rfl, _, _, 1, _, rfl, rfl, SqL.of hx.l, rfl, c, _, i, .int cells[i.toNat], rfl, rfl, SqL.of hx.c, ?_, ?_⟩
            · unfold atI
              rw [List.length_map, ixN_of (j := i.toNat) ⟨hj, .inl (by omega)⟩]
              show (cells.map V.int)[i.toNat]? = _
              rw [List.getElem?_map, List.getElem?_eq_getElem hj]
              rfl
            refine ⟨_, rfl, _, _, rfl, rfl, ⟨by decide, by decide, by decide⟩, _, _, rfl, rfl, _, rfl, ?_⟩
            by_cases c4 : (10 ^ (18 : Int).toNat : Int) ≤ cells[i.toNat]
            · refine iteT' (dT c4) ?_
              refine iteT' rfl ?_
              refine ⟨_, rfl, _, rfl, .inl ⟨_, rfl, _, _, rfl, rfl, ⟨by decide, by decide, by decide⟩, _, _, rfl, rfl, ⟨by decide, by decide +kernel⟩, _, _, rfl, rfl, bigB, _, rfl, d, _, 2, 2, rfl, rfl, hx.l, rfl, ?_⟩⟩
              obtain ⟨hx2, g2⟩ := hx.put i ((if cells[i.toNat] < 0 then -cells[i.toNat] else cells[i.toNat]) % (10 ^ (60 : Int).toNat) ^ (64 : Int).toNat) t e s0
              refine ⟨_, rfl, _, _, 1, _, rfl, rfl, SqL.of hx2.l, rfl, _, _, rfl, rfl, _, rfl, d, _, 1, 1, rfl, rfl, hx2.l, rfl, ?_⟩
              obtain ⟨hx3, g3⟩ := hx2.put (i + 1) ((if cells[i.toNat] < 0 then -cells[i.toNat] else cells[i.toNat]) % (10 ^ (60 : Int).toNat) ^ (64 : Int).toNat) t e s0
              exact ⟨g2.trans g3, ⟨_, _, _, _, _, _, hx3, by omega, (emodB _ _ bigB).1⟩, _, _, _, rfl⟩
            · refine iteF' (dF c4) ?_
              refine ⟨_, rfl, _, _, rfl, rfl, ⟨by decide, by decide, by decide⟩, _, rfl, _, _, rfl, rfl, _, rfl, ?_⟩
              by_cases c5 : cells[i.toNat] ≤ -(10 ^ (18 : Int).toNat : Int)
              · refine iteT' (dT c5) ?_
                refine ⟨_, rfl, _, rfl, .inl ⟨_, rfl, _, _, rfl, rfl, ⟨by decide, by decide, by decide⟩, _, _, rfl, rfl, ⟨by decide, by decide +kernel⟩, _, _, rfl, rfl, bigB, _, rfl, d, _, 2, 2, rfl, rfl, hx.l, rfl, ?_⟩⟩
                obtain ⟨hx2, g2⟩ := hx.put i ((if cells[i.toNat] < 0 then -cells[i.toNat] else cells[i.toNat]) % (10 ^ (60 : Int).toNat) ^ (64 : Int).toNat) t e s0
                refine ⟨_, rfl, _, _, 1, _, rfl, rfl, SqL.of hx2.l, rfl, _, _, rfl, rfl, _, rfl, d, _, 1, 1, rfl, rfl, hx2.l, rfl, ?_⟩
                obtain ⟨hx3, g3⟩ := hx2.put (i + 1) ((if cells[i.toNat] < 0 then -cells[i.toNat] else cells[i.toNat]) % (10 ^ (60 : Int).toNat) ^ (64 : Int).toNat) t e s0
                exact ⟨g2.trans g3, ⟨_, _, _, _, _, _, hx3, by omega, (emodB _ _ bigB).1⟩, _, _, _, rfl⟩
              · refine iteF' (dF c5) ?_
                exact fin _ _ _
          · exact iteF' (dF c3) (fin _ _ _)
        · exact iteF' (dF c2) (fin _ _ _)
      · exact iteF' (dF c1) (fin _ _ _)
    · rintro σ' H' ⟨g, ⟨cells, i, b, t, e, s0, hx, hi, hb⟩, x2, x3, x4, rfl⟩
      refine ⟨_, rfl, _, _, 2, _, rfl, rfl, SqL.of hx.l, rfl, _, _, rfl, rfl, _, rfl, ?_⟩
      by_cases c1 : 0 < b
      · refine iteT' (dT c1) ?_
        refine ⟨_, rfl, _, _, 2, _, rfl, rfl, SqL.of hx.l, rfl, .inl ⟨_, rfl, _, rfl, _, _, rfl, rfl, (by omega), ?_⟩⟩
        refine ⟨_, rfl, _, _, 2, _, rfl, rfl, SqL.of hx.l, rfl, _, rfl, _, _, rfl, rfl, ⟨by omega, by omega⟩, _, rfl, d, _, 2, 2, rfl, rfl, hx.l, rfl, ?_⟩
        obtain ⟨hx2, g2⟩ := hx.put i (b / many) t e s0
        refine ⟨_, rfl, ?_⟩
        have hm2 := emodB b many (by omega)
        exact k _ _ (g.trans g2) ⟨_, _, _, _, _, _, hx2, hi, Int.ediv_nonneg hb (by omega)⟩ hm2.1 (.inl hm2.2)
      refine iteF' (dF c1) ?_
      refine ⟨_, rfl, _, _, 1, _, rfl, rfl, SqL.of hx.l, rfl, _, rfl, _, _, 0, _, rfl, rfl, SqL.of hx.l, rfl, _, _, rfl, .inl (SqL.of hx.c), _, _, rfl, rfl, _, rfl, ?_⟩
      rw [List.length_map]
      by_cases c2 : i < (cells.length : Int)
      · refine iteT' (dT c2) ?_
        have hj : i.toNat < cells.length := by omega
        refine ⟨_, rfl, _, _, 0, _, rfl, rfl, SqL.of hx.l, rfl, _, rfl, _, _, 1, _, rfl, rfl, SqL.of hx.l, rfl, c, _, i, .int cells[i.toNat], rfl, rfl, SqL.of hx.c, ?_, ?_⟩
        · unfold atI
          rw [List.length_map, ixN_of (j := i.toNat) ⟨hj, .inl (by omega)⟩]
          show (cells.map V.int)[i.toNat]? = _
          rw [List.getElem?_map, List.getElem?_eq_getElem hj]
          rfl
        refine ⟨_, rfl, _, _, 3, _, rfl, rfl, SqL.of hx.l, rfl, _, _, rfl, rfl, _, rfl, d, _, 3, 3, rfl, rfl, hx.l, rfl, ?_⟩
        obtain ⟨hx2, g2⟩ := hx.put i b (t + 1) e s0
        refine ⟨_, rfl, _, rfl, _, _, 1, _, rfl, rfl, SqL.of hx2.l, rfl, _, _, rfl, rfl, .inl ⟨by decide, by decide⟩, _, _, rfl, rfl, _, rfl, _, _, 3, _, rfl, rfl, SqL.of hx2.l, rfl, _, _, rfl, fun z => .inl ⟨_, rfl, _, rfl, _, _, rfl, rfl, (by omega), ?_⟩⟩
        have hm2 := emodB z many (by omega)
        refine ⟨fun σ' H' => Grow (On d) H H' ∧ Draw H' d c ∧ ∃ x2 x3, σ' = [some (.ref d), some (.int many), x2, x3, some (.int (z % many))], ?_, ?_⟩
        · refine ⟨_, rfl, _, _, 3, _, rfl, rfl, SqL.of hx2.l, rfl, rfl, _, rfl, ?_⟩
          by_cases c6 : V.int (t + 1) = V.int 6
          · refine iteT' (dT c6) ?_
            refine ⟨_, rfl, d, _, 3, 3, rfl, rfl, hx2.l, rfl, ?_⟩
            obtain ⟨hx3, g3⟩ := hx2.put i b 0 e s0
            refine ⟨_, rfl, _, _, 1, _, rfl, rfl, SqL.of hx3.l, rfl, _, _, rfl, rfl, _, rfl, d, _, 1, 1, rfl, rfl, hx3.l, rfl, ?_⟩
            obtain ⟨hx4, g4⟩ := hx3.put (i + 1) b 0 e s0
            exact ⟨g.trans (g2.trans (g3.trans g4)), ⟨_, _, _, _, _, _, hx4, by omega, hb⟩, _, _, rfl⟩
          · refine iteF' (dF c6) ?_
            exact ⟨g.trans g2, ⟨_, _, _, _, _, _, hx2, hi, hb⟩, _, _, rfl⟩
        · rintro σ' H' ⟨g', hd', x2, x3, rfl⟩
          exact ⟨_, rfl, k _ _ g' hd' hm2.1 (.inl hm2.2)⟩
      refine iteF' (dF c2) ?_
      refine ⟨_, rfl, _, _, 4, _, rfl, rfl, SqL.of hx.l, rfl, _, _, rfl, rfl, _, rfl, d, _, 4, 4, rfl, rfl, hx.l, rfl, ?_⟩
      obtain ⟨hx2, g2⟩ := hx.put i b t (e + 1) s0
      refine ⟨_, rfl, _, _, 5, _, rfl, rfl, SqL.of hx2.l, rfl, _, rfl, _, _, 4, _, rfl, rfl, SqL.of hx2.l, rfl, _, _, rfl, rfl, _, _, rfl, fun z => .inl ⟨_, rfl, _, rfl, _, _, rfl, rfl, (by omega), ?_⟩⟩
      have hm2 := emodB z many (by omega)
      exact k _ _ (g.trans g2) ⟨_, _, _, _, _, _, hx2, hi, hb⟩ hm2.1 (.inl hm2.2)
end
end K81

namespace K81
open PySem PySem.Spec PyProof.Rows L2
section
variable {P : Program} {w : World} {K : PySem.W.Frag} {mg : Str → Option Value} {base : Heap}
theorem Grow.loc {S : Addr → Prop} {H H1 H2 : Hp} {p : Addr} (g : Grow S H H1) (g' : Grow (On p) H1 H2) (n : H p = none) : Grow S H H2 := g.but g' fun b z => .inr (z ▸ n)
theorem Ls.keep {H H1 : Hp} {d L : Addr} {ks : List D} (h : Ls H L ks) (g : Grow (On d) H H1) (n : d ≠ L) : Ls H1 L ks := h.grow g fun z => n z.symm
theorem Ls.snocI {H : Hp} {L : Addr} {r : Row} {z : Int} (h : Ls H L (nums r ++ [.num z])) : Ls H L (nums (r ++ [z])) := by
  rw [nums_snoc]
  exact h
theorem szL {n : Nat} (h : n ≤ 100000) : n < sizeLine := Nat.lt_of_le_of_lt h (by decide)
/-- a drawn change -/
def sp_law_change : Sp := fun vs H Q _ => ∃ d c, ∃ n : Nat, vs = [.ref d, .int n] ∧ Draw H d c ∧ Bells n ∧ ∀ H' x v, Grow (On d) H H' → Draw H' d c → x ∈ chgs n → At H' (rowD x) v → Q v H'
abbrev N_law_change : List Str := ["_law_draw_here", "_law_stage", "_law_kept", "_law_spot", "_law_turn"]
theorem sc_law_change : FnScope ["_law_draw_here", "_law_stage", "_law_kept", "_law_spot", "_law_turn"] ["_law_draw_here", "_law_stage"] (defScope s_law_change) := ⟨rfl, rfl, rfl, by decide +kernel, rfl, by decide +kernel, by decide +kernel⟩
theorem bd_law_change (T : Txt K mg) : Binds K (fdOf K a_law_change) ["_law_draw_here", "_law_stage"] [] := FunD.bindsN T.F_law_change fun _ _ _ _ _ _ us hl => match us, hl with | [_, _], _ => rfl
theorem ok_law_change (T : Txt K mg) : FnOk P w K mg base CX0 3 a_law_change (fdOf K a_law_change) ["_law_draw_here", "_law_stage"] (sp_law_change) := by
  refine ok0 T.F_law_change sc_law_change (fun vs H Q E h => ?_) (fun cdv A outer s H vs Q E hr h => ?_)
  · obtain ⟨d, c, n, rfl, hd, hn, k⟩ := h
    rfl
  · obtain ⟨d, c, n, rfl, hd, hn, k⟩ := h
    have hU := hr.units
    have hu := hu_of hr
    have h5 := bells_le hn
    refine ⟨_, (pss_cons (ps_set (i := 2) sc_law_change.nd rfl (Or.inl rfl) (pe_lst pa_nil))
      (pss_cons (ps_set (i := 3) sc_law_change.nd rfl (Or.inl rfl) pe_int)
      (pss_cons (ps_for PassesOwn.never rfl (pi_range1 (by rfl) T.z_range (pa_cons (pv 1) pa_nil)) (pg_name (i := 4) sc_law_change.nd rfl (Or.inl rfl)) (pss_cons (ps_if (PW.pt (pw_and (pt_cmpR op_lt (pv 3) (pv 1) (nomark _)) (pw_and1 (pt_cmpR op_gt (pe_call (ok_law_pick T) (hr.mono (by decide)) (by rfl) T.g_law_pick T.F_law_pick.kp (bd_law_pick T) .nil pass0 (pa_cons (pv 0) (pa_cons pe_int pa_nil))) pe_int (nomark _))))) (pss_one (ps_set (i := 3) sc_law_change.nd rfl (Or.inl rfl) (pe_op op_add (pv 3) pe_int))) (pss_one (ps_if (pt_cmpR op_le (pv 3) (pv 1) (nomark _)) (pss_one (ps_expr (pe_bm PySem.F.plainAttrs_list PySem.F.slot_list_append PySem.F.type_list_append mt_appK (pv 2) (pa_cons (pv 3) pa_nil)))) pss_nil)))
      (pss_one (ps_set (i := 3) sc_law_change.nd rfl (Or.inl rfl) (pe_op op_add (pv 3) pe_int)))))
      (pss_one (ps_ret (pe_callTy call_tupK (by rfl) T.z_tuple (by decide +kernel) (pa_cons (pv 2) pa_nil))))))), ?_⟩
    refine ⟨Nat.zero_le _, fun L hL => ?_⟩
    have g0 : Grow (On d) H (upd H L (.lst [])) := Grow.new hL
    have l0 : Ls (upd H L (.lst [])) L (nums []) := Ls.new .nil hL
    have d0 : Draw (upd H L (.lst [])) d c := hd.growN (Grow.new hL)
    have n1 := hd.ne hL
    have n2 := hd.nc hL
    generalize upd H L (.lst []) = H0 at g0 l0 d0
    refine ⟨_, rfl, _, rfl, (by omega), (by omega), ?_⟩
    rw [Int.toNat_natCast]
    refine for_range (fun i σ H' => Grow (On d) H H' ∧ Draw H' d c ∧ ∃ (s : Nat) (q : Row) (t : Option V), σ = [some (.ref d), some (.int n), some (.ref L), some (.int s), t] ∧ (s, q) ∈ chAt n i ∧ q.length ≤ i ∧ Ls H' L (nums q)) ⟨g0, d0, 1, [], none, rfl, List.mem_singleton.mpr rfl, Nat.zero_le _, l0⟩ (fun i σ H' hi p => ?_) fun σ H' p => ?_
    · obtain ⟨g, hd', s1, q, t, rfl, hs, hq, hl⟩ := p
      have hap : ∀ H2, Grow (On d) H H2 → Draw H2 d c → Ls H2 L (nums q) → s1 ≤ n → ∀ H3, Grow (On L) H2 H3 → Ls H3 L (nums q ++ [.num s1]) → Grow (On d) H H3 ∧ Draw H3 d c ∧ Ls H3 L (nums (q ++ [(s1 : Int)])) := fun H2 g2 d2 l2 _ H3 g3 l3 => ⟨g2.loc g3 hL, d2.at g3 n1 n2, l3.snocI⟩
      refine ⟨_, rfl, _, rfl, _, _, rfl, rfl, _, rfl, ?_⟩
      by_cases h1 : s1 < n
      · refine iteT' (dT (by omega)) ?_
        refine ⟨_, rfl, d, c, 3, rfl, hd', by decide, by decide, fun H2 z g2 d2 z0 z1 => ?_⟩
        refine ⟨_, _, rfl, rfl, _, rfl, ?_⟩
        have l2 := hl.keep g2 n1
        by_cases h2 : 0 < z
        · refine iteT' (dT h2) ?_
          exact ⟨_, rfl, _, _, rfl, rfl, _, rfl, _, _, rfl, rfl, g.trans g2, d2, s1 + 2, q, _, by rw [show ((s1 + 2 : Nat) : Int) = (s1 : Int) + 1 + 1 by omega]; rfl, chAt_step hs (by unfold chStep; rw [if_pos h1]; exact List.mem_cons_self ..), by omega, l2⟩
        · refine iteF' (dF h2) ?_
          refine ⟨_, rfl, _, rfl, _, _, rfl, rfl, _, rfl, ?_⟩
          refine iteT' (dT (by omega)) ?_
          refine ⟨_, rfl, tyL l2, _, rfl, L, _, _, _, rfl, rfl, l2, .num (s1 : Int), szL (by rw [nums_len]; omega), fun H3 g3 l3 => ?_⟩
          obtain ⟨g4, d4, l4⟩ := hap H2 (g.trans g2) d2 l2 (by omega) H3 g3 l3
          exact ⟨_, rfl, _, _, rfl, rfl, g4, d4, s1 + 1, _, _, rfl, chAt_step hs (by unfold chStep; rw [if_pos h1]; simp), by rw [List.length_append]; simp; omega, l4⟩
      · refine iteF' (dF (by omega)) ?_
        refine iteF' rfl ?_
        refine ⟨_, rfl, _, rfl, _, _, rfl, rfl, _, rfl, ?_⟩
        by_cases h2 : s1 ≤ n
        · refine iteT' (dT (by omega)) ?_
          refine ⟨_, rfl, tyL hl, _, rfl, L, _, _, _, rfl, rfl, hl, .num (s1 : Int), szL (by rw [nums_len]; omega), fun H3 g3 l3 => ?_⟩
          obtain ⟨g4, d4, l4⟩ := hap H' g hd' hl h2 H3 g3 l3
          exact ⟨_, rfl, _, _, rfl, rfl, g4, d4, s1 + 1, _, _, rfl, chAt_step hs (by unfold chStep; rw [if_neg h1, if_pos h2]; simp), by rw [List.length_append]; simp; omega, l4⟩
        · refine iteF' (dF (by omega)) ?_
          exact ⟨_, rfl, _, _, rfl, rfl, g, hd', s1 + 1, q, _, rfl, chAt_step hs (by unfold chStep; rw [if_neg h1, if_neg h2]; simp), by omega, hl⟩
    · obtain ⟨g, hd', s1, q, t, rfl, hs, hq, hl⟩ := p
      exact ⟨_, rfl, _, _, rfl, hl, fun H3 v g3 a3 => k H3 q v (g.then g3) (hd'.growN g3) (chAt_end hn hs) a3⟩
/-- a led change -/
def sp_law_led_change : Sp := fun vs H Q _ => ∃ d c, ∃ n low : Nat, vs = [.ref d, .int n, .int low] ∧ Draw H d c ∧ n ≤ 5 ∧ low < n ∧ ∀ H' x v, Grow (On d) H H' → Draw H' d c → x ∈ leds n low → At H' (rowD x) v → Q v H'
abbrev N_law_led_change : List Str := ["_law_draw_here", "_law_stage", "_law_low", "_law_kept", "_law_spot", "_law_turn"]
theorem sc_law_led_change : FnScope ["_law_draw_here", "_law_stage", "_law_low", "_law_kept", "_law_spot", "_law_turn"] ["_law_draw_here", "_law_stage", "_law_low"] (defScope s_law_led_change) := ⟨rfl, rfl, rfl, by decide +kernel, rfl, by decide +kernel, by decide +kernel⟩
theorem bd_law_led_change (T : Txt K mg) : Binds K (fdOf K a_law_led_change) ["_law_draw_here", "_law_stage", "_law_low"] [] := FunD.bindsN T.F_law_led_change fun _ _ _ _ _ _ us hl => match us, hl with | [_, _, _], _ => rfl
theorem ok_law_led_change (T : Txt K mg) : FnOk P w K mg base CX0 3 a_law_led_change (fdOf K a_law_led_change) ["_law_draw_here", "_law_stage", "_law_low"] (sp_law_led_change) := by
  refine ok0 T.F_law_led_change sc_law_led_change (fun vs H Q E h => ?_) (fun cdv A outer s H vs Q E hr h => ?_)
  · obtain ⟨d, c, n, low, rfl, hd, h5, hlow, k⟩ := h
    rfl
  · obtain ⟨d, c, n, low, rfl, hd, h5, hlow, k⟩ := h
    have hU := hr.units
    have hu := hu_of hr
    refine ⟨_, (pss_cons (ps_set (i := 3) sc_law_led_change.nd rfl (Or.inl rfl) (pe_lst pa_nil))
      (pss_cons (ps_set (i := 4) sc_law_led_change.nd rfl (Or.inl rfl) pe_int)
      (pss_cons (ps_for PassesOwn.never rfl (pi_range1 (by rfl) T.z_range (pa_cons (pv 1) pa_nil)) (pg_name (i := 5) sc_law_led_change.nd rfl (Or.inl rfl)) (pss_cons (ps_if (pt_cmpR op_eq (pv 4) (pv 2) (nomark _)) (pss_one (ps_set (i := 4) sc_law_led_change.nd rfl (Or.inl rfl) (pe_op op_add (pv 4) pe_int))) (pss_one (ps_if (PW.pt (pw_and (pt_cmpR op_lt (pv 4) (pv 1) (nomark _)) (pw_and (pt_cmpR op_ne (pe_op op_add (pv 4) pe_int) (pv 2) (nomark _)) (pw_and (pt_cmpR op_gt (pe_op op_add (pv 4) (pv 2)) pe_int (nomark _)) (pw_and1 (pt_cmpR op_gt (pe_call (ok_law_pick T) (hr.mono (by decide)) (by rfl) T.g_law_pick T.F_law_pick.kp (bd_law_pick T) .nil pass0 (pa_cons (pv 0) (pa_cons pe_int pa_nil))) pe_int (nomark _))))))) (pss_one (ps_set (i := 4) sc_law_led_change.nd rfl (Or.inl rfl) (pe_op op_add (pv 4) pe_int))) (pss_one (ps_if (pt_cmpR op_le (pv 4) (pv 1) (nomark _)) (pss_one (ps_expr (pe_bm PySem.F.plainAttrs_list PySem.F.slot_list_append PySem.F.type_list_append mt_appK (pv 3) (pa_cons (pv 4) pa_nil)))) pss_nil)))))
      (pss_one (ps_set (i := 4) sc_law_led_change.nd rfl (Or.inl rfl) (pe_op op_add (pv 4) pe_int)))))
      (pss_one (ps_ret (pe_callTy call_tupK (by rfl) T.z_tuple (by decide +kernel) (pa_cons (pv 3) pa_nil))))))), ?_⟩
    refine ⟨Nat.zero_le _, fun L hL => ?_⟩
    have g0 : Grow (On d) H (upd H L (.lst [])) := Grow.new hL
    have l0 : Ls (upd H L (.lst [])) L (nums []) := Ls.new .nil hL
    have d0 : Draw (upd H L (.lst [])) d c := hd.growN (Grow.new hL)
    have n1 := hd.ne hL
    have n2 := hd.nc hL
    generalize upd H L (.lst []) = H0 at g0 l0 d0
    refine ⟨_, rfl, _, rfl, (by omega), (by omega), ?_⟩
    rw [Int.toNat_natCast]
    refine for_range (fun i σ H' => Grow (On d) H H' ∧ Draw H' d c ∧ ∃ (s : Nat) (q : Row) (t : Option V), σ = [some (.ref d), some (.int n), some (.int low), some (.ref L), some (.int s), t] ∧ (s, q) ∈ ledAt n low i ∧ q.length ≤ i ∧ Ls H' L (nums q)) ⟨g0, d0, 1, [], none, rfl, List.mem_singleton.mpr rfl, Nat.zero_le _, l0⟩ (fun i σ H' hi p => ?_) fun σ H' p => ?_
    · obtain ⟨g, hd', s1, q, t, rfl, hs, hq, hl⟩ := p
      have hap : ∀ H2, Grow (On d) H H2 → Draw H2 d c → Ls H2 L (nums q) → s1 ≤ n → ∀ H3, Grow (On L) H2 H3 → Ls H3 L (nums q ++ [.num s1]) → Grow (On d) H H3 ∧ Draw H3 d c ∧ Ls H3 L (nums (q ++ [(s1 : Int)])) := fun H2 g2 d2 l2 _ H3 g3 l3 => ⟨g2.loc g3 hL, d2.at g3 n1 n2, l3.snocI⟩
      refine ⟨_, rfl, _, rfl, rfl, _, rfl, ?_⟩
      by_cases hz : s1 = low
      · refine iteT' (dT (by rw [hz])) ?_
        exact ⟨_, rfl, _, _, rfl, rfl, _, rfl, _, _, rfl, rfl, g, hd', s1 + 2, q, _, by rw [show ((s1 + 2 : Nat) : Int) = (s1 : Int) + 1 + 1 by omega]; rfl, ledAt_step hs (by unfold ledStep; rw [if_pos hz]; exact List.mem_cons_self ..), by omega, hl⟩
      refine iteF' (dF (fun z => hz (by injection z; omega))) ?_
      have keepB : ¬ (s1 < n ∧ s1 + 1 ≠ low ∧ 1 < s1 + low) → ∀ H', Grow (On d) H H' → Draw H' d c → Ls H' L (nums q) → (s1 ≤ n → ∀ H3, Grow (On d) H H3 → Draw H3 d c → Ls H3 L (nums (q ++ [(s1 : Int)])) → (s1 + 1, q ++ [(s1 : Int)]) ∈ ledAt n low (i + 1)) ∧ (¬ s1 ≤ n → (s1 + 1, q) ∈ ledAt n low (i + 1)) := fun hc H' g hd' hl => ⟨fun h2 H3 _ _ _ => ledAt_step hs (by unfold ledStep; rw [if_neg hz, if_neg hc, if_pos h2]; simp), fun h2 => ledAt_step hs (by unfold ledStep; rw [if_neg hz, if_neg hc, if_neg h2]; simp)⟩
      refine ⟨_, rfl, _, rfl, _, _, rfl, rfl, _, rfl, ?_⟩
      by_cases h1 : s1 < n
      · refine iteT' (dT (by omega)) ?_
        refine ⟨_, rfl, _, _, rfl, rfl, _, rfl, rfl, _, rfl, ?_⟩
        by_cases h2 : s1 + 1 = low
        · refine iteF' (nF (by rw [← h2]; rfl)) ?_
          refine iteF' rfl ?_
          refine ⟨_, rfl, _, rfl, _, _, rfl, rfl, _, rfl, ?_⟩
          refine iteT' (dT (by omega)) ?_
          refine ⟨_, rfl, tyL hl, _, rfl, L, _, _, _, rfl, rfl, hl, .num (s1 : Int), szL (by rw [nums_len]; omega), fun H3 g3 l3 => ?_⟩
          obtain ⟨g4, d4, l4⟩ := hap H' g hd' hl (by omega) H3 g3 l3
          exact ⟨_, rfl, _, _, rfl, rfl, g4, d4, s1 + 1, _, _, rfl, (keepB (fun z => z.2.1 h2) H' g hd' hl).1 (by omega) H3 g4 d4 l4, by rw [List.length_append]; simp; omega, l4⟩
        · refine iteT' (nT (fun z => h2 (by injection z; omega))) ?_
          refine ⟨_, rfl, _, rfl, _, _, rfl, rfl, _, _, rfl, rfl, _, rfl, ?_⟩
          by_cases h3 : 1 < s1 + low
          · refine iteT' (dT (by omega)) ?_
            refine ⟨_, rfl, d, c, 3, rfl, hd', by decide, by decide, fun H2 z g2 d2 z0 z1 => ?_⟩
            refine ⟨_, _, rfl, rfl, _, rfl, ?_⟩
            have l2 := hl.keep g2 n1
            by_cases h4 : 0 < z
            · refine iteT' (dT h4) ?_
              exact ⟨_, rfl, _, _, rfl, rfl, _, rfl, _, _, rfl, rfl, g.trans g2, d2, s1 + 2, q, _, by rw [show ((s1 + 2 : Nat) : Int) = (s1 : Int) + 1 + 1 by omega]; rfl, ledAt_step hs (by unfold ledStep; rw [if_neg hz, if_pos ⟨h1, h2, h3⟩]; exact List.mem_cons_self ..), by omega, l2⟩
            · refine iteF' (dF h4) ?_
              refine ⟨_, rfl, _, rfl, _, _, rfl, rfl, _, rfl, ?_⟩
              refine iteT' (dT (by omega)) ?_
              refine ⟨_, rfl, tyL l2, _, rfl, L, _, _, _, rfl, rfl, l2, .num (s1 : Int), szL (by rw [nums_len]; omega), fun H3 g3 l3 => ?_⟩
              obtain ⟨g4, d4, l4⟩ := hap H2 (g.trans g2) d2 l2 (by omega) H3 g3 l3
              exact ⟨_, rfl, _, _, rfl, rfl, g4, d4, s1 + 1, _, _, rfl, ledAt_step hs (by unfold ledStep; rw [if_neg hz, if_pos ⟨h1, h2, h3⟩]; simp), by rw [List.length_append]; simp; omega, l4⟩
          · refine iteF' (dF (by omega)) ?_
            refine iteF' rfl ?_
            refine ⟨_, rfl, _, rfl, _, _, rfl, rfl, _, rfl, ?_⟩
            refine iteT' (dT (by omega)) ?_
            refine ⟨_, rfl, tyL hl, _, rfl, L, _, _, _, rfl, rfl, hl, .num (s1 : Int), szL (by rw [nums_len]; omega), fun H3 g3 l3 => ?_⟩
            obtain ⟨g4, d4, l4⟩ := hap H' g hd' hl (by omega) H3 g3 l3
            exact ⟨_, rfl, _, _, rfl, rfl, g4, d4, s1 + 1, _, _, rfl, (keepB (fun z => h3 z.2.2) H' g hd' hl).1 (by omega) H3 g4 d4 l4, by rw [List.length_append]; simp; omega, l4⟩
      · refine iteF' (dF (by omega)) ?_
        refine iteF' rfl ?_
        refine ⟨_, rfl, _, rfl, _, _, rfl, rfl, _, rfl, ?_⟩
        by_cases h2 : s1 ≤ n
        · refine iteT' (dT (by omega)) ?_
          refine ⟨_, rfl, tyL hl, _, rfl, L, _, _, _, rfl, rfl, hl, .num (s1 : Int), szL (by rw [nums_len]; omega), fun H3 g3 l3 => ?_⟩
          obtain ⟨g4, d4, l4⟩ := hap H' g hd' hl h2 H3 g3 l3
          exact ⟨_, rfl, _, _, rfl, rfl, g4, d4, s1 + 1, _, _, rfl, (keepB (fun z => h1 z.1) H' g hd' hl).1 h2 H3 g4 d4 l4, by rw [List.length_append]; simp; omega, l4⟩
        · refine iteF' (dF (by omega)) ?_
          exact ⟨_, rfl, _, _, rfl, rfl, g, hd', s1 + 1, q, _, rfl, (keepB (fun z => h1 z.1) H' g hd' hl).2 h2, by omega, hl⟩
    · obtain ⟨g, hd', s1, q, t, rfl, hs, hq, hl⟩ := p
      exact ⟨_, rfl, _, _, rfl, hl, fun H3 v g3 a3 => k H3 q v (g.then g3) (hd'.growN g3) (List.mem_map.mpr ⟨_, hs, rfl⟩) a3⟩
/-- a change that keeps the last place -/
def sp_law_kept_last : Sp := fun vs H Q _ => ∃ d c, ∃ n : Nat, vs = [.ref d, .int n] ∧ Draw H d c ∧ Bells n ∧ ∀ H' x v, Grow (On d) H H' → Draw H' d c → x ∈ chgs n → StepTo n x (n - 1) (n - 1) → At H' (rowD x) v → Q v H'
theorem mir_snoc (n : Nat) (p : Row) (z : Int) : mir n (p ++ [z]) = mir n p ++ [(n : Int) + 1 - z] := by
  unfold mir
  rw [List.map_append]
  rfl
abbrev N_law_kept_last : List Str := ["_law_draw_here", "_law_stage", "_law_kept", "_law_spot"]
theorem sc_law_kept_last : FnScope ["_law_draw_here", "_law_stage", "_law_kept", "_law_spot"] ["_law_draw_here", "_law_stage"] (defScope s_law_kept_last) := ⟨rfl, rfl, rfl, by decide +kernel, rfl, by decide +kernel, by decide +kernel⟩
theorem bd_law_kept_last (T : Txt K mg) : Binds K (fdOf K a_law_kept_last) ["_law_draw_here", "_law_stage"] [] := FunD.bindsN T.F_law_kept_last fun _ _ _ _ _ _ us hl => match us, hl with | [_, _], _ => rfl
theorem ok_law_kept_last (T : Txt K mg) : FnOk P w K mg base CX0 4 a_law_kept_last (fdOf K a_law_kept_last) ["_law_draw_here", "_law_stage"] (sp_law_kept_last) := by
  refine ok0 T.F_law_kept_last sc_law_kept_last (fun vs H Q E h => ?_) (fun cdv A outer s H vs Q E hr h => ?_)
  · obtain ⟨d, c, n, rfl, hd, hn, k⟩ := h
    rfl
  · obtain ⟨d, c, n, rfl, hd, hn, k⟩ := h
    have hU := hr.units
    have hu := hu_of hr
    have h5 := bells_le hn
    have h3 := bells_pos hn
    refine ⟨_, (pss_cons (ps_setLc (i := 2) (own := [("_law_spot", 3)])  rfl sc_law_kept_last.nd rfl rfl (sw_true rfl rfl rfl (by decide +kernel)) (pi_tup (pe_call (ok_law_led_change T) (hr.mono (by decide)) (by rfl) T.g_law_led_change T.F_law_led_change.kp (bd_law_led_change T) .nil pass0 (pa_cons (pv 0) (pa_cons (pv 1) (pa_cons pe_int pa_nil))))) (blkOk_by (own := [("_law_spot", 3)]) (N := N_law_kept_last) (sc := defScope s_law_kept_last) (by decide +kernel)) (fun _ _ _ _ _ => pg_name (i := 3) sc_law_kept_last.nd rfl (Or.inl rfl)) (fun _ _ _ _ _ => pts_nil) (fun _ _ _ _ _ => (pe_op op_sub (pe_op op_add (pv 1) pe_int) (pv 3))))
      (pss_one (ps_ret (pe_callTy call_tupK (by rfl) T.z_tuple (by decide +kernel) (pa_cons (pe_callB cr_sorted (by rfl) T.z_sorted (by decide +kernel) (pa_cons (pv 2) pa_nil)) pa_nil))))), ?_⟩
    refine ⟨_, rfl, _, rfl, d, c, n, 0, rfl, hd, h5, by omega, fun H1 x v g1 d1 hx a1 => ?_⟩
    obtain ⟨a, rfl, ha⟩ := row_of a1
    refine ⟨a, rfl, ⟨_, SqT.of ha⟩, fun L hL => ?_⟩
    refine lc_pre (walk_tupK (ks := nums x)) (nums x) rfl No (fun pre acc _ => ∃ p, pre = nums p ∧ acc = nums (mir n p)) hL id (by rw [nums_len]; exact Nat.lt_of_le_of_lt (led_len hn (by omega) hx) (by decide)) (fun H' g => g.at a1) (fun _ _ => ⟨[], rfl, rfl⟩) (fun pre d post acc v H1 H2 Kq N e _ g0 pd y kq kn => ?_) fun H2 acc _ g la pd => ?_
    · obtain ⟨rfl, j, h1, h2⟩ := y
      have e2 := at_mid e h1
      subst e2
      obtain ⟨p, z, q, rfl, rfl, rfl, rfl⟩ := nums_mid e
      obtain ⟨p', e3, rfl⟩ := pd
      have e4 := nums_inj e3
      subst e4
      cases h2
      refine ⟨rfl, ?_⟩
      refine ⟨_, rfl, _, _, rfl, rfl, _, rfl, _, _, rfl, rfl, ?_⟩
      exact kq _ _ (.num ((n : Int) + 1 - z)) (Grow.refl _) (.num _) fun _ _ => ⟨p ++ [z], (nums_snoc p z).symm, by rw [mir_snoc, nums_snoc]⟩
    · obtain ⟨p, e, rfl⟩ := pd
      have e2 := nums_inj e
      subst e2
      refine ⟨_, rfl, L, _, rfl, SqL.of la.ints, by unfold mir; rw [List.length_map]; exact Nat.lt_of_le_of_lt (led_len hn (by omega) hx) (by decide), fun ns q hp hs hq => ?_⟩
      obtain ⟨m1, m2⟩ := mir_sort hn hx hp hs
      refine ⟨q, nums ns, rfl, Ls.new (ats_nums ns) hq, fun H3 v g3 a3 => ?_⟩
      have g4 : Grow No H2 H3 := (Grow.new hq).trans g3
      exact k H3 ns v ((g1.then g).then g4) ((d1.growN g).growN g4) m1 m2 a3
/-- a new letter -/
def sp_law_letter : Sp := fun vs H Q _ => ∃ d c, ∃ u : List Nat, vs = [.ref d, .str (tx u)] ∧ Draw H d c ∧ u.length ≤ 20 ∧ ∀ H' x, Grow (On d) H H' → Draw H' d c → x ∈ alpha → x ∉ u → Q (.str (sg x)) H'
theorem alpha_tx : ("abcdefghijklmnoqrstuvwxyz" : Str) = tx alpha := by decide +kernel
theorem alpha_ne {u : List Nat} (h : u.length ≤ 20) : 0 < (alpha.filter fun c => !decide (c ∈ u)).length := by
  refine Nat.pos_of_ne_zero fun z => ?_
  have e := List.length_eq_zero_iff.mp z
  have sub : alpha ⊆ u := fun c hc => by
    rw [List.filter_eq_nil_iff] at e
    simpa using e c hc
  have := List.Nodup.length_le_of_subset (by decide +kernel : alpha.Nodup) sub
  have : alpha.length = 25 := by decide +kernel
  omega
theorem alpha_flen (u : List Nat) : (alpha.filter fun c => !decide (c ∈ u)).length ≤ 25 := List.length_filter_le _ _
abbrev N_law_letter : List Str := ["_law_draw_here", "_law_used", "_law_pool", "_law_letter_here"]
theorem sc_law_letter : FnScope ["_law_draw_here", "_law_used", "_law_pool", "_law_letter_here"] ["_law_draw_here", "_law_used"] (defScope s_law_letter) := ⟨rfl, rfl, rfl, by decide +kernel, rfl, by decide +kernel, by decide +kernel⟩
theorem bd_law_letter (T : Txt K mg) : Binds K (fdOf K a_law_letter) ["_law_draw_here", "_law_used"] [] := FunD.bindsN T.F_law_letter fun _ _ _ _ _ _ us hl => match us, hl with | [_, _], _ => rfl
theorem ok_law_letter (T : Txt K mg) : FnOk P w K mg base CX0 3 a_law_letter (fdOf K a_law_letter) ["_law_draw_here", "_law_used"] (sp_law_letter) := by
  refine ok0 T.F_law_letter sc_law_letter (fun vs H Q E h => ?_) (fun cdv A outer s H vs Q E hr h => ?_)
  · obtain ⟨d, c, u, rfl, hd, hu5, k⟩ := h
    rfl
  · obtain ⟨d, c, u, rfl, hd, hu5, k⟩ := h
    have hU := hr.units
    have hu := hu_of hr
    refine ⟨_, (pss_cons (ps_setLc (i := 2) (own := [("_law_letter_here", 3)])  rfl sc_law_letter.nd rfl rfl (sw_true rfl rfl rfl (by decide +kernel)) (pi_str pe_str) (blkOk_by (own := [("_law_letter_here", 3)]) (N := N_law_letter) (sc := defScope s_law_letter) (by decide +kernel)) (fun _ _ _ _ _ => pg_name (i := 3) sc_law_letter.nd rfl (Or.inl rfl)) (fun _ _ _ _ _ => pts_one (pt_cmpR op_notIn_sign (pv 3) (pv 1) (by rfl))) (fun _ _ _ _ _ => (pv 3)))
      (pss_one (ps_ret (pe_ix ix_lstK (pv 2) (pe_call (ok_law_pick T) (hr.mono (by decide)) (by rfl) T.g_law_pick T.F_law_pick.kp (bd_law_pick T) .nil pass0 (pa_cons (pv 0) (pa_cons (pe_callB call_lenK (by rfl) T.z_len PySem.boot_len (pa_cons (pv 2) pa_nil)) pa_nil))) (fun _ _ => rfl))))), ?_⟩
    rw [alpha_tx]
    refine ⟨tx alpha, rfl, fun L hL => ?_⟩
    refine lc_pre (walk_tx (l := alpha)) alpha rfl No (fun pre acc _ => acc = txts (pre.filter fun c => !decide (c ∈ u))) hL id (by decide) (fun _ _ => trivial) (fun _ _ => rfl) (fun pre x post acc v H1 H2 Kq N e _ g0 pd y kq kn => ?_) fun H1 acc _ g1 l1 pd => ?_
    · obtain ⟨rfl, j, h1, rfl⟩ := y
      have e2 := at_mid e h1
      subst e2
      refine ⟨rfl, ?_⟩
      refine ⟨_, rfl, _, rfl, j, tx u, rfl, rfl, _, rfl, ?_⟩
      rw [tx_cps]
      by_cases hj : j ∈ u
      · refine iteF' (nF hj) ?_
        exact kn _ (Grow.refl _) (by rw [pd, List.filter_append]; simp [hj])
      · refine iteT' (nT hj) ?_
        refine ⟨_, rfl, ?_⟩
        exact kq _ _ (.text (sg j)) (Grow.refl _) (.text _) fun _ _ => by rw [pd, List.filter_append]; simp [hj, txts]
    · subst pd
      have hp := alpha_ne hu5
      have hle := alpha_flen u
      generalize hf : (alpha.filter fun c => !decide (c ∈ u)) = f at l1 hp hle
      refine ⟨_, rfl, _, rfl, _, rfl, .ref L, _, rfl, .inr ⟨L, rfl, l1⟩, d, c, _, rfl, hd.growN g1, by rw [txts_len]; omega, by rw [txts_len]; omega, fun H2 z g2 d2 z0 z1 => ?_⟩
      rw [txts_len] at z1
      have hz : z.toNat < f.length := by omega
      have n1 := hd.ne hL
      refine ⟨L, txts f, z, z.toNat, .text (sg f[z.toNat]), rfl, l1.keep g2 n1, rfl, ⟨by rw [txts_len]; exact hz, .inl (by omega)⟩, by unfold txts; rw [List.getElem?_map, List.getElem?_eq_getElem hz]; rfl, fun v av => ?_⟩
      rw [av.str_]
      have hm : f[z.toNat] ∈ alpha.filter fun c => !decide (c ∈ u) := by rw [hf]; exact List.getElem_mem hz
      rw [List.mem_filter] at hm
      exact k H2 _ (g1.any.trans g2) d2 hm.1 (by simpa using hm.2)
/-- the draw of a script -/
def sp_law_draw (K : PySem.W.Frag) : Sp := fun vs H Q _ => ∃ a, ∃ ns : List Int, vs = [.ref a] ∧ SqL K H a (ns.map V.int) ∧ ns.length ≤ 63 ∧ (∀ H', Grow No H H' → SqL K H' a (ns.map V.int)) ∧ ∀ H' d c, Grow No H H' → Draw H' d c → H d = none → Q (.ref d) H'
abbrev N_law_draw : List Str := ["_law_script", "_law_cells", "_law_cell"]
theorem sc_law_draw : FnScope ["_law_script", "_law_cells", "_law_cell"] ["_law_script"] (defScope s_law_draw) := ⟨rfl, rfl, rfl, by decide +kernel, rfl, by decide +kernel, by decide +kernel⟩
theorem bd_law_draw (T : Txt K mg) : Binds K (fdOf K a_law_draw) ["_law_script"] [] := FunD.bindsN T.F_law_draw fun _ _ _ _ _ _ us hl => match us, hl with | [_], _ => rfl
theorem ok_law_draw (T : Txt K mg) : FnOk P w K mg base CX0 1 a_law_draw (fdOf K a_law_draw) ["_law_script"] (sp_law_draw K) := by
  refine ok0 T.F_law_draw sc_law_draw (fun vs H Q E h => ?_) (fun cdv A outer s H vs Q E hr h => ?_)
  · obtain ⟨a, ns, rfl, hs, hl, hg, k⟩ := h
    rfl
  · obtain ⟨a, ns, rfl, hs, hl, hg, k⟩ := h
    have hU := hr.units
    have hu := hu_of hr
    refine ⟨_, (pss_cons (ps_setLc (i := 1) (own := [("_law_cell", 2)])  rfl sc_law_draw.nd rfl rfl (sw_true rfl rfl rfl (by decide +kernel)) (pi_list (pv 0)) (blkOk_by (own := [("_law_cell", 2)]) (N := N_law_draw) (sc := defScope s_law_draw) (by decide +kernel)) (fun _ _ _ _ _ => pg_name (i := 2) sc_law_draw.nd rfl (Or.inl rfl)) (fun _ _ _ _ _ => pts_nil) (fun _ _ _ _ _ => (pv 2)))
      (pss_one (ps_ret (pe_lst (pa_cons (pv 1) (pa_cons pe_int (pa_cons pe_int (pa_cons pe_int (pa_cons pe_int (pa_cons (pe_op op_add (pe_op op_mod (pe_callTy call_int1 (by rfl) T.z_int (by decide +kernel) (pa_cons (pe_callB (cr_sum rfl) (by rfl) T.z_sum (by decide +kernel) (pa_cons (pv 1) pa_nil)) pa_nil)) pe_int) (pe_op op_mul pe_int (pe_callB call_len_seq (by rfl) T.z_len PySem.boot_len (pa_cons (pv 1) pa_nil)))) pa_nil)))))))))), ?_⟩
    refine ⟨_, rfl, a, rfl, ⟨_, hs⟩, fun L hL => ?_⟩
    have el : (ns.map V.int).length = ns.length := List.length_map _
    refine lc_pre (walk_list (K := K) (a := a) (xs := ns.map V.int)) (ns.map V.int) rfl No (fun pre acc _ => ∃ p : Row, pre = p.map V.int ∧ acc = nums p) hL id (by rw [el]; exact Nat.lt_of_le_of_lt hl (by decide)) (fun H' g => hg H' g) (fun _ _ => ⟨[], rfl, rfl⟩) (fun pre x post acc v H1 H2 Kq N e _ g0 pd y kq kn => ?_) fun H1 acc _ g1 l1 pd => ?_
    · obtain ⟨rfl, hy⟩ := y
      have e2 := at_mid e hy
      subst e2
      obtain ⟨p, rfl, rfl⟩ := pd
      obtain ⟨z, _, rfl⟩ : ∃ z, z ∈ ns ∧ V.int z = v := by
        have hm : v ∈ ns.map V.int := by rw [e]; simp
        exact List.mem_map.mp hm
      refine ⟨rfl, ?_⟩
      refine ⟨_, rfl, ?_⟩
      exact kq _ _ (.num z) (Grow.refl _) (.num z) fun _ _ => ⟨p ++ [z], by rw [List.map_append]; rfl, (nums_snoc p z).symm⟩
    · obtain ⟨p, e, rfl⟩ := pd
      have i1 := l1.ints
      refine ⟨_, rfl, _, rfl, L, p, rfl, SqL.of i1, .inl ⟨_, rfl, _, _, rfl, rfl, (by decide : (0 : Int) < 1000003), ?_⟩⟩
      refine ⟨_, rfl, _, _, rfl, .inl (SqL.of i1), _, _, rfl, rfl, .inl ⟨by decide, by decide⟩, _, _, rfl, rfl, (by decide : 6 ≤ sizeLine), fun d hd => ?_⟩
      refine k _ d L (g1.trans (Grow.new hd)) ⟨p, 0, 0, 0, 0, _, ⟨upd_same, ?_⟩, by decide, by decide⟩ (g1.ex d hd)
      rw [upd_ne (ne_of_none i1 hd)]
      exact i1
end
end K81

namespace K81
open PySem PySem.Spec PyProof.Rows L2
section
variable {P : Program} {w : World} {K : PySem.W.Frag} {mg : Str → Option Value} {base : Heap}
/-- rows as data -/
abbrev rws (cs : List Row) : List D := cs.map rowD
theorem rws_snoc (cs : List Row) (c : Row) : rws (cs ++ [c]) = rws cs ++ [rowD c] := by
  unfold rws
  rw [List.map_append]
  rfl
theorem rws_len (cs : List Row) : (rws cs).length = cs.length := List.length_map _
theorem len_snoc {α : Type} (l : List α) (x : α) : (l ++ [x]).length = l.length + 1 := by simp
def HuntOk (n : Nat) (cs : List Row) : Prop := ∃ ini z, cs = ini ++ [z] ∧ Path n 0 ini 0 ∧ z ∈ leds n 0 ∧ (∀ x ∈ cs, x ∈ chgs n) ∧ cs.length ≤ 10
theorem all_snoc {α : Type} {p : α → Prop} {l : List α} {x : α} (h : ∀ y ∈ l, p y) (hx : p x) : ∀ y ∈ l ++ [x], p y := fun y hy => by
  rcases List.mem_append.mp hy with z | z
  · exact h y z
  · rw [List.mem_singleton.mp z]
    exact hx
def sp_law_hunting : Sp := fun vs H Q _ => ∃ d c, ∃ n : Nat, vs = [.ref d, .int n] ∧ Draw H d c ∧ Bells n ∧ ∀ H' cs L, Grow (On d) H H' → Draw H' d c → H L = none → Ls H' L (rws cs) → HuntOk n cs → Q (.ref L) H'
abbrev N_law_hunting : List Str := ["_law_draw_here", "_law_stage", "_law_plain", "_law_low"]
theorem sc_law_hunting : FnScope ["_law_draw_here", "_law_stage", "_law_plain", "_law_low"] ["_law_draw_here", "_law_stage"] (defScope s_law_hunting) := ⟨rfl, rfl, rfl, by decide +kernel, rfl, by decide +kernel, by decide +kernel⟩
theorem bd_law_hunting (T : Txt K mg) : Binds K (fdOf K a_law_hunting) ["_law_draw_here", "_law_stage"] [] := FunD.bindsN T.F_law_hunting fun _ _ _ _ _ _ us hl => match us, hl with | [_, _], _ => rfl
theorem ok_law_hunting (T : Txt K mg) : FnOk P w K mg base CX0 5 a_law_hunting (fdOf K a_law_hunting) ["_law_draw_here", "_law_stage"] (sp_law_hunting) := by
  refine ok0 T.F_law_hunting sc_law_hunting (fun vs H Q E h => ?_) (fun cdv A outer s H vs Q E hr h => ?_)
  · obtain ⟨d, c, n, rfl, hd, hn, k⟩ := h
    rfl
  · obtain ⟨d, c, n, rfl, hd, hn, k⟩ := h
    have hU := hr.units
    have hu := hu_of hr
    have h5 := bells_le hn
    have h3 := bells_pos hn
    refine ⟨_, (pss_cons (ps_setLc (i := 2) (own := [("_law_low", 3)])  rfl sc_law_hunting.nd rfl rfl (sw_true rfl rfl rfl (by decide +kernel)) (pi_range2 (by rfl) T.z_range (pa_cons pe_int (pa_cons (pv 1) pa_nil))) (blkOk_by (own := [("_law_low", 3)]) (N := N_law_hunting) (sc := defScope s_law_hunting) (by decide +kernel)) (fun _ _ _ _ _ => pg_name (i := 3) sc_law_hunting.nd rfl (Or.inl rfl)) (fun _ _ _ _ _ => pts_nil) (fun _ _ _ _ _ => (pe_call (ok_law_led_change T) (hr.mono (by decide)) (by rfl) T.g_law_led_change T.F_law_led_change.kp (bd_law_led_change T) .nil pass0 (pa_cons (pv 0) (pa_cons (pv 1) (pa_cons (pv 3) pa_nil))))))
      (pss_cons (ps_expr (pe_bm PySem.F.plainAttrs_list PySem.F.slot_list_append PySem.F.type_list_append mt_appK (pv 2) (pa_cons (pe_call (ok_law_kept_last T) (hr.mono (by decide)) (by rfl) T.g_law_kept_last T.F_law_kept_last.kp (bd_law_kept_last T) .nil pass0 (pa_cons (pv 0) (pa_cons (pv 1) pa_nil))) pa_nil)))
      (pss_cons (ps_for PassesOwn.never rfl (pi_range3 (by rfl) T.z_range (pa_cons (pe_op op_sub (pv 1) pe_int) (pa_cons pe_int (pa_cons (pe_un un_neg pe_int) pa_nil)))) (pg_name (i := 3) sc_law_hunting.nd rfl (Or.inl rfl)) (pss_one (ps_expr (pe_bm PySem.F.plainAttrs_list PySem.F.slot_list_append PySem.F.type_list_append mt_appK (pv 2) (pa_cons (pe_call (ok_law_led_change T) (hr.mono (by decide)) (by rfl) T.g_law_led_change T.F_law_led_change.kp (bd_law_led_change T) .nil pass0 (pa_cons (pv 0) (pa_cons (pv 1) (pa_cons (pv 3) pa_nil)))) pa_nil)))))
      (pss_cons (ps_expr (pe_bm PySem.F.plainAttrs_list PySem.F.slot_list_append PySem.F.type_list_append mt_appK (pv 2) (pa_cons (pe_call (ok_law_led_change T) (hr.mono (by decide)) (by rfl) T.g_law_led_change T.F_law_led_change.kp (bd_law_led_change T) .nil pass0 (pa_cons (pv 0) (pa_cons (pv 1) (pa_cons pe_int pa_nil)))) pa_nil)))
      (pss_one (ps_ret (pv 2))))))), ?_⟩
    refine ⟨_, rfl, _, _, rfl, ⟨by decide, by decide, by omega, by omega⟩, fun L hL => ?_⟩
    have n1 := hd.ne hL
    have n2 := hd.nc hL
    have en : ((n : Int) - 1).toNat = n - 1 := by omega
    rw [en]
    refine lc_pre (walk_range (lo := 1) (n := n - 1)) (List.range (n - 1)) List.length_range (On d) (fun pre acc H' => Draw H' d c ∧ ∃ cs, acc = rws cs ∧ (∀ x ∈ cs, x ∈ chgs n) ∧ cs.length = pre.length ∧ Path n 0 cs pre.length) hL (fun z => n1 z.symm) (szL (by omega)) (fun _ _ => trivial) (fun H' g => ⟨hd.growN g, [], rfl, (fun _ h => nomatch h), rfl, rfl⟩) (fun pre x post acc v H1 H2 Kq N e _ g0 pd y kq kn => ?_) fun H1 acc _ g1 l1 pd => ?_
    · obtain ⟨rfl, rfl⟩ := y
      obtain ⟨rfl, hlt⟩ := range_mid e
      obtain ⟨d1, cs, rfl, hall, hlen, hp⟩ := pd
      refine ⟨rfl, ?_⟩
      refine ⟨_, rfl, _, rfl, _, rfl, d, c, n, pre.length + 1, congrArg (fun z => [V.ref d, V.int n, V.int z]) (by omega : (1 + (pre.length : Int)) = ((pre.length + 1 : Nat) : Int)), d1, h5, by omega, fun H2 z v g2 d2 hz az => ?_⟩
      exact kq _ _ (rowD z) g2 az fun H3 g3 => ⟨d2.at g3 n1 n2, cs ++ [z], (rws_snoc cs z).symm, all_snoc hall (led_chg hn (by omega) hz), by rw [len_snoc, len_snoc, hlen], by rw [len_snoc]; exact hp.snoc (led_up hn (Nat.succ_pos _) (by omega) hz)⟩
    obtain ⟨d1, ups, rfl, hall, hlen, hp⟩ := pd
    rw [List.length_range] at hlen hp
    -- kept_last
    refine ⟨_, rfl, tyL l1, _, rfl, _, rfl, d, c, n, rfl, d1, hn, fun H2 x v g2 d2 hx hst ax => ?_⟩
    refine ⟨L, _, _, _, rfl, rfl, l1.keep g2 n1, ax, szL (by rw [rws_len]; omega), fun H3 g3 l3 => ?_⟩
    rw [← rws_snoc] at l3
    have G3 : Grow (On d) H H3 := (g1.trans g2).loc g3 hL
    have d3 := d2.at g3 n1 n2
    have A3 := all_snoc hall hx
    have P3 := hp.snoc hst
    have len3 : (ups ++ [x]).length = n := by rw [len_snoc, hlen]; omega
    generalize ups ++ [x] = cs3 at l3 A3 P3 len3
    -- down
    refine ⟨_, rfl, _, _, rfl, rfl, _, rfl, (n : Int) - 1, 0, -1, _, rfl, RgC.neg (by omega) (by omega) (by omega) (by omega), ?_⟩
    have en2 : ((n : Int) - 1 - 0).toNat = n - 1 := by omega
    rw [en2]
    refine for_rangeC (fun i σ H' => Grow (On d) H H' ∧ Draw H' d c ∧ ∃ cs t, σ = [some (.ref d), some (.int n), some (.ref L), t] ∧ Ls H' L (rws cs) ∧ (∀ x ∈ cs, x ∈ chgs n) ∧ cs.length = n + i ∧ Path n 0 cs (n - 1 - i)) ⟨G3, d3, cs3, none, rfl, l3, A3, len3, P3⟩ (fun i σ H' hi p => ?_) fun σ H' p => ?_
    · obtain ⟨g, dd, cs, t, rfl, l, al, ln, pp⟩ := p
      refine ⟨_, rfl, tyL l, _, rfl, _, rfl, _, rfl, d, c, n, n - 1 - i, congrArg (fun z => [V.ref d, V.int n, V.int z]) (by omega : ((n : Int) - 1 + (i : Nat) * -1) = ((n - 1 - i : Nat) : Int)), dd, h5, by omega, fun H4 z v g4 d4 hz az => ?_⟩
      refine ⟨L, _, _, _, rfl, rfl, l.keep g4 n1, az, szL (by rw [rws_len]; omega), fun H5 g5 l5 => ?_⟩
      rw [← rws_snoc] at l5
      exact ⟨(g.trans g4).loc g5 hL, d4.at g5 n1 n2, cs ++ [z], _, rfl, l5, all_snoc al (led_chg hn (by omega) hz), by rw [len_snoc, ln]; omega, pp.snoc (by rw [show n - 1 - (i + 1) = n - 1 - i - 1 by omega]; exact led_down hn (by omega) (by omega) hz)⟩
    · obtain ⟨g, dd, cs, t, rfl, l, al, ln, pp⟩ := p
      have e0 : n - 1 - (n - 1) = 0 := by omega
      rw [e0] at pp
      refine ⟨_, rfl, tyL l, _, rfl, _, rfl, d, c, n, 0, rfl, dd, h5, by omega, fun H4 z v g4 d4 hz az => ?_⟩
      refine ⟨L, _, _, _, rfl, rfl, l.keep g4 n1, az, szL (by rw [rws_len]; omega), fun H5 g5 l5 => ?_⟩
      rw [← rws_snoc] at l5
      refine ⟨_, rfl, ?_⟩
      exact k H5 (cs ++ [z]) L ((g.trans g4).loc g5 hL) (d4.at g5 n1 n2) hL l5 ⟨cs, z, rfl, pp, hz, all_snoc al (led_chg hn (by omega) hz), by rw [len_snoc, ln]; omega⟩
/-- a call, a world as data -/
def callD (k : Cal) : D := .tup [.text (sg k.c), .num (k.at_ : Nat), .tup (rws k.many)]
def worldD (W : Wd) : D := .tup [.num (W.n : Nat), .tup (rws W.plain), .tup (W.calls.map callD)]
theorem six {z : Int} (h0 : 0 ≤ z) (h1 : z < 6 ∨ z = 0) {q : Int → Bool} (h : (q 0 && q 1 && q 2 && q 3 && q 4 && q 5) = true) : q z = true := by
  simp only [Bool.and_eq_true] at h
  have : z = 0 ∨ z = 1 ∨ z = 2 ∨ z = 3 ∨ z = 4 ∨ z = 5 := by omega
  rcases this with rfl | rfl | rfl | rfl | rfl | rfl
  · exact h.1.1.1.1.1
  · exact h.1.1.1.1.2
  · exact h.1.1.1.2
  · exact h.1.1.2
  · exact h.1.2
  · exact h.2
/-- the stage of a kind -/
def stg (z : Int) : Nat := [4, 4, 3, 4, 5, 4].getD z.toNat 0
theorem stg_ok {z : Int} (h0 : 0 ≤ z) (h1 : z < 6 ∨ z = 0) : Bells (stg z) ∧ (stg z = 5 → z ∈ ([0, 4, 5] : Row)) ∧ ([4, 4, 3, 4, 5, 4] : Row)[z.toNat]? = some (stg z : Int) ∧ z.toNat < 6 := by
  have : z = 0 ∨ z = 1 ∨ z = 2 ∨ z = 3 ∨ z = 4 ∨ z = 5 := by omega
  rcases this with rfl | rfl | rfl | rfl | rfl | rfl <;> exact ⟨by unfold Bells; decide, by decide, by decide, by decide⟩
def cnt (z : Int) : Nat := [1, 2, 1, 0, 2, 3].getD z.toNat 0
theorem cnt_ok {z : Int} (h0 : 0 ≤ z) (h1 : z < 6 ∨ z = 0) : cnt z ≤ 3 ∧ ([1, 2, 1, 0, 2, 3] : Row)[z.toNat]? = some (cnt z : Int) ∧ z.toNat < 6 := by
  have : z = 0 ∨ z = 1 ∨ z = 2 ∨ z = 3 ∨ z = 4 ∨ z = 5 := by omega
  rcases this with rfl | rfl | rfl | rfl | rfl | rfl <;> exact ⟨by decide, by decide, by decide⟩
theorem COk.mk' {n : Nat} {cs : List Row} {ks ks' : List Cal} {k : Cal} (h : COk ⟨n, cs, ks⟩ k) : COk ⟨n, cs, ks'⟩ k := ⟨h.al, h.many, h.ne, h.fit, h.trb⟩
theorem hunt_splice {n : Nat} {cs : List Row} (h : HuntOk n cs) (b : Bells n) {c : Nat} {x : Row} (hx : x ∈ leds n 0) : Path n 0 (splice cs ⟨c, cs.length - 1, [x]⟩) 0 := by
  obtain ⟨ini, z, rfl, p, _, _, _⟩ := h
  unfold splice
  rw [len_snoc]
  have e : ini.length + 1 - 1 = ini.length := by omega
  show Path n 0 (List.take (ini.length + 1 - 1) (ini ++ [z]) ++ ([x] ++ List.drop (ini.length + 1 - 1 + 1) (ini ++ [z]))) 0
  rw [e, List.take_left, List.drop_of_length_le (by simp), List.append_nil]
  exact p.snoc (led_zero b hx)
def sp_law_world : Sp := fun vs H Q _ => ∃ d c, vs = [.ref d, .int 1] ∧ Draw H d c ∧ ∀ H' W v, Grow (On d) H H' → Draw H' d c → WOk W → At H' (worldD W) v → Q v H'
abbrev N_law_world : List Str := ["_law_draw_here", "_law_least", "_law_kind", "_law_stage", "_law_hunts", "_law_plain", "_law_calls", "_law_used", "_law_turn", "_law_letter_here", "_law_many", "_law_at", "_law_k"]
theorem sc_law_world : FnScope ["_law_draw_here", "_law_least", "_law_kind", "_law_stage", "_law_hunts", "_law_plain", "_law_calls", "_law_used", "_law_turn", "_law_letter_here", "_law_many", "_law_at", "_law_k"] ["_law_draw_here", "_law_least"] (defScope s_law_world) := ⟨rfl, rfl, rfl, by decide +kernel, rfl, by decide +kernel, by decide +kernel⟩
theorem bd_law_world (T : Txt K mg) : Binds K (fdOf K a_law_world) ["_law_draw_here", "_law_least"] [] := FunD.bindsN T.F_law_world fun _ _ _ _ _ _ us hl => match us, hl with | [_, _], _ => rfl
theorem ok_law_world (T : Txt K mg) : FnOk P w K mg base CX0 6 a_law_world (fdOf K a_law_world) ["_law_draw_here", "_law_least"] (sp_law_world) := by
  refine ok0 T.F_law_world sc_law_world (fun vs H Q E h => ?_) (fun cdv A outer s H vs Q E hr h => ?_)
  · obtain ⟨d, c, rfl, hd, k⟩ := h
    rfl
  · obtain ⟨d, c, rfl, hd, k⟩ := h
    have hU := hr.units
    have hu := hu_of hr
    refine ⟨_, (pss_cons (ps_set (i := 2) sc_law_world.nd rfl (Or.inl rfl) (pe_call (ok_law_pick T) (hr.mono (by decide)) (by rfl) T.g_law_pick T.F_law_pick.kp (bd_law_pick T) .nil pass0 (pa_cons (pv 0) (pa_cons pe_int pa_nil))))
      (pss_cons (ps_set (i := 3) sc_law_world.nd rfl (Or.inr rfl) (pe_ix ix_lstK (pe_lst (pa_cons pe_int (pa_cons pe_int (pa_cons pe_int (pa_cons pe_int (pa_cons pe_int (pa_cons pe_int pa_nil))))))) (pv 2) (fun _ _ => rfl)))
      (pss_cons (ps_set (i := 4) sc_law_world.nd rfl (Or.inl rfl) (pe_cmpR (op_inI hU) (pv 2) (pe_tup (pa_cons pe_int (pa_cons pe_int (pa_cons pe_int pa_nil)))) (by rfl)))
      (C8.pss_cut (ps_if (pt_val (pv 4)) (pss_one (ps_set (i := 5) sc_law_world.nd rfl (Or.inl rfl) (pe_call (ok_law_hunting T) (hr.mono (by decide)) (by rfl) T.g_law_hunting T.F_law_hunting.kp (bd_law_hunting T) .nil pass0 (pa_cons (pv 0) (pa_cons (pv 3) pa_nil))))) (pss_one (ps_setLc (i := 5) (own := [("_law_turn", 8)])  rfl sc_law_world.nd rfl rfl (sw_true rfl rfl rfl (by decide +kernel)) (pi_range1 (by rfl) T.z_range (pa_cons (pe_op op_add pe_int (pe_call (ok_law_pick T) (hr.mono (by decide)) (by rfl) T.g_law_pick T.F_law_pick.kp (bd_law_pick T) .nil pass0 (pa_cons (pv 0) (pa_cons pe_int pa_nil)))) pa_nil)) (blkOk_by (own := [("_law_turn", 8)]) (N := N_law_world) (sc := defScope s_law_world) (by decide +kernel)) (fun _ _ _ _ _ => pg_name (i := 8) sc_law_world.nd rfl (Or.inl rfl)) (fun _ _ _ _ _ => pts_nil) (fun _ _ _ _ _ => (pe_call (ok_law_change T) (hr.mono (by decide)) (by rfl) T.g_law_change T.F_law_change.kp (bd_law_change T) .nil pass0 (pa_cons (pv 0) (pa_cons (pv 3) pa_nil)))))))
      (pss_cons (ps_set (i := 6) sc_law_world.nd rfl (Or.inl rfl) (pe_lst pa_nil))
      (pss_cons (ps_set (i := 7) sc_law_world.nd rfl (Or.inl rfl) pe_str)
      (pss_cons (ps_for PassesOwn.never rfl (pi_range1 (by rfl) T.z_range (pa_cons (pe_callB (call_max2 rfl) (by rfl) T.z_max (by decide +kernel) (pa_cons (pv 1) (pa_cons (pe_ix ix_lstK (pe_lst (pa_cons pe_int (pa_cons pe_int (pa_cons pe_int (pa_cons pe_int (pa_cons pe_int (pa_cons pe_int pa_nil))))))) (pe_call (ok_law_pick T) (hr.mono (by decide)) (by rfl) T.g_law_pick T.F_law_pick.kp (bd_law_pick T) .nil pass0 (pa_cons (pv 0) (pa_cons pe_int pa_nil))) (fun _ _ => rfl)) pa_nil))) pa_nil)) (pg_name (i := 8) sc_law_world.nd rfl (Or.inl rfl)) (pss_cons (ps_set (i := 9) sc_law_world.nd rfl (Or.inl rfl) (pe_call (ok_law_letter T) (hr.mono (by decide)) (by rfl) T.g_law_letter T.F_law_letter.kp (bd_law_letter T) .nil pass0 (pa_cons (pv 0) (pa_cons (pv 7) pa_nil))))
      (pss_cons (ps_set (i := 7) sc_law_world.nd rfl (Or.inl rfl) (pe_op op_add_str (pv 7) (pv 9)))
      (pss_one (ps_if (pt_val (pv 4)) (pss_one (ps_expr (pe_bm PySem.F.plainAttrs_list PySem.F.slot_list_append PySem.F.type_list_append mt_appK (pv 6) (pa_cons (pe_tup (pa_cons (pv 9) (pa_cons (pe_op op_sub (pe_callB call_lenK (by rfl) T.z_len PySem.boot_len (pa_cons (pv 5) pa_nil)) pe_int) (pa_cons (pe_tup (pa_cons (pe_call (ok_law_led_change T) (hr.mono (by decide)) (by rfl) T.g_law_led_change T.F_law_led_change.kp (bd_law_led_change T) .nil pass0 (pa_cons (pv 0) (pa_cons (pv 3) (pa_cons pe_int pa_nil)))) pa_nil)) pa_nil)))) pa_nil)))) (pss_cons (ps_set (i := 10) sc_law_world.nd rfl (Or.inl rfl) (pe_op op_add pe_int (pe_call (ok_law_pick T) (hr.mono (by decide)) (by rfl) T.g_law_pick T.F_law_pick.kp (bd_law_pick T) .nil pass0 (pa_cons (pv 0) (pa_cons (pe_callB call_lenK (by rfl) T.z_len PySem.boot_len (pa_cons (pv 5) pa_nil)) pa_nil)))))
      (pss_cons (ps_set (i := 11) sc_law_world.nd rfl (Or.inl rfl) (pe_call (ok_law_pick T) (hr.mono (by decide)) (by rfl) T.g_law_pick T.F_law_pick.kp (bd_law_pick T) .nil pass0 (pa_cons (pv 0) (pa_cons (pe_op op_add (pe_op op_sub (pe_callB call_lenK (by rfl) T.z_len PySem.boot_len (pa_cons (pv 5) pa_nil)) (pv 10)) pe_int) pa_nil))))
      (pss_one (ps_expr (pe_bm PySem.F.plainAttrs_list PySem.F.slot_list_append PySem.F.type_list_append mt_appK (pv 6) (pa_cons (pe_tup (pa_cons (pv 9) (pa_cons (pv 11) (pa_cons (pe_callTy call_tupK (by rfl) T.z_tuple (by decide +kernel) (pa_cons (pe_lc (own := [("_law_k", 12)])  rfl sc_law_world.nd (pi_range1 (by rfl) T.z_range (pa_cons (pv 10) pa_nil)) (blkOk_by (own := [("_law_k", 12)]) (N := N_law_world) (sc := defScope s_law_world) (by decide +kernel)) (fun _ _ _ _ _ => pg_name (i := 12) sc_law_world.nd rfl (Or.inl rfl)) (fun _ _ _ _ _ => pts_nil) (fun _ _ _ _ _ => (pe_call (ok_law_change T) (hr.mono (by decide)) (by rfl) T.g_law_change T.F_law_change.kp (bd_law_change T) .nil pass0 (pa_cons (pv 0) (pa_cons (pv 3) pa_nil))))) pa_nil)) pa_nil)))) pa_nil)))))))))))
      (pss_one (ps_ret (pe_tup (pa_cons (pv 3) (pa_cons (pe_callTy call_tupK (by rfl) T.z_tuple (by decide +kernel) (pa_cons (pv 5) pa_nil)) (pa_cons (pe_callTy call_tupK (by rfl) T.z_tuple (by decide +kernel) (pa_cons (pv 6) pa_nil)) pa_nil))))))))))))), ?_⟩
    refine ⟨_, rfl, d, c, 6, rfl, hd, by decide, by decide, fun H1 z g1 d1 z0 z1 => ?_⟩
    obtain ⟨hb, h5, hst, hz6⟩ := stg_ok z0 z1
    generalize stg z = n at hb h5 hst
    have hn5 := bells_le hb
    refine ⟨(by decide : 6 ≤ sizeLine), fun p hp => ?_⟩
    refine ⟨_, rfl, p, nums [4, 4, 3, 4, 5, 4], z, z.toNat, .num n, rfl, Ls.new (ats_nums [4, 4, 3, 4, 5, 4]) hp, rfl, ⟨hz6, .inl (by omega)⟩, by unfold nums; rw [List.getElem?_map, hst]; rfl, fun v av => ?_⟩
    rw [av.int_]
    have g2 : Grow (On d) H (upd H1 p (.lst [.int 4, .int 4, .int 3, .int 4, .int 5, .int 4])) := g1.then (Grow.new hp)
    have d2 : Draw (upd H1 p (.lst [.int 4, .int 4, .int 3, .int 4, .int 5, .int 4])) d c := d1.growN (Grow.new hp)
    generalize upd H1 p (.lst [.int 4, .int 4, .int 3, .int 4, .int 5, .int 4]) = H2 at g2 d2
    refine ⟨_, rfl, (by decide : 3 ≤ sizeLine), fun q hq => ?_⟩
    refine ⟨z, [0, 4, 5], rfl, at_row upd_same, ?_⟩
    have g3 : Grow (On d) H (upd H2 q (.tup [.int 0, .int 4, .int 5])) := g2.then (Grow.new hq)
    have d3 : Draw (upd H2 q (.tup [.int 0, .int 4, .int 5])) d c := d2.growN (Grow.new hq)
    generalize upd H2 q (.tup [.int 0, .int 4, .int 5]) = H3 at g3 d3
    have hh : n = 5 → decide (z ∈ ([0, 4, 5] : Row)) = true := fun e => dT (h5 e)
    generalize decide (z ∈ ([0, 4, 5] : Row)) = hu4 at hh
    refine ⟨fun σ' H' => ∃ Lp cs, σ' = [some (.ref d), some (.int 1), some (.int z), some (.int n), some (.bl hu4), some (.ref Lp), none, none, none, none, none, none, none] ∧ Grow (On d) H H' ∧ Draw H' d c ∧ H Lp = none ∧ Ls H' Lp (rws cs) ∧ (hu4 = true → HuntOk n cs) ∧ (∀ x ∈ cs, x ∈ chgs n) ∧ cs ≠ [] ∧ cs.length ≤ 10, ?_, ?_⟩
    · refine ⟨_, rfl, _, rfl, ?_⟩
      cases hu4 with
      | true =>
        refine iteT ?_
        refine ⟨_, rfl, _, rfl, d, c, n, rfl, d3, hb, fun H4 cs L g4 d4 hL l4 ho => ?_⟩
        obtain ⟨ini, y, e1, e2, e3, e4, e5⟩ := id ho
        exact ⟨L, cs, rfl, g3.trans g4, d4, g3.ex _ hL, l4, fun _ => ho, e4, by rw [e1]; simp, e5⟩
      | false =>
        refine iteF ?_
        refine ⟨_, rfl, d, c, 5, rfl, d3, by decide, by decide, fun H4 y g4 d4 y0 y1 => ?_⟩
        refine ⟨_, _, rfl, rfl, _, rfl, by omega, by omega, fun L hL => ?_⟩
        have G4 := g3.trans g4
        have hL0 := G4.ex _ hL
        have n1 := d4.ne hL
        have n2 := d4.nc hL
        refine lc_pre (walk_range (lo := 0) (n := (1 + y).toNat)) (List.range (1 + y).toNat) List.length_range (On d) (fun pre acc H' => Draw H' d c ∧ ∃ cs, acc = rws cs ∧ (∀ x ∈ cs, x ∈ chgs n) ∧ cs.length = pre.length) hL (fun z => n1 z.symm) (szL (by omega)) (fun _ _ => trivial) (fun H' g => ⟨d4.growN g, [], rfl, (fun _ h => nomatch h), rfl⟩) (fun pre x post acc v H1 H2 Kq N e _ g0 pd y kq kn => ?_) fun H5 acc _ g5 l5 pd => ?_
        · obtain ⟨rfl, rfl⟩ := y
          obtain ⟨dd, cs, rfl, hall, hlen⟩ := pd
          refine ⟨rfl, ?_⟩
          refine ⟨_, rfl, _, rfl, d, c, n, rfl, dd, hb, fun H6 x v g6 d6 hx ax => ?_⟩
          exact kq _ _ (rowD x) g6 ax fun H7 g7 => ⟨d6.at g7 n1 n2, cs ++ [x], (rws_snoc cs x).symm, all_snoc hall hx, by rw [len_snoc, len_snoc, hlen]⟩
        · obtain ⟨dd, cs, rfl, hall, hlen⟩ := pd
          rw [List.length_range] at hlen
          exact ⟨L, cs, rfl, G4.trans g5, dd, hL0, l5, (fun z => by cases z), hall, (fun z => by rw [z] at hlen; simp at hlen; omega), by omega⟩
    · rintro σ' H4 ⟨Lp, cs, rfl, g4, d4, hLp, l4, hho, hall, hne, hlen⟩
      refine ⟨Nat.zero_le _, fun Lc hLc => ?_⟩
      have c0 : Lp ≠ Lc := l4.ne hLc
      have n1 := d4.ne hLc
      have n2 := d4.nc hLc
      have m1 : d ≠ Lp := hd.ne hLp
      have m2 : c ≠ Lp := hd.nc hLp
      have hLc0 : H Lc = none := g4.ex _ hLc
      have g5 : Grow (On d) H (upd H4 Lc (.lst [])) := g4.then (Grow.new hLc)
      have d5 : Draw (upd H4 Lc (.lst [])) d c := d4.growN (Grow.new hLc)
      have l5 : Ls (upd H4 Lc (.lst [])) Lp (rws cs) := l4.growN (Grow.new hLc)
      have k5 : Ls (upd H4 Lc (.lst [])) Lc (([] : List Cal).map callD) := Ls.new .nil hLc
      generalize upd H4 Lc (.lst []) = H5 at g5 d5 l5 k5
      -- how many
      refine ⟨_, rfl, (by decide : 6 ≤ sizeLine), fun p hp => ?_⟩
      have g6 : Grow (On d) H (upd H5 p (.lst [.int 1, .int 2, .int 1, .int 0, .int 2, .int 3])) := g5.then (Grow.new hp)
      have d6 : Draw (upd H5 p (.lst [.int 1, .int 2, .int 1, .int 0, .int 2, .int 3])) d c := d5.growN (Grow.new hp)
      have l6 : Ls (upd H5 p (.lst [.int 1, .int 2, .int 1, .int 0, .int 2, .int 3])) Lp (rws cs) := l5.growN (Grow.new hp)
      have k6 : Ls (upd H5 p (.lst [.int 1, .int 2, .int 1, .int 0, .int 2, .int 3])) Lc (([] : List Cal).map callD) := k5.growN (Grow.new hp)
      have q6 : Ls (upd H5 p (.lst [.int 1, .int 2, .int 1, .int 0, .int 2, .int 3])) p (nums [1, 2, 1, 0, 2, 3]) := Ls.new (ats_nums [1, 2, 1, 0, 2, 3]) hp
      have n3 : d ≠ p := d5.ne hp
      generalize upd H5 p (.lst [.int 1, .int 2, .int 1, .int 0, .int 2, .int 3]) = H6 at g6 d6 l6 k6 q6
      refine ⟨_, rfl, d, c, 6, rfl, d6, by decide, by decide, fun H7 y g7 d7 y0 y1 => ?_⟩
      obtain ⟨hc3, hct, hy6⟩ := cnt_ok y0 y1
      have l7 := l6.keep g7 m1
      have k7 := k6.keep g7 n1
      refine ⟨p, nums [1, 2, 1, 0, 2, 3], y, y.toNat, .num (cnt y), rfl, q6.keep g7 n3, rfl, ⟨hy6, .inl (by omega)⟩, by unfold nums; rw [List.getElem?_map, hct]; rfl, fun v av => ?_⟩
      rw [av.int_]
      generalize cnt y = ct at hc3
      obtain ⟨m, hm3, hm⟩ : ∃ m : Nat, m ≤ 3 ∧ (if ((ct : Nat) : Int) > 1 then ((ct : Nat) : Int) else 1) = (m : Int) := by
        by_cases h : ((ct : Nat) : Int) > 1
        · exact ⟨ct, hc3, by rw [if_pos h]⟩
        · exact ⟨1, by decide, by rw [if_neg h]; rfl⟩
      refine ⟨_, _, rfl, ?_⟩
      rw [hm]
      refine ⟨_, rfl, by omega, by omega, ?_⟩
      rw [Int.toNat_natCast]
      refine for_range (fun i σ H' => Grow (On d) H H' ∧ Draw H' d c ∧ Ls H' Lp (rws cs) ∧ ∃ (ks : List Cal) (x8 x9 x10 x11 : Option V), σ = [some (.ref d), some (.int 1), some (.int z), some (.int n), some (.bl hu4), some (.ref Lp), some (.ref Lc), some (.str (tx (ks.map Cal.c))), x8, x9, x10, x11, none] ∧ Ls H' Lc (ks.map callD) ∧ (∀ k ∈ ks, COk ⟨n, cs, []⟩ k) ∧ (ks.map Cal.c).Nodup ∧ ks.length = i) ⟨g6.trans g7, d7, l7, [], none, none, none, none, by rw [tx_nil]; rfl, k7, (fun _ h => nomatch h), List.nodup_nil, rfl⟩ (fun i σ H' hi p => ?_) fun σ H' p => ?_
      · obtain ⟨g, dd, lp, ks, x8, x9, x10, x11, rfl, lc, hall2, hnd, hki⟩ := p
        have fin : ∀ (H8 H9 : Hp) (q : Cal) (v9 : V), Grow (On d) H H8 → Draw H8 d c → Ls H8 Lp (rws cs) → Grow (On Lc) H8 H9 → Ls H9 Lc (ks.map callD ++ [callD q]) → COk ⟨n, cs, []⟩ q → q.c ∉ ks.map Cal.c → ∀ σ9 : L2.St, (∃ y8 y9 y10 y11, σ9 = [some (.ref d), some (.int 1), some (.int z), some (.int n), some (.bl hu4), some (.ref Lp), some (.ref Lc), some (.str (tx (ks.map Cal.c) ++ sg q.c)), y8, y9, y10, y11, none]) →
            (Grow (On d) H H9 ∧ Draw H9 d c ∧ Ls H9 Lp (rws cs) ∧ ∃ (ks : List Cal) (x8 x9 x10 x11 : Option V), σ9 = [some (.ref d), some (.int 1), some (.int z), some (.int n), some (.bl hu4), some (.ref Lp), some (.ref Lc), some (.str (tx (ks.map Cal.c))), x8, x9, x10, x11, none] ∧ Ls H9 Lc (ks.map callD) ∧ (∀ k ∈ ks, COk ⟨n, cs, []⟩ k) ∧ (ks.map Cal.c).Nodup ∧ ks.length = i + 1) := by
          intro H8 H9 q v9 G8 D8 L8 G9 L9 hq hq2 σ9 hσ
          obtain ⟨y8, y9, y10, y11, rfl⟩ := hσ
          refine ⟨G8.loc G9 hLc0, D8.at G9 n1 n2, L8.keep G9 c0.symm, ks ++ [q], y8, y9, y10, y11, ?_, ?_, all_snoc hall2 hq, ?_, by rw [len_snoc, hki]⟩
          · rw [tx_sg, List.map_append]
            rfl
          · rw [List.map_append]
            exact L9
          · rw [List.map_append, List.nodup_append]
            refine ⟨hnd, by simp, fun a ha b hb => ?_⟩
            have : b = q.c := by simpa using hb
            rw [this]
            exact fun z => hq2 (z ▸ ha)
        have hks : (ks.map Cal.c).length ≤ 20 := by rw [List.length_map]; omega
        refine ⟨_, rfl, _, rfl, d, c, _, rfl, dd, hks, fun H8 x g8 d8 hx hxu => ?_⟩
        refine ⟨_, rfl, _, rfl, _, _, rfl, rfl, ?_, ?_⟩
        · rw [tx_len]
          exact Nat.le_trans (Nat.add_le_add hks (Nat.le_refl 1)) (by decide)
        have l8 := lp.keep g8 m1
        have k8 := lc.keep g8 n1
        have G8 := g.trans g8
        refine ⟨_, rfl, _, rfl, ?_⟩
        cases hu4 with
        | true =>
          refine iteT ?_
          refine ⟨_, rfl, tyL k8, ?_⟩
          refine ⟨_, rfl, _, rfl, .ref Lp, _, rfl, .inr ⟨Lp, rfl, l8⟩, _, _, rfl, rfl, ?_⟩
          refine ⟨_, rfl, _, rfl, d, c, n, 0, rfl, d8, hn5, by have := bells_pos hb; omega, fun H9 r v g9 d9 hr9 a9 => ?_⟩
          refine ⟨(by decide : 1 ≤ sizeLine), fun p1 hp1 => ⟨(by decide : 3 ≤ sizeLine), fun p2 hp2 => ?_⟩⟩
          have e1 : ((rws cs).length : Int) - 1 = ((cs.length - 1 : Nat) : Int) := by
            have hcl := List.length_pos_iff.mpr hne
            rw [rws_len]
            omega
          have t1 := tup_new (.cons a9 .nil) hp1
          have t2 := tup_new (.cons (.text (sg x)) (.cons (.num ((rws cs).length - 1 : Int)) (.cons t1 .nil))) hp2
          have gg : Grow No H9 (upd (upd H9 p1 (.tup [v])) p2 (.tup [.str (sg x), .int (((rws cs).length : Int) - 1), .ref p1])) := (Grow.new hp1).trans (Grow.new hp2)
          refine ⟨Lc, _, _, _, rfl, rfl, (k8.keep g9 n1).growN gg, t2, szL (by rw [List.length_map]; omega), fun H10 g10 l10 => ?_⟩
          rw [e1] at l10
          refine fin _ _ ⟨x, cs.length - 1, [r]⟩ v ((G8.trans g9).then gg) (d9.growN gg) ((l8.keep g9 m1).growN gg) g10 l10 ⟨hx, fun y hy => ?_, by simp, ?_, fun h => ?_⟩ hxu _ ⟨_, _, _, _, rfl⟩
          · rw [List.mem_singleton.mp hy]
            show r ∈ chgs n
            exact led_chg (low := 0) hb (by have := bells_pos hb; omega) hr9
          · have hcl := List.length_pos_iff.mpr hne
            show cs.length - 1 + 1 ≤ cs.length
            omega
          · have h : n = 5 := h
            subst h
            exact hunt_splice (hho rfl) hb hr9
        | false =>
          refine iteF ?_
          have hcl := List.length_pos_iff.mpr hne
          refine ⟨_, rfl, _, rfl, .ref Lp, _, rfl, .inr ⟨Lp, rfl, l8⟩, d, c, _, rfl, d8, by omega, by rw [rws_len]; omega, fun H9 m9 g9 d9 p0 p1 => ?_⟩
          rw [rws_len] at p1
          have l9 := l8.keep g9 m1
          have k9 := k8.keep g9 n1
          refine ⟨_, _, rfl, rfl, ?_⟩
          refine ⟨_, rfl, _, rfl, .ref Lp, _, rfl, .inr ⟨Lp, rfl, l9⟩, _, rfl, _, _, rfl, rfl, _, _, rfl, rfl, d, c, _, rfl, d9, by rw [rws_len]; omega, by rw [rws_len]; omega, fun H10 a10 g10 d10 q0 q1 => ?_⟩
          rw [rws_len] at q1
          have l10 := l9.keep g10 m1
          have k10 := k9.keep g10 n1
          refine ⟨_, rfl, tyL k10, _, rfl, _, rfl, ?_⟩
          refine ⟨_, rfl, _, rfl, by omega, by omega, fun L hL => ?_⟩
          have o1 := d10.ne hL
          have o2 := d10.nc hL
          refine lc_pre (walk_range (lo := 0) (n := (1 + m9).toNat)) (List.range (1 + m9).toNat) List.length_range (On d) (fun pre acc H' => Draw H' d c ∧ ∃ cs, acc = rws cs ∧ (∀ x ∈ cs, x ∈ chgs n) ∧ cs.length = pre.length) hL (fun z => o1 z.symm) (szL (by omega)) (fun _ _ => trivial) (fun H' g => ⟨d10.growN g, [], rfl, (fun _ h => nomatch h), rfl⟩) (fun pre x post acc v H1 H2 Kq N e _ g0 pd y kq kn => ?_) fun H11 acc _ g11 l11 pd => ?_
          · obtain ⟨rfl, rfl⟩ := y
            obtain ⟨dd, cs, rfl, hall, hlen⟩ := pd
            refine ⟨rfl, ?_⟩
            refine ⟨_, rfl, _, rfl, d, c, n, rfl, dd, hb, fun H6 x v g6 d6 hx ax => ?_⟩
            exact kq _ _ (rowD x) g6 ax fun H7 g7 => ⟨d6.at g7 o1 o2, cs ++ [x], (rws_snoc cs x).symm, all_snoc hall hx, by rw [len_snoc, len_snoc, hlen]⟩
          · obtain ⟨d11, mm, rfl, hmall, hmlen⟩ := pd
            rw [List.length_range] at hmlen
            refine ⟨L, _, rfl, l11, fun H12 v12 g12 a12 => ?_⟩
            refine ⟨(by decide : 3 ≤ sizeLine), fun p2 hp2 => ?_⟩
            have t2 := tup_new (.cons (.text (sg x)) (.cons (.num a10) (.cons a12 .nil))) hp2
            have gg : Grow No H11 (upd H12 p2 (.tup [.str (sg x), .int a10, v12])) := g12.trans (Grow.new hp2)
            have ea : a10 = ((a10.toNat : Nat) : Int) := by omega
            refine ⟨Lc, _, _, _, rfl, rfl, (k10.keep g11 n1).growN gg, t2, szL (by rw [List.length_map]; omega), fun H13 g13 l13 => ?_⟩
            rw [ea] at l13
            refine fin _ _ ⟨x, a10.toNat, mm⟩ v12 ((((G8.trans g9).trans g10).trans g11).then gg) (d11.growN gg) ((l10.keep g11 m1).growN gg) g13 l13 ⟨hx, hmall, fun z => ?_, ?_, fun h => ?_⟩ hxu _ ⟨_, _, _, _, rfl⟩
            · have z : mm = [] := z
              rw [z] at hmlen
              simp at hmlen
              omega
            · show a10.toNat + mm.length ≤ cs.length
              omega
            · exact absurd (hh h) (by decide)
      · obtain ⟨g, dd, lp, ks, x8, x9, x10, x11, rfl, lc, hall2, hnd, hki⟩ := p
        refine ⟨_, rfl, _, rfl, Lp, _, rfl, lp, fun H8 v8 g8 a8 => ?_⟩
        refine ⟨_, rfl, Lc, _, rfl, lc.growN g8, fun H9 v9 g9 a9 => ?_⟩
        refine ⟨(by decide : 3 ≤ sizeLine), fun p2 hp2 => ?_⟩
        have gg : Grow No H' (upd H9 p2 (.tup [.int n, v8, v9])) := (g8.trans g9).trans (Grow.new hp2)
        refine k _ ⟨n, cs, ks⟩ _ (g.then gg) (dd.growN gg) ⟨hb, hall, hne, hlen, fun q hq => (hall2 q hq).mk', hnd, by show ks.length ≤ 3; omega, fun h => ?_⟩ (tup_new (.cons (.num n) (.cons (g9.at a8) (.cons a9 .nil))) hp2)
        have h : n = 5 := h
        subst h
        obtain ⟨ini, y, rfl, e2, e3, _⟩ := hho (hh rfl)
        exact e2.snoc (led_zero hb e3)
end
end K81

namespace K81
open PySem PySem.Spec PyProof.Rows L2
section
variable {P : Program} {w : World} {K : PySem.W.Frag} {mg : Str → Option Value} {base : Heap}
/-- the letters, rising -/
def Lts (W : Wd) (ls : List Nat) : Prop := ls.Perm (112 :: W.calls.map Cal.c) ∧ ls.Pairwise (· ≤ ·)
theorem p_alpha : (112 : Nat) ∉ alpha := by decide
theorem lts_nodup {W : Wd} (ok : WOk W) : (112 :: W.calls.map Cal.c).Nodup := by
  refine List.nodup_cons.mpr ⟨fun h => ?_, ok.nd⟩
  obtain ⟨k, hk, e⟩ := List.mem_map.mp h
  exact p_alpha (e ▸ (ok.calls k hk).al)
theorem Lts.nodup {W : Wd} {ls : List Nat} (h : Lts W ls) (ok : WOk W) : ls.Nodup := h.1.nodup_iff.mpr (lts_nodup ok)
theorem Lts.len {W : Wd} {ls : List Nat} (h : Lts W ls) (ok : WOk W) : ls.length ≤ 4 := by
  rw [h.1.length_eq, List.length_cons, List.length_map]
  have := ok.few
  omega
theorem Lts.pos {W : Wd} {ls : List Nat} (h : Lts W ls) : 0 < ls.length := by
  rw [h.1.length_eq, List.length_cons]
  omega
/-- the parts of a world's data -/
theorem at_world {H : Hp} {W : Wd} {v : V} (h : At H (worldD W) v) : ∃ t, v = .ref t := let ⟨a, _, e, _⟩ := h.ref; ⟨a, e⟩
theorem calls_mid {cs : List Cal} {pre post : List D} {k : D} (e : cs.map callD = pre ++ k :: post) : ∃ p z q, cs = p ++ z :: q ∧ pre = p.map callD ∧ k = callD z ∧ post = q.map callD := by
  induction pre generalizing cs with
  | nil =>
    cases cs with
    | nil => cases e
    | cons z m =>
      cases e
      exact ⟨[], z, m, rfl, rfl, rfl, rfl⟩
  | cons d pre ih =>
    cases cs with
    | nil => cases e
    | cons z m =>
      rw [List.map_cons, List.cons_append] at e
      injection e with e1 e2
      obtain ⟨p, y, q, rfl, rfl, h1, h2⟩ := ih e2
      exact ⟨z :: p, y, q, rfl, by rw [← e1]; rfl, h1, h2⟩
theorem map_mid {α β : Type} {f : α → β} {cs : List α} {pre post : List β} {k : β} (e : cs.map f = pre ++ k :: post) : ∃ p z q, cs = p ++ z :: q ∧ pre = p.map f ∧ k = f z ∧ post = q.map f := by
  induction pre generalizing cs with
  | nil =>
    cases cs with
    | nil => cases e
    | cons z m =>
      cases e
      exact ⟨[], z, m, rfl, rfl, rfl, rfl⟩
  | cons d pre ih =>
    cases cs with
    | nil => cases e
    | cons z m =>
      rw [List.map_cons, List.cons_append] at e
      injection e with e1 e2
      obtain ⟨p, y, q, rfl, rfl, h1, h2⟩ := ih e2
      exact ⟨z :: p, y, q, rfl, by rw [← e1]; rfl, h1, h2⟩
theorem map_inj {α β : Type} {f : α → β} (hf : ∀ a b, f a = f b → a = b) : ∀ {a b : List α}, a.map f = b.map f → a = b
  | [], [], _ => rfl
  | [], _ :: _, h => by cases h
  | _ :: _, [], h => by cases h
  | x :: a, y :: b, h => by
    rw [List.map_cons, List.map_cons] at h
    injection h with h1 h2
    rw [hf _ _ h1, map_inj hf h2]
theorem rws_inj {a b : List Row} (h : rws a = rws b) : a = b := map_inj (fun _ _ e => rowD_inj e) h
theorem callD_inj (a b : Cal) (h : callD a = callD b) : a = b := by
  unfold callD at h
  injection h with h
  injection h with h1 h
  injection h with h2 h
  injection h with h3 h
  injection h1 with h1
  injection h2 with h2
  injection h3 with h3
  cases a
  cases b
  have e1 := sg_inj h1
  have e3 := rws_inj h3
  simp only at e1 e3 h2
  rw [e1, e3, Int.ofNat.inj h2]
def sp_law_letters : Sp := fun vs H Q _ => ∃ x W, vs = [x] ∧ At H (worldD W) x ∧ WOk W ∧ ∀ H' ls, Grow No H H' → Lts W ls → Q (.str (tx ls)) H'
abbrev N_law_letters : List Str := ["_law_world_here", "_law_call"]
theorem sc_law_letters : FnScope ["_law_world_here", "_law_call"] ["_law_world_here"] (defScope s_law_letters) := ⟨rfl, rfl, rfl, by decide +kernel, rfl, by decide +kernel, by decide +kernel⟩
theorem bd_law_letters (T : Txt K mg) : Binds K (fdOf K a_law_letters) ["_law_world_here"] [] := FunD.bindsN T.F_law_letters fun _ _ _ _ _ _ us hl => match us, hl with | [_], _ => rfl
theorem ok_law_letters (T : Txt K mg) : FnOk P w K mg base CX0 1 a_law_letters (fdOf K a_law_letters) ["_law_world_here"] (sp_law_letters) := by
  refine ok0 T.F_law_letters sc_law_letters (fun vs H Q E h => ?_) (fun cdv A outer s H vs Q E hr h => ?_)
  · obtain ⟨x, W, rfl, hx, ok, k⟩ := h
    rfl
  · obtain ⟨x, W, rfl, hx, ok, k⟩ := h
    have hU := hr.units
    have hu := hu_of hr
    refine ⟨_, (pss_one (ps_ret (pe_join pe_str (pe_callB call_sortT (by rfl) T.z_sorted (by decide +kernel) (pa_cons (pe_op op_catLK (pe_lst (pa_cons pe_str pa_nil)) (pe_lc (own := [("_law_call", 1)])  rfl sc_law_letters.nd (pi_tup (pe_ix ix_tupK (pv 0) pe_int (fun _ _ => rfl))) (blkOk_by (own := [("_law_call", 1)]) (N := N_law_letters) (sc := defScope s_law_letters) (by decide +kernel)) (fun _ _ _ _ _ => pg_name (i := 1) sc_law_letters.nd rfl (Or.inl rfl)) (fun _ _ _ _ _ => pts_nil) (fun _ _ _ _ _ => (pe_ix ix_tupK (pv 1) pe_int (fun _ _ => rfl))))) pa_nil))))), ?_⟩
    refine ⟨⟨_, rfl⟩, ?_⟩
    refine ⟨(by decide : 1 ≤ sizeLine), fun p hp => ?_⟩
    have g0 : Grow No H (upd H p (.lst [.str "p"])) := Grow.new hp
    have l0 : Ls (upd H p (.lst [.str "p"])) p (txts [112]) := Ls.new (.cons (.text _) .nil) hp
    generalize upd H p (.lst [.str "p"]) = H0 at g0 l0
    refine ⟨_, rfl, _, _, 2, _, g0.at hx, rfl, ix32, rfl, fun v av => ?_⟩
    obtain ⟨a, vs, rfl, h1, h2⟩ := av.ref
    refine ⟨a, rfl, ⟨_, SqT.of h1⟩, fun L hL => ?_⟩
    have hfew := ok.few
    refine lc_pre (walk_tupK (ks := W.calls.map callD)) (W.calls.map callD) rfl No (fun pre acc _ => ∃ p : List Cal, pre = p.map callD ∧ acc = txts (p.map Cal.c)) hL id (by rw [List.length_map]; exact szL (by omega)) (fun H' g => g.at av) (fun _ _ => ⟨[], rfl, rfl⟩) (fun pre d post acc v H1 H2 Kq N e _ g0 pd y kq kn => ?_) fun H1 acc hacc g la pd => ?_
    · obtain ⟨rfl, j, h1, h2⟩ := y
      have e2 := at_mid e h1
      subst e2
      obtain ⟨p', z, q, ep, rfl, rfl, rfl⟩ := calls_mid e
      obtain ⟨p2, e3, rfl⟩ := pd
      refine ⟨rfl, ?_⟩
      refine ⟨_, rfl, _, _, 0, _, h2, rfl, ix30, rfl, fun v av => ?_⟩
      refine kq _ _ (.text (sg z.c)) (Grow.refl _) av fun _ _ => ⟨p2 ++ [z], by rw [List.map_append, e3]; rfl, by unfold txts; rw [List.map_append, List.map_append]; rfl⟩
    · obtain ⟨p2, e3, rfl⟩ := pd
      have e3' := map_inj callD_inj e3
      subst e3'
      refine ⟨p, L, _, _, rfl, rfl, l0.growN g, la, by rw [txts_len, txts_len, List.length_map]; exact Nat.le_of_lt (szL (by show 1 + W.calls.length ≤ 100000; omega)), fun H3 q hq g3 l3 => ?_⟩
      have e4 : txts [112] ++ txts (W.calls.map Cal.c) = txts (112 :: W.calls.map Cal.c) := rfl
      rw [e4] at l3
      refine ⟨q, _, rfl, l3, by rw [List.length_cons, List.length_map]; omega, fun ys p4 H4 hp hs hn g4 l4 => ?_⟩
      have hlen : ys.length ≤ 4 := by rw [hp.length_eq, List.length_cons, List.length_map]; omega
      exact join_txts l4 (by omega) (k H4 ys (((g0.trans g).trans g3).trans g4) ⟨hp, hs⟩)
/-! ### leads and bodies -/
theorem find_app {p q : List Cal} {c : Nat} : (p ++ q).find? (fun k => k.c == c) = ((p.find? (fun k => k.c == c)).or (q.find? (fun k => k.c == c))) := List.find?_append
/-- the lead as it stands behind some calls -/
def leadAt (plain : List Row) (pre : List Cal) (c : Nat) : List Row := match pre.find? (fun k => k.c == c) with
  | some k => splice plain k
  | none => plain
theorem leadAt_ne {plain : List Row} {pre : List Cal} {z : Cal} {c : Nat} (h : z.c ≠ c) : leadAt plain (pre ++ [z]) c = leadAt plain pre c := by
  unfold leadAt
  rw [List.find?_append]
  have e : List.find? (fun k : Cal => k.c == c) [z] = none := by simp [h]
  rw [e, Option.or_none]
theorem leadAt_eq {plain : List Row} {pre : List Cal} {z : Cal} {c : Nat} (h : z.c = c) (hn : c ∉ pre.map Cal.c) : leadAt plain (pre ++ [z]) c = splice plain z ∧ leadAt plain pre c = plain := by
  have e0 : pre.find? (fun k => k.c == c) = none := by
    rw [List.find?_eq_none]
    intro x hx z
    exact hn (List.mem_map.mpr ⟨x, hx, by simpa using z⟩)
  unfold leadAt
  rw [List.find?_append, e0]
  refine ⟨?_, rfl⟩
  have e : List.find? (fun k : Cal => k.c == c) [z] = some z := by simp [h]
  rw [e]
  rfl
theorem rws_take (cs : List Row) (n : Nat) : (rws cs).take n = rws (cs.take n) := List.map_take.symm
theorem rws_drop (cs : List Row) (n : Nat) : (rws cs).drop n = rws (cs.drop n) := List.map_drop.symm
theorem rws_app (a b : List Row) : rws a ++ rws b = rws (a ++ b) := List.map_append.symm
theorem sg_dec (a b : Nat) : decide (V.str (sg a) = V.str (sg b)) = decide (a = b) := by
  by_cases h : a = b
  · rw [h]
    simp
  · rw [decide_eq_false h, decide_eq_false fun z => h (sg_inj (V.str.inj z))]
def sp_law_lead_of : Sp := fun vs H Q _ => ∃ x W c, vs = [x, .str (sg c)] ∧ At H (worldD W) x ∧ WOk W ∧ ∀ H' v, Grow No H H' → At H' (.tup (rws (leadOf W c))) v → Q v H'
abbrev N_law_lead_of : List Str := ["_law_world_here", "_law_letter_here", "_law_lead", "_law_call"]
theorem sc_law_lead_of : FnScope ["_law_world_here", "_law_letter_here", "_law_lead", "_law_call"] ["_law_world_here", "_law_letter_here"] (defScope s_law_lead_of) := ⟨rfl, rfl, rfl, by decide +kernel, rfl, by decide +kernel, by decide +kernel⟩
theorem bd_law_lead_of (T : Txt K mg) : Binds K (fdOf K a_law_lead_of) ["_law_world_here", "_law_letter_here"] [] := FunD.bindsN T.F_law_lead_of fun _ _ _ _ _ _ us hl => match us, hl with | [_, _], _ => rfl
theorem ok_law_lead_of (T : Txt K mg) : FnOk P w K mg base CX0 1 a_law_lead_of (fdOf K a_law_lead_of) ["_law_world_here", "_law_letter_here"] (sp_law_lead_of) := by
  refine ok0 T.F_law_lead_of sc_law_lead_of (fun vs H Q E h => ?_) (fun cdv A outer s H vs Q E hr h => ?_)
  · obtain ⟨x, W, c, rfl, hx, ok, k⟩ := h
    rfl
  · obtain ⟨x, W, c, rfl, hx, ok, k⟩ := h
    have hU := hr.units
    have hu := hu_of hr
    have hfew := ok.few
    have hlen10 := ok.len
    refine ⟨_, (pss_cons (ps_set (i := 2) sc_law_lead_of.nd rfl (Or.inl rfl) (pe_callTy call_lstK (by rfl) T.z_list (by decide +kernel) (pa_cons (pe_ix ix_tupK (pv 0) pe_int (fun _ _ => rfl)) pa_nil)))
      (pss_cons (ps_for PassesOwn.never rfl (pi_tup (pe_ix ix_tupK (pv 0) pe_int (fun _ _ => rfl))) (pg_name (i := 3) sc_law_lead_of.nd rfl (Or.inl rfl)) (pss_one (ps_if (pt_cmpR op_eq (pe_ix ix_tupK (pv 3) pe_int (fun _ _ => rfl)) (pv 1) (nomark _)) (pss_one (ps_set (i := 2) sc_law_lead_of.nd rfl (Or.inl rfl) (pe_op op_catLK (pe_op op_catLK (pe_slice sl_takeL (pv 2) po_none (po_some (pe_ix ix_tupK (pv 3) pe_int (fun _ _ => rfl)))) (pe_callTy call_lstK (by rfl) T.z_list (by decide +kernel) (pa_cons (pe_ix ix_tupK (pv 3) pe_int (fun _ _ => rfl)) pa_nil))) (pe_slice sl_dropL (pv 2) (po_some (pe_op op_add (pe_ix ix_tupK (pv 3) pe_int (fun _ _ => rfl)) (pe_callB call_lenK (by rfl) T.z_len PySem.boot_len (pa_cons (pe_ix ix_tupK (pv 3) pe_int (fun _ _ => rfl)) pa_nil)))) po_none)))) pss_nil)))
      (pss_one (ps_ret (pe_callTy call_tupK (by rfl) T.z_tuple (by decide +kernel) (pa_cons (pv 2) pa_nil)))))), ?_⟩
    refine ⟨_, rfl, _, _, 1, _, hx, rfl, ix31, rfl, fun v1 av1 => ?_⟩
    refine ⟨v1, _, rfl, .inl av1, fun H1 L hL g1 l1 => ?_⟩
    refine ⟨_, rfl, _, _, 2, _, g1.at hx, rfl, ix32, rfl, fun v2 av2 => ?_⟩
    obtain ⟨a, vs, rfl, h1, h2⟩ := av2.ref
    refine ⟨a, rfl, ⟨_, SqT.of h1⟩, ?_⟩
    refine for_tupK (ks := W.calls.map callD) (fun pre σ H' => Grow No H1 H' ∧ ∃ (p : List Cal) (L : Addr) (t : Option V), pre = p.map callD ∧ σ = [some x, some (.str (sg c)), some (.ref L), t] ∧ Ls H' L (rws (leadAt W.plain p c))) ⟨Grow.refl _, [], L, none, rfl, rfl, l1⟩ (fun pre σ H' p => p.1.at av2) (fun pre d post y σ H' e p hy => ?_) fun σ H' p => ?_
    · obtain ⟨g, p0, L, t, rfl, rfl, l⟩ := p
      obtain ⟨p', z, q, ep, e2, rfl, rfl⟩ := calls_mid e
      have hz : z ∈ W.calls := by rw [ep]; simp
      have ck := ok.calls z hz
      have e2 := map_inj callD_inj e2
      subst e2
      refine ⟨_, rfl, _, _, 0, _, hy, rfl, ix30, rfl, fun v av => ?_⟩
      cases av
      refine ⟨_, rfl, rfl, _, rfl, ?_⟩
      rw [sg_dec]
      by_cases hc : z.c = c
      · refine iteT' (dT hc) ?_
        have hn : c ∉ p0.map Cal.c := by
          have nd := ok.nd
          rw [ep, List.map_append, List.nodup_append] at nd
          exact fun z' => nd.2.2 c z' c (by rw [List.map_cons, hc]; exact List.mem_cons_self ..) rfl
        obtain ⟨k1, k2⟩ := leadAt_eq (plain := W.plain) hc hn
        rw [k2] at l
        have fit := ck.fit
        -- lead[:at]
        refine ⟨_, rfl, _, rfl, _, _, 1, _, hy, rfl, ix31, rfl, fun v av => ?_⟩
        cases av
        refine ⟨_, rfl, L, _, z.at_, rfl, l, rfl, rfl, fun H2 p2 hp2 g2 l2 => ?_⟩
        -- list(many)
        refine ⟨_, rfl, _, _, 2, _, g2.at hy, rfl, ix32, rfl, fun v av => ?_⟩
        refine ⟨v, _, rfl, .inl av, fun H3 p3 hp3 g3 l3 => ?_⟩
        refine ⟨p2, p3, _, _, rfl, rfl, l2.growN g3, l3, ?_, fun H4 p4 hp4 g4 l4 => ?_⟩
        · rw [rws_take, rws_len, rws_len, List.length_take]
          exact Nat.le_of_lt (szL (by omega))
        -- lead[at + len(many):]
        have g24 := (g2.trans g3).trans g4
        refine ⟨_, rfl, _, rfl, _, _, 1, _, g24.at hy, rfl, ix31, rfl, fun v av => ?_⟩
        cases av
        refine ⟨_, rfl, _, _, 2, _, g24.at hy, rfl, ix32, rfl, fun v av => ?_⟩
        refine ⟨v, _, rfl, .inl av, _, _, rfl, rfl, ?_⟩
        refine ⟨_, rfl, L, _, z.at_ + z.many.length, rfl, l.growN g24, congrArg some (by rw [rws_len]; omega), rfl, fun H5 p5 hp5 g5 l5 => ?_⟩
        refine ⟨p4, p5, _, _, rfl, rfl, l4.growN g5, l5, ?_, fun H6 p6 hp6 g6 l6 => ?_⟩
        · rw [rws_take, rws_app, rws_len, rws_drop, rws_len, List.length_append, List.length_take, List.length_drop]
          exact Nat.le_of_lt (szL (by omega))
        refine ⟨g.trans (g24.trans (g5.trans g6)), p0 ++ [z], p6, _, by rw [List.map_append]; rfl, rfl, ?_⟩
        rw [k1]
        rw [rws_take, rws_app, rws_drop, rws_app, List.append_assoc] at l6
        exact l6
      · refine iteF' (dF hc) ?_
        refine ⟨g, p0 ++ [z], L, _, by rw [List.map_append]; rfl, rfl, ?_⟩
        rw [leadAt_ne hc]
        exact l
    · obtain ⟨g, p0, L, t, e, rfl, l⟩ := p
      have e := map_inj callD_inj e
      subst e
      exact ⟨_, rfl, L, _, rfl, l, fun H2 v g2 a2 => k H2 v ((g1.trans g).trans g2) a2⟩
/-- rows behind changes, one by one -/
def runs (n : Nat) : Row → List Row → List Row
  | r, [] => [r]
  | r, c :: cs => r :: runs n (tms r (cmv n c)) cs
def sp_law_body_of : Sp := fun vs H Q _ => ∃ x W c, vs = [x, .str (sg c)] ∧ At H (worldD W) x ∧ WOk W ∧ ∀ H' L l, Grow No H H' → H L = none → Ls H' L (rws l) → l[l.length - 1]? = some (mvOf W c) → 0 < l.length → Q (.ref L) H'
abbrev N_law_body_of : List Str := ["_law_world_here", "_law_letter_here", "_law_row", "_law_rows", "_law_change_here"]
theorem sc_law_body_of : FnScope ["_law_world_here", "_law_letter_here", "_law_row", "_law_rows", "_law_change_here"] ["_law_world_here", "_law_letter_here"] (defScope s_law_body_of) := ⟨rfl, rfl, rfl, by decide +kernel, rfl, by decide +kernel, by decide +kernel⟩
theorem bd_law_body_of (T : Txt K mg) : Binds K (fdOf K a_law_body_of) ["_law_world_here", "_law_letter_here"] [] := FunD.bindsN T.F_law_body_of fun _ _ _ _ _ _ us hl => match us, hl with | [_, _], _ => rfl
theorem ok_law_body_of (T : Txt K mg) : FnOk P w K mg base CX0 2 a_law_body_of (fdOf K a_law_body_of) ["_law_world_here", "_law_letter_here"] (sp_law_body_of) := by
  refine ok0 T.F_law_body_of sc_law_body_of (fun vs H Q E h => ?_) (fun cdv A outer s H vs Q E hr h => ?_)
  · obtain ⟨x, W, c, rfl, hx, ok, k⟩ := h
    rfl
  · obtain ⟨x, W, c, rfl, hx, ok, k⟩ := h
    have hU := hr.units
    have hu := hu_of hr
    have hn := ok.bells
    have h5 := bells_le hn
    refine ⟨_, (pss_cons (ps_set (i := 2) sc_law_body_of.nd rfl (Or.inl rfl) (pe_call (ok_law_rounds T) (hr.mono (by decide)) (by rfl) T.g_law_rounds T.F_law_rounds.kp (bd_law_rounds T) .nil pass0 (pa_cons (pe_ix ix_tupK (pv 0) pe_int (fun _ _ => rfl)) pa_nil)))
      (pss_cons (ps_set (i := 3) sc_law_body_of.nd rfl (Or.inl rfl) (pe_lst (pa_cons (pv 2) pa_nil)))
      (pss_cons (ps_for PassesOwn.never rfl (pi_tup (pe_call (ok_law_lead_of T) (hr.mono (by decide)) (by rfl) T.g_law_lead_of T.F_law_lead_of.kp (bd_law_lead_of T) .nil pass0 (pa_cons (pv 0) (pa_cons (pv 1) pa_nil)))) (pg_name (i := 4) sc_law_body_of.nd rfl (Or.inl rfl)) (pss_cons (ps_set (i := 2) sc_law_body_of.nd rfl (Or.inl rfl) (pe_call (ok_law_moved T) (hr.mono (by decide)) (by rfl) T.g_law_moved T.F_law_moved.kp (bd_law_moved T) .nil pass0 (pa_cons (pv 2) (pa_cons (pe_call (ok_law_change_move T) (hr.mono (by decide)) (by rfl) T.g_law_change_move T.F_law_change_move.kp (bd_law_change_move T) .nil pass0 (pa_cons (pv 4) (pa_cons (pe_ix ix_tupK (pv 0) pe_int (fun _ _ => rfl)) pa_nil))) pa_nil))))
      (pss_one (ps_expr (pe_bm PySem.F.plainAttrs_list PySem.F.slot_list_append PySem.F.type_list_append mt_appK (pv 3) (pa_cons (pv 2) pa_nil))))))
      (pss_one (ps_ret (pv 3)))))), ?_⟩
    refine ⟨_, rfl, _, _, 0, _, hx, rfl, ix30, rfl, fun v av => ?_⟩
    cases av
    refine ⟨W.n, rfl, by omega, fun H1 v1 g1 a1 => ?_⟩
    refine ⟨_, rfl, (by decide : 1 ≤ sizeLine), fun L hL => ?_⟩
    have g2 : Grow No H (upd H1 L (.lst [v1])) := g1.trans (Grow.new hL)
    have l2 : Ls (upd H1 L (.lst [v1])) L (rws [rnd W.n]) := Ls.new (.cons a1 .nil) hL
    have a2 : At (upd H1 L (.lst [v1])) (rowD (rnd W.n)) v1 := (Grow.new (S := No) hL).at a1
    have hL0 := g1.ex _ hL
    generalize upd H1 L (.lst [v1]) = H2 at g2 l2 a2
    refine ⟨_, rfl, _, rfl, x, W, c, rfl, g2.at hx, ok, fun H3 v3 g3 a3 => ?_⟩
    obtain ⟨a, vs, rfl, h1, h2⟩ := a3.ref
    refine ⟨a, rfl, ⟨_, SqT.of h1⟩, ?_⟩
    have hlead := lead_len ok c
    refine for_tupK (ks := rws (leadOf W c)) (fun pre σ H' => Grow (On L) H3 H' ∧ ∃ (p l : List Row) (v : V) (t : Option V), pre = rws p ∧ σ = [some x, some (.str (sg c)), some v, some (.ref L), t] ∧ At H' (rowD (behind W.n (rnd W.n) p)) v ∧ Ls H' L (rws l) ∧ l[l.length - 1]? = some (behind W.n (rnd W.n) p) ∧ l.length = p.length + 1) ⟨Grow.refl _, [], [rnd W.n], v1, none, rfl, rfl, g3.at a2, l2.growN g3, rfl, rfl⟩ (fun pre σ H' p => p.1.at a3) (fun pre d post y σ H' e p hy => ?_) fun σ H' p => ?_
    · obtain ⟨g, p0, l, v, t, rfl, rfl, av, ll, hlast, hlen⟩ := p
      obtain ⟨p', z, q, ep, e2, rfl, rfl⟩ := map_mid e
      have e2 := rws_inj e2
      subst e2
      have hz : z ∈ chgs W.n := lead_chg ok c z (by rw [ep]; simp)
      have gx := g2.any.trans (g3.any.trans g)
      have hpl : p0.length ≤ 10 := by
        have := congrArg List.length ep
        rw [List.length_append] at this
        omega
      refine ⟨_, rfl, _, rfl, _, rfl, _, _, 0, _, gx.at hx, rfl, ix30, rfl, fun v' av' => ?_⟩
      cases av'
      refine ⟨y, z, W.n, rfl, hy, hn, hz, fun H4 v4 g4 a4 => ?_⟩
      have pu := behind_pu hn (cs := p0) (pu_rnd hn) fun c' hc' => lead_chg ok c c' (by rw [ep]; simp [hc'])
      refine ⟨v, v4, _, _, rfl, g4.at av, a4, by rw [(pu_facts hn pu).1]; exact cmv_in hn hz, by rw [cmv_len hn hz]; omega, fun H5 v5 g5 a5 => ?_⟩
      have g45 := g4.trans g5
      refine ⟨_, rfl, tyL (ll.growN g45), _, rfl, L, _, _, _, rfl, rfl, ll.growN g45, a5, szL (by rw [rws_len]; omega), fun H6 g6 l6 => ?_⟩
      rw [← rws_snoc] at l6
      exact ⟨(g.then g45).trans g6, p0 ++ [z], l ++ [_], v5, _, by rw [rws_snoc], rfl, by rw [behind_snoc]; exact g6.at a5, l6, by rw [len_snoc, behind_snoc]; simp, by rw [len_snoc, len_snoc, hlen]⟩
    · obtain ⟨g, p0, l, v, t, e, rfl, av, ll, hlast, hlen⟩ := p
      have e := rws_inj e
      subst e
      refine ⟨_, rfl, ?_⟩
      exact k H' L l ((g2.trans g3).loc g hL0) hL0 ll hlast (by omega)
end
end K81

namespace K81
open PySem PySem.Spec PyProof.Rows L2
section
variable {P : Program} {w : World} {K : PySem.W.Frag} {mg : Str → Option Value} {base : Heap}
/-- the moves by letters -/
def mvD (W : Wd) (c : Nat) : D := rowD (mvOf W c)
def sp_law_moves : Sp := fun vs H Q _ => ∃ x W, vs = [x] ∧ At H (worldD W) x ∧ WOk W ∧ ∀ H' a ls, Grow No H H' → H a = none → Lts W ls → TD H' a ls (mvD W) → Q (.ref a) H'
abbrev N_law_moves : List Str := ["_law_world_here", "_law_moves_here", "_law_letter_here"]
theorem sc_law_moves : FnScope ["_law_world_here", "_law_moves_here", "_law_letter_here"] ["_law_world_here"] (defScope s_law_moves) := ⟨rfl, rfl, rfl, by decide +kernel, rfl, by decide +kernel, by decide +kernel⟩
theorem bd_law_moves (T : Txt K mg) : Binds K (fdOf K a_law_moves) ["_law_world_here"] [] := FunD.bindsN T.F_law_moves fun _ _ _ _ _ _ us hl => match us, hl with | [_], _ => rfl
theorem ok_law_moves (T : Txt K mg) : FnOk P w K mg base CX0 3 a_law_moves (fdOf K a_law_moves) ["_law_world_here"] (sp_law_moves) := by
  refine ok0 T.F_law_moves sc_law_moves (fun vs H Q E h => ?_) (fun cdv A outer s H vs Q E hr h => ?_)
  · obtain ⟨x, W, rfl, hx, ok, k⟩ := h
    rfl
  · obtain ⟨x, W, rfl, hx, ok, k⟩ := h
    have hU := hr.units
    have hu := hu_of hr
    refine ⟨_, (pss_cons (ps_set (i := 1) sc_law_moves.nd rfl (Or.inl rfl) pe_dnewK)
      (pss_cons (ps_for PassesOwn.never rfl (pi_str (pe_call (ok_law_letters T) (hr.mono (by decide)) (by rfl) T.g_law_letters T.F_law_letters.kp (bd_law_letters T) .nil pass0 (pa_cons (pv 0) pa_nil))) (pg_name (i := 2) sc_law_moves.nd rfl (Or.inl rfl)) (pss_one (ps_dput hu (pv 1) (pv 2) (pe_ix ix_lstK (pe_call (ok_law_body_of T) (hr.mono (by decide)) (by rfl) T.g_law_body_of T.F_law_body_of.kp (bd_law_body_of T) .nil pass0 (pa_cons (pv 0) (pa_cons (pv 2) pa_nil))) (pe_un un_neg pe_int) (fun _ _ => rfl)) rfl)))
      (pss_one (ps_ret (pv 1))))), ?_⟩
    refine fun a ha => ?_
    have g0 : Grow No H (upd H a (.dK [])) := Grow.new ha
    have t0 : TD (upd H a (.dK [])) a [] (mvD W) := ⟨[], upd_same, .nil⟩
    generalize upd H a (.dK []) = H0 at g0 t0
    refine ⟨_, rfl, x, W, rfl, g0.at hx, ok, fun H1 ls g1 hls => ?_⟩
    have hl4 := hls.len ok
    have hnd := hls.nodup ok
    refine ⟨_, rfl, ?_⟩
    refine for_txK (l := ls) (fun pre σ H' => Grow No H H' ∧ ∃ t : Option V, σ = [some x, some (.ref a), t] ∧ TD H' a pre (mvD W)) ⟨g0.trans g1, none, rfl, t0.growN g1⟩ (fun pre c post σ H' e p => ?_) fun σ H' p => ?_
    · obtain ⟨g, t, rfl, td⟩ := p
      have hc : c ∉ pre := by
        rw [e, List.nodup_append] at hnd
        exact fun z => hnd.2.2 c z c (List.mem_cons_self ..) rfl
      have hpl : pre.length ≤ 4 := by
        have := congrArg List.length e
        rw [List.length_append] at this
        omega
      refine ⟨_, rfl, _, rfl, x, W, c, rfl, g.at hx, ok, fun H2 L l g2 hL l2 hlast hpos => ?_⟩
      refine ⟨_, rfl, L, _, -1, l.length - 1, rowD (mvOf W c), rfl, l2, rfl, ⟨by rw [rws_len]; omega, .inr (by rw [rws_len]; omega)⟩, by rw [List.getElem?_map, hlast]; rfl, fun v av => ?_⟩
      obtain ⟨H3, hput, g3, t3⟩ := (td.growN g2).put hc av (by omega)
      exact ⟨_, rfl, _, rfl, a, H3, rfl, hput, (g.trans g2).loc g3 ha, _, rfl, t3⟩
    · obtain ⟨g, t, rfl, td⟩ := p
      refine ⟨_, rfl, ?_⟩
      exact k H' a ls g ha hls td
/-- the row behind a word, letter by letter -/
def goTo (W : Wd) : Row → List Nat → Row
  | r, [] => r
  | r, c :: cs => goTo W (tms r (mvOf W c)) cs
theorem goTo_app (W : Wd) : ∀ (a b : List Nat) (r : Row), goTo W r (a ++ b) = goTo W (goTo W r a) b
  | [], _, _ => rfl
  | c :: a, b, r => goTo_app W a b _
theorem goTo_snoc (W : Wd) (a : List Nat) (c : Nat) (r : Row) : goTo W r (a ++ [c]) = tms (goTo W r a) (mvOf W c) := goTo_app W a [c] r
theorem goTo_u {W : Wd} (ok : WOk W) : ∀ {a : List Nat} {r : Row}, r ∈ U W.n → goTo W r a ∈ U W.n
  | [], _, h => h
  | c :: a, r, h => goTo_u (a := a) (r := tms r (mvOf W c)) ok (u_step ok.bells h (mv_in ok c))
/-- rows and the words that lead to them -/
structure RW1 (W : Wd) (ls : List Nat) (rs : List Row) (ws : List (List Nat)) : Prop where
  len : rs.length = ws.length
  go : ∀ i r w, rs[i]? = some r → ws[i]? = some w → goTo W (rnd W.n) w = r ∧ w.length ≤ i ∧ ∀ c ∈ w, c ∈ ls
  nd : rs.Nodup
  z : rs[0]? = some (rnd W.n)
theorem RW1.u {W : Wd} {ls : List Nat} {rs : List Row} {ws : List (List Nat)} (h : RW1 W ls rs ws) (ok : WOk W) : ∀ r ∈ rs, r ∈ U W.n := by
  intro r hr
  obtain ⟨i, hi, e⟩ := List.mem_iff_getElem.mp hr
  have hw : i < ws.length := by rw [← h.len]; exact hi
  have := h.go i r ws[i] (by rw [List.getElem?_eq_getElem hi, e]) (List.getElem?_eq_getElem hw)
  rw [← this.1]
  exact goTo_u ok (u_rnd ok.bells)
theorem RW1.le {W : Wd} {ls : List Nat} {rs : List Row} {ws : List (List Nat)} (h : RW1 W ls rs ws) (ok : WOk W) : rs.length ≤ 24 := u_nodup ok.bells h.nd (h.u ok)
theorem RW1.add {W : Wd} {ls : List Nat} {rs : List Row} {ws : List (List Nat)} (h : RW1 W ls rs ws) {i : Nat} {r : Row} {w : List Nat} {c : Nat} (hr : rs[i]? = some r) (hw : ws[i]? = some w) (hc : c ∈ ls) (hn : tms r (mvOf W c) ∉ rs) : RW1 W ls (rs ++ [tms r (mvOf W c)]) (ws ++ [w ++ [c]]) := by
  obtain ⟨g1, g2, g3⟩ := h.go i r w hr hw
  have hi : i < rs.length := (List.getElem?_eq_some_iff.mp hr).1
  refine ⟨by rw [len_snoc, len_snoc, h.len], fun j r' w' hr' hw' => ?_, ?_, ?_⟩
  · by_cases hj : j < rs.length
    · rw [List.getElem?_append_left hj] at hr'
      rw [List.getElem?_append_left (by rw [← h.len]; exact hj)] at hw'
      exact h.go j r' w' hr' hw'
    · have hj2 : j < (rs ++ [tms r (mvOf W c)]).length := (List.getElem?_eq_some_iff.mp hr').1
      rw [len_snoc] at hj2
      have e : j = rs.length := by omega
      subst e
      rw [List.getElem?_append_right (Nat.le_refl _), Nat.sub_self] at hr'
      rw [h.len, List.getElem?_append_right (Nat.le_refl _), Nat.sub_self] at hw'
      cases hr'
      cases hw'
      refine ⟨by rw [goTo_snoc, g1], by rw [len_snoc]; omega, fun c' hc' => ?_⟩
      rcases List.mem_append.mp hc' with z | z
      · exact g3 c' z
      · rw [List.mem_singleton.mp z]
        exact hc
  · rw [List.nodup_append]
    refine ⟨h.nd, by simp, fun a ha b hb => ?_⟩
    have : b = tms r (mvOf W c) := by simpa using hb
    rw [this]
    exact fun z => hn (z ▸ ha)
  · rw [List.getElem?_append_left (by omega)]
    exact h.z
/-- the entries of words -/
def wordKV (rs : List Row) (ws : List (List Nat)) : List (D × V) := (rs.zip ws).map fun p => (rowD p.1, V.str (tx p.2))
theorem wordKV_val {rs : List Row} {ws : List (List Nat)} (h : rs.length = ws.length) (r : Row) : (r ∈ rs → ∃ (i : Nat) (w : List Nat), rs[i]? = some r ∧ ws[i]? = some w ∧ valV (wordKV rs ws) (rowD r) = some (.str (tx w))) ∧ (r ∉ rs → valV (wordKV rs ws) (rowD r) = none) := by
  induction rs generalizing ws with
  | nil => exact ⟨fun h => (List.not_mem_nil h).elim, fun _ => by cases ws <;> rfl⟩
  | cons x rs ih =>
    cases ws with
    | nil => cases h
    | cons y ws =>
      have h' : rs.length = ws.length := by simpa using h
      obtain ⟨i1, i2⟩ := ih h'
      by_cases e : x = r
      · subst e
        refine ⟨fun _ => ⟨0, y, rfl, rfl, ?_⟩, fun z => (z (List.mem_cons_self ..)).elim⟩
        unfold wordKV
        rw [List.zip_cons_cons, List.map_cons, valV_pos rfl]
      · have ne : ¬ rowD x = rowD r := fun z => e (rowD_inj z)
        have ev : valV (wordKV (x :: rs) (y :: ws)) (rowD r) = valV (wordKV rs ws) (rowD r) := by
          unfold wordKV
          rw [List.zip_cons_cons, List.map_cons, valV_neg ne]
        rw [ev]
        refine ⟨fun m => ?_, fun m => i2 fun z => m (List.mem_cons_of_mem _ z)⟩
        have m' : r ∈ rs := by
          rcases List.mem_cons.mp m with z | z
          · exact (e z.symm).elim
          · exact z
        obtain ⟨i, w, a, b, c⟩ := i1 m'
        exact ⟨i + 1, w, a, b, c⟩
theorem wordKV_at : ∀ {rs : List Row} {ws : List (List Nat)} {i : Nat} {r : Row} {w : List Nat}, rs.Nodup → rs[i]? = some r → ws[i]? = some w → valV (wordKV rs ws) (rowD r) = some (.str (tx w))
  | [], _, _, _, _, _, h, _ => by simp at h
  | _ :: _, [], _, _, _, _, _, h => by simp at h
  | x :: rs, y :: ws, 0, r, w, nd, h1, h2 => by
    cases h1
    cases h2
    unfold wordKV
    rw [List.zip_cons_cons, List.map_cons, valV_pos rfl]
  | x :: rs, y :: ws, i + 1, r, w, nd, h1, h2 => by
    have nd' := List.nodup_cons.mp nd
    have hr : r ∈ rs := List.mem_of_getElem? (show rs[i]? = some r from h1)
    have ne : ¬ rowD x = rowD r := fun z => nd'.1 (rowD_inj z ▸ hr)
    have ih := wordKV_at (rs := rs) (ws := ws) (i := i) nd'.2 h1 h2
    unfold wordKV at ih ⊢
    rw [List.zip_cons_cons, List.map_cons, valV_neg ne]
    exact ih
theorem wordKV_snoc {rs : List Row} {ws : List (List Nat)} (h : rs.length = ws.length) (r : Row) (w : List Nat) : wordKV (rs ++ [r]) (ws ++ [w]) = wordKV rs ws ++ [(rowD r, V.str (tx w))] := by
  unfold wordKV
  rw [List.zip_append h, List.map_append]
  rfl
theorem wordKV_len {rs : List Row} {ws : List (List Nat)} (h : rs.length = ws.length) : (wordKV rs ws).length = rs.length := by
  unfold wordKV
  rw [List.length_map, List.length_zip]
  omega
def sp_law_heads (P : Program) (w : World) : Sp := fun vs H Q _ => ∃ a W ls, vs = [.int (W.n : Nat), .ref a, .int 24] ∧ TD H a ls (mvD W) ∧ WOk W ∧ ls.length ≤ 4 ∧ (∀ c ∈ ls, c ∈ ls) ∧
  ∀ H' t L d rs ws, Grow No H H' → H' t = some (.tup [.ref L, .ref d]) → Ls H' L (rws rs) → DN P w H' d (wordKV rs ws) → RW1 W ls rs ws → Q (.ref t) H'
theorem DN.grow {P : Program} {w : World} {S : Addr → Prop} {H H' : Hp} {a : Addr} {kvs : List (D × V)} (d : DN P w H a kvs) (g : Grow S H H') (n : ¬ S a) : DN P w H' a kvs := d.mono g.tk fun o h => g.o h n
theorem DN.growN {P : Program} {w : World} {H H' : Hp} {a : Addr} {kvs : List (D × V)} (d : DN P w H a kvs) (g : Grow No H H') : DN P w H' a kvs := d.grow g id
theorem DN.ne {P : Program} {w : World} {H : Hp} {a p : Addr} {kvs : List (D × V)} (d : DN P w H a kvs) (n : H p = none) : a ≠ p := let ⟨_, e⟩ := d.at; ne_of_none e n
theorem ext_ne_tup (φ : Heap → Prop) (ys : List V) : HO.ext φ ≠ .tup ys := fun z => by cases z
theorem DN.putG {P : Program} {w : World} {H : Hp} {a : Addr} {kvs : List (D × V)} (d : DN P w H a kvs) (ψ : Heap → Prop) : Grow (On a) H (upd H a (.ext ψ)) := let ⟨φ, e⟩ := d.at; Grow.putO e (ext_ne_tup φ)
abbrev N_law_heads : List Str := ["_law_stage", "_law_moves_here", "_law_most", "_law_letters_here", "_law_rows", "_law_words", "_law_at", "_law_letter_here", "_law_found"]
theorem sc_law_heads : FnScope ["_law_stage", "_law_moves_here", "_law_most", "_law_letters_here", "_law_rows", "_law_words", "_law_at", "_law_letter_here", "_law_found"] ["_law_stage", "_law_moves_here", "_law_most"] (defScope s_law_heads) := ⟨rfl, rfl, rfl, by decide +kernel, rfl, by decide +kernel, by decide +kernel⟩
theorem bd_law_heads (T : Txt K mg) : Binds K (fdOf K a_law_heads) ["_law_stage", "_law_moves_here", "_law_most"] [] := FunD.bindsN T.F_law_heads fun _ _ _ _ _ _ us hl => match us, hl with | [_, _, _], _ => rfl
theorem ok_law_heads (T : Txt K mg) : FnOk P w K mg base CX0 2 a_law_heads (fdOf K a_law_heads) ["_law_stage", "_law_moves_here", "_law_most"] (sp_law_heads P w) := by
  refine ok0 T.F_law_heads sc_law_heads (fun vs H Q E h => ?_) (fun cdv A outer s H vs Q E hr h => ?_)
  · obtain ⟨a, W, ls, rfl, ha, ok, hl4, _, k⟩ := h
    rfl
  · obtain ⟨a, W, ls, rfl, ha, ok, hl4, _, k⟩ := h
    have hU := hr.units
    have hu := hu_of hr
    have hn := ok.bells
    have h5 := bells_le hn
    refine ⟨_, (pss_cons (ps_set (i := 3) sc_law_heads.nd rfl (Or.inl rfl) (pe_callB (call_sortDT rfl) (by rfl) T.z_sorted (by decide +kernel) (pa_cons (pv 1) pa_nil)))
      (pss_cons (ps_set (i := 4) sc_law_heads.nd rfl (Or.inl rfl) (pe_lst (pa_cons (pe_call (ok_law_rounds T) (hr.mono (by decide)) (by rfl) T.g_law_rounds T.F_law_rounds.kp (bd_law_rounds T) .nil pass0 (pa_cons (pv 0) pa_nil)) pa_nil)))
      (pss_cons (ps_set (i := 5) sc_law_heads.nd rfl (Or.inl rfl) (pe_disp1N hU (pe_ix ix_lstK (pv 4) pe_int (fun _ _ => rfl)) pe_str))
      (pss_cons (ps_set (i := 6) sc_law_heads.nd rfl (Or.inl rfl) pe_int)
      (pss_cons (ps_while PassesOwn.never (pt_cmpR op_lt (pv 6) (pe_callB call_lenK (by rfl) T.z_len PySem.boot_len (pa_cons (pv 4) pa_nil)) (nomark _)) (pss_cons (ps_for PassesOwn.never rfl (pi_list (pv 3)) (pg_name (i := 7) sc_law_heads.nd rfl (Or.inl rfl)) (pss_cons (ps_set (i := 8) sc_law_heads.nd rfl (Or.inl rfl) (pe_call (ok_law_moved T) (hr.mono (by decide)) (by rfl) T.g_law_moved T.F_law_moved.kp (bd_law_moved T) .nil pass0 (pa_cons (pe_ix ix_lstK (pv 4) (pv 6) (fun _ _ => rfl)) (pa_cons (pe_dget hu (pv 1) (pv 7) (fun _ _ => rfl)) pa_nil))))
      (pss_one (ps_if (pt_cmpR (op_notInN hU) (pv 8) (pv 5) (by rfl)) (pss_cons (ps_if (pt_cmpR op_eq (pe_callB call_lenK (by rfl) T.z_len PySem.boot_len (pa_cons (pv 4) pa_nil)) (pv 2) (nomark _)) (pss_one (ps_ret (pe_tup (pa_cons (pe_lst pa_nil) (pa_cons pe_dnewK pa_nil))))) pss_nil)
      (pss_cons (ps_asg (pe_op op_add_str (pe_getN hU (pv 5) (pe_ix ix_lstK (pv 4) (pv 6) (fun _ _ => rfl)) (fun _ _ => rfl)) (pv 7)) (pg_sub (pv 5) (pv 8) (set_dN hU)))
      (pss_one (ps_expr (pe_bm PySem.F.plainAttrs_list PySem.F.slot_list_append PySem.F.type_list_append mt_appK (pv 4) (pa_cons (pv 8) pa_nil)))))) pss_nil))))
      (pss_one (ps_set (i := 6) sc_law_heads.nd rfl (Or.inl rfl) (pe_op op_add (pv 6) pe_int)))))
      (pss_one (ps_ret (pe_tup (pa_cons (pv 4) (pa_cons (pv 5) pa_nil)))))))))), ?_⟩
    obtain ⟨kvs, e1, e2⟩ := ha.keys
    refine ⟨_, rfl, a, kvs, ls, rfl, e1, e2, by omega, fun ys p H1 hp hs hpn g1 l1 => ?_⟩
    refine ⟨_, rfl, W.n, rfl, by omega, fun H2 v2 g2 a2 => ?_⟩
    refine ⟨(by decide : 1 ≤ sizeLine), fun L hL => ?_⟩
    have pL : p ≠ L := (l1.growN g2).ne hL
    have g3 : Grow No H (upd H2 L (.lst [v2])) := (g1.trans g2).trans (Grow.new hL)
    have y3 : Ls (upd H2 L (.lst [v2])) p (txts ys) := (l1.growN g2).growN (Grow.new hL)
    have l3 : Ls (upd H2 L (.lst [v2])) L (rws [rnd W.n]) := Ls.new (.cons a2 .nil) hL
    have hL0 : H L = none := (g1.trans g2).ex _ hL
    generalize upd H2 L (.lst [v2]) = H3 at g3 y3 l3
    refine fun d hd φ => ?_
    have hd0 : H d = none := g3.ex _ hd
    have dL : d ≠ L := (l3.ne hd).symm
    refine ⟨_, rfl, L, _, 0, 0, rowD (rnd W.n), rfl, l3.growN (Grow.new hd), rfl, ⟨(by decide : 0 < 1), .inl rfl⟩, rfl, fun v av => ?_⟩
    obtain ⟨b, rfl, hb⟩ := row_of av
    refine ⟨upd_same, b, rowD (rnd W.n), rfl, av, by rw [depth_row]; decide, fun φ' hdn => ?_⟩
    have g4 : Grow No H (upd (upd H3 d (.ext φ)) d (.ext φ')) := (g3.trans (Grow.new hd)).loc (Grow.putO upd_same (ext_ne_tup φ)) hd0
    have pd0 : p ≠ d := y3.ne hd
    have gs : Grow (On d) H3 (upd (upd H3 d (.ext φ)) d (.ext φ')) := (Grow.new (S := On d) hd).trans (Grow.putO upd_same (ext_ne_tup φ))
    have y4 := y3.grow gs (fun z => by have := y3.ne hd; exact this z)
    have l4 := l3.grow gs (fun z => dL z.symm)
    generalize upd (upd H3 d (.ext φ)) d (.ext φ') = H4 at g4 y4 l4 hdn
    have rw0 : RW1 W ls [rnd W.n] [[]] := by
      refine ⟨rfl, fun i r w hr hw => ?_, by simp, rfl⟩
      cases i with
      | zero =>
        cases hr
        cases hw
        exact ⟨rfl, Nat.le_refl _, (fun _ h => nomatch h)⟩
      | succ i => cases hr
    have dn4 : DN P w H4 d (wordKV [rnd W.n] [[]]) := by
      have e : wordKV [rnd W.n] [[]] = [(rowD (rnd W.n), V.str "")] := by
        unfold wordKV
        rw [tx_nil]
        rfl
      rw [e]
      exact hdn
    have hys : ∀ c, c ∈ ys ↔ c ∈ ls := fun c => hp.mem_iff
    have hyl : ys.length ≤ 4 := by rw [hp.length_eq]; exact hl4
    have aL : ∀ {H'}, Grow No H H' → a ≠ L := fun g => ha.ne hL0
    have ad : a ≠ d := ha.ne hd0
    refine ⟨fun m σ H' => ∃ (at' : Nat) (rs : List Row) (ws : List (List Nat)) (t1 t2 : Option V), σ = [some (.int W.n), some (.ref a), some (.int 24), some (.ref p), some (.ref L), some (.ref d), some (.int at'), t1, t2] ∧ m + at' = 25 ∧ Grow No H H' ∧ Ls H' p (txts ys) ∧ Ls H' L (rws rs) ∧ DN P w H' d (wordKV rs ws) ∧ RW1 W ls rs ws ∧ at' ≤ rs.length, ⟨25, 0, _, _, none, none, rfl, rfl, g4, y4, l4, dn4, rw0, Nat.zero_le _⟩, fun m σ H' p => ?_⟩
    obtain ⟨at', rs, ws, t1, t2, rfl, hm, g, yl, ll, dn, rw1, hat⟩ := p
    refine ⟨_, rfl, _, rfl, .ref L, _, rfl, .inr ⟨L, rfl, ll⟩, _, _, rfl, rfl, _, rfl, ?_⟩
    rw [rws_len]
    by_cases hlt : at' < rs.length
    · refine iteT' (dT (by omega)) ?_
      have hr24 := rw1.le ok
      refine ⟨_, fun _ _ z => z, ?_⟩
      obtain ⟨yv, ey, _⟩ := id yl
      refine ⟨_, rfl, p, rfl, ⟨_, SqL.of ey⟩, ?_⟩
      refine for_lstK (ks := txts ys) (fun pre σ H' => ∃ (rs : List Row) (ws : List (List Nat)) (t1 t2 : Option V), σ = [some (.int W.n), some (.ref a), some (.int 24), some (.ref p), some (.ref L), some (.ref d), some (.int at'), t1, t2] ∧ Grow No H H' ∧ Ls H' p (txts ys) ∧ Ls H' L (rws rs) ∧ DN P w H' d (wordKV rs ws) ∧ RW1 W ls rs ws ∧ at' < rs.length) ⟨rs, ws, t1, t2, rfl, g, yl, ll, dn, rw1, hlt⟩ (fun pre σ H' p => let ⟨_, _, _, _, _, _, z, _⟩ := p; z) (fun pre x post y σ H' e q hy => ?_) fun σ H' q => ?_
      · obtain ⟨rs, ws, t1, t2, rfl, g, yl, ll, dn, rw1, hlt⟩ := q
        have e' : ys.map (fun c => NestedKey.text (sg c)) = pre ++ x :: post := e
        obtain ⟨p', c, q', ey, rfl, rfl, rfl⟩ := map_mid e'
        cases hy
        have hc : c ∈ ls := (hys c).mp (by rw [ey]; simp)
        have hr : rs[at']? = some rs[at'] := List.getElem?_eq_getElem hlt
        have hru := rw1.u ok rs[at'] (List.getElem_mem hlt)
        have hrk : (rws rs)[at']? = some (rowD rs[at']) := by rw [List.getElem?_map, hr]; rfl
        generalize rs[at'] = r at hr hru hrk
        have fr := u_facts hn hru
        have fm := u_facts hn (mv_in ok c)
        refine ⟨_, rfl, _, rfl, L, _, _, at', rowD r, rfl, ll, rfl, ⟨by rw [rws_len]; exact hlt, .inl rfl⟩, hrk, fun v av => ?_⟩
        obtain ⟨vm, hget, am⟩ := (ha.growN g).get hc
        refine ⟨_, rfl, _, rfl, a, vm, rfl, hget, ?_⟩
        refine ⟨v, vm, r, mvOf W c, rfl, av, am, by rw [fr.1]; exact fm.2.1, by rw [fm.1]; omega, fun H5 vf g5 af => ?_⟩
        obtain ⟨bf, rfl, _⟩ := row_of af
        have gg := g.trans g5
        have yl5 := yl.growN g5
        have ll5 := ll.growN g5
        have dn5 := dn.growN g5
        refine ⟨_, rfl, _, rfl, bf, d, _, rowD (tms r (mvOf W c)), rfl, rfl, dn5, af, by rw [depth_row]; decide, _, rfl, ?_⟩
        obtain ⟨vv1, vv2⟩ := wordKV_val rw1.len (tms r (mvOf W c))
        by_cases hin : tms r (mvOf W c) ∈ rs
        · obtain ⟨i, w', _, _, hv⟩ := vv1 hin
          refine iteF' (by simp [hv]) ?_
          exact ⟨rs, ws, _, _, rfl, gg, yl5, ll5, dn5, rw1, hlt⟩
        · refine iteT' (by simp [vv2 hin]) ?_
          have hw : ∃ w', ws[at']? = some w' := ⟨ws[at']'(by rw [← rw1.len]; exact hlt), List.getElem?_eq_getElem _⟩
          obtain ⟨w', hw⟩ := hw
          have rw2 := rw1.add hr hw hc hin
          have le2 := rw2.le ok
          rw [len_snoc] at le2
          refine ⟨_, rfl, .ref L, _, rfl, .inr ⟨L, rfl, ll5⟩, _, rfl, rfl, _, rfl, ?_⟩
          refine iteF' (dF (fun z => by rw [rws_len] at z; injection z; omega)) ?_
          -- words[found] = words[rows[at]] + letter
          refine ⟨_, rfl, _, rfl, _, rfl, L, _, _, at', rowD r, rfl, ll5, rfl, ⟨by rw [rws_len]; exact hlt, .inl rfl⟩, hrk, fun v2 av2 => ?_⟩
          obtain ⟨b2, rfl, _⟩ := row_of av2
          have hv := wordKV_at rw1.nd hr hw
          obtain ⟨_, hwl, hwc⟩ := rw1.go at' r w' hr hw
          refine ⟨b2, d, _, rowD r, _, rfl, rfl, dn5, av2, by rw [depth_row]; decide, hv, ?_⟩
          refine ⟨_, rfl, _, _, rfl, rfl, ?_, ?_⟩
          · rw [tx_len]
            exact Nat.le_of_lt (szL (by show w'.length + 1 ≤ 100000; omega))
          rw [tx_sg]
          refine ⟨_, rfl, _, rfl, bf, d, _, rowD (tms r (mvOf W c)), rfl, rfl, dn5, af, by rw [depth_row]; decide, by rw [wordKV_len rw1.len]; exact szL (by omega), fun ψ dn6 => ?_⟩
          have g6 := dn5.putG ψ
          have ev : putK (wordKV rs ws) (rowD (tms r (mvOf W c))) (V.str (tx (w' ++ [c]))) = wordKV (rs ++ [tms r (mvOf W c)]) (ws ++ [w' ++ [c]]) := by
            rw [putK_new _ (vv2 hin), wordKV_snoc rw1.len]
          rw [ev] at dn6
          have yl6 := yl5.grow g6 pd0
          have ll6 := ll5.grow g6 (fun z => dL z.symm)
          have af6 := g6.at af
          have gg6 := gg.loc g6 hd0
          generalize upd H5 d (.ext ψ) = H6 at dn6 yl6 ll6 af6 gg6
          refine ⟨_, rfl, tyL ll6, _, rfl, L, _, _, _, rfl, rfl, ll6, af6, szL (by rw [rws_len]; omega), fun H7 g7 l7 => ?_⟩
          rw [← rws_snoc] at l7
          exact ⟨_, _, _, _, rfl, gg6.loc g7 hL0, yl6.grow g7 pL, l7, dn6.grow g7 dL, rw2, by rw [len_snoc]; omega⟩
      · obtain ⟨rs, ws, t1, t2, rfl, g, yl, ll, dn, rw1, hlt⟩ := q
        have := rw1.le ok
        exact ⟨_, rfl, _, _, rfl, rfl, m - 1, by omega, at' + 1, rs, ws, _, _, rfl, by omega, g, yl, ll, dn, rw1, hlt⟩
    · refine iteF' (dF (by omega)) ?_
      refine ⟨_, rfl, _, rfl, (by decide : 2 ≤ sizeLine), fun t ht => ?_⟩
      exact k _ t L d rs ws (g.trans (Grow.new ht)) upd_same (ll.growN (Grow.new ht)) (dn.growN (Grow.new ht)) rw1
end
end K81

namespace K81
open PySem PySem.Spec PyProof.Rows L2
section
variable {P : Program} {w : World} {K : PySem.W.Frag} {mg : Str → Option Value} {base : Heap}
def sp_law_is_int : Sp := fun vs H Q _ => ∃ i, vs = [.int i] ∧ Q (.bl true) H
abbrev N_law_is_int : List Str := ["_law_thing"]
theorem sc_law_is_int : FnScope ["_law_thing"] ["_law_thing"] (defScope s_law_is_int) := ⟨rfl, rfl, rfl, by decide +kernel, rfl, by decide +kernel, by decide +kernel⟩
theorem bd_law_is_int (T : Txt K mg) : Binds K (fdOf K a_law_is_int) ["_law_thing"] [] := FunD.bindsN T.F_law_is_int fun _ _ _ _ _ _ us hl => match us, hl with | [_], _ => rfl
theorem ok_law_is_int (T : Txt K mg) : FnOk P w K mg base CX0 1 a_law_is_int (fdOf K a_law_is_int) ["_law_thing"] (sp_law_is_int) := by
  refine ok0 T.F_law_is_int sc_law_is_int (fun vs H Q E h => ?_) (fun cdv A outer s H vs Q E hr h => ?_)
  · obtain ⟨i, rfl, k⟩ := h
    rfl
  · obtain ⟨i, rfl, k⟩ := h
    have hU := hr.units
    have hu := hu_of hr
    refine ⟨_, (pss_one (ps_ret (pe_and (pe_callB call_isK (by rfl) T.z_isinstance (by decide +kernel) (pa_cons (pv 0) (pa_cons (pe_bltn (v := .ty "int") rfl T.z_int (by decide +kernel) rfl) pa_nil))) (pe_one (pe_not (pe_callB call_isK (by rfl) T.z_isinstance (by decide +kernel) (pa_cons (pv 0) (pa_cons (pe_bltn (v := .ty "bool") rfl T.z_bool (by decide +kernel) rfl) pa_nil)))))))), ?_⟩
    exact ⟨_, rfl, _, .num i, _, true, rfl, .num i, kt_ii, true, rfl, _, rfl, _, .num i, _, false, rfl, .num i, kt_ib, _, rfl, k⟩
/-- what is misheard: pairs of a letter and others -/
abbrev Hears := List (Nat × List Nat)
def pairD (p : Nat × List Nat) : D := .tup [.text (sg p.1), .text (tx p.2)]
def hearsD (hs : Hears) : D := .tup (hs.map pairD)
structure HOk (ls : List Nat) (hs : Hears) : Prop where
  nd : (hs.map Prod.fst).Nodup
  mem : ∀ p ∈ hs, p.1 ∈ ls
  ne : ∀ p ∈ hs, p.2 ≠ []
  sub : ∀ p ∈ hs, p.2.Sublist ls
  no : ∀ p ∈ hs, p.1 ∉ p.2
  len : hs.length ≤ ls.length
def sp_law_hears : Sp := fun vs H Q _ => ∃ d c, ∃ ls : List Nat, vs = [.ref d, .str (tx ls)] ∧ Draw H d c ∧ ls.length ≤ 4 ∧ ls.Nodup ∧ ∀ H' v hs, Grow (On d) H H' → Draw H' d c → HOk ls hs → At H' (hearsD hs) v → Q v H'
abbrev N_law_hears : List Str := ["_law_draw_here", "_law_letters_here", "_law_hears_here", "_law_letter_here", "_law_others", "_law_other"]
theorem sc_law_hears : FnScope ["_law_draw_here", "_law_letters_here", "_law_hears_here", "_law_letter_here", "_law_others", "_law_other"] ["_law_draw_here", "_law_letters_here"] (defScope s_law_hears) := ⟨rfl, rfl, rfl, by decide +kernel, rfl, by decide +kernel, by decide +kernel⟩
theorem bd_law_hears (T : Txt K mg) : Binds K (fdOf K a_law_hears) ["_law_draw_here", "_law_letters_here"] [] := FunD.bindsN T.F_law_hears fun _ _ _ _ _ _ us hl => match us, hl with | [_, _], _ => rfl
theorem ok_law_hears (T : Txt K mg) : FnOk P w K mg base CX0 3 a_law_hears (fdOf K a_law_hears) ["_law_draw_here", "_law_letters_here"] (sp_law_hears) := by
  refine ok0 T.F_law_hears sc_law_hears (fun vs H Q E h => ?_) (fun cdv A outer s H vs Q E hr h => ?_)
  · obtain ⟨d, c, ls, rfl, hd, hl4, hnd, k⟩ := h
    rfl
  · obtain ⟨d, c, ls, rfl, hd, hl4, hnd, k⟩ := h
    have hU := hr.units
    have hu := hu_of hr
    refine ⟨_, (pss_cons (ps_set (i := 2) sc_law_hears.nd rfl (Or.inl rfl) (pe_lst pa_nil))
      (pss_cons (ps_for PassesOwn.never rfl (pi_str (pv 1)) (pg_name (i := 3) sc_law_hears.nd rfl (Or.inr rfl)) (pss_cons (ps_setLc (i := 4) (own := [("_law_other", 5)])  rfl sc_law_hears.nd rfl rfl (sw_true rfl rfl rfl (by decide +kernel)) (pi_str (pv 1)) (blkOk_by (own := [("_law_other", 5)]) (N := N_law_hears) (sc := defScope s_law_hears) (by decide +kernel)) (fun _ _ _ _ _ => pg_name (i := 5) sc_law_hears.nd rfl (Or.inl rfl)) (fun _ _ _ _ _ => pts_one (PW.pt (pw_and (pt_cmpR op_ne (pv 5) (pv 3) (nomark _)) (pw_and1 (pt_cmpR op_gt (pe_call (ok_law_pick T) (hr.mono (by decide)) (by rfl) T.g_law_pick T.F_law_pick.kp (bd_law_pick T) .nil pass0 (pa_cons (pv 0) (pa_cons pe_int pa_nil))) pe_int (nomark _)))))) (fun _ _ _ _ _ => (pv 5)))
      (pss_one (ps_if (PW.pt (pw_and (pt_truth (pv 4) (by intro _; rfl)) (pw_and1 (pt_cmpR op_gt (pe_call (ok_law_pick T) (hr.mono (by decide)) (by rfl) T.g_law_pick T.F_law_pick.kp (bd_law_pick T) .nil pass0 (pa_cons (pv 0) (pa_cons pe_int pa_nil))) pe_int (nomark _))))) (pss_one (ps_expr (pe_bm PySem.F.plainAttrs_list PySem.F.slot_list_append PySem.F.type_list_append mt_appK (pv 2) (pa_cons (pe_tup (pa_cons (pv 3) (pa_cons (pe_join pe_str (pv 4)) pa_nil))) pa_nil)))) pss_nil))))
      (pss_one (ps_ret (pe_callTy call_tupK (by rfl) T.z_tuple (by decide +kernel) (pa_cons (pv 2) pa_nil)))))), ?_⟩
    refine ⟨Nat.zero_le _, fun L hL => ?_⟩
    have n1 := hd.ne hL
    have n2 := hd.nc hL
    have g0 : Grow (On d) H (upd H L (.lst [])) := Grow.new hL
    have d0 : Draw (upd H L (.lst [])) d c := hd.growN (Grow.new hL)
    have l0 : Ls (upd H L (.lst [])) L (([] : Hears).map pairD) := Ls.new .nil hL
    generalize upd H L (.lst []) = H0 at g0 d0 l0
    refine ⟨_, rfl, _, rfl, ?_⟩
    refine for_txK (l := ls) (fun pre σ H' => ∃ (hs : Hears) (t1 t2 : Option V), σ = [some (.ref d), some (.str (tx ls)), some (.ref L), t1, t2, none] ∧ Grow (On d) H H' ∧ Draw H' d c ∧ Ls H' L (hs.map pairD) ∧ (∀ p ∈ hs, p.1 ∈ pre) ∧ HOk ls hs ∧ hs.length ≤ pre.length) ⟨[], none, none, rfl, g0, d0, l0, (fun _ h => nomatch h), ⟨List.nodup_nil, (fun _ h => nomatch h), (fun _ h => nomatch h), (fun _ h => nomatch h), (fun _ h => nomatch h), Nat.zero_le _⟩, Nat.le_refl _⟩ (fun pre x post σ H' e p => ?_) fun σ H' p => ?_
    · obtain ⟨hs, t1, t2, rfl, g, dd, l, hpre, hok, hle⟩ := p
      have hx : x ∈ ls := by rw [e]; simp
      have hxp : x ∉ pre := by
        rw [e, List.nodup_append] at hnd
        exact fun z => hnd.2.2 x z x (List.mem_cons_self ..) rfl
      refine ⟨_, rfl, _, rfl, fun L2 hL2 => ?_⟩
      have m1 := dd.ne hL2
      have m2 := dd.nc hL2
      have LL : L ≠ L2 := l.ne hL2
      refine lc_pre (walk_tx (l := ls)) ls rfl (On d) (fun pre acc H' => Draw H' d c ∧ ∃ os : List Nat, acc = txts os ∧ os.Sublist pre ∧ x ∉ os) hL2 (fun z => m1 z.symm) (szL (by omega)) (fun _ _ => trivial) (fun H' g => ⟨dd.growN g, [], rfl, List.Sublist.refl _, by simp⟩) (fun pre y post acc v H1 H2 Kq N e _ g0 pd yy kq kn => ?_) fun H1 acc hacc g1 l1 pd => ?_
      · obtain ⟨rfl, j, h1, rfl⟩ := yy
        have e2 := at_mid e h1
        subst e2
        obtain ⟨d1, os, rfl, hsub, hno⟩ := pd
        refine ⟨rfl, ?_⟩
        refine ⟨_, rfl, _, rfl, rfl, _, rfl, ?_⟩
        rw [sg_dec]
        by_cases hj : j = x
        · refine iteF' (nF hj) ?_
          refine iteF' rfl ?_
          exact kn _ (Grow.refl _) ⟨d1, os, rfl, hsub.trans (List.sublist_append_left ..), hno⟩
        · refine iteT' (nT hj) ?_
          refine ⟨_, rfl, d, c, 3, rfl, d1, by decide, by decide, fun H3 z g3 d3 z0 z1 => ?_⟩
          refine ⟨_, _, rfl, rfl, _, rfl, ?_⟩
          by_cases hz : 0 < z
          · refine iteT' (dT hz) ?_
            refine ⟨_, rfl, ?_⟩
            refine kq _ _ (.text (sg j)) g3 (.text _) fun H4 g4 => ⟨d3.at g4 m1 m2, os ++ [j], by unfold txts; rw [List.map_append]; rfl, hsub.append (List.Sublist.refl _), fun z => ?_⟩
            rcases List.mem_append.mp z with z | z
            · exact hno z
            · exact hj (List.mem_singleton.mp z).symm
          · refine iteF' (dF hz) ?_
            exact kn _ g3 ⟨d3, os, rfl, hsub.trans (List.sublist_append_left ..), hno⟩
      · obtain ⟨d1, os, rfl, hsub, hno⟩ := pd
        have l2 := l.keep g1 n1
        obtain ⟨ov, eo, ro⟩ := id l1
        refine ⟨_, rfl, !ov.isEmpty, .inl ⟨ov, SqL.of eo, rfl⟩, ?_⟩
        have eo2 : ov.isEmpty = os.isEmpty := by
          rw [txts_of ro]
          cases os <;> rfl
        rw [eo2]
        cases os with
        | nil =>
          refine iteF' rfl ?_
          refine iteF' rfl ?_
          exact ⟨hs, _, _, rfl, g.trans g1, d1, l2, fun p hp => List.mem_append_left _ (hpre p hp), hok, by rw [len_snoc]; omega⟩
        | cons o os =>
          refine iteT' rfl ?_
          refine ⟨_, rfl, d, c, 4, rfl, d1, by decide, by decide, fun H3 z g3 d3 z0 z1 => ?_⟩
          have l3 := l2.keep g3 n1
          have o3 := l1.keep g3 m1
          refine ⟨_, _, rfl, rfl, _, rfl, ?_⟩
          by_cases hz : 0 < z
          · refine iteT' (dT hz) ?_
            refine ⟨_, rfl, tyL l3, ?_⟩
            have hlen := hsub.length_le
            have J := join_parts (K := K) o3 (by omega)
            refine ⟨_, rfl, ⟨_, rfl⟩, _, rfl, "", L2, (o :: os).map sg, rfl, rfl, J.1, J.2, ?_⟩
            rw [joinE]
            refine ⟨(by decide : 2 ≤ sizeLine), fun t ht => ?_⟩
            have at1 := tup_new (.cons (.text (sg x)) (.cons (.text (tx (o :: os))) .nil)) ht
            refine ⟨L, _, _, _, rfl, rfl, l3.growN (Grow.new ht), at1, szL (by rw [List.length_map]; have := hok.len; omega), fun H4 g4 l4 => ?_⟩
            refine ⟨hs ++ [(x, o :: os)], _, _, rfl, ((g.trans (g1.trans g3)).then (Grow.new ht)).loc g4 hL, (d3.growN (Grow.new ht)).at g4 n1 n2, by rw [List.map_append]; exact l4, fun p hp => ?_, ⟨?_, all_snoc hok.mem hx, all_snoc hok.ne (fun z => by cases z), all_snoc hok.sub hsub, all_snoc hok.no hno, ?_⟩, by rw [len_snoc, len_snoc]; omega⟩
            · rcases List.mem_append.mp hp with z | z
              · exact List.mem_append_left _ (hpre p z)
              · rw [List.mem_singleton.mp z]
                simp
            · rw [List.map_append, List.nodup_append]
              refine ⟨hok.nd, by simp, fun a ha b hb => ?_⟩
              have hb : b = x := by simpa using hb
              rw [hb]
              intro z
              obtain ⟨p, hp, rfl⟩ := List.mem_map.mp ha
              exact hxp (z ▸ hpre p hp)
            · rw [len_snoc]
              have := congrArg List.length e
              rw [List.length_append, List.length_cons] at this
              omega
          · refine iteF' (dF hz) ?_
            exact ⟨hs, _, _, rfl, g.trans (g1.trans g3), d3, l3, fun p hp => List.mem_append_left _ (hpre p hp), hok, by rw [len_snoc]; omega⟩
    · obtain ⟨hs, t1, t2, rfl, g, dd, l, hpre, hok, hle⟩ := p
      exact ⟨_, rfl, L, _, rfl, l, fun H3 v g3 a3 => k H3 v hs (g.then g3) (dd.growN g3) hok a3⟩
/-- what is heard for a letter -/
def heard (hs : Hears) (c : Nat) : List Nat := match hs.find? (fun p => p.1 == c) with
  | some p => p.2
  | none => []
def sp_law_can_ring : Sp := fun vs H Q _ => ∃ x hs ls c, vs = [x, .str (sg c)] ∧ At H (hearsD hs) x ∧ HOk ls hs ∧ ls.length ≤ 4 ∧ ∀ H' L ys, Grow No H H' → ys.Perm (c :: heard hs c) → Ls H' L (txts ys) → H L = none → Q (.ref L) H'
theorem pairD_inj (a b : Nat × List Nat) (h : pairD a = pairD b) : a = b := by
  unfold pairD at h
  injection h with h
  injection h with h1 h
  injection h with h2 h
  injection h1 with h1
  injection h2 with h2
  cases a
  cases b
  have e1 := sg_inj h1
  have e2 := tx_inj h2
  simp only at e1 e2
  rw [e1, e2]
theorem heard_ne {hs : Hears} {p : Nat × List Nat} {c : Nat} (h : p.1 ≠ c) : heard (hs ++ [p]) c = heard hs c := by
  unfold heard
  rw [List.find?_append]
  have e : List.find? (fun q : Nat × List Nat => q.1 == c) [p] = none := by simp [h]
  rw [e, Option.or_none]
theorem heard_eq {hs : Hears} {p : Nat × List Nat} {c : Nat} (h : p.1 = c) (hn : c ∉ hs.map Prod.fst) : heard (hs ++ [p]) c = p.2 ∧ heard hs c = [] := by
  have e0 : hs.find? (fun q => q.1 == c) = none := by
    rw [List.find?_eq_none]
    intro x hx z
    exact hn (List.mem_map.mpr ⟨x, hx, by simpa using z⟩)
  unfold heard
  rw [List.find?_append, e0]
  refine ⟨?_, rfl⟩
  have e : List.find? (fun q : Nat × List Nat => q.1 == c) [p] = some p := by simp [h]
  rw [e]
  rfl
theorem heard_len {ls : List Nat} {hs : Hears} (h : HOk ls hs) (c : Nat) : (heard hs c).length ≤ ls.length := by
  unfold heard
  cases e : hs.find? (fun q => q.1 == c) with
  | none => exact Nat.zero_le _
  | some p => exact (h.sub p (List.mem_of_find?_eq_some e)).length_le
abbrev N_law_can_ring : List Str := ["_law_hears_here", "_law_letter_here", "_law_found", "_law_pair"]
theorem sc_law_can_ring : FnScope ["_law_hears_here", "_law_letter_here", "_law_found", "_law_pair"] ["_law_hears_here", "_law_letter_here"] (defScope s_law_can_ring) := ⟨rfl, rfl, rfl, by decide +kernel, rfl, by decide +kernel, by decide +kernel⟩
theorem bd_law_can_ring (T : Txt K mg) : Binds K (fdOf K a_law_can_ring) ["_law_hears_here", "_law_letter_here"] [] := FunD.bindsN T.F_law_can_ring fun _ _ _ _ _ _ us hl => match us, hl with | [_, _], _ => rfl
theorem ok_law_can_ring (T : Txt K mg) : FnOk P w K mg base CX0 1 a_law_can_ring (fdOf K a_law_can_ring) ["_law_hears_here", "_law_letter_here"] (sp_law_can_ring) := by
  refine ok0 T.F_law_can_ring sc_law_can_ring (fun vs H Q E h => ?_) (fun cdv A outer s H vs Q E hr h => ?_)
  · obtain ⟨x, hs, ls, c, rfl, hx, hok, hl4, k⟩ := h
    rfl
  · obtain ⟨x, hs, ls, c, rfl, hx, hok, hl4, k⟩ := h
    have hU := hr.units
    have hu := hu_of hr
    refine ⟨_, (pss_cons (ps_set (i := 2) sc_law_can_ring.nd rfl (Or.inl rfl) (pe_lst (pa_cons (pv 1) pa_nil)))
      (pss_cons (ps_for PassesOwn.never rfl (pi_tup (pv 0)) (pg_name (i := 3) sc_law_can_ring.nd rfl (Or.inl rfl)) (pss_one (ps_if (pt_cmpR op_eq (pe_ix ix_tupK (pv 3) pe_int (fun _ _ => rfl)) (pv 1) (nomark _)) (pss_one (ps_expr (pe_bm PySem.F.plainAttrs_list PySem.F.slot_list_extend PySem.F.type_list_extend mt_extK (pv 2) (pa_cons (pe_callTy (call_listS rfl) (by rfl) T.z_list (by decide +kernel) (pa_cons (pe_ix ix_tupK (pv 3) pe_int (fun _ _ => rfl)) pa_nil)) pa_nil)))) pss_nil)))
      (pss_one (ps_ret (pe_callB call_sortT (by rfl) T.z_sorted (by decide +kernel) (pa_cons (pv 2) pa_nil)))))), ?_⟩
    refine ⟨_, rfl, (by decide : 1 ≤ sizeLine), fun L hL => ?_⟩
    have g0 : Grow No H (upd H L (.lst [.str (sg c)])) := Grow.new hL
    have l0 : Ls (upd H L (.lst [.str (sg c)])) L (txts [c]) := Ls.new (.cons (.text _) .nil) hL
    generalize upd H L (.lst [.str (sg c)]) = H0 at g0 l0
    obtain ⟨a, vs, rfl, h1, h2⟩ := hx.ref
    have hx0 := g0.at hx
    refine ⟨_, rfl, a, rfl, ⟨_, SqT.of (g0.oN h1)⟩, ?_⟩
    have hlen := hok.len
    refine for_tupK (ks := hs.map pairD) (fun pre σ H' => Grow No H H' ∧ ∃ (p : Hears) (t : Option V), pre = p.map pairD ∧ σ = [some (.ref a), some (.str (sg c)), some (.ref L), t] ∧ Ls H' L (txts (c :: heard p c)) ∧ (heard p c).length ≤ 4) ⟨g0, [], none, rfl, rfl, l0, Nat.zero_le _⟩ (fun pre σ H' p => p.1.at hx) (fun pre d post y σ H' e p hy => ?_) fun σ H' p => ?_
    · obtain ⟨g, p0, t, rfl, rfl, l, hl⟩ := p
      obtain ⟨p', z, q, ep, e2, rfl, rfl⟩ := map_mid e
      have e2 := map_inj pairD_inj e2
      subst e2
      have hz : z ∈ hs := by rw [ep]; simp
      refine ⟨_, rfl, _, _, 0, _, hy, rfl, ix20, rfl, fun v av => ?_⟩
      cases av
      refine ⟨_, rfl, rfl, _, rfl, ?_⟩
      rw [sg_dec]
      by_cases hc : z.1 = c
      · refine iteT' (dT hc) ?_
        have hn : c ∉ p0.map Prod.fst := by
          have nd := hok.nd
          rw [ep, List.map_append, List.nodup_append] at nd
          exact fun z' => nd.2.2 c z' c (by rw [List.map_cons, hc]; exact List.mem_cons_self ..) rfl
        obtain ⟨k1, k2⟩ := heard_eq hc hn
        have hsl := (hok.sub z hz).length_le
        rw [k2] at l
        refine ⟨_, rfl, tyL l, ?_⟩
        refine ⟨_, rfl, _, _, 1, _, hy, rfl, ix21, rfl, fun v av => ?_⟩
        cases av
        refine ⟨z.2, rfl, by omega, fun p2 H2 hp2 g2 l2 => ?_⟩
        refine ⟨L, p2, _, _, rfl, rfl, l.growN g2, l2, by rw [txts_len, txts_len]; exact Nat.le_of_lt (szL (by show 1 + z.2.length ≤ 100000; omega)), fun H3 g3 l3 => ?_⟩
        refine ⟨(g.trans g2).loc g3 hL, p0 ++ [z], _, by rw [List.map_append]; rfl, rfl, ?_, by rw [k1]; omega⟩
        rw [k1]
        exact l3
      · refine iteF' (dF hc) ?_
        refine ⟨g, p0 ++ [z], _, by rw [List.map_append]; rfl, rfl, ?_, ?_⟩
        · rw [heard_ne hc]
          exact l
        · rw [heard_ne hc]
          exact hl
    · obtain ⟨g, p0, t, e, rfl, l, hl⟩ := p
      have e := map_inj pairD_inj e
      subst e
      refine ⟨_, rfl, L, _, rfl, l, by rw [List.length_cons]; omega, fun ys p2 H2 hp hs2 hn g2 l2 => ?_⟩
      exact k H2 p2 ys (g.trans g2) hp l2 (g.ex _ hn)
end
end K81

namespace K81
open PySem PySem.Spec PyProof.Rows L2
/-! # The program's checks -/
mutual
/-- its tuples are short -/
def smB : D → Bool
  | .none => true
  | .num _ => true
  | .text _ => true
  | .tup ks => decide (ks.length ≤ 1000) && smBs ks
def smBs : List D → Bool
  | [] => true
  | k :: ks => smB k && smBs ks
end
theorem smBs_all : ∀ {ks : List D}, (∀ k ∈ ks, smB k = true) → smBs ks = true
  | [], _ => by simp [smBs]
  | k :: ks, h => by
    simp only [smBs, Bool.and_eq_true]
    exact ⟨h k (List.mem_cons_self ..), smBs_all fun x hx => h x (List.mem_cons_of_mem _ hx)⟩
theorem smBs_mem : ∀ {ks : List D}, smBs ks = true → ∀ k ∈ ks, smB k = true
  | [], _, k, h => (List.not_mem_nil h).elim
  | x :: ks, h, k, hk => by
    simp only [smBs, Bool.and_eq_true] at h
    rcases List.mem_cons.mp hk with e | hk
    · rw [e]
      exact h.1
    · exact smBs_mem h.2 k hk
theorem smB_tup {ks : List D} (h : ks.length ≤ 1000) (a : ∀ k ∈ ks, smB k = true) : smB (.tup ks) = true := by
  simp only [smB, Bool.and_eq_true, decide_eq_true_eq]
  exact ⟨h, smBs_all a⟩
theorem smB_row {r : Row} (h : r.length ≤ 1000) : smB (rowD r) = true := smB_tup (by rw [nums_len]; exact h) fun k hk => by
  obtain ⟨i, _, rfl⟩ := List.mem_map.mp hk
  simp [smB]
theorem depthAll_mem : ∀ {ks : List D} {n : Nat}, NestedKey.depthAll ks ≤ n → ∀ k ∈ ks, k.depth ≤ n
  | [], _, _, k, h => (List.not_mem_nil h).elim
  | x :: ks, n, h, k, hk => by
    have h : max x.depth (NestedKey.depthAll ks) ≤ n := h
    rcases List.mem_cons.mp hk with e | hk
    · rw [e]
      omega
    · exact depthAll_mem (by omega) k hk
section
variable {P : Program} {w : World} {K : PySem.W.Frag} {mg : Str → Option Value} {base : Heap}
def sp_deep (n : Nat) : Sp := fun vs H Q _ => ∃ x k lv, vs = [x, .int lv] ∧ At H k x ∧ k.depth ≤ n ∧ smB k = true ∧ ∀ H' v, Grow No H H' → At H' k v → Q v H'
abbrev N_deep : List Str := ["thing", "level", "part"]
theorem sc_deep : FnScope ["thing", "level", "part"] ["thing", "level"] (defScope s_deep) := ⟨rfl, rfl, rfl, by decide +kernel, rfl, by decide +kernel, by decide +kernel⟩
theorem bd_deep (T : Txt K mg) : Binds K (fdOf K a_deep) ["thing", "level"] [] := bindsFull (dvs := [V.int 0]) (FunD.binds1 T.F_deep 2 1 (by intro z; cases z) rfl fun _ _ _ _ _ _ _ us its hl hi => match us, hl, its, hi with | [_, _], _, [_], _ => ⟨_, rfl, rfl⟩)
theorem bd1_deep (T : Txt K mg) : ∃ ds, Vals [V.int 0] ds ∧ Binds K (fdOf K a_deep) ["thing", "level"] ds := FunD.binds1 T.F_deep 1 0 (by intro z; cases z) rfl fun _ _ _ _ _ _ _ us its hl hi => match us, hl, its, hi with | [_], _, [_], _ => ⟨_, rfl, rfl⟩
theorem ok_deep : ∀ (n : Nat) (T : Txt K mg), FnOk P w K mg base CX0 (n + 1) a_deep (fdOf K a_deep) ["thing", "level"] (sp_deep n)
  | 0, T => by
    refine ok0 T.F_deep sc_deep (fun vs H Q E h => ?_) (fun cdv A outer s H vs Q E hr h => ?_)
    · obtain ⟨x, k, lv, rfl, _⟩ := h
      rfl
    · obtain ⟨x, k, lv, rfl, hx, hk, hsm, q⟩ := h
      have hu := hu_of hr
      obtain ⟨tL, h_MOST_LEVELS⟩ := T.i_MOST_LEVELS
      refine ⟨_, pss_cons (ps_if (PW.pt (pw_and (pt_val (pe_callB call_isTK (by rfl) T.z_isinstance (by decide +kernel) (pa_cons (pv 0) (pa_cons (pe_tup (pa_cons (pe_bltn (v := .ty "list") rfl T.z_list (by decide +kernel) rfl) (pa_cons (pe_bltn (v := .ty "tuple") rfl T.z_tuple (by decide +kernel) rfl) pa_nil))) pa_nil)))) (pw_and1 (pt_cmpR op_lt (pv 1) (pe_glob (v := .int 60) rfl h_MOST_LEVELS ⟨_, rfl⟩) (nomark _))))) (pss_one ps_never) pss_nil)
        (pss_one (ps_ret (pv 0))), ?_⟩
      refine ⟨_, rfl, (by decide : 2 ≤ sizeLine), fun p hp => ?_⟩
      have g : Grow No H (upd H p (.tup [.ty "list", .ty "tuple"])) := Grow.new hp
      have fin : ∀ (B : Prop), (upd H p (.tup [.ty "list", .ty "tuple"])) p = some (.tup [.ty "list", .ty "tuple"]) := fun _ => upd_same
      cases hx with
      | none =>
        refine ⟨_, .none, "list", "tuple", p, false, rfl, upd_same, .none, by rw [kt_nl, kt_nt]; rfl, by rw [kt_nl]; rfl, by rw [kt_nt]; rfl, _, rfl, ?_⟩
        refine iteF' rfl ?_
        exact iteF' rfl ⟨_, rfl, q _ _ g .none⟩
      | num i =>
        refine ⟨_, .num i, "list", "tuple", p, false, rfl, upd_same, .num i, by rw [kt_il, kt_it]; rfl, by rw [kt_il]; rfl, by rw [kt_it]; rfl, _, rfl, ?_⟩
        refine iteF' rfl ?_
        exact iteF' rfl ⟨_, rfl, q _ _ g (.num i)⟩
      | text z =>
        refine ⟨_, .text z, "list", "tuple", p, false, rfl, upd_same, .text z, by rw [kt_sl, kt_st]; rfl, by rw [kt_sl]; rfl, by rw [kt_st]; rfl, _, rfl, ?_⟩
        refine iteF' rfl ?_
        exact iteF' rfl ⟨_, rfl, q _ _ g (.text z)⟩
      | tup _ _ => exact absurd hk (by show ¬ (_ + 1 ≤ 0); omega)
  | n + 1, T => by
    have ih : FnOk P w K mg base CX0 (n + 1) a_deep (fdOf K a_deep) ["thing", "level"] (sp_deep n) := ok_deep n T
    refine ok0 T.F_deep sc_deep (fun vs H Q E h => ?_) (fun cdv A outer s H vs Q E hr h => ?_)
    · obtain ⟨x, k, lv, rfl, _⟩ := h
      rfl
    · obtain ⟨x, k, lv, rfl, hx, hk, hsm, q⟩ := h
      have hu := hu_of hr
      obtain ⟨tL, h_MOST_LEVELS⟩ := T.i_MOST_LEVELS
      refine ⟨_, (pss_cons (ps_if (PW.pt (pw_and (pt_val (pe_callB call_isTK (by rfl) T.z_isinstance (by decide +kernel) (pa_cons (pv 0) (pa_cons (pe_tup (pa_cons (pe_bltn (v := .ty "list") rfl T.z_list (by decide +kernel) rfl) (pa_cons (pe_bltn (v := .ty "tuple") rfl T.z_tuple (by decide +kernel) rfl) pa_nil))) pa_nil)))) (pw_and1 (pt_cmpR op_lt (pv 1) (pe_glob (v := .int 60) rfl h_MOST_LEVELS ⟨_, rfl⟩) (nomark _))))) (pss_one (ps_ret (pe_callTy call_tupK (by rfl) T.z_tuple (by decide +kernel) (pa_cons (pe_lc (own := [("part", 2)]) rfl sc_deep.nd (pi_tup (pv 0)) (blkOk_by (own := [("part", 2)]) (N := N_deep) (sc := defScope s_deep) (by decide +kernel)) (fun _ _ _ _ _ => pg_name (i := 2) sc_deep.nd rfl (Or.inl rfl)) (fun _ _ _ _ _ => pts_nil) (fun _ _ _ _ _ => (pe_call ih (hr.mono (Nat.le_refl _)) (by rfl) T.g_deep T.F_deep.kp (bd_deep T) .nil pass0 (pa_cons (pv 2) (pa_cons (pe_op op_add (pv 1) pe_int) pa_nil))))) pa_nil)))) pss_nil)
        (pss_one (ps_ret (pv 0)))), ?_⟩
      refine ⟨_, rfl, (by decide : 2 ≤ sizeLine), fun p hp => ?_⟩
      have g : Grow No H (upd H p (.tup [.ty "list", .ty "tuple"])) := Grow.new hp
      cases hx with
      | none =>
        refine ⟨_, .none, "list", "tuple", p, false, rfl, upd_same, .none, by rw [kt_nl, kt_nt]; rfl, by rw [kt_nl]; rfl, by rw [kt_nt]; rfl, _, rfl, ?_⟩
        refine iteF' rfl ?_
        exact iteF' rfl ⟨_, rfl, q _ _ g .none⟩
      | num i =>
        refine ⟨_, .num i, "list", "tuple", p, false, rfl, upd_same, .num i, by rw [kt_il, kt_it]; rfl, by rw [kt_il]; rfl, by rw [kt_it]; rfl, _, rfl, ?_⟩
        refine iteF' rfl ?_
        exact iteF' rfl ⟨_, rfl, q _ _ g (.num i)⟩
      | text z =>
        refine ⟨_, .text z, "list", "tuple", p, false, rfl, upd_same, .text z, by rw [kt_sl, kt_st]; rfl, by rw [kt_sl]; rfl, by rw [kt_st]; rfl, _, rfl, ?_⟩
        refine iteF' rfl ?_
        exact iteF' rfl ⟨_, rfl, q _ _ g (.text z)⟩
      | @tup a vs ks ha hr2 =>
        have hx0 : At H (.tup ks) (.ref a) := .tup ha hr2
        have hx1 := g.at hx0
        simp only [smB, Bool.and_eq_true, decide_eq_true_eq] at hsm
        have hk' : NestedKey.depthAll ks ≤ n := by
          have : NestedKey.depthAll ks + 1 ≤ n + 1 := hk
          omega
        refine ⟨_, .tup ks, "list", "tuple", p, true, rfl, upd_same, hx1, by rw [kt_tl, kt_tt]; rfl, by rw [kt_tl]; rfl, by rw [kt_tt]; rfl, _, rfl, ?_⟩
        refine iteT' rfl ?_
        refine ⟨_, rfl, _, _, rfl, rfl, _, rfl, ?_⟩
        by_cases hl : lv < 60
        · refine iteT' (dT hl) ?_
          refine ⟨_, rfl, a, rfl, ⟨_, SqT.of (g.oN ha)⟩, fun L hL => ?_⟩
          refine lc_pre (walk_tupK (ks := ks)) ks rfl No (fun pre acc _ => acc = pre) hL id (szL' hsm.1) (fun H' g' => g'.at hx1) (fun _ _ => rfl) (fun pre d post acc v H1 H2 Kq N e _ g0 pd y kq kn => ?_) fun H1 acc _ g1 la pd => ?_
          · obtain ⟨rfl, j, h1, h2⟩ := y
            have e2 := at_mid e h1
            subst e2
            subst pd
            have hj : j ∈ ks := by rw [e]; simp
            refine ⟨rfl, ?_⟩
            refine ⟨_, rfl, _, rfl, _, _, rfl, rfl, v, j, lv + 1, rfl, h2, depthAll_mem hk' j hj, smBs_mem hsm.2 j hj, fun H3 v3 g3 a3 => ?_⟩
            exact kq _ _ j g3 a3 fun _ _ => rfl
          · subst pd
            exact ⟨L, _, rfl, la, fun H2 v g2 a2 => q H2 v ((g.trans g1).trans g2) a2⟩
        · refine iteF' (dF hl) ?_
          exact ⟨_, rfl, q _ _ g hx1⟩
abbrev ok_deep4 (T : Txt K mg) : FnOk P w K mg base CX0 5 a_deep (fdOf K a_deep) ["thing", "level"] (sp_deep 4) := ok_deep 4 T
def sp_is_sound_change : Sp := fun vs H Q _ => ∃ x c, ∃ n : Nat, vs = [x, .int n] ∧ At H (rowD c) x ∧ Bells n ∧ c ∈ chgs n ∧ ∀ H', Grow No H H' → Q (.bl true) H'
abbrev N_is_sound_change : List Str := ["thing", "stage", "before", "kept"]
theorem sc_is_sound_change : FnScope ["thing", "stage", "before", "kept"] ["thing", "stage"] (defScope s_is_sound_change) := ⟨rfl, rfl, rfl, by decide +kernel, rfl, by decide +kernel, by decide +kernel⟩
theorem bd_is_sound_change (T : Txt K mg) : Binds K (fdOf K a_is_sound_change) ["thing", "stage"] [] := FunD.bindsN T.F_is_sound_change fun _ _ _ _ _ _ us hl => match us, hl with | [_, _], _ => rfl
theorem ok_is_sound_change (T : Txt K mg) : FnOk P w K mg base CX0 3 a_is_sound_change (fdOf K a_is_sound_change) ["thing", "stage"] (sp_is_sound_change) := by
  refine ok0 T.F_is_sound_change sc_is_sound_change (fun vs H Q E h => ?_) (fun cdv A outer s H vs Q E hr h => ?_)
  · obtain ⟨x, c, n, rfl, hx, hn, hc, k⟩ := h
    rfl
  · obtain ⟨x, c, n, rfl, hx, hn, hc, k⟩ := h
    have hU := hr.units
    have hu := hu_of hr
    refine ⟨_, (pss_cons (ps_if (pt_not (pt_val (pe_call (ok_is_rising T) (hr.mono (by decide)) (by rfl) T.g_is_rising T.F_is_rising.kp (bd_is_rising T) .nil pass0 (pa_cons (pv 0) (pa_cons pe_int (pa_cons (pv 1) pa_nil)))))) (pss_one (ps_ret pe_bl)) pss_nil)
      (pss_cons (ps_set (i := 2) sc_is_sound_change.nd rfl (Or.inl rfl) pe_int)
      (pss_cons (ps_for PassesOwn.never rfl (pi_list (pe_lst (StX.pa_star (pv 0) (pa_cons (pe_op op_add (pv 1) pe_int) pa_nil)))) (pg_name (i := 3) sc_is_sound_change.nd rfl (Or.inl rfl)) (pss_cons (ps_if (pt_cmpR op_eq (pe_op op_mod (pe_op op_sub (pe_op op_sub (pv 3) (pv 2)) pe_int) pe_int) pe_int (nomark _)) (pss_one (ps_ret pe_bl)) pss_nil)
      (pss_one (ps_set (i := 2) sc_is_sound_change.nd rfl (Or.inl rfl) (pv 3)))))
      (pss_one (ps_ret pe_bl))))), ?_⟩
    refine ⟨_, rfl, _, rfl, x, c, 1, n, rfl, hx, chg_ris hn hc, _, rfl, ?_⟩
    refine iteF' rfl ?_
    obtain ⟨a, rfl, ha⟩ := row_of hx
    have hcl := chg_len hn hc
    refine ⟨_, rfl, a, _, rfl, .inl (SqT.of ha), _, rfl, _, _, rfl, rfl, ?_, fun L hL => ?_⟩
    · rw [List.length_append, List.length_map]
      exact Nat.le_of_lt (szL' (by show c.length + 1 ≤ 1000; omega))
    have e : c.map V.int ++ [V.int ((n : Int) + 1)] = (c ++ [(n : Int) + 1]).map V.int := by
      rw [List.map_append]
      rfl
    refine ⟨L, rfl, ⟨_, SqL.of upd_same⟩, ?_⟩
    have l0 : Ls (upd H L (.lst (c.map V.int ++ [V.int ((n : Int) + 1)]))) L (nums (c ++ [(n : Int) + 1])) := by
      rw [e]
      exact Ls.new (ats_nums _) hL
    have g0 : Grow No H (upd H L (.lst (c.map V.int ++ [V.int ((n : Int) + 1)]))) := Grow.new hL
    refine for_lstK (ks := nums (c ++ [(n : Int) + 1])) (fun pre σ H' => Grow No H H' ∧ Ls H' L (nums (c ++ [(n : Int) + 1])) ∧ ∃ (b : Int) (r : Row) (t : Option V), nums (c ++ [(n : Int) + 1]) = pre ++ nums r ∧ σ = [some (.ref a), some (.int n), some (.int b), t] ∧ gapB b r = true) ⟨g0, l0, 0, _, none, rfl, rfl, chg_gap hn hc⟩ (fun pre σ H' p => p.2.1) (fun pre d post y σ H' e p hy => ?_) fun σ H' p => ?_
    · obtain ⟨g, l, b, r, t, e2, rfl, hg⟩ := p
      have e3 := List.append_cancel_left (e2.symm.trans e)
      cases r with
      | nil => cases e3
      | cons z r =>
        cases e3
        cases hy
        simp only [gapB, Bool.and_eq_true] at hg
        have hz : ¬ (z - b - 1) % 2 = 1 := of_decide_eq_true hg.1
        refine ⟨_, rfl, _, rfl, _, _, rfl, rfl, _, _, rfl, rfl, _, _, rfl, rfl, (by decide : (0 : Int) < 2), rfl, _, rfl, ?_⟩
        refine iteF' (dF fun q => hz (V.int.inj q)) ?_
        exact ⟨_, rfl, g, l, z, r, _, by rw [e2, List.append_assoc]; rfl, rfl, hg.2⟩
    · exact k H' p.1
end
end K81

namespace K81
open PySem PySem.Spec PyProof.Rows L2
section
variable {P : Program} {w : World} {K : PySem.W.Frag} {mg : Str → Option Value} {base : Heap}
def sp_are_changes : Sp := fun vs H Q _ => ∃ x cs, ∃ n : Nat, vs = [x, .int n] ∧ At H (.tup (rws cs)) x ∧ Bells n ∧ cs ≠ [] ∧ (∀ c ∈ cs, c ∈ chgs n) ∧ ∀ H', Grow No H H' → Q (.bl true) H'
abbrev N_are_changes : List Str := ["thing", "stage", "change"]
theorem sc_are_changes : FnScope ["thing", "stage", "change"] ["thing", "stage"] (defScope s_are_changes) := ⟨rfl, rfl, rfl, by decide +kernel, rfl, by decide +kernel, by decide +kernel⟩
theorem bd_are_changes (T : Txt K mg) : Binds K (fdOf K a_are_changes) ["thing", "stage"] [] := FunD.bindsN T.F_are_changes fun _ _ _ _ _ _ us hl => match us, hl with | [_, _], _ => rfl
theorem ok_are_changes (T : Txt K mg) : FnOk P w K mg base CX0 4 a_are_changes (fdOf K a_are_changes) ["thing", "stage"] (sp_are_changes) := by
  refine ok0 T.F_are_changes sc_are_changes (fun vs H Q E h => ?_) (fun cdv A outer s H vs Q E hr h => ?_)
  · obtain ⟨x, cs, n, rfl, hx, hn, hne, hc, k⟩ := h
    rfl
  · obtain ⟨x, cs, n, rfl, hx, hn, hne, hc, k⟩ := h
    have hU := hr.units
    have hu := hu_of hr
    refine ⟨_, (pss_cons (ps_if (PW.pt (pw_or (pt_not (pt_val (pe_callB call_isK (by rfl) T.z_isinstance (by decide +kernel) (pa_cons (pv 0) (pa_cons (pe_bltn (v := .ty "tuple") rfl T.z_tuple (by decide +kernel) rfl) pa_nil))))) (pw_or1 (pt_not (pt_truth (pv 0) (by intro _; rfl)))))) (pss_one (ps_ret pe_bl)) pss_nil)
      (pss_cons (ps_for PassesOwn.never rfl (pi_tup (pv 0)) (pg_name (i := 2) sc_are_changes.nd rfl (Or.inl rfl)) (pss_one (ps_if (pt_not (pt_val (pe_call (ok_is_sound_change T) (hr.mono (by decide)) (by rfl) T.g_is_sound_change T.F_is_sound_change.kp (bd_is_sound_change T) .nil pass0 (pa_cons (pv 2) (pa_cons (pv 1) pa_nil))))) (pss_one (ps_ret pe_bl)) pss_nil)))
      (pss_one (ps_ret pe_bl)))), ?_⟩
    obtain ⟨a, vs, rfl, h1, h2⟩ := hx.ref
    refine ⟨_, rfl, _, _, _, true, rfl, hx, kt_tt, _, rfl, ?_⟩
    refine iteF' rfl ?_
    refine ⟨_, rfl, !vs.isEmpty, .inr (.inl ⟨vs, SqT.of h1, rfl⟩), ?_⟩
    have hv : vs.isEmpty = false := by
      cases vs with
      | nil =>
        cases cs with
        | nil => exact (hne rfl).elim
        | cons _ _ => cases h2
      | cons _ _ => rfl
    rw [hv]
    refine iteF' rfl ?_
    refine ⟨_, rfl, a, rfl, ⟨_, SqT.of h1⟩, ?_⟩
    refine for_tupK (ks := rws cs) (fun pre σ H' => Grow No H H' ∧ ∃ (t : Option V), σ = [some (.ref a), some (.int n), t]) ⟨Grow.refl _, none, rfl⟩ (fun pre σ H' p => p.1.at hx) (fun pre d post y σ H' e p hy => ?_) fun σ H' p => ?_
    · obtain ⟨g, t, rfl⟩ := p
      obtain ⟨p', z, q, ep, rfl, rfl, rfl⟩ := map_mid e
      refine ⟨_, rfl, _, rfl, y, z, n, rfl, hy, hn, hc z (by rw [ep]; simp), fun H2 g2 => ?_⟩
      refine ⟨_, rfl, ?_⟩
      refine iteF' rfl ?_
      exact ⟨g.trans g2, _, rfl⟩
    · exact k H' p.1
def sp_check_plain : Sp := fun vs H Q _ => ∃ x cs, ∃ n : Nat, vs = [x, .int n] ∧ At H (.tup (rws cs)) x ∧ Bells n ∧ cs ≠ [] ∧ cs.length ≤ 32 ∧ (∀ c ∈ cs, c ∈ chgs n) ∧ ∀ H', Grow No H H' → Q .non H'
abbrev N_check_plain : List Str := ["plain", "stage", "number", "change"]
theorem sc_check_plain : FnScope ["plain", "stage", "number", "change"] ["plain", "stage"] (defScope s_check_plain) := ⟨rfl, rfl, rfl, by decide +kernel, rfl, by decide +kernel, by decide +kernel⟩
theorem bd_check_plain (T : Txt K mg) : Binds K (fdOf K a_check_plain) ["plain", "stage"] [] := FunD.bindsN T.F_check_plain fun _ _ _ _ _ _ us hl => match us, hl with | [_, _], _ => rfl
theorem ok_check_plain (T : Txt K mg) : FnOk P w K mg base CX0 4 a_check_plain (fdOf K a_check_plain) ["plain", "stage"] (sp_check_plain) := by
  refine ok0 T.F_check_plain sc_check_plain (fun vs H Q E h => ?_) (fun cdv A outer s H vs Q E hr h => ?_)
  · obtain ⟨x, cs, n, rfl, hx, hn, hne, hlen, hc, k⟩ := h
    rfl
  · obtain ⟨x, cs, n, rfl, hx, hn, hne, hlen, hc, k⟩ := h
    have hU := hr.units
    have hu := hu_of hr
    refine ⟨_, (pss_cons (ps_if (PW.pt (pw_or (pt_not (pt_val (pe_callB call_isK (by rfl) T.z_isinstance (by decide +kernel) (pa_cons (pv 0) (pa_cons (pe_bltn (v := .ty "tuple") rfl T.z_tuple (by decide +kernel) rfl) pa_nil))))) (pw_or1 (pt_not (pt_chain op_le op_le pe_int (pe_callB call_lenK (by rfl) T.z_len PySem.boot_len (pa_cons (pv 0) pa_nil)) pe_int))))) (pss_one ps_never) pss_nil)
      (pss_one (ps_for PassesOwn.never rfl (pi_enumT (by rfl) T.z_enumerate (pa_cons (pv 0) pa_nil)) (pg_tup rfl (pgs_cons (pg_name (i := 2) sc_check_plain.nd rfl (Or.inl rfl)) (pgs_cons (pg_name (i := 3) sc_check_plain.nd rfl (Or.inl rfl)) pgs_nil))) (pss_one (ps_if (pt_not (pt_val (pe_call (ok_is_sound_change T) (hr.mono (by decide)) (by rfl) T.g_is_sound_change T.F_is_sound_change.kp (bd_is_sound_change T) .nil pass0 (pa_cons (pv 3) (pa_cons (pv 1) pa_nil))))) (pss_one ps_never) pss_nil))))), ?_⟩
    obtain ⟨a, vs, rfl, h1, h2⟩ := hx.ref
    have hpos := List.length_pos_iff.mpr hne
    refine ⟨_, rfl, _, _, _, true, rfl, hx, kt_tt, _, rfl, ?_⟩
    refine iteF' rfl ?_
    refine ⟨_, rfl, _, _, rfl, .inl hx, _, _, rfl, rfl, _, rfl, ?_⟩
    rw [rws_len]
    refine iteT' (dT (by omega)) ?_
    refine ⟨_, _, rfl, rfl, _, rfl, ?_⟩
    refine iteF' (nF (by omega)) ?_
    refine ⟨_, rfl, a, vs, rfl, h1, ?_⟩
    refine for_pre walk_enumT (rws cs) rfl (fun pre σ H' => Grow No H H' ∧ ∃ (t1 t2 : Option V), σ = [some (.ref a), some (.int n), t1, t2]) ⟨Grow.refl _, none, none, rfl⟩ (fun pre σ H' p => p.1.at hx) (fun pre d post y σ H' H2 e p hy => ?_) fun σ H' p => ?_
    · obtain ⟨g, t1, t2, rfl⟩ := p
      obtain ⟨T', x', k', rfl, hT, rfl, e1, ax⟩ := hy
      have e2 := at_mid e e1
      subst e2
      obtain ⟨p', z, q, ep, rfl, rfl, rfl⟩ := map_mid e
      have gT : Grow No H' (upd H' T' (.tup [.int ((rws p').length : Nat), x'])) := Grow.new hT
      refine ⟨T', _, rfl, SqT.of upd_same, rfl, _, _, rfl, _, _, rfl, rfl, ?_⟩
      refine ⟨_, rfl, _, rfl, x', z, n, rfl, gT.at ax, hn, hc z (by rw [ep]; simp), fun H3 g3 => ?_⟩
      refine ⟨_, rfl, ?_⟩
      refine iteF' rfl ?_
      exact ⟨(g.trans gT).trans g3, _, _, rfl⟩
    · exact k H' p.1
theorem alpha_sub {c : Nat} (h : c ∈ alpha) : c ∈ ("abcdefghijklmnopqrstuvwxyz" : Str).cps.toList ∧ c ≠ 112 := by
  have e : ∀ x ∈ alpha, x ∈ ("abcdefghijklmnopqrstuvwxyz" : Str).cps.toList ∧ x ≠ 112 := by decide +kernel
  exact e c h
theorem p_sg : V.str ("p" : Str) = V.str (sg 112) := by
  have : ("p" : Str) = sg 112 := by decide +kernel
  rw [this]
def sp_is_call : Sp := fun vs H Q _ => ∃ x W q, ∃ m : Nat, vs = [x, .int (W.n : Nat), .int m] ∧ At H (callD q) x ∧ WOk W ∧ COk W q ∧ m = W.plain.length ∧ ∀ H', Grow No H H' → Q (.bl true) H'
abbrev N_is_call : List Str := ["thing", "stage", "size", "letter", "at", "many"]
theorem sc_is_call : FnScope ["thing", "stage", "size", "letter", "at", "many"] ["thing", "stage", "size"] (defScope s_is_call) := ⟨rfl, rfl, rfl, by decide +kernel, rfl, by decide +kernel, by decide +kernel⟩
theorem bd_is_call (T : Txt K mg) : Binds K (fdOf K a_is_call) ["thing", "stage", "size"] [] := FunD.bindsN T.F_is_call fun _ _ _ _ _ _ us hl => match us, hl with | [_, _, _], _ => rfl
theorem ok_is_call (T : Txt K mg) : FnOk P w K mg base CX0 5 a_is_call (fdOf K a_is_call) ["thing", "stage", "size"] (sp_is_call) := by
  refine ok0 T.F_is_call sc_is_call (fun vs H Q E h => ?_) (fun cdv A outer s H vs Q E hr h => ?_)
  · obtain ⟨x, W, q, m, rfl, hx, ok, ck, rfl, k⟩ := h
    rfl
  · obtain ⟨x, W, q, m, rfl, hx, ok, ck, rfl, k⟩ := h
    have hU := hr.units
    have hu := hu_of hr
    refine ⟨_, (pss_cons (ps_if (PW.pt (pw_or (pt_not (pt_val (pe_callB call_isK (by rfl) T.z_isinstance (by decide +kernel) (pa_cons (pv 0) (pa_cons (pe_bltn (v := .ty "tuple") rfl T.z_tuple (by decide +kernel) rfl) pa_nil))))) (pw_or1 (pt_cmpR op_ne (pe_callB call_lenK (by rfl) T.z_len PySem.boot_len (pa_cons (pv 0) pa_nil)) pe_int (nomark _))))) (pss_one (ps_ret pe_bl)) pss_nil)
      (pss_cons (ps_asg (pv 0) (pg_tup rfl (pgs_cons (pg_name (i := 3) sc_is_call.nd rfl (Or.inl rfl)) (pgs_cons (pg_name (i := 4) sc_is_call.nd rfl (Or.inl rfl)) (pgs_cons (pg_name (i := 5) sc_is_call.nd rfl (Or.inl rfl)) pgs_nil)))))
      (pss_cons (ps_if (PW.pt (pw_or (pt_not (pt_val (pe_call (ok_is_letter T) (hr.mono (by decide)) (by rfl) T.g_is_letter T.F_is_letter.kp (bd_is_letter T) .nil pass0 (pa_cons (pv 3) pa_nil)))) (pw_or (pt_cmpR op_eq (pv 3) pe_str (nomark _)) (pw_or1 (pt_not (pt_val (pe_call (ok_is_integer T) (hr.mono (by decide)) (by rfl) T.g_is_integer T.F_is_integer.kp (bd_is_integer T) .nil pass0 (pa_cons (pv 4) (pa_cons pe_int (pa_cons (pv 2) pa_nil)))))))))) (pss_one (ps_ret pe_bl)) pss_nil)
      (pss_one (ps_ret (pe_and (pe_call (ok_are_changes T) (hr.mono (by decide)) (by rfl) T.g_are_changes T.F_are_changes.kp (bd_are_changes T) .nil pass0 (pa_cons (pv 5) (pa_cons (pv 1) pa_nil))) (pe_one (pe_cmpR op_le (pe_op op_add (pv 4) (pe_callB call_lenK (by rfl) T.z_len PySem.boot_len (pa_cons (pv 5) pa_nil))) (pv 2) (nomark _))))))))), ?_⟩
    have hn := ok.bells
    obtain ⟨a, vs, rfl, h1, h2⟩ := hx.ref
    obtain ⟨ha1, ha2⟩ := alpha_sub ck.al
    have hfit := ck.fit
    refine ⟨_, rfl, _, _, _, true, rfl, hx, kt_tt, _, rfl, ?_⟩
    refine iteF' rfl ?_
    refine ⟨_, rfl, _, _, rfl, .inl hx, rfl, _, rfl, ?_⟩
    refine iteF' (nF rfl) ?_
    cases h2 with
    | @cons _ v1 _ _ a1 r1 =>
    cases r1 with
    | @cons _ v2 _ _ a2 r2 =>
    cases r2 with
    | @cons _ v3 _ _ a3 r3 =>
    cases r3
    cases a1
    cases a2
    refine ⟨_, rfl, a, _, rfl, SqT.of h1, rfl, _, _, rfl, _, _, rfl, _, _, rfl, rfl, ?_⟩
    refine ⟨_, rfl, q.c, rfl, ha1, _, rfl, ?_⟩
    refine iteF' rfl ?_
    refine ⟨_, rfl, rfl, _, rfl, ?_⟩
    rw [p_sg, sg_dec]
    refine iteF' (dF ha2) ?_
    refine ⟨_, rfl, _, rfl, _, _, _, rfl, _, rfl, ?_⟩
    refine iteF' (nF ⟨by omega, by omega⟩) ?_
    refine ⟨_, rfl, _, rfl, v3, q.many, W.n, rfl, a3, hn, ck.ne, ck.many, fun H2 g2 => ?_⟩
    refine ⟨true, rfl, ?_⟩
    refine iteT' rfl ?_
    refine ⟨_, rfl, _, rfl, v3, _, rfl, .inl (g2.at a3), _, _, rfl, rfl, _, rfl, _, _, rfl, rfl, ?_⟩
    rw [rws_len]
    have e : decide (((q.at_ : Nat) : Int) + ((q.many.length : Nat) : Int) ≤ ((W.plain.length : Nat) : Int)) = true := dT (by omega)
    have k2 := k H2 g2
    rw [← e] at k2
    exact k2
/-- a dict with these signs as keys -/
def KD (H : Hp) (a : Addr) (ls : List Nat) : Prop := ∃ kvs, H a = some (.dK kvs) ∧ kvs.map (·.1) = ls.map fun c => (Sum.inr (sg c) : Key)
theorem valV_no {k : Key} : ∀ {kvs : List (Key × V)}, k ∉ kvs.map (·.1) → valV kvs k = none
  | [], _ => rfl
  | p :: kvs, h => by
    rw [List.map_cons] at h
    have h1 : ¬ p.1 = k := fun z => h (z ▸ List.mem_cons_self ..)
    rw [valV_neg h1]
    exact valV_no fun z => h (List.mem_cons_of_mem _ z)
theorem KD.no {H : Hp} {a : Addr} {ls : List Nat} (h : KD H a ls) {c : Nat} (n : c ∉ ls) : DGet H a (.str (sg c)) none := by
  obtain ⟨kvs, e, ek⟩ := h
  have : valV kvs (Sum.inr (sg c) : Key) = none := valV_no fun z => by
    rw [ek] at z
    obtain ⟨x, hx, e2⟩ := List.mem_map.mp z
    exact n (key_inj.mp e2 ▸ hx)
  rw [← this]
  exact DGet.k (k := Sum.inr (sg c)) e
theorem KD.put {H : Hp} {a : Addr} {ls : List Nat} (h : KD H a ls) {c : Nat} (n : c ∉ ls) (v : V) (hl : ls.length ≤ 1000) : ∃ H1, DPut H a (.str (sg c)) v H1 ∧ Grow (On a) H H1 ∧ KD H1 a (ls ++ [c]) := by
  obtain ⟨kvs, e, ek⟩ := h
  have hv : valV kvs (Sum.inr (sg c) : Key) = none := valV_no fun z => by
    rw [ek] at z
    obtain ⟨x, hx, e2⟩ := List.mem_map.mp z
    exact n (key_inj.mp e2 ▸ hx)
  have hlen : kvs.length = ls.length := by
    have := congrArg List.length ek
    rw [List.length_map, List.length_map] at this
    exact this
  refine ⟨_, DPut.k (k := Sum.inr (sg c)) e (by rw [hlen]; exact szL' hl), Grow.putO e (dK_ne_tup _), kvs ++ [(Sum.inr (sg c), v)], by rw [upd_same, putK_new v hv], ?_⟩
  rw [List.map_append, List.map_append, ek]
  rfl
theorem KD.growN {H H1 : Hp} {a : Addr} {ls : List Nat} (h : KD H a ls) (g : Grow No H H1) : KD H1 a ls := let ⟨kvs, e, ek⟩ := h; ⟨kvs, g.oN e, ek⟩
def sp_check_calls : Sp := fun vs H Q _ => ∃ x W, ∃ m : Nat, vs = [x, .int (W.n : Nat), .int m] ∧ At H (.tup (W.calls.map callD)) x ∧ WOk W ∧ m = W.plain.length ∧ ∀ H', Grow No H H' → Q .non H'
abbrev N_check_calls : List Str := ["calls", "stage", "size", "number", "call", "there", "letter", "at", "many"]
theorem sc_check_calls : FnScope ["calls", "stage", "size", "number", "call", "there", "letter", "at", "many"] ["calls", "stage", "size"] (defScope s_check_calls) := ⟨rfl, rfl, rfl, by decide +kernel, rfl, by decide +kernel, by decide +kernel⟩
theorem bd_check_calls (T : Txt K mg) : Binds K (fdOf K a_check_calls) ["calls", "stage", "size"] [] := FunD.bindsN T.F_check_calls fun _ _ _ _ _ _ us hl => match us, hl with | [_, _, _], _ => rfl
theorem ok_check_calls (T : Txt K mg) : FnOk P w K mg base CX0 6 a_check_calls (fdOf K a_check_calls) ["calls", "stage", "size"] (sp_check_calls) := by
  refine ok0 T.F_check_calls sc_check_calls (fun vs H Q E h => ?_) (fun cdv A outer s H vs Q E hr h => ?_)
  · obtain ⟨x, W, m, rfl, hx, ok, rfl, k⟩ := h
    rfl
  · obtain ⟨x, W, m, rfl, hx, ok, rfl, k⟩ := h
    have hU := hr.units
    have hu := hu_of hr
    refine ⟨_, (pss_cons (ps_if (pt_not (pt_val (pe_callB call_isK (by rfl) T.z_isinstance (by decide +kernel) (pa_cons (pv 0) (pa_cons (pe_bltn (v := .ty "tuple") rfl T.z_tuple (by decide +kernel) rfl) pa_nil))))) (pss_one ps_never) pss_nil)
      (pss_cons (ps_for PassesOwn.never rfl (pi_enumT (by rfl) T.z_enumerate (pa_cons (pv 0) pa_nil)) (pg_tup rfl (pgs_cons (pg_name (i := 3) sc_check_calls.nd rfl (Or.inl rfl)) (pgs_cons (pg_name (i := 4) sc_check_calls.nd rfl (Or.inl rfl)) pgs_nil))) (pss_one (ps_if (pt_not (pt_val (pe_call (ok_is_call T) (hr.mono (by decide)) (by rfl) T.g_is_call T.F_is_call.kp (bd_is_call T) .nil pass0 (pa_cons (pv 4) (pa_cons (pv 1) (pa_cons (pv 2) pa_nil)))))) (pss_one ps_never) pss_nil)))
      (pss_cons (ps_if (pt_cmpR op_gt (pe_callB call_lenK (by rfl) T.z_len PySem.boot_len (pa_cons (pv 0) pa_nil)) pe_int (nomark _)) (pss_one ps_never) pss_nil)
      (pss_cons (ps_set (i := 5) sc_check_calls.nd rfl (Or.inl rfl) pe_dnewK)
      (pss_one (ps_for PassesOwn.never rfl (pi_tup (pv 0)) (pg_tup rfl (pgs_cons (pg_name (i := 6) sc_check_calls.nd rfl (Or.inl rfl)) (pgs_cons (pg_name (i := 7) sc_check_calls.nd rfl (Or.inl rfl)) (pgs_cons (pg_name (i := 8) sc_check_calls.nd rfl (Or.inl rfl)) pgs_nil)))) (pss_cons (ps_if (pt_cmp (pc_din hu (pv 6) (pv 5))) (pss_one ps_never) pss_nil)
      (pss_one (ps_dput hu (pv 5) (pv 6) (pe_op op_add (pv 7) (pe_callB call_lenK (by rfl) T.z_len PySem.boot_len (pa_cons (pv 8) pa_nil))) rfl))))))))), ?_⟩
    have hfew := ok.few
    obtain ⟨a, vs, rfl, h1, h2⟩ := hx.ref
    refine ⟨_, rfl, _, _, _, true, rfl, hx, kt_tt, _, rfl, ?_⟩
    refine iteF' rfl ?_
    refine ⟨_, rfl, a, vs, rfl, h1, ?_⟩
    refine for_pre walk_enumT (W.calls.map callD) rfl (fun pre σ H' => Grow No H H' ∧ ∃ (t1 t2 : Option V), σ = [some (.ref a), some (.int (W.n : Nat)), some (.int (W.plain.length : Nat)), t1, t2, none, none, none, none]) ⟨Grow.refl _, none, none, rfl⟩ (fun pre σ H' p => p.1.at hx) (fun pre d post y σ H' H2 e p hy => ?_) fun σ H' p => ?_
    · obtain ⟨g, t1, t2, rfl⟩ := p
      obtain ⟨T', x', k', rfl, hT, rfl, e1, ax⟩ := hy
      have e2 := at_mid e e1
      subst e2
      obtain ⟨p', z, q, ep, rfl, rfl, rfl⟩ := map_mid e
      have gT : Grow No H' (upd H' T' (.tup [.int ((p'.map callD).length : Nat), x'])) := Grow.new hT
      refine ⟨T', _, rfl, SqT.of upd_same, rfl, _, _, rfl, _, _, rfl, rfl, ?_⟩
      refine ⟨_, rfl, _, rfl, _, rfl, x', W, z, _, rfl, gT.at ax, ok, ok.calls z (by rw [ep]; simp), rfl, fun H3 g3 => ?_⟩
      refine ⟨_, rfl, ?_⟩
      refine iteF' rfl ?_
      exact ⟨(g.trans gT).trans g3, _, _, rfl⟩
    · obtain ⟨g, t1, t2, rfl⟩ := p
      refine ⟨_, rfl, _, _, rfl, .inl (g.at hx), _, _, rfl, rfl, _, rfl, ?_⟩
      rw [List.length_map]
      refine iteF' (dF (by omega)) ?_
      refine fun dd hd => ?_
      have g0 : Grow No H (upd H' dd (.dK [])) := g.trans (Grow.new hd)
      have k0 : KD (upd H' dd (.dK [])) dd [] := ⟨[], upd_same, rfl⟩
      have hd0 := g.ex _ hd
      generalize upd H' dd (.dK []) = H0 at g0 k0
      refine ⟨_, rfl, a, rfl, ⟨_, SqT.of (g0.oN h1)⟩, ?_⟩
      refine for_tupK (ks := W.calls.map callD) (fun pre σ H' => Grow No H H' ∧ ∃ (p : List Cal) (t3 t4 t5 : Option V), pre = p.map callD ∧ σ = [some (.ref a), some (.int (W.n : Nat)), some (.int (W.plain.length : Nat)), t1, t2, some (.ref dd), t3, t4, t5] ∧ KD H' dd (p.map Cal.c)) ⟨g0, [], none, none, none, rfl, rfl, k0⟩ (fun pre σ H' p => p.1.at hx) (fun pre d post y σ H' e p hy => ?_) fun σ H' p => ?_
      · obtain ⟨g, p0, t3, t4, t5, rfl, rfl, kd⟩ := p
        obtain ⟨p', z, q, ep, e2, rfl, rfl⟩ := map_mid e
        have e2 := map_inj callD_inj e2
        subst e2
        have hn : z.c ∉ p0.map Cal.c := by
          have nd := ok.nd
          rw [ep, List.map_append, List.nodup_append] at nd
          exact fun z' => nd.2.2 z.c z' z.c (by rw [List.map_cons]; exact List.mem_cons_self ..) rfl
        have hpl : p0.length ≤ 3 := by
          have := congrArg List.length ep
          rw [List.length_append] at this
          omega
        obtain ⟨b, ws, rfl, h3, h4⟩ := hy.ref
        cases h4 with
        | @cons _ v1 _ _ a1 r1 =>
        cases r1 with
        | @cons _ v2 _ _ a2 r2 =>
        cases r2 with
        | @cons _ v3 _ _ a3 r3 =>
        cases r3
        cases a1
        cases a2
        refine ⟨b, _, rfl, SqT.of h3, rfl, _, _, rfl, _, _, rfl, _, _, rfl, rfl, ?_⟩
        refine ⟨_, rfl, _, rfl, dd, none, rfl, kd.no hn, _, rfl, ?_⟩
        refine iteF' rfl ?_
        obtain ⟨H2, hput, g2, kd2⟩ := kd.put hn (.int ((z.at_ : Nat) + ((rws z.many).length : Nat))) (by rw [List.length_map]; omega)
        refine ⟨_, rfl, _, rfl, v3, _, rfl, .inl a3, _, _, rfl, rfl, _, rfl, _, rfl, dd, H2, rfl, hput, ?_⟩
        exact ⟨g.loc g2 hd0, p0 ++ [z], _, _, _, by rw [List.map_append]; rfl, rfl, by rw [List.map_append]; exact kd2⟩
      · exact k H' p.1
/-- the rows ahead of each change -/
def pres (n : Nat) : Row → List Row → List Row
  | _, [] => []
  | r, c :: cs => r :: pres n (tms r (cmv n c)) cs
theorem pres_snoc (n : Nat) : ∀ (cs : List Row) (c r : Row), pres n r (cs ++ [c]) = pres n r cs ++ [behind n r cs]
  | [], _, _ => rfl
  | x :: cs, c, r => by
    show r :: pres n (tms r (cmv n x)) (cs ++ [c]) = r :: pres n (tms r (cmv n x)) cs ++ [behind n (tms r (cmv n x)) cs]
    rw [pres_snoc n cs c]
    rfl
theorem pres_len (n : Nat) : ∀ (cs : List Row) (r : Row), (pres n r cs).length = cs.length
  | [], _ => rfl
  | c :: cs, r => congrArg Nat.succ (pres_len n cs _)
def sp_rows_through : Sp := fun vs H Q _ => ∃ x cs, ∃ n : Nat, vs = [.int n, x] ∧ At H (.tup (rws cs)) x ∧ Bells n ∧ (∀ c ∈ cs, c ∈ chgs n) ∧ cs.length ≤ 10 ∧ ∀ H' t v1 v2, Grow No H H' → H' t = some (.tup [v1, v2]) → At H' (.tup (rws (pres n (rnd n) cs))) v1 → At H' (rowD (behind n (rnd n) cs)) v2 → Q (.ref t) H'
abbrev N_rows_through : List Str := ["stage", "lead", "rows", "row", "change"]
theorem sc_rows_through : FnScope ["stage", "lead", "rows", "row", "change"] ["stage", "lead"] (defScope s_rows_through) := ⟨rfl, rfl, rfl, by decide +kernel, rfl, by decide +kernel, by decide +kernel⟩
theorem bd_rows_through (T : Txt K mg) : Binds K (fdOf K a_rows_through) ["stage", "lead"] [] := FunD.bindsN T.F_rows_through fun _ _ _ _ _ _ us hl => match us, hl with | [_, _], _ => rfl
theorem ok_rows_through (T : Txt K mg) : FnOk P w K mg base CX0 2 a_rows_through (fdOf K a_rows_through) ["stage", "lead"] (sp_rows_through) := by
  refine ok0 T.F_rows_through sc_rows_through (fun vs H Q E h => ?_) (fun cdv A outer s H vs Q E hr h => ?_)
  · obtain ⟨x, cs, n, rfl, hx, hn, hc, hlen, k⟩ := h
    rfl
  · obtain ⟨x, cs, n, rfl, hx, hn, hc, hlen, k⟩ := h
    have hU := hr.units
    have hu := hu_of hr
    refine ⟨_, (pss_cons (ps_set (i := 2) sc_rows_through.nd rfl (Or.inl rfl) (pe_lst pa_nil))
      (pss_cons (ps_set (i := 3) sc_rows_through.nd rfl (Or.inl rfl) (pe_call (ok_first_row T) (hr.mono (by decide)) (by rfl) T.g_first_row T.F_first_row.kp (bd_first_row T) .nil pass0 (pa_cons (pv 0) pa_nil)))
      (pss_cons (ps_for PassesOwn.never rfl (pi_tup (pv 1)) (pg_name (i := 4) sc_rows_through.nd rfl (Or.inl rfl)) (pss_cons (ps_expr (pe_bm PySem.F.plainAttrs_list PySem.F.slot_list_append PySem.F.type_list_append mt_appK (pv 2) (pa_cons (pv 3) pa_nil)))
      (pss_one (ps_set (i := 3) sc_rows_through.nd rfl (Or.inl rfl) (pe_call (ok_times T) (hr.mono (by decide)) (by rfl) T.g_times T.F_times.kp (bd_times T) .nil pass0 (pa_cons (pv 3) (pa_cons (pe_call (ok_change_move T) (hr.mono (by decide)) (by rfl) T.g_change_move T.F_change_move.kp (bd_change_move T) .nil pass0 (pa_cons (pv 4) (pa_cons (pv 0) pa_nil))) pa_nil)))))))
      (pss_one (ps_ret (pe_tup (pa_cons (pe_callTy call_tupK (by rfl) T.z_tuple (by decide +kernel) (pa_cons (pv 2) pa_nil)) (pa_cons (pv 3) pa_nil)))))))), ?_⟩
    have h5 := bells_le hn
    obtain ⟨a, vs, rfl, h1, h2⟩ := hx.ref
    refine ⟨Nat.zero_le _, fun L hL => ?_⟩
    have g0 : Grow No H (upd H L (.lst [])) := Grow.new hL
    have l0 : Ls (upd H L (.lst [])) L (rws []) := Ls.new .nil hL
    generalize upd H L (.lst []) = H0 at g0 l0
    refine ⟨_, rfl, n, rfl, by omega, fun H1 v1 g1 a1 => ?_⟩
    have hx1 := (g0.trans g1).at hx
    refine ⟨_, rfl, a, rfl, ⟨_, SqT.of ((g0.trans g1).oN h1)⟩, ?_⟩
    refine for_tupK (ks := rws cs) (fun pre σ H' => Grow No H H' ∧ ∃ (p : List Row) (v : V) (t : Option V), pre = rws p ∧ σ = [some (.int n), some (.ref a), some (.ref L), some v, t] ∧ At H' (rowD (behind n (rnd n) p)) v ∧ Ls H' L (rws (pres n (rnd n) p))) ⟨g0.trans g1, [], v1, none, rfl, rfl, a1, l0.growN g1⟩ (fun pre σ H' p => p.1.at hx) (fun pre d post y σ H' e p hy => ?_) fun σ H' p => ?_
    · obtain ⟨g, p0, v, t, rfl, rfl, av, ll⟩ := p
      obtain ⟨p', z, q, ep, e2, rfl, rfl⟩ := map_mid e
      have e2 := rws_inj e2
      subst e2
      have hz : z ∈ chgs n := hc z (by rw [ep]; simp)
      have hpl : p0.length ≤ 10 := by
        have := congrArg List.length ep
        rw [List.length_append] at this
        omega
      have pu := behind_pu hn (cs := p0) (pu_rnd hn) fun c' hc' => hc c' (by rw [ep]; simp [hc'])
      refine ⟨_, rfl, tyL ll, _, rfl, L, _, _, _, rfl, rfl, ll, av, szL (by rw [rws_len, pres_len]; omega), fun H2 g2 l2 => ?_⟩
      rw [← rws_snoc, ← pres_snoc n p0 z] at l2
      refine ⟨_, rfl, _, rfl, _, rfl, y, z, n, rfl, g2.at hy, hn, hz, fun H4 v4 g4 a4 => ?_⟩
      refine ⟨v, v4, _, _, rfl, g4.at (g2.at av), a4, by rw [(pu_facts hn pu).1]; exact cmv_in hn hz, by rw [cmv_len hn hz]; omega, fun H5 v5 g5 a5 => ?_⟩
      exact ⟨((g.loc g2 hL).trans g4).trans g5, p0 ++ [z], v5, _, by rw [rws_snoc], rfl, by rw [behind_snoc]; exact a5, l2.growN (g4.trans g5)⟩
    · obtain ⟨g, p0, v, t, e, rfl, av, ll⟩ := p
      have e := rws_inj e
      subst e
      refine ⟨_, rfl, L, _, rfl, ll, fun H2 v2 g2 a2 => ?_⟩
      refine ⟨_, rfl, (by decide : 2 ≤ sizeLine), fun t ht => ?_⟩
      exact k _ t v2 v ((g.trans g2).trans (Grow.new ht)) upd_same ((Grow.new (S := No) ht).at a2) ((g2.trans (Grow.new ht)).at av)
end
end K81

namespace K81
open PySem PySem.Spec PyProof.Rows L2
/-! # The method object -/
/-- everything but lists stays -/
def Hard (H H' : Hp) : Prop := ∀ b o, H b = some o → (∀ xs, o ≠ .lst xs) → H' b = some o
theorem Grow.hard {H H' : Hp} (g : Grow No H H') : Hard H H' := fun b o h _ => g.oN h
theorem Grow.hardD {H H' : Hp} {d : Addr} (g : Grow (On d) H H') (hd : ∀ o, H d = some o → ∃ xs, o = .lst xs) : Hard H H' := fun b o h n => g.o h fun z => by
  subst z
  obtain ⟨xs, e⟩ := hd o h
  exact n xs e
theorem Hard.trans {H H1 H2 : Hp} (a : Hard H H1) (b : Hard H1 H2) : Hard H H2 := fun c o h n => b c o (a c o h n) n
theorem Hard.tk {H H' : Hp} (a : Hard H H') : Tk H H' := fun b xs h => a b _ h fun ys z => by cases z
theorem TD.hard {H H' : Hp} {a : Addr} {ls : List Nat} {f : Nat → D} (h : TD H a ls f) (k : Hard H H') : TD H' a ls f := by
  obtain ⟨kvs, e, r⟩ := h
  exact ⟨kvs, k a _ e (fun ys z => by cases z), Paired.mapP r fun _ _ z => ⟨z.1, z.2.mono k.tk⟩⟩
theorem DN.hard {P : Program} {w : World} {H H' : Hp} {a : Addr} {kvs : List (D × V)} (h : DN P w H a kvs) (k : Hard H H') : DN P w H' a kvs := by
  refine h.mono k.tk fun o e => k a o e fun ys z => ?_
  obtain ⟨φ, e2⟩ := h.at
  rw [e] at e2
  cases e2
  cases z
theorem lookF {m f : Str} {v : V} {fs : List (Str × V)} (h : ¬ m = f) : (putF f v fs).lookup m = fs.lookup m := by
  rw [lookup_putF, if_neg h]
theorem lookS {f : Str} {v : V} {fs : List (Str × V)} : (putF f v fs).lookup f = some v := by
  rw [lookup_putF, if_pos rfl]
theorem lookN {m : Str} : ([] : List (Str × V)).lookup m = none := rfl
theorem ltF {f : Str} {v : V} {fs : List (Str × V)} {n : Nat} (h : fs.length < n) : (putF f v fs).length < n + 1 := by
  have := length_putF f v fs
  omega
/-- an attribute is stored -/
theorem fld_put {H : Hp} {p C dx : Addr} {fs gs : List (Str × V)} (h : H p = some (.ins C dx fs)) : Grow (On p) H (upd H p (.ins C dx gs)) ∧ (upd H p (.ins C dx gs)) p = some (.ins C dx gs) := ⟨Grow.putO h (fun xs z => by cases z), upd_same⟩
theorem lead_of_call {W : Wd} (ok : WOk W) {z : Cal} (h : z ∈ W.calls) : leadOf W z.c = splice W.plain z := by
  obtain ⟨p, q, e⟩ := List.append_of_mem h
  have nd := ok.nd
  have hn : z.c ∉ p.map Cal.c := by
    rw [e, List.map_append, List.nodup_append] at nd
    exact fun z' => nd.2.2 z.c z' z.c (by rw [List.map_cons]; exact List.mem_cons_self ..) rfl
  obtain ⟨k1, _⟩ := leadAt_eq (plain := W.plain) (z := z) rfl hn
  have e0 : p.find? (fun k => k.c == z.c) = none := by
    rw [List.find?_eq_none]
    intro x hx y
    exact hn (List.mem_map.mpr ⟨x, hx, by simpa using y⟩)
  unfold leadOf
  rw [e, List.find?_append, e0]
  simp
theorem lead_plain {W : Wd} (ok : WOk W) : leadOf W 112 = W.plain := by
  have e : W.calls.find? (fun k => k.c == 112) = none := by
    rw [List.find?_eq_none]
    intro x hx y
    have y : x.c = 112 := by simpa using y
    exact p_alpha (y ▸ (ok.calls x hx).al)
  unfold leadOf
  rw [e]
/-- the leads, the bodies by letters -/
def ldD (W : Wd) (c : Nat) : D := .tup (rws (leadOf W c))
def bdD (W : Wd) (c : Nat) : D := .tup (rws (pres W.n (rnd W.n) (leadOf W c)))
/-- a method stands at p -/
structure MAt (H : Hp) (p : Addr) (W : Wd) (ls : List Nat) : Prop where
  ex : ∃ dx fs vpl vca vop aL vro aM aB l1 l2, H p = some (.ins c_Method dx fs) ∧
    fs.lookup ("stage" : Str) = some (.int (W.n : Nat)) ∧ fs.lookup ("plain" : Str) = some vpl ∧ fs.lookup ("calls" : Str) = some vca ∧ fs.lookup ("opening" : Str) = some vop ∧
    fs.lookup ("leads" : Str) = some (.ref aL) ∧ fs.lookup ("row_of_letters" : Str) = some vro ∧ fs.lookup ("moves" : Str) = some (.ref aM) ∧ fs.lookup ("bodies" : Str) = some (.ref aB) ∧
    fs.lookup ("told_letter" : Str) = none ∧ fs.lookup ("lead" : Str) = none ∧ fs.lookup ("__contains__" : Str) = none ∧
    At H (rowD (rnd W.n)) vop ∧ At H (.tup (txts ls)) vro ∧ TD H aL l1 (ldD W) ∧ TD H aM l2 (mvD W) ∧ TD H aB l2 (bdD W) ∧ (∀ c, c ∈ l1 ↔ c ∈ ls) ∧ (∀ c, c ∈ l2 ↔ c ∈ ls)
  lts : Lts W ls
  ok : WOk W
theorem MAt.hard {H H' : Hp} {p : Addr} {W : Wd} {ls : List Nat} (h : MAt H p W ls) (k : Hard H H') : MAt H' p W ls := by
  obtain ⟨⟨dx, fs, vpl, vca, vop, aL, vro, aM, aB, l1, l2, e, f1, f2, f3, f4, f5, f6, f7, f8, f9, f10, f11, a1, a2, t1, t2, t3, m1, m2⟩, x, y⟩ := h
  exact ⟨⟨dx, fs, vpl, vca, vop, aL, vro, aM, aB, l1, l2, k p _ e (fun ys z => by cases z), f1, f2, f3, f4, f5, f6, f7, f8, f9, f10, f11, a1.mono k.tk, a2.mono k.tk, t1.hard k, t2.hard k, t3.hard k, m1, m2⟩, x, y⟩
section
variable {P : Program} {w : World} {K : PySem.W.Frag} {mg : Str → Option Value} {base : Heap}
theorem sm_calls {W : Wd} (ok : WOk W) : NestedKey.depth (.tup (W.calls.map callD)) ≤ 4 ∧ smB (.tup (W.calls.map callD)) = true := by
  have hr : ∀ cs : List Row, NestedKey.depthAll (rws cs) ≤ 1 := fun cs => depthAll_le _ fun k hk => by
    obtain ⟨r, _, rfl⟩ := List.mem_map.mp hk
    rw [depth_row]
    exact Nat.le_refl 1
  constructor
  · have : NestedKey.depthAll (W.calls.map callD) ≤ 3 := depthAll_le _ fun k hk => by
      obtain ⟨c, _, rfl⟩ := List.mem_map.mp hk
      show max (NestedKey.depth (.text (sg c.c))) (max (NestedKey.depth (.num c.at_)) (max (NestedKey.depthAll (rws c.many) + 1) 0)) + 1 ≤ 3
      have := hr c.many
      show max 0 (max 0 (max (NestedKey.depthAll (rws c.many) + 1) 0)) + 1 ≤ 3
      omega
    show NestedKey.depthAll (W.calls.map callD) + 1 ≤ 4
    omega
  · refine smB_tup (by rw [List.length_map]; have := ok.few; omega) fun k hk => ?_
    obtain ⟨c, hc, rfl⟩ := List.mem_map.mp hk
    have ck := ok.calls c hc
    have fit := ck.fit
    have len := ok.len
    refine smB_tup (by show 3 ≤ 1000; decide) fun d hd => ?_
    rcases List.mem_cons.mp hd with e | hd
    · rw [e]
      simp [smB]
    rcases List.mem_cons.mp hd with e | hd
    · rw [e]
      simp [smB]
    rw [List.mem_singleton.mp hd]
    refine smB_tup (by rw [rws_len]; omega) fun d hd => ?_
    obtain ⟨r, hr, rfl⟩ := List.mem_map.mp hd
    exact smB_row (by have := chg_len ok.bells (ck.many r hr); omega)
theorem sm_rws {cs : List Row} (h : cs.length ≤ 1000) (h2 : ∀ c ∈ cs, c.length ≤ 1000) : NestedKey.depth (.tup (rws cs)) ≤ 4 ∧ smB (.tup (rws cs)) = true := by
  constructor
  · have : NestedKey.depthAll (rws cs) ≤ 1 := depthAll_le _ fun k hk => by
      obtain ⟨r, _, rfl⟩ := List.mem_map.mp hk
      rw [depth_row]
      exact Nat.le_refl 1
    show NestedKey.depthAll (rws cs) + 1 ≤ 4
    omega
  · refine smB_tup (by rw [rws_len]; exact h) fun d hd => ?_
    obtain ⟨r, hr, rfl⟩ := List.mem_map.mp hd
    exact smB_row (h2 r hr)
def sp_Method_init : Sp := fun vs H Q _ => ∃ p dx W x1 x2, vs = [.ref p, .int (W.n : Nat), x1, x2] ∧ H p = some (.ins c_Method dx []) ∧ WOk W ∧ At H (.tup (rws W.plain)) x1 ∧ At H (.tup (W.calls.map callD)) x2 ∧
  ∀ H' ls, Grow (On p) H H' → MAt H' p W ls → Q .non H'
abbrev N_Method_init : List Str := ["self", "stage", "plain", "calls", "lead", "kept", "leads", "letter", "at", "many", "moves", "bodies", "rows", "end"]
theorem sc_Method_init : FnScope ["self", "stage", "plain", "calls", "lead", "kept", "leads", "letter", "at", "many", "moves", "bodies", "rows", "end"] ["self", "stage", "plain", "calls"] (defScope s_Method_init) := ⟨rfl, rfl, rfl, by decide +kernel, rfl, by decide +kernel, by decide +kernel⟩
theorem bd_Method_init (T : Txt K mg) : Binds K (fdOf K a_Method_init) ["self", "stage", "plain", "calls"] [] := bindsFull (dvs := [V.ref 726]) (FunD.binds1 T.F_Method_init 4 1 (by intro z; cases z) rfl fun _ _ _ _ _ _ _ us its hl hi => match us, hl, its, hi with | [_, _, _, _], _, [_], _ => ⟨_, rfl, rfl⟩)
theorem ok_Method_init (T : Txt K mg) : FnOk P w K mg base CX0 7 a_Method_init (fdOf K a_Method_init) ["self", "stage", "plain", "calls"] (sp_Method_init) := by
  refine ok0 T.F_Method_init sc_Method_init (fun vs H Q E h => ?_) (fun cdv A outer s H vs Q E hr h => ?_)
  · obtain ⟨p, dx, W, x1, x2, rfl, hp, ok, hx1, hx2, k⟩ := h
    rfl
  · obtain ⟨p, dx, W, x1, x2, rfl, hp, ok, hx1, hx2, k⟩ := h
    have hU := hr.units
    have hu := hu_of hr
    have hn := ok.bells
    have h5 := bells_le hn
    have h3 := bells_pos hn
    have hlen := ok.len
    have hfew := ok.few
    obtain ⟨dsD, vD, bD⟩ := bd1_deep T
    refine ⟨_, (pss_cons (ps_if (pt_not (pt_val (pe_call (ok_is_integer T) (hr.mono (by decide)) (by rfl) T.g_is_integer T.F_is_integer.kp (bd_is_integer T) .nil pass0 (pa_cons (pv 1) (pa_cons pe_int (pa_cons pe_int pa_nil)))))) (pss_one ps_never) pss_nil)
      (pss_cons (ps_set (i := 4) sc_Method_init.nd rfl (Or.inl rfl) (pe_call (ok_deep4 T) (hr.mono (by decide)) (by rfl) T.g_deep T.F_deep.kp bD vD pass0 (pa_cons (pv 2) pa_nil)))
      (pss_cons (ps_expr (pe_call (ok_check_plain T) (hr.mono (by decide)) (by rfl) T.g_check_plain T.F_check_plain.kp (bd_check_plain T) .nil pass0 (pa_cons (pv 4) (pa_cons (pv 1) pa_nil))))
      (pss_cons (ps_set (i := 5) sc_Method_init.nd rfl (Or.inl rfl) (pe_call (ok_deep4 T) (hr.mono (by decide)) (by rfl) T.g_deep T.F_deep.kp bD vD pass0 (pa_cons (pv 3) pa_nil)))
      (pss_cons (ps_expr (pe_call (ok_check_calls T) (hr.mono (by decide)) (by rfl) T.g_check_calls T.F_check_calls.kp (bd_check_calls T) .nil pass0 (pa_cons (pv 5) (pa_cons (pv 1) (pa_cons (pe_callB call_lenK (by rfl) T.z_len PySem.boot_len (pa_cons (pv 4) pa_nil)) pa_nil)))))
      (pss_cons (ps_fld (pv 0) (pv 1) rfl)
      (pss_cons (ps_fld (pv 0) (pv 4) rfl)
      (pss_cons (ps_fld (pv 0) (pv 5) rfl)
      (pss_cons (ps_fld (pv 0) (pe_call (ok_first_row T) (hr.mono (by decide)) (by rfl) T.g_first_row T.F_first_row.kp (bd_first_row T) .nil pass0 (pa_cons (pv 1) pa_nil)) rfl)
      (pss_cons (ps_set (i := 6) sc_Method_init.nd rfl (Or.inl rfl) (pe_disp (pps_cons pe_str (pv 4) pps_nil) (by rfl) (by rfl) (fun z => by cases z) (by decide)))
      (pss_cons (ps_for PassesOwn.never rfl (pi_tup (pv 5)) (pg_tup rfl (pgs_cons (pg_name (i := 7) sc_Method_init.nd rfl (Or.inl rfl)) (pgs_cons (pg_name (i := 8) sc_Method_init.nd rfl (Or.inl rfl)) (pgs_cons (pg_name (i := 9) sc_Method_init.nd rfl (Or.inl rfl)) pgs_nil)))) (pss_one (ps_dput hu (pv 6) (pv 7) (pe_op op_catK (pe_op op_catK (pe_slice sl_takeK (pv 4) po_none (po_some (pv 8))) (pv 9)) (pe_slice sl_dropK (pv 4) (po_some (pe_op op_add (pv 8) (pe_callB call_lenK (by rfl) T.z_len PySem.boot_len (pa_cons (pv 9) pa_nil)))) po_none)) rfl)))
      (pss_cons (ps_set (i := 10) sc_Method_init.nd rfl (Or.inl rfl) pe_dnewK)
      (pss_cons (ps_set (i := 11) sc_Method_init.nd rfl (Or.inl rfl) pe_dnewK)
      (pss_cons (ps_for PassesOwn.never rfl (pi_list (pe_callB (call_sortDT rfl) (by rfl) T.z_sorted (by decide +kernel) (pa_cons (pv 6) pa_nil))) (pg_name (i := 7) sc_Method_init.nd rfl (Or.inl rfl)) (pss_cons (ps_asg (pe_call (ok_rows_through T) (hr.mono (by decide)) (by rfl) T.g_rows_through T.F_rows_through.kp (bd_rows_through T) .nil pass0 (pa_cons (pv 1) (pa_cons (pe_dget hu (pv 6) (pv 7) (fun _ _ => rfl)) pa_nil))) (pg_tup rfl (pgs_cons (pg_name (i := 12) sc_Method_init.nd rfl (Or.inl rfl)) (pgs_cons (pg_name (i := 13) sc_Method_init.nd rfl (Or.inl rfl)) pgs_nil))))
      (pss_cons (ps_dput hu (pv 11) (pv 7) (pv 12) rfl)
      (pss_one (ps_dput hu (pv 10) (pv 7) (pv 13) rfl)))))
      (pss_cons (ps_fld (pv 0) (pv 6) rfl)
      (pss_cons (ps_fld (pv 0) (pe_callTy call_tupK (by rfl) T.z_tuple (by decide +kernel) (pa_cons (pe_callB (call_sortDT rfl) (by rfl) T.z_sorted (by decide +kernel) (pa_cons (pv 6) pa_nil)) pa_nil)) rfl)
      (pss_cons (ps_fld (pv 0) (pv 10) rfl)
      (pss_one (ps_fld (pv 0) (pv 11) rfl))))))))))))))))))), ?_⟩
    refine ⟨_, rfl, _, _, _, rfl, _, rfl, ?_⟩
    refine iteF' (nF ⟨by omega, by omega⟩) ?_
    obtain ⟨sd1, sd2⟩ := sm_rws (cs := W.plain) (by omega) fun c hc => by have := chg_len hn (ok.plain c hc); omega
    refine ⟨_, rfl, x1, _, 0, rfl, hx1, sd1, sd2, fun H1 v1 g1 a1 => ?_⟩
    refine ⟨_, rfl, _, rfl, v1, W.plain, W.n, rfl, a1, hn, ok.ne, by omega, ok.plain, fun H2 g2 => ?_⟩
    obtain ⟨sc1, sc2⟩ := sm_calls ok
    refine ⟨_, rfl, x2, _, 0, rfl, (g1.trans g2).at hx2, sc1, sc2, fun H3 v3 g3 a3 => ?_⟩
    refine ⟨_, rfl, _, rfl, _, rfl, v1, _, rfl, .inl ((g2.trans g3).at a1), v3, W, _, rfl, a3, ok, by rw [rws_len], fun H4 g4 => ?_⟩
    have G4 := ((g1.trans g2).trans g3).trans g4
    have p4 := G4.oN hp
    have b1 : At H4 (.tup (rws W.plain)) v1 := ((g2.trans g3).trans g4).at a1
    have b3 : At H4 (.tup (W.calls.map callD)) v3 := g4.at a3
    have pn : ∀ {q : Addr} {H' : Hp}, Grow (On p) H H' → H' q = none → p ≠ q := fun g n => g.ne hp n
    -- self.stage, self.plain, self.calls
    refine ⟨_, rfl, _, rfl, p, c_Method, dx, _, rfl, p4, T.cl_Method, T.n_Method_stage, (by decide : 0 < 1000), ?_⟩
    obtain ⟨g5, p5⟩ := fld_put (gs := putF "stage" (V.int (W.n : Nat)) []) p4
    have G5 : Grow (On p) H _ := G4.after g5
    have c1 := g5.at b1
    have c3 := g5.at b3
    generalize upd H4 p (.ins c_Method dx (putF "stage" (V.int (W.n : Nat)) [])) = H5 at g5 p5 G5 c1 c3
    refine ⟨_, rfl, _, rfl, p, c_Method, dx, _, rfl, p5, T.cl_Method, T.n_Method_plain, ltF (by decide : 0 < 999), ?_⟩
    obtain ⟨g6, p6⟩ := fld_put (gs := putF "plain" v1 (putF "stage" (V.int (W.n : Nat)) [])) p5
    have G6 := G5.trans g6
    have c1 := g6.at c1
    have c3 := g6.at c3
    generalize upd H5 p (.ins c_Method dx (putF "plain" v1 (putF "stage" (V.int (W.n : Nat)) []))) = H6 at g6 p6 G6 c1 c3
    refine ⟨_, rfl, _, rfl, p, c_Method, dx, _, rfl, p6, T.cl_Method, T.n_Method_calls, ltF (ltF (by decide : 0 < 998)), ?_⟩
    obtain ⟨g7, p7⟩ := fld_put (gs := putF "calls" v3 (putF "plain" v1 (putF "stage" (V.int (W.n : Nat)) []))) p6
    have G7 := G6.trans g7
    have c1 := g7.at c1
    have c3 := g7.at c3
    generalize upd H6 p (.ins c_Method dx (putF "calls" v3 (putF "plain" v1 (putF "stage" (V.int (W.n : Nat)) [])))) = H7 at g7 p7 G7 c1 c3
    -- self.opening
    refine ⟨_, rfl, W.n, rfl, by omega, fun H8 v8 g8 a8 => ?_⟩
    refine ⟨_, rfl, p, c_Method, dx, _, rfl, g8.oN p7, T.cl_Method, T.n_Method_opening, ltF (ltF (ltF (by decide : 0 < 997))), ?_⟩
    obtain ⟨g9, p9⟩ := fld_put (gs := putF "opening" v8 (putF "calls" v3 (putF "plain" v1 (putF "stage" (V.int (W.n : Nat)) [])))) (g8.oN p7)
    have G9 := (G7.then g8).trans g9
    have c1 := g9.at (g8.at c1)
    have c3 := g9.at (g8.at c3)
    have c8 := g9.at a8
    generalize upd H8 p (.ins c_Method dx (putF "opening" v8 (putF "calls" v3 (putF "plain" v1 (putF "stage" (V.int (W.n : Nat)) []))))) = H9 at g9 p9 G9 c1 c3 c8
    -- leads
    refine fun aL haL => ?_
    refine ⟨_, rfl, upd_same, [(Sum.inr "p", v1)], rfl, (by decide : 1 ≤ 15), ?_⟩
    have g10 : Grow No H9 (upd (upd H9 aL (.dK [])) aL (.dK (mergeK [] [(Sum.inr ("p" : Str), v1)]))) := (Grow.new haL).loc (Grow.putO upd_same (dK_ne_tup _)) haL
    have t10 : TD (upd (upd H9 aL (.dK [])) aL (.dK (mergeK [] [(Sum.inr ("p" : Str), v1)]))) aL [112] (ldD W) := ⟨[(Sum.inr "p", v1)], upd_same, .cons ⟨by
      have : ("p" : Str) = sg 112 := by decide +kernel
      rw [this], by
      unfold ldD
      rw [lead_plain ok]
      exact g10.at c1⟩ .nil⟩
    have haL0 := G9.ex _ haL
    have pL := pn G9 haL
    generalize upd (upd H9 aL (.dK [])) aL (.dK (mergeK [] [(Sum.inr ("p" : Str), v1)])) = H10 at g10 t10
    have G10 := G9.then g10
    have c1 := g10.at c1
    have c3 := g10.at c3
    have c8 := g10.at c8
    have p10 := g10.oN p9
    obtain ⟨a, vs, rfl, h1, h2⟩ := c3.ref
    refine ⟨_, rfl, a, rfl, ⟨_, SqT.of h1⟩, ?_⟩
    refine for_tupK (ks := W.calls.map callD) (fun pre σ H' => Grow (On aL) H10 H' ∧ ∃ (q : List Cal) (t7 t8 t9 : Option V), pre = q.map callD ∧ σ = [some (.ref p), some (.int (W.n : Nat)), some x1, some x2, some v1, some (.ref a), some (.ref aL), t7, t8, t9, none, none, none, none] ∧ TD H' aL (112 :: q.map Cal.c) (ldD W)) ⟨Grow.refl _, [], none, none, none, rfl, rfl, t10⟩ (fun pre σ H' p => p.1.at c3) (fun pre d post y σ H' e p hy => ?_) fun σ H' p => ?_
    · obtain ⟨g, p0, t7, t8, t9, rfl, rfl, td⟩ := p
      obtain ⟨p', z, q, ep, e2, rfl, rfl⟩ := map_mid e
      have e2 := map_inj callD_inj e2
      subst e2
      have hz : z ∈ W.calls := by rw [ep]; simp
      have ck := ok.calls z hz
      have fit := ck.fit
      have hn' : z.c ∉ 112 :: p0.map Cal.c := by
        have nd := lts_nodup ok
        rw [ep, List.map_append, ← List.cons_append, List.nodup_append] at nd
        exact fun z' => nd.2.2 z.c z' z.c (by rw [List.map_cons]; exact List.mem_cons_self ..) rfl
      have hpl : p0.length ≤ 3 := by
        have := congrArg List.length ep
        rw [List.length_append] at this
        omega
      obtain ⟨b, ws, rfl, h3, h4⟩ := hy.ref
      cases h4 with
      | @cons _ w1 _ _ a1 r1 =>
      cases r1 with
      | @cons _ w2 _ _ a2 r2 =>
      cases r2 with
      | @cons _ w3 _ _ a3 r3 =>
      cases r3
      cases a1
      cases a2
      refine ⟨b, _, rfl, SqT.of h3, rfl, _, _, rfl, _, _, rfl, _, _, rfl, rfl, ?_⟩
      refine ⟨_, rfl, _, rfl, _, rfl, _, z.at_, g.at c1, rfl, rfl, fun H11 u1 f1 e1 => ?_⟩
      refine ⟨_, rfl, _, _, e1, f1.at a3, ?_, fun H12 u2 f2 e2 => ?_⟩
      · rw [rws_take, rws_len, rws_len, List.length_take]
        exact Nat.le_of_lt (szL (by omega))
      refine ⟨_, rfl, _, rfl, _, rfl, w3, _, rfl, .inl (f2.at (f1.at a3)), _, _, rfl, rfl, _, rfl, _, z.at_ + z.many.length, f2.at (f1.at (g.at c1)), congrArg some (by rw [rws_len]; omega), rfl, fun H13 u3 f3 e3 => ?_⟩
      refine ⟨_, _, f3.at e2, e3, ?_, fun H14 u4 f4 e4 => ?_⟩
      · rw [rws_take, rws_app, rws_len, rws_drop, rws_len, List.length_append, List.length_take, List.length_drop]
        exact Nat.le_of_lt (szL (by omega))
      rw [rws_take, rws_app, rws_drop, rws_app, List.append_assoc] at e4
      have ff := ((f1.trans f2).trans f3).trans f4
      have e5 : At H14 (ldD W z.c) u4 := by
        unfold ldD
        rw [lead_of_call ok hz]
        exact e4
      obtain ⟨H15, hput, g15, td15⟩ := (td.growN ff).put hn' e5 (by rw [List.length_cons, List.length_map]; omega)
      exact ⟨_, rfl, _, rfl, aL, H15, rfl, hput, (g.then ff).trans g15, p0 ++ [z], _, _, _, by rw [List.map_append]; rfl, rfl, by rw [List.map_append, ← List.cons_append]; exact td15⟩
    obtain ⟨g, p0, t7, t8, t9, e, rfl, td⟩ := p
    have e := map_inj callD_inj e
    subst e
    have G11 : Grow (On p) H H' := G10.loc g haL0
    have p11 := g.o p10 pL
    have c8 := g.at c8
    -- moves, bodies
    refine fun aM haM => ?_
    refine fun aB haB => ?_
    have MB : aM ≠ aB := by
      have : (upd H' aM (.dK [])) aM = some (.dK []) := upd_same
      exact ne_of_none this haB
    have LM : aL ≠ aM := td.ne haM
    have LB : aL ≠ aB := (td.growN (Grow.new haM)).ne haB
    have g12 : Grow No H' (upd (upd H' aM (.dK [])) aB (.dK [])) := (Grow.new haM).trans (Grow.new haB)
    have tM : TD (upd (upd H' aM (.dK [])) aB (.dK [])) aM [] (mvD W) := ⟨[], by rw [upd_ne MB, upd_same], .nil⟩
    have tB : TD (upd (upd H' aM (.dK [])) aB (.dK [])) aB [] (bdD W) := ⟨[], upd_same, .nil⟩
    have haM0 := G11.ex _ haM
    have haB0 := G11.ex _ ((Grow.new (S := No) haM).ex _ haB)
    have pM := pn G11 haM
    have pB := pn (G11.then (Grow.new haM)) haB
    generalize upd (upd H' aM (.dK [])) aB (.dK []) = H12 at g12 tM tB
    have G12 := G11.then g12
    have p12 := g12.oN p11
    have c8 := g12.at c8
    have td := td.growN g12
    obtain ⟨kvs, ek1, ek2⟩ := td.keys
    have hl12 : (112 :: W.calls.map Cal.c).length ≤ 4 := by
      rw [List.length_cons, List.length_map]
      omega
    refine ⟨_, rfl, aL, kvs, _, rfl, ek1, ek2, by omega, fun ys ay H13 hpm hso hay g13 l13 => ?_⟩
    have hlts : Lts W ys := ⟨hpm, hso⟩
    have hyl : ys.length ≤ 4 := by rw [hpm.length_eq]; exact hl12
    have hnd := hlts.nodup ok
    have yM : aM ≠ ay := tM.ne hay
    have yB : aB ≠ ay := tB.ne hay
    have td := td.growN g13
    obtain ⟨yv, ey, _⟩ := id l13
    refine ⟨ay, rfl, ⟨_, SqL.of ey⟩, ?_⟩
    refine for_lstK (ks := txts ys) (fun pre σ H' => Grow (fun b => b = aM ∨ b = aB) H13 H' ∧ ∃ (q : List Nat) (t7 t10 t11 : Option V), pre = txts q ∧ σ = [some (.ref p), some (.int (W.n : Nat)), some x1, some x2, some v1, some (.ref a), some (.ref aL), t7, t8, t9, some (.ref aM), some (.ref aB), t10, t11] ∧ TD H' aM q (mvD W) ∧ TD H' aB q (bdD W)) ⟨Grow.refl _, [], _, none, none, rfl, rfl, tM.growN g13, tB.growN g13⟩ (fun pre σ H' p => l13.grow p.1 fun z => z.elim (fun z => yM z.symm) (fun z => yB z.symm)) (fun pre d post y σ H' e q hy => ?_) fun σ H' q => ?_
    · obtain ⟨g, q0, t7, t10, t11, rfl, rfl, t1, t2⟩ := q
      obtain ⟨q', z, r, eq, e2, rfl, rfl⟩ := map_mid (f := fun c => NestedKey.text (sg c)) e
      have e2 : q0 = q' := map_inj (fun a b h => by injection h with h; exact sg_inj h) e2
      subst e2
      cases hy
      have hzy : z ∈ ys := by rw [eq]; simp
      have hz12 : z ∈ 112 :: W.calls.map Cal.c := hpm.mem_iff.mp hzy
      have hzn : z ∉ q0 := by
        rw [eq, List.nodup_append] at hnd
        exact fun z' => hnd.2.2 z z' z (List.mem_cons_self ..) rfl
      have hql : q0.length ≤ 4 := by
        have := congrArg List.length eq
        rw [List.length_append] at this
        omega
      have td' := td.grow g fun z => z.elim LM LB
      obtain ⟨u, hget, au⟩ := td'.get hz12
      refine ⟨_, rfl, _, rfl, _, rfl, aL, u, rfl, hget, u, leadOf W z, W.n, rfl, au, hn, lead_chg ok z, lead_len ok z, fun H14 t u1 u2 f1 ht d1 d2 => ?_⟩
      refine ⟨t, _, rfl, SqT.of ht, rfl, _, _, rfl, _, _, rfl, rfl, ?_⟩
      obtain ⟨H15, put1, f2, s2⟩ := (t2.growN f1).put hzn d1 (by omega)
      refine ⟨_, rfl, _, rfl, _, rfl, aB, H15, rfl, put1, ?_⟩
      have s1 := (t1.growN f1).grow f2 MB
      obtain ⟨H16, put2, f3, s3⟩ := s1.put hzn (f2.at d2) (by omega)
      refine ⟨_, rfl, _, rfl, _, rfl, aM, H16, rfl, put2, ?_⟩
      refine ⟨((g.then f1).trans (f2.mono fun b z => .inr z)).trans (f3.mono fun b z => .inl z), q0 ++ [z], _, _, _, by unfold txts; rw [List.map_append]; rfl, rfl, s3, s2.grow f3 (fun z => MB z.symm)⟩
    obtain ⟨g, q0, t7, t10, t11, eq, rfl, t1, t2⟩ := q
    have eq : ys = q0 := map_inj (fun a b h => by injection h with h; exact sg_inj h) eq
    subst eq
    have G13 : Grow (On p) H H' := (G12.then g13).but g fun b z => .inr (z.elim (fun z => z ▸ haM0) fun z => z ▸ haB0)
    have p13 : H' p = some (.ins c_Method dx (putF "opening" v8 (putF "calls" (.ref a) (putF "plain" v1 (putF "stage" (V.int (W.n : Nat)) []))))) := g.o (g13.oN p12) fun z => z.elim (fun z => pM z) (fun z => pB z)
    have c8 := g.at (g13.at c8)
    have td := td.grow g fun z => z.elim LM LB
    generalize H' = H17 at *
    -- self.leads
    refine ⟨_, rfl, _, rfl, p, c_Method, dx, _, rfl, p13, T.cl_Method, T.n_Method_leads, ltF (ltF (ltF (ltF (by decide : 0 < 996)))), ?_⟩
    obtain ⟨g18, p18⟩ := fld_put (gs := putF "leads" (.ref aL) (putF "opening" v8 (putF "calls" (.ref a) (putF "plain" v1 (putF "stage" (V.int (W.n : Nat)) []))))) p13
    have G18 := G13.trans g18
    have c8 := g18.at c8
    have td := td.grow g18 (fun z => pL z.symm)
    have t1 := t1.grow g18 (fun z => pM z.symm)
    have t2 := t2.grow g18 (fun z => pB z.symm)
    generalize upd H17 p _ = H18 at g18 p18 G18 c8 td t1 t2
    -- self.row_of_letters
    obtain ⟨kvs2, ek3, ek4⟩ := td.keys
    refine ⟨_, rfl, aL, kvs2, _, rfl, ek3, ek4, by omega, fun zs az H19 hpm2 hso2 haz g19 l19 => ?_⟩
    refine ⟨az, _, rfl, l19, fun H20 v20 g20 a20 => ?_⟩
    have gg := g19.trans g20
    have p20 := gg.oN p18
    refine ⟨_, rfl, p, c_Method, dx, _, rfl, p20, T.cl_Method, T.n_Method_row_of_letters, ltF (ltF (ltF (ltF (ltF (by decide : 0 < 995))))), ?_⟩
    obtain ⟨g21, p21⟩ := fld_put (gs := putF "row_of_letters" v20 (putF "leads" (.ref aL) (putF "opening" v8 (putF "calls" (.ref a) (putF "plain" v1 (putF "stage" (V.int (W.n : Nat)) [])))))) p20
    have G21 := (G18.then gg).trans g21
    have c8 := g21.at (gg.at c8)
    have c20 := g21.at a20
    have td := (td.growN gg).grow g21 (fun z => pL z.symm)
    have t1 := (t1.growN gg).grow g21 (fun z => pM z.symm)
    have t2 := (t2.growN gg).grow g21 (fun z => pB z.symm)
    generalize upd H20 p _ = H21 at g21 p21 G21 c8 c20 td t1 t2
    -- self.moves
    refine ⟨_, rfl, _, rfl, p, c_Method, dx, _, rfl, p21, T.cl_Method, T.n_Method_moves, ltF (ltF (ltF (ltF (ltF (ltF (by decide : 0 < 994)))))), ?_⟩
    obtain ⟨g22, p22⟩ := fld_put (gs := putF "moves" (.ref aM) (putF "row_of_letters" v20 (putF "leads" (.ref aL) (putF "opening" v8 (putF "calls" (.ref a) (putF "plain" v1 (putF "stage" (V.int (W.n : Nat)) []))))))) p21
    have G22 := G21.trans g22
    have c8 := g22.at c8
    have c20 := g22.at c20
    have td := td.grow g22 (fun z => pL z.symm)
    have t1 := t1.grow g22 (fun z => pM z.symm)
    have t2 := t2.grow g22 (fun z => pB z.symm)
    generalize upd H21 p _ = H22 at g22 p22 G22 c8 c20 td t1 t2
    -- self.bodies
    refine ⟨_, rfl, _, rfl, p, c_Method, dx, _, rfl, p22, T.cl_Method, T.n_Method_bodies, ltF (ltF (ltF (ltF (ltF (ltF (ltF (by decide : 0 < 993))))))), ?_⟩
    obtain ⟨g23, p23⟩ := fld_put (gs := putF "bodies" (.ref aB) (putF "moves" (.ref aM) (putF "row_of_letters" v20 (putF "leads" (.ref aL) (putF "opening" v8 (putF "calls" (.ref a) (putF "plain" v1 (putF "stage" (V.int (W.n : Nat)) [])))))))) p22
    have G23 := G22.trans g23
    have c8 := g23.at c8
    have c20 := g23.at c20
    have td := td.grow g23 (fun z => pL z.symm)
    have t1 := t1.grow g23 (fun z => pM z.symm)
    have t2 := t2.grow g23 (fun z => pB z.symm)
    refine k _ zs G23 ⟨⟨dx, _, v1, .ref a, v8, aL, v20, aM, aB, 112 :: W.calls.map Cal.c, ys, p23, (by repeat (first | (refine (lookF ?_).trans ?_; (decide +kernel)) | exact lookS | exact lookN)), (by repeat (first | (refine (lookF ?_).trans ?_; (decide +kernel)) | exact lookS | exact lookN)), (by repeat (first | (refine (lookF ?_).trans ?_; (decide +kernel)) | exact lookS | exact lookN)), (by repeat (first | (refine (lookF ?_).trans ?_; (decide +kernel)) | exact lookS | exact lookN)), (by repeat (first | (refine (lookF ?_).trans ?_; (decide +kernel)) | exact lookS | exact lookN)), (by repeat (first | (refine (lookF ?_).trans ?_; (decide +kernel)) | exact lookS | exact lookN)), (by repeat (first | (refine (lookF ?_).trans ?_; (decide +kernel)) | exact lookS | exact lookN)), (by repeat (first | (refine (lookF ?_).trans ?_; (decide +kernel)) | exact lookS | exact lookN)), (by repeat (first | (refine (lookF ?_).trans ?_; (decide +kernel)) | exact lookS | exact lookN)), (by repeat (first | (refine (lookF ?_).trans ?_; (decide +kernel)) | exact lookS | exact lookN)), (by repeat (first | (refine (lookF ?_).trans ?_; (decide +kernel)) | exact lookS | exact lookN)), c8, c20, td, t1, t2, fun c => hpm2.mem_iff.symm, fun c => hpm.mem_iff.trans hpm2.mem_iff.symm⟩, ⟨hpm2, hso2⟩, ok⟩
end
end K81

namespace K81
open PySem PySem.Spec PyProof.Rows L2
section
variable {P : Program} {w : World} {K : PySem.W.Frag} {mg : Str → Option Value} {base : Heap}
theorem Lts.lt {W : Wd} {ls : List Nat} (h : Lts W ls) (ok : WOk W) : ls.Pairwise (· < ·) := by
  have h1 := h.2
  have h2 := h.nodup ok
  exact (h1.and h2).imp fun ⟨a, b⟩ => by omega
def sp_Method_told_letter : Sp := fun vs H Q _ => ∃ p W ls c, vs = [.ref p, .str (sg c)] ∧ MAt H p W ls ∧ c ∈ ls ∧ Q (.str (sg c)) H
abbrev N_Method_told_letter : List Str := ["self", "letter"]
theorem sc_Method_told_letter : FnScope ["self", "letter"] ["self", "letter"] (defScope s_Method_told_letter) := ⟨rfl, rfl, rfl, by decide +kernel, rfl, by decide +kernel, by decide +kernel⟩
theorem bd_Method_told_letter (T : Txt K mg) : Binds K (fdOf K a_Method_told_letter) ["self", "letter"] [] := FunD.bindsN T.F_Method_told_letter fun _ _ _ _ _ _ us hl => match us, hl with | [_, _], _ => rfl
theorem ok_Method_told_letter (T : Txt K mg) : FnOk P w K mg base CX0 1 a_Method_told_letter (fdOf K a_Method_told_letter) ["self", "letter"] (sp_Method_told_letter) := by
  refine ok0 T.F_Method_told_letter sc_Method_told_letter (fun vs H Q E h => ?_) (fun cdv A outer s H vs Q E hr h => ?_)
  · obtain ⟨p, W, ls, c, rfl, m, hc, k⟩ := h
    rfl
  · obtain ⟨p, W, ls, c, rfl, m, hc, k⟩ := h
    have hU := hr.units
    have hu := hu_of hr
    refine ⟨_, (pss_cons (ps_if (PW.pt (pw_or (pt_not (pt_val (pe_callB call_isK (by rfl) T.z_isinstance (by decide +kernel) (pa_cons (pv 1) (pa_cons (pe_bltn (v := .ty "str") rfl T.z_str (by decide +kernel) rfl) pa_nil))))) (pw_or1 (pt_cmp (pc_dnotin hu (pv 1) (pe_fld (pv 0) rfl)))))) (pss_one ps_never) pss_nil)
      (pss_one (ps_ret (pv 1)))), ?_⟩
    obtain ⟨⟨dx, fs, vpl, vca, vop, aL, vro, aM, aB, l1, l2, e, f1, f2, f3, f4, f5, f6, f7, f8, f9, f10, f11, a1, a2, t1, t2, t3, m1, m2⟩, lts, ok⟩ := m
    obtain ⟨o, ho, hs⟩ := t1.has c
    refine ⟨_, rfl, _, .text (sg c), _, true, rfl, .text _, kt_ss, _, rfl, ?_⟩
    refine iteF' rfl ?_
    refine ⟨_, rfl, _, rfl, p, c_Method, dx, fs, _, rfl, e, T.cl_Method, T.n_Method_leads, f5, aL, o, rfl, ho, _, rfl, ?_⟩
    refine iteF' (by rw [hs, decide_eq_true ((m1 c).mpr hc)]; rfl) ?_
    exact ⟨_, rfl, k⟩
def sp_Method_lead : Sp := fun vs H Q _ => ∃ p W ls c, vs = [.ref p, .str (sg c)] ∧ MAt H p W ls ∧ c ∈ ls ∧ ∀ v, At H (.tup (rws (leadOf W c))) v → Q v H
abbrev N_Method_lead : List Str := ["self", "letter"]
theorem sc_Method_lead : FnScope ["self", "letter"] ["self", "letter"] (defScope s_Method_lead) := ⟨rfl, rfl, rfl, by decide +kernel, rfl, by decide +kernel, by decide +kernel⟩
theorem bd_Method_lead (T : Txt K mg) : Binds K (fdOf K a_Method_lead) ["self", "letter"] [] := FunD.bindsN T.F_Method_lead fun _ _ _ _ _ _ us hl => match us, hl with | [_, _], _ => rfl
theorem ok_Method_lead (T : Txt K mg) : FnOk P w K mg base CX0 2 a_Method_lead (fdOf K a_Method_lead) ["self", "letter"] (sp_Method_lead) := by
  refine ok0 T.F_Method_lead sc_Method_lead (fun vs H Q E h => ?_) (fun cdv A outer s H vs Q E hr h => ?_)
  · obtain ⟨p, W, ls, c, rfl, m, hc, k⟩ := h
    rfl
  · obtain ⟨p, W, ls, c, rfl, m, hc, k⟩ := h
    have hU := hr.units
    have hu := hu_of hr
    refine ⟨_, (pss_one (ps_ret (pe_dget hu (pe_fld (pv 0) rfl) (pe_meth (pv 0) T.cl_Method T.m_Method_told_letter (ok_Method_told_letter T) (hr.mono (by decide)) (bd_Method_told_letter T) .nil pass0 (pa_cons (pv 1) pa_nil)) (fun _ _ => rfl)))), ?_⟩
    have m0 := m
    obtain ⟨⟨dx, fs, vpl, vca, vop, aL, vro, aM, aB, l1, l2, e, f1, f2, f3, f4, f5, f6, f7, f8, f9, f10, f11, a1, a2, t1, t2, t3, m1, m2⟩, lts, ok⟩ := m
    obtain ⟨v, hg, av⟩ := t1.get ((m1 c).mpr hc)
    refine ⟨_, rfl, p, c_Method, dx, fs, _, rfl, e, T.cl_Method, T.n_Method_leads, f5, ?_⟩
    refine ⟨_, rfl, p, dx, fs, rfl, e, f9, _, rfl, p, W, ls, c, rfl, m0, hc, ?_⟩
    exact ⟨aL, v, rfl, hg, k v av⟩
def sp_Method_contains : Sp := fun vs H Q _ => ∃ p W ls c, vs = [.ref p, .str (sg c)] ∧ MAt H p W ls ∧ c ∈ ls ∧ Q (.bl true) H
abbrev N_Method_contains : List Str := ["self", "letter"]
theorem sc_Method_contains : FnScope ["self", "letter"] ["self", "letter"] (defScope s_Method_contains) := ⟨rfl, rfl, rfl, by decide +kernel, rfl, by decide +kernel, by decide +kernel⟩
theorem bd_Method_contains (T : Txt K mg) : Binds K (fdOf K a_Method_contains) ["self", "letter"] [] := FunD.bindsN T.F_Method_contains fun _ _ _ _ _ _ us hl => match us, hl with | [_, _], _ => rfl
theorem ok_Method_contains (T : Txt K mg) : FnOk P w K mg base CX0 1 a_Method_contains (fdOf K a_Method_contains) ["self", "letter"] (sp_Method_contains) := by
  refine ok0 T.F_Method_contains sc_Method_contains (fun vs H Q E h => ?_) (fun cdv A outer s H vs Q E hr h => ?_)
  · obtain ⟨p, W, ls, c, rfl, m, hc, k⟩ := h
    rfl
  · obtain ⟨p, W, ls, c, rfl, m, hc, k⟩ := h
    have hU := hr.units
    have hu := hu_of hr
    refine ⟨_, (pss_one (ps_ret (pe_and (pe_callB call_isK (by rfl) T.z_isinstance (by decide +kernel) (pa_cons (pv 1) (pa_cons (pe_bltn (v := .ty "str") rfl T.z_str (by decide +kernel) rfl) pa_nil))) (pe_one (pe_cmp (pc_din hu (pv 1) (pe_fld (pv 0) rfl)) rfl))))), ?_⟩
    obtain ⟨⟨dx, fs, vpl, vca, vop, aL, vro, aM, aB, l1, l2, e, f1, f2, f3, f4, f5, f6, f7, f8, f9, f10, f11, a1, a2, t1, t2, t3, m1, m2⟩, lts, ok⟩ := m
    obtain ⟨o, ho, hs⟩ := t1.has c
    refine ⟨_, rfl, _, .text (sg c), _, true, rfl, .text _, kt_ss, true, rfl, ?_⟩
    refine iteT' rfl ?_
    refine ⟨_, rfl, _, rfl, p, c_Method, dx, fs, _, rfl, e, T.cl_Method, T.n_Method_leads, f5, aL, o, rfl, ho, ?_⟩
    rw [hs, decide_eq_true ((m1 c).mpr hc)]
    exact k
theorem lt_sg {a b : Nat} (h : b < a) : (sg b).cps.toList < (sg a).cps.toList := by
  show ([b] : List Nat) < [a]
  rw [List.cons_lt_cons_iff]
  exact .inl h
theorem lt_nil (a : Nat) : ("" : Str).cps.toList < (sg a).cps.toList := by
  have e : ("" : Str).cps.toList = [] := by decide +kernel
  rw [e]
  show ([] : List Nat) < [a]
  exact List.nil_lt_cons ..
def sp_is_heard_pair : Sp := fun vs H Q _ => ∃ p W ls x q d ks, vs = [.ref p, x, .ref d] ∧ MAt H p W ls ∧ At H (pairD q) x ∧ KD H d ks ∧ q.1 ∈ ls ∧ q.1 ∉ ks ∧ q.2 ≠ [] ∧ q.2.Sublist ls ∧ q.1 ∉ q.2 ∧ Q (.bl true) H
abbrev N_is_heard_pair : List Str := ["method", "thing", "there", "letter", "letters", "last", "other"]
theorem sc_is_heard_pair : FnScope ["method", "thing", "there", "letter", "letters", "last", "other"] ["method", "thing", "there"] (defScope s_is_heard_pair) := ⟨rfl, rfl, rfl, by decide +kernel, rfl, by decide +kernel, by decide +kernel⟩
theorem bd_is_heard_pair (T : Txt K mg) : Binds K (fdOf K a_is_heard_pair) ["method", "thing", "there"] [] := FunD.bindsN T.F_is_heard_pair fun _ _ _ _ _ _ us hl => match us, hl with | [_, _, _], _ => rfl
theorem ok_is_heard_pair (T : Txt K mg) : FnOk P w K mg base CX0 1 a_is_heard_pair (fdOf K a_is_heard_pair) ["method", "thing", "there"] (sp_is_heard_pair) := by
  refine ok0 T.F_is_heard_pair sc_is_heard_pair (fun vs H Q E h => ?_) (fun cdv A outer s H vs Q E hr h => ?_)
  · obtain ⟨p, W, ls, x, q, d, ks, rfl, m, hx, kd, q1, q2, q3, q4, q5, k⟩ := h
    rfl
  · obtain ⟨p, W, ls, x, q, d, ks, rfl, m, hx, kd, q1, q2, q3, q4, q5, k⟩ := h
    have hU := hr.units
    have hu := hu_of hr
    refine ⟨_, (pss_cons (ps_if (PW.pt (pw_or (pt_not (pt_val (pe_callB call_isK (by rfl) T.z_isinstance (by decide +kernel) (pa_cons (pv 1) (pa_cons (pe_bltn (v := .ty "tuple") rfl T.z_tuple (by decide +kernel) rfl) pa_nil))))) (pw_or1 (pt_cmpR op_ne (pe_callB call_lenK (by rfl) T.z_len PySem.boot_len (pa_cons (pv 1) pa_nil)) pe_int (nomark _))))) (pss_one (ps_ret pe_bl)) pss_nil)
      (pss_cons (ps_asg (pv 1) (pg_tup rfl (pgs_cons (pg_name (i := 3) sc_is_heard_pair.nd rfl (Or.inl rfl)) (pgs_cons (pg_name (i := 4) sc_is_heard_pair.nd rfl (Or.inl rfl)) pgs_nil))))
      (pss_cons (ps_if (PW.pt (pw_or (pt_not (pt_val (pe_callB call_isK (by rfl) T.z_isinstance (by decide +kernel) (pa_cons (pv 3) (pa_cons (pe_bltn (v := .ty "str") rfl T.z_str (by decide +kernel) rfl) pa_nil))))) (pw_or (pt_cmp (pc_dnotin hu (pv 3) (pe_fld (pv 0) rfl))) (pw_or1 (pt_cmp (pc_din hu (pv 3) (pv 2))))))) (pss_one (ps_ret pe_bl)) pss_nil)
      (pss_cons (ps_if (PW.pt (pw_or (pt_not (pt_val (pe_callB call_isK (by rfl) T.z_isinstance (by decide +kernel) (pa_cons (pv 4) (pa_cons (pe_bltn (v := .ty "str") rfl T.z_str (by decide +kernel) rfl) pa_nil))))) (pw_or1 (pt_not (pt_truth (pv 4) (by intro _; rfl)))))) (pss_one (ps_ret pe_bl)) pss_nil)
      (pss_cons (ps_set (i := 5) sc_is_heard_pair.nd rfl (Or.inl rfl) pe_str)
      (pss_cons (ps_for PassesOwn.never rfl (pi_str (pv 4)) (pg_name (i := 6) sc_is_heard_pair.nd rfl (Or.inl rfl)) (pss_cons (ps_if (PW.pt (pw_or (pt_cmp (pc_dnotin hu (pv 6) (pe_fld (pv 0) rfl))) (pw_or (pt_cmpR op_eq (pv 6) (pv 3) (nomark _)) (pw_or1 (pt_cmpR op_le_str (pv 6) (pv 5) (nomark _)))))) (pss_one (ps_ret pe_bl)) pss_nil)
      (pss_one (ps_set (i := 5) sc_is_heard_pair.nd rfl (Or.inl rfl) (pv 6)))))
      (pss_one (ps_ret pe_bl)))))))), ?_⟩
    obtain ⟨⟨dx, fs, vpl, vca, vop, aL, vro, aM, aB, l1, l2, e, f1, f2, f3, f4, f5, f6, f7, f8, f9, f10, f11, a1, a2, t1, t2, t3, m1, m2⟩, lts, ok⟩ := m
    have hlt := lts.lt ok
    have hl4 := lts.len ok
    obtain ⟨a, vs, rfl, h1, h2⟩ := hx.ref
    refine ⟨_, rfl, _, _, _, true, rfl, hx, kt_tt, _, rfl, ?_⟩
    refine iteF' rfl ?_
    refine ⟨_, rfl, _, _, rfl, .inl hx, rfl, _, rfl, ?_⟩
    refine iteF' (nF rfl) ?_
    cases h2 with
    | @cons _ v1 _ _ b1 r1 =>
    cases r1 with
    | @cons _ v2 _ _ b2 r2 =>
    cases r2
    cases b1
    cases b2
    refine ⟨_, rfl, a, _, rfl, SqT.of h1, rfl, _, _, rfl, _, _, rfl, rfl, ?_⟩
    refine ⟨_, rfl, _, .text _, _, true, rfl, .text _, kt_ss, _, rfl, ?_⟩
    refine iteF' rfl ?_
    obtain ⟨o, ho, hs⟩ := t2.has q.1
    refine ⟨_, rfl, _, rfl, p, c_Method, dx, fs, _, rfl, e, T.cl_Method, T.n_Method_moves, f7, aM, o, rfl, ho, _, rfl, ?_⟩
    refine iteF' (by rw [hs, decide_eq_true ((m2 q.1).mpr q1)]; rfl) ?_
    refine ⟨_, rfl, _, rfl, d, none, rfl, kd.no q2, _, rfl, ?_⟩
    refine iteF' rfl ?_
    refine ⟨_, rfl, _, .text _, _, true, rfl, .text _, kt_ss, _, rfl, ?_⟩
    refine iteF' rfl ?_
    have hsl := q4.length_le
    refine ⟨_, rfl, true, ⟨by rw [tx_len]; exact Nat.le_of_lt (szL (by omega)), by rw [tx_len]; have := List.length_pos_iff.mpr q3; simp; omega⟩, ?_⟩
    refine iteF' rfl ?_
    have hp2 : q.2.Pairwise (· < ·) := hlt.sublist q4
    refine ⟨_, rfl, _, rfl, ?_⟩
    refine for_txK (l := q.2) (fun pre σ H' => H' = H ∧ ∃ (lt : Str) (t : Option V), σ = [some (.ref p), some (.ref a), some (.ref d), some (.str (sg q.1)), some (.str (tx q.2)), some (.str lt), t] ∧ (∀ c, (∀ b ∈ pre, b < c) → lt.cps.toList < (sg c).cps.toList)) ⟨rfl, "", none, rfl, fun c _ => lt_nil c⟩ (fun pre c post σ H' e' p' => ?_) fun σ H' p' => ?_
    · obtain ⟨rfl, lt, t, rfl, hlt'⟩ := p'
      have hc : c ∈ q.2 := by rw [e']; simp
      have hcl : c ∈ ls := q4.subset hc
      have hb : ∀ b ∈ pre, b < c := by
        rw [e', List.pairwise_append] at hp2
        exact fun b hb => hp2.2.2 b hb c (List.mem_cons_self ..)
      obtain ⟨o, ho, hs⟩ := t2.has c
      refine ⟨_, rfl, _, rfl, p, c_Method, dx, fs, _, rfl, e, T.cl_Method, T.n_Method_moves, f7, aM, o, rfl, ho, _, rfl, ?_⟩
      refine iteF' (by rw [hs, decide_eq_true ((m2 c).mpr hcl)]; rfl) ?_
      refine ⟨_, rfl, _, rfl, rfl, _, rfl, ?_⟩
      rw [sg_dec]
      refine iteF' (dF fun z => q5 (z ▸ hc)) ?_
      refine ⟨_, rfl, _, rfl, _, _, rfl, rfl, _, rfl, ?_⟩
      refine iteF' (nF (hlt' c hb)) ?_
      refine ⟨_, rfl, rfl, _, _, rfl, fun c' hc' => ?_⟩
      exact lt_sg (hc' c (by simp))
    · obtain ⟨rfl, _⟩ := p'
      exact k
def sp_check_hears : Sp := fun vs H Q _ => ∃ p W ls x hs, vs = [.ref p, x] ∧ MAt H p W ls ∧ At H (hearsD hs) x ∧ HOk ls hs ∧ ∀ H', Grow No H H' → Q .non H'
abbrev N_check_hears : List Str := ["method", "hears", "there", "number", "pair"]
theorem sc_check_hears : FnScope ["method", "hears", "there", "number", "pair"] ["method", "hears"] (defScope s_check_hears) := ⟨rfl, rfl, rfl, by decide +kernel, rfl, by decide +kernel, by decide +kernel⟩
theorem bd_check_hears (T : Txt K mg) : Binds K (fdOf K a_check_hears) ["method", "hears"] [] := FunD.bindsN T.F_check_hears fun _ _ _ _ _ _ us hl => match us, hl with | [_, _], _ => rfl
theorem ok_check_hears (T : Txt K mg) : FnOk P w K mg base CX0 2 a_check_hears (fdOf K a_check_hears) ["method", "hears"] (sp_check_hears) := by
  refine ok0 T.F_check_hears sc_check_hears (fun vs H Q E h => ?_) (fun cdv A outer s H vs Q E hr h => ?_)
  · obtain ⟨p, W, ls, x, hs, rfl, m, hx, hok, k⟩ := h
    rfl
  · obtain ⟨p, W, ls, x, hs, rfl, m, hx, hok, k⟩ := h
    have hU := hr.units
    have hu := hu_of hr
    refine ⟨_, (pss_cons (ps_if (pt_not (pt_val (pe_callB call_isK (by rfl) T.z_isinstance (by decide +kernel) (pa_cons (pv 1) (pa_cons (pe_bltn (v := .ty "tuple") rfl T.z_tuple (by decide +kernel) rfl) pa_nil))))) (pss_one ps_never) pss_nil)
      (pss_cons (ps_set (i := 2) sc_check_hears.nd rfl (Or.inl rfl) pe_dnewK)
      (pss_one (ps_for PassesOwn.never rfl (pi_enumT (by rfl) T.z_enumerate (pa_cons (pv 1) pa_nil)) (pg_tup rfl (pgs_cons (pg_name (i := 3) sc_check_hears.nd rfl (Or.inl rfl)) (pgs_cons (pg_name (i := 4) sc_check_hears.nd rfl (Or.inl rfl)) pgs_nil))) (pss_cons (ps_if (pt_not (pt_val (pe_call (ok_is_heard_pair T) (hr.mono (by decide)) (by rfl) T.g_is_heard_pair T.F_is_heard_pair.kp (bd_is_heard_pair T) .nil pass0 (pa_cons (pv 0) (pa_cons (pv 4) (pa_cons (pv 2) pa_nil)))))) (pss_one ps_never) pss_nil)
      (pss_one (ps_dput hu (pv 2) (pe_ix ix_tupK (pv 4) pe_int (fun _ _ => rfl)) pe_bl rfl))))))), ?_⟩
    have hl4 := m.lts.len m.ok
    have hlen := hok.len
    obtain ⟨a, vs, rfl, h1, h2⟩ := hx.ref
    refine ⟨_, rfl, _, _, _, true, rfl, hx, kt_tt, _, rfl, ?_⟩
    refine iteF' rfl ?_
    refine fun dd hd => ?_
    have g0 : Grow No H (upd H dd (.dK [])) := Grow.new hd
    have k0 : KD (upd H dd (.dK [])) dd [] := ⟨[], upd_same, rfl⟩
    generalize upd H dd (.dK []) = H0 at g0 k0
    refine ⟨_, rfl, a, vs, rfl, g0.oN h1, ?_⟩
    refine for_pre walk_enumT (hs.map pairD) rfl (fun pre σ H' => Grow No H H' ∧ ∃ (q : Hears) (t1 t2 : Option V), pre = q.map pairD ∧ σ = [some (.ref p), some (.ref a), some (.ref dd), t1, t2] ∧ KD H' dd (q.map Prod.fst)) ⟨g0, [], none, none, rfl, rfl, k0⟩ (fun pre σ H' p => p.1.at hx) (fun pre d post y σ H' H2 e p hy => ?_) fun σ H' p => ?_
    · obtain ⟨g, q0, t1, t2, rfl, rfl, kd⟩ := p
      obtain ⟨T', x', k', rfl, hT, rfl, e1, ax⟩ := hy
      have e2 := at_mid e e1
      subst e2
      obtain ⟨p', z, q, ep, e2, rfl, rfl⟩ := map_mid e
      have e2 := map_inj pairD_inj e2
      subst e2
      have hz : z ∈ hs := by rw [ep]; simp
      have hn : z.1 ∉ q0.map Prod.fst := by
        have nd := hok.nd
        rw [ep, List.map_append, List.nodup_append] at nd
        exact fun z' => nd.2.2 z.1 z' z.1 (by rw [List.map_cons]; exact List.mem_cons_self ..) rfl
      have hql : q0.length ≤ 4 := by
        have := congrArg List.length ep
        rw [List.length_append] at this
        omega
      have gT : Grow No H' (upd H' T' (.tup [.int ((q0.map pairD).length : Nat), x'])) := Grow.new hT
      refine ⟨T', _, rfl, SqT.of upd_same, rfl, _, _, rfl, _, _, rfl, rfl, ?_⟩
      refine ⟨_, rfl, _, rfl, _, rfl, p, W, ls, x', z, dd, _, rfl, m.hard (g.trans gT).hard, gT.at ax, kd.growN gT, hok.mem z hz, hn, hok.ne z hz, hok.sub z hz, hok.no z hz, _, rfl, ?_⟩
      refine iteF' rfl ?_
      obtain ⟨H3, hput, g3, k3⟩ := (kd.growN gT).put hn (.bl true) (by rw [List.length_map]; omega)
      refine ⟨_, rfl, _, rfl, _, _, 0, _, gT.at ax, rfl, ix20, rfl, fun v av => ?_⟩
      cases av
      refine ⟨dd, H3, rfl, hput, ?_⟩
      exact ⟨(g.trans gT).loc g3 hd, q0 ++ [z], _, _, by rw [List.map_append]; rfl, rfl, by rw [List.map_append]; exact k3⟩
    · exact k H' p.1
end
end K81

namespace K81
open PySem PySem.Spec PyProof.Rows L2
section
variable {P : Program} {w : World} {K : PySem.W.Frag} {mg : Str → Option Value} {base : Heap}
theorem map_repl_len (kvs : List (Key × V)) (k : Key) (v : V) : (kvs.map fun kv => if kv.1 = k then (kv.1, v) else kv).length = kvs.length := List.length_map _
theorem paired_over {H H1 : Hp} {f : Nat → D} {ls : List Nat} {kvs : List (Key × V)} {c : Nat} {v : V} {d : D} (r : Paired (fun c (kv : Key × V) => kv.1 = Sum.inr (sg c) ∧ At H (f c) kv.2) ls kvs) (t : Tk H H1) (av : At H1 d v) :
    Paired (fun x (kv : Key × V) => kv.1 = Sum.inr (sg x) ∧ At H1 (if x = c then d else f x) kv.2) ls (kvs.map fun kv => if kv.1 = (Sum.inr (sg c) : Key) then (kv.1, v) else kv) := by
  induction r with
  | nil => exact .nil
  | @cons p q ps qs h r ih =>
    refine .cons ?_ ih
    show (if q.1 = (Sum.inr (sg c) : Key) then (q.1, v) else q).1 = Sum.inr (sg p) ∧ At H1 (if p = c then d else f p) (if q.1 = (Sum.inr (sg c) : Key) then (q.1, v) else q).2
    by_cases e : p = c
    · rw [if_pos (by rw [h.1, e]), if_pos e]
      exact ⟨h.1, av⟩
    · rw [if_neg (fun z => e (key_inj.mp (h.1.symm.trans z))), if_neg e]
      exact ⟨h.1, h.2.mono t⟩
/-- d[c] = data, c there -/
theorem TD.over {H : Hp} {a : Addr} {ls : List Nat} {f : Nat → D} (h : TD H a ls f) {c : Nat} {v : V} {d : D} (m : c ∈ ls) (av : At H d v) (hl : ls.length ≤ 1000) : ∃ H1, DPut H a (.str (sg c)) v H1 ∧ Grow (On a) H H1 ∧ TD H1 a ls (fun x => if x = c then d else f x) := by
  obtain ⟨kvs, e, r⟩ := h
  have g : Grow (On a) H (upd H a (.dK (putK kvs (Sum.inr (sg c)) v))) := Grow.putO e (dK_ne_tup _)
  refine ⟨_, DPut.k (k := Sum.inr (sg c)) e (by rw [← td_len r]; exact szL' hl), g, putK kvs (Sum.inr (sg c)) v, upd_same, ?_⟩
  have ha : (kvs.any fun kv => decide (kv.1 = (Sum.inr (sg c) : Key))) = true := by
    rw [List.any_eq_true]
    have : (Sum.inr (sg c) : Key) ∈ kvs.map (·.1) := by
      rw [td_keys r]
      exact List.mem_map.mpr ⟨c, m, rfl⟩
    obtain ⟨kv, h1, h2⟩ := List.mem_map.mp this
    exact ⟨kv, h1, decide_eq_true h2⟩
  have ep : putK kvs (Sum.inr (sg c)) v = kvs.map fun kv => if kv.1 = (Sum.inr (sg c) : Key) then (kv.1, v) else kv := by
    unfold putK
    rw [if_pos ha]
  have tk := g.tk
  generalize upd H a (.dK (putK kvs (Sum.inr (sg c)) v)) = H1 at tk
  rw [ep]
  exact paired_over r tk (av.mono tk)
/-- the signs that are rung for a letter -/
abbrev Rg := Nat → List Nat
def rgD (R : Rg) (c : Nat) : D := .text (tx (R c))
def sp_letters_rung : Sp := fun vs H Q _ => ∃ p W ls x hs, vs = [.ref p, x] ∧ MAt H p W ls ∧ At H (hearsD hs) x ∧ HOk ls hs ∧ ∀ H' a R, Grow No H H' → H a = none → TD H' a ls (rgD R) → (∀ c ∈ ls, (R c).Perm (c :: heard hs c)) → Q (.ref a) H'
abbrev N_letters_rung : List Str := ["method", "hears", "found", "letter", "letters"]
theorem sc_letters_rung : FnScope ["method", "hears", "found", "letter", "letters"] ["method", "hears"] (defScope s_letters_rung) := ⟨rfl, rfl, rfl, by decide +kernel, rfl, by decide +kernel, by decide +kernel⟩
theorem bd_letters_rung (T : Txt K mg) : Binds K (fdOf K a_letters_rung) ["method", "hears"] [] := FunD.bindsN T.F_letters_rung fun _ _ _ _ _ _ us hl => match us, hl with | [_, _], _ => rfl
theorem ok_letters_rung (T : Txt K mg) : FnOk P w K mg base CX0 1 a_letters_rung (fdOf K a_letters_rung) ["method", "hears"] (sp_letters_rung) := by
  refine ok0 T.F_letters_rung sc_letters_rung (fun vs H Q E h => ?_) (fun cdv A outer s H vs Q E hr h => ?_)
  · obtain ⟨p, W, ls, x, hs, rfl, m, hx, hok, k⟩ := h
    rfl
  · obtain ⟨p, W, ls, x, hs, rfl, m, hx, hok, k⟩ := h
    have hU := hr.units
    have hu := hu_of hr
    have m0 := m
    have hl4 := m.lts.len m.ok
    have hnd := m.lts.nodup m.ok
    have hlen := hok.len
    obtain ⟨⟨dx, fs, vpl, vca, vop, aL, vro, aM, aB, l1, l2, e, f1, f2, f3, f4, f5, f6, f7, f8, f9, f10, f11, a1, a2, t1, t2, t3, m1, m2⟩, lts, ok⟩ := m
    refine ⟨_, (pss_cons (ps_set (i := 2) sc_letters_rung.nd rfl (Or.inl rfl) pe_dnewK)
      (pss_cons (ps_for PassesOwn.never rfl (pi_tup (pe_fld (pv 0) rfl)) (pg_name (i := 3) sc_letters_rung.nd rfl (Or.inl rfl)) (pss_one (ps_dput hu (pv 2) (pv 3) (pv 3) rfl)))
      (pss_cons (ps_for PassesOwn.never rfl (pi_tup (pv 1)) (pg_tup rfl (pgs_cons (pg_name (i := 3) sc_letters_rung.nd rfl (Or.inl rfl)) (pgs_cons (pg_name (i := 4) sc_letters_rung.nd rfl (Or.inl rfl)) pgs_nil))) (pss_one (ps_dput hu (pv 2) (pv 3) (pe_join pe_str (pe_callB (call_sortS rfl) (by rfl) T.z_sorted (by decide +kernel) (pa_cons (pe_op op_add_str (pv 3) (pv 4)) pa_nil))) rfl)))
      (pss_one (ps_ret (pv 2)))))), ?_⟩
    refine fun aR haR => ?_
    have g0 : Grow No H (upd H aR (.dK [])) := Grow.new haR
    have t0 : TD (upd H aR (.dK [])) aR [] (rgD fun c => [c]) := ⟨[], upd_same, .nil⟩
    generalize upd H aR (.dK []) = H0 at g0 t0
    obtain ⟨b, ws, rfl, h3, h4⟩ := a2.ref
    refine ⟨_, rfl, p, c_Method, dx, fs, _, rfl, g0.oN e, T.cl_Method, T.n_Method_row_of_letters, f6, b, rfl, ⟨_, SqT.of (g0.oN h3)⟩, ?_⟩
    refine for_tupK (ks := txts ls) (fun pre σ H' => Grow No H H' ∧ ∃ (q : List Nat) (t : Option V), pre = txts q ∧ σ = [some (.ref p), some x, some (.ref aR), t, none] ∧ TD H' aR q (rgD fun c => [c])) ⟨g0, [], none, rfl, rfl, t0⟩ (fun pre σ H' p => p.1.at a2) (fun pre d post y σ H' e q hy => ?_) fun σ H' q => ?_
    · obtain ⟨g, q0, t, rfl, rfl, td⟩ := q
      obtain ⟨q', z, r, eq, e2, rfl, rfl⟩ := map_mid (f := fun c => NestedKey.text (sg c)) e
      have e2 : q0 = q' := map_inj (fun a b h => by injection h with h; exact sg_inj h) e2
      subst e2
      cases hy
      have hzn : z ∉ q0 := by
        rw [eq, List.nodup_append] at hnd
        exact fun z' => hnd.2.2 z z' z (List.mem_cons_self ..) rfl
      have hql : q0.length ≤ 4 := by
        have := congrArg List.length eq
        rw [List.length_append] at this
        omega
      obtain ⟨H2, hput, g2, t2⟩ := td.put hzn (v := .str (sg z)) (.text (sg z)) (by omega)
      exact ⟨_, rfl, _, rfl, _, rfl, aR, H2, rfl, hput, g.loc g2 haR, q0 ++ [z], _, by unfold txts; rw [List.map_append]; rfl, rfl, t2⟩
    obtain ⟨g, q0, t, eq, rfl, td⟩ := q
    have eq : ls = q0 := map_inj (fun a b h => by injection h with h; exact sg_inj h) eq
    subst eq
    obtain ⟨a, vs, rfl, h1, h2⟩ := hx.ref
    refine ⟨_, rfl, a, rfl, ⟨_, SqT.of (g.oN h1)⟩, ?_⟩
    refine for_tupK (ks := hs.map pairD) (fun pre σ H' => Grow No H H' ∧ ∃ (q : Hears) (t1 t2 : Option V) (R : Rg), pre = q.map pairD ∧ σ = [some (.ref p), some (.ref a), some (.ref aR), t1, t2] ∧ TD H' aR ls (rgD R) ∧ ∀ c ∈ ls, (R c).Perm (c :: heard q c)) ⟨g, [], t, none, fun c => [c], rfl, rfl, td, fun c _ => List.Perm.refl _⟩ (fun pre σ H' p => p.1.at hx) (fun pre d post y σ H' e q hy => ?_) fun σ H' q => ?_
    · obtain ⟨g, q0, t1, t2, R, rfl, rfl, td, hR⟩ := q
      obtain ⟨p', z, r, ep, e2, rfl, rfl⟩ := map_mid e
      have e2 := map_inj pairD_inj e2
      subst e2
      have hz : z ∈ hs := by rw [ep]; simp
      have hn : z.1 ∉ q0.map Prod.fst := by
        have nd := hok.nd
        rw [ep, List.map_append, List.nodup_append] at nd
        exact fun z' => nd.2.2 z.1 z' z.1 (by rw [List.map_cons]; exact List.mem_cons_self ..) rfl
      have hsl := (hok.sub z hz).length_le
      obtain ⟨k1, k2⟩ := heard_eq (c := z.1) rfl hn
      obtain ⟨b, us, rfl, h5, h6⟩ := hy.ref
      cases h6 with
      | @cons _ v1 _ _ b1 r1 =>
      cases r1 with
      | @cons _ v2 _ _ b2 r2 =>
      cases r2
      cases b1
      cases b2
      refine ⟨b, _, rfl, SqT.of h5, rfl, _, _, rfl, _, _, rfl, rfl, ?_⟩
      refine ⟨⟨_, rfl⟩, ?_⟩
      refine ⟨_, rfl, _, rfl, _, _, rfl, rfl, ?_, ?_⟩
      · rw [tx_len]
        exact Nat.le_of_lt (szL (by show 1 + z.2.length ≤ 100000; omega))
      refine ⟨z.1 :: z.2, congrArg (fun s => [V.str s]) (tx_app [z.1] z.2), by rw [List.length_cons]; omega, fun ys q H2 hp hs2 hq g2 l2 => ?_⟩
      have hyl : ys.length ≤ 100 := by rw [hp.length_eq, List.length_cons]; omega
      have J := join_parts (K := K) l2 (by omega)
      refine ⟨"", q, ys.map sg, rfl, rfl, J.1, J.2, ?_⟩
      rw [joinE]
      obtain ⟨H3, hput, g3, t3⟩ := (td.growN g2).over (v := .str (tx ys)) (d := .text (tx ys)) (hok.mem z hz) (.text _) (by omega)
      refine ⟨_, rfl, _, rfl, aR, H3, rfl, hput, (g.then g2).loc g3 haR, q0 ++ [z], _, _, fun c => if c = z.1 then ys else R c, by rw [List.map_append]; rfl, rfl, ?_, fun c hc => ?_⟩
      · have ef : (fun x => if x = z.1 then NestedKey.text (tx ys) else rgD R x) = rgD fun c => if c = z.1 then ys else R c := by
          funext x
          by_cases hx : x = z.1
          · simp [rgD, hx]
          · simp [rgD, hx]
        rw [← ef]
        exact t3
      · by_cases hcz : c = z.1
        · show (if c = z.1 then ys else R c).Perm _
          rw [if_pos hcz]
          subst hcz
          rw [k1]
          exact hp
        · show (if c = z.1 then ys else R c).Perm _
          rw [if_neg hcz, heard_ne (fun z' => hcz z'.symm)]
          exact hR c hc
    · obtain ⟨g, q0, t1, t2, R, e, rfl, td, hR⟩ := q
      have e := map_inj pairD_inj e
      subst e
      exact ⟨_, rfl, k H' aR R g haR td hR⟩
theorem MAt.growO {H H' : Hp} {p b : Addr} {W : Wd} {ls : List Nat} (h : MAt H p W ls) (g : Grow (On b) H H') (hb : ∃ C dx fs, H b = some (.ins C dx fs)) (ne : p ≠ b) : MAt H' p W ls := by
  obtain ⟨C, dxb, fsb, hb⟩ := hb
  obtain ⟨⟨dxm, fs, vpl, vca, vop, aL, vro, aM, aB, l1, l2, e, f1, f2, f3, f4, f5, f6, f7, f8, f9, f10, f11, a1, a2, t1, t2, t3, m1, m2⟩, lts, ok⟩ := h
  have nb : ∀ {q : Addr} {kvs : List (Key × V)}, H q = some (.dK kvs) → q ≠ b := fun h z => by
    rw [z, hb] at h
    cases h
  have td : ∀ {q : Addr} {l : List Nat} {f : Nat → D}, TD H q l f → TD H' q l f := fun t => t.grow g (by obtain ⟨kvs, e, _⟩ := t; exact nb e)
  exact ⟨⟨dxm, fs, vpl, vca, vop, aL, vro, aM, aB, l1, l2, g.o e ne, f1, f2, f3, f4, f5, f6, f7, f8, f9, f10, f11, g.at a1, g.at a2, td t1, td t2, td t3, m1, m2⟩, lts, ok⟩
theorem MAt.ins {H : Hp} {p : Addr} {W : Wd} {ls : List Nat} (h : MAt H p W ls) : ∃ dx fs, H p = some (.ins c_Method dx fs) := let ⟨⟨dx, fs, _, _, _, _, _, _, _, _, _, e, _⟩, _, _⟩ := h; ⟨dx, fs, e⟩
/-- how many are misheard at most, as a value -/
def moV : Option Nat → V
  | none => .non
  | some m => .int (m : Nat)
/-- a band stands at b -/
structure BAt (H : Hp) (b : Addr) (W : Wd) (ls : List Nat) (hs : Hears) (mo : Option Nat) (R : Rg) : Prop where
  ex : ∃ dx fs pm aR lr, H b = some (.ins c_Band dx fs) ∧ fs.lookup ("method" : Str) = some (.ref pm) ∧ fs.lookup ("most" : Str) = some (moV mo) ∧ fs.lookup ("rung_for" : Str) = some (.ref aR) ∧ fs.lookup ("nodes" : Str) = none ∧
    MAt H pm W ls ∧ TD H aR lr (rgD R) ∧ (∀ c, c ∈ lr ↔ c ∈ ls)
  perm : ∀ c ∈ ls, (R c).Perm (c :: heard hs c)
  hok : HOk ls hs
  le4 : ∀ m, mo = some m → m ≤ 4
theorem BAt.hard {H H' : Hp} {b : Addr} {W : Wd} {ls : List Nat} {hs : Hears} {mo : Option Nat} {R : Rg} (h : BAt H b W ls hs mo R) (k : Hard H H') : BAt H' b W ls hs mo R := by
  obtain ⟨⟨dx, fs, pm, aR, lr, e, f1, f2, f3, f4, m, t, hl⟩, x, y, z⟩ := h
  exact ⟨⟨dx, fs, pm, aR, lr, k b _ e (fun ys z => by cases z), f1, f2, f3, f4, m.hard k, t.hard k, hl⟩, x, y, z⟩
theorem BAt.m {H : Hp} {b : Addr} {W : Wd} {ls : List Nat} {hs : Hears} {mo : Option Nat} {R : Rg} (h : BAt H b W ls hs mo R) : ∃ pm, MAt H pm W ls := let ⟨⟨_, _, pm, _, _, _, _, _, _, _, m, _⟩, _, _, _⟩ := h; ⟨pm, m⟩
theorem BAt.ok {H : Hp} {b : Addr} {W : Wd} {ls : List Nat} {hs : Hears} {mo : Option Nat} {R : Rg} (h : BAt H b W ls hs mo R) : WOk W := let ⟨_, m⟩ := h.m; m.ok
theorem BAt.lts {H : Hp} {b : Addr} {W : Wd} {ls : List Nat} {hs : Hears} {mo : Option Nat} {R : Rg} (h : BAt H b W ls hs mo R) : Lts W ls := let ⟨_, m⟩ := h.m; m.lts
def sp_Band_init : Sp := fun vs H Q _ => ∃ b dx pm W ls x hs mo, vs = [.ref b, .ref pm, x, moV mo] ∧ H b = some (.ins c_Band dx []) ∧ MAt H pm W ls ∧ At H (hearsD hs) x ∧ HOk ls hs ∧ (∀ m, mo = some m → m ≤ 4) ∧
  ∀ H' R, Grow (On b) H H' → BAt H' b W ls hs mo R → Q .non H'
theorem sm_hears {ls : List Nat} {hs : Hears} (h : hs.length ≤ 1000) : (hearsD hs).depth ≤ 4 ∧ smB (hearsD hs) = true := by
  constructor
  · have : NestedKey.depthAll (hs.map pairD) ≤ 1 := depthAll_le _ fun k hk => by
      obtain ⟨c, _, rfl⟩ := List.mem_map.mp hk
      show max 0 (max 0 0) + 1 ≤ 1
      omega
    show NestedKey.depthAll (hs.map pairD) + 1 ≤ 4
    omega
  · refine smB_tup (by rw [List.length_map]; exact h) fun k hk => ?_
    obtain ⟨c, hc, rfl⟩ := List.mem_map.mp hk
    refine smB_tup (by show 2 ≤ 1000; decide) fun d hd => ?_
    rcases List.mem_cons.mp hd with e | hd
    · rw [e]
      simp [smB]
    rw [List.mem_singleton.mp hd]
    simp [smB]
abbrev N_Band_init : List Str := ["self", "method", "hears", "most", "kept"]
theorem sc_Band_init : FnScope ["self", "method", "hears", "most", "kept"] ["self", "method", "hears", "most"] (defScope s_Band_init) := ⟨rfl, rfl, rfl, by decide +kernel, rfl, by decide +kernel, by decide +kernel⟩
theorem bd_Band_init (T : Txt K mg) : Binds K (fdOf K a_Band_init) ["self", "method", "hears", "most"] [] := FunD.bindsN T.F_Band_init fun _ _ _ _ _ _ us hl => match us, hl with | [_, _, _, _], _ => rfl
theorem ok_Band_init (T : Txt K mg) : FnOk P w K mg base CX0 6 a_Band_init (fdOf K a_Band_init) ["self", "method", "hears", "most"] (sp_Band_init) := by
  refine ok0 T.F_Band_init sc_Band_init (fun vs H Q E h => ?_) (fun cdv A outer s H vs Q E hr h => ?_)
  · obtain ⟨b, dx, pm, W, ls, x, hs, mo, rfl, hb, m, hx, hok, hmo, k⟩ := h
    rfl
  · obtain ⟨b, dx, pm, W, ls, x, hs, mo, rfl, hb, m, hx, hok, hmo, k⟩ := h
    have hU := hr.units
    have hu := hu_of hr
    have hl4 := m.lts.len m.ok
    have hlen := hok.len
    obtain ⟨dsD, vD, bD⟩ := bd1_deep T
    refine ⟨_, (pss_cons (ps_set (i := 4) sc_Band_init.nd rfl (Or.inl rfl) (pe_call (ok_deep4 T) (hr.mono (by decide)) (by rfl) T.g_deep T.F_deep.kp bD vD pass0 (pa_cons (pv 2) pa_nil)))
      (pss_cons (ps_expr (pe_call (ok_check_hears T) (hr.mono (by decide)) (by rfl) T.g_check_hears T.F_check_hears.kp (bd_check_hears T) .nil pass0 (pa_cons (pv 1) (pa_cons (pv 4) pa_nil))))
      (C8.pss_cut (ps_if (PW.pt (pw_and (pt_cmpR op_notN (pv 3) pe_non (nomark _)) (pw_and1 (pt_not (pt_val (pe_call (ok_is_integer T) (hr.mono (by decide)) (by rfl) T.g_is_integer T.F_is_integer.kp (bd_is_integer T) .nil pass0 (pa_cons (pv 3) (pa_cons pe_int (pa_cons pe_int pa_nil))))))))) (pss_one ps_never) pss_nil)
      (pss_cons (ps_fld (pv 0) (pv 1) rfl)
      (pss_cons (ps_fld (pv 0) (pv 4) rfl)
      (pss_cons (ps_fld (pv 0) (pv 3) rfl)
      (pss_one (ps_fld (pv 0) (pe_call (ok_letters_rung T) (hr.mono (by decide)) (by rfl) T.g_letters_rung T.F_letters_rung.kp (bd_letters_rung T) .nil pass0 (pa_cons (pv 1) (pa_cons (pv 4) pa_nil))) rfl)))))))), ?_⟩
    obtain ⟨sd1, sd2⟩ := sm_hears (ls := ls) (hs := hs) (by omega)
    refine ⟨_, rfl, x, _, 0, rfl, hx, sd1, sd2, fun H1 v1 g1 a1 => ?_⟩
    refine ⟨_, rfl, _, rfl, pm, W, ls, v1, hs, rfl, m.hard g1.hard, a1, hok, fun H2 g2 => ?_⟩
    refine ⟨fun σ' H' => H2 = H' ∧ σ' = [some (.ref b), some (.ref pm), some x, some (moV mo), some v1], ?_, ?_⟩
    · refine ⟨_, rfl, rfl, _, rfl, ?_⟩
      cases mo with
      | none =>
        refine iteF' rfl ?_
        exact iteF' rfl ⟨rfl, rfl⟩
      | some q =>
        have hq := hmo q rfl
        refine iteT' rfl ?_
        refine ⟨_, rfl, _, _, _, rfl, _, rfl, ?_⟩
        refine iteF' (nF ⟨by omega, by omega⟩) ?_
        exact ⟨rfl, rfl⟩
    rintro σ' H' ⟨rfl, rfl⟩
    have G2 := g1.trans g2
    have p2 := G2.oN hb
    have b1 := g2.at a1
    have ne : pm ≠ b := fun z => by
      obtain ⟨⟨dxm, fs, vpl, vca, vop, aL, vro, aM, aB, l1, l2, e, _⟩, _⟩ := m
      rw [z, hb] at e
      cases e
    have m2 := m.hard G2.hard
    have x2 : ∀ {H' : Hp}, Grow (On b) H2 H' → MAt H' pm W ls := fun g => m2.growO g ⟨_, _, _, p2⟩ ne
    refine ⟨_, rfl, _, rfl, b, c_Band, dx, _, rfl, p2, T.cl_Band, T.n_Band_method, (by decide : 0 < 1000), ?_⟩
    obtain ⟨g3, p3⟩ := fld_put (gs := putF "method" (V.ref pm) []) p2
    generalize upd H2 b _ = H3 at g3 p3
    refine ⟨_, rfl, _, rfl, b, c_Band, dx, _, rfl, p3, T.cl_Band, T.n_Band_hears, ltF (by decide : 0 < 999), ?_⟩
    obtain ⟨g4, p4⟩ := fld_put (gs := putF "hears" v1 (putF "method" (V.ref pm) [])) p3
    generalize upd H3 b _ = H4 at g4 p4
    refine ⟨_, rfl, _, rfl, b, c_Band, dx, _, rfl, p4, T.cl_Band, T.n_Band_most, ltF (ltF (by decide : 0 < 998)), ?_⟩
    obtain ⟨g5, p5⟩ := fld_put (gs := putF "most" (moV mo) (putF "hears" v1 (putF "method" (V.ref pm) []))) p4
    generalize upd H4 b _ = H5 at g5 p5
    have G5 := (g3.trans g4).trans g5
    have m5 := x2 G5
    refine ⟨_, rfl, _, rfl, pm, W, ls, v1, hs, rfl, m5, G5.at b1, hok, fun H6 aR R g6 haR t6 hR => ?_⟩
    refine ⟨_, rfl, b, c_Band, dx, _, rfl, g6.oN p5, T.cl_Band, T.n_Band_rung_for, ltF (ltF (ltF (by decide : 0 < 997))), ?_⟩
    obtain ⟨g7, p7⟩ := fld_put (gs := putF "rung_for" (V.ref aR) (putF "most" (moV mo) (putF "hears" v1 (putF "method" (V.ref pm) [])))) (g6.oN p5)
    have G7 := (G5.then g6).trans g7
    have nR : ¬ On b aR := fun z => by
      rw [z, p5] at haR
      cases haR
    exact k _ R (G2.after G7) ⟨⟨dx, _, pm, aR, ls, p7, (by repeat (first | (refine (lookF ?_).trans ?_; (decide +kernel)) | exact lookS | exact lookN)), (by repeat (first | (refine (lookF ?_).trans ?_; (decide +kernel)) | exact lookS | exact lookN)), (by repeat (first | (refine (lookF ?_).trans ?_; (decide +kernel)) | exact lookS | exact lookN)), (by repeat (first | (refine (lookF ?_).trans ?_; (decide +kernel)) | exact lookS | exact lookN)), x2 G7, t6.grow g7 nR, fun _ => Iff.rfl⟩, hR, hok, hmo⟩
end
end K81

namespace K81
open PySem PySem.Spec PyProof.Rows L2
/-! # Ways, nodes, heads -/
abbrev Node := Row × Nat
def aft (mo : Option Nat) (c a x : Nat) : Nat := if x ≠ c ∧ mo ≠ none then a + 1 else a
def okA (mo : Option Nat) (a : Nat) : Bool := match mo with
  | none => true
  | some m => decide (a ≤ m)
def wayL (W : Wd) (mo : Option Nat) (v : Node) (c : Nat) (xs : List Nat) : List (Nat × Node) := (xs.filter fun x => okA mo (aft mo c v.2 x)).map fun x => (x, (tms v.1 (mvOf W x), aft mo c v.2 x))
def ways (W : Wd) (mo : Option Nat) (R : Rg) (v : Node) (c : Nat) : List (Nat × Node) := wayL W mo v c (R c)
def nodeD (v : Node) : D := .tup [rowD v.1, .num (v.2 : Nat)]
def wayD (y : Nat × Node) : D := .tup [.text (sg y.1), nodeD y.2]
theorem wayL_snoc (W : Wd) (mo : Option Nat) (v : Node) (c : Nat) (xs : List Nat) (x : Nat) : wayL W mo v c (xs ++ [x]) = wayL W mo v c xs ++ (if okA mo (aft mo c v.2 x) = true then [(x, (tms v.1 (mvOf W x), aft mo c v.2 x))] else []) := by
  unfold wayL
  rw [List.filter_append, List.map_append]
  by_cases h : okA mo (aft mo c v.2 x) = true
  · rw [if_pos h]
    simp [h]
  · rw [if_neg h]
    simp [h]
theorem wayL_len (W : Wd) (mo : Option Nat) (v : Node) (c : Nat) (xs : List Nat) : (wayL W mo v c xs).length ≤ xs.length := by
  unfold wayL
  rw [List.length_map]
  exact List.length_filter_le ..
theorem heard_mem {ls : List Nat} {hs : Hears} (h : HOk ls hs) {c x : Nat} (m : x ∈ heard hs c) : x ∈ ls := by
  unfold heard at m
  cases e : hs.find? (fun q => q.1 == c) with
  | none =>
    rw [e] at m
    cases m
  | some p =>
    rw [e] at m
    exact (h.sub p (List.mem_of_find?_eq_some e)).subset m
section
variable {P : Program} {w : World} {K : PySem.W.Frag} {mg : Str → Option Value} {base : Heap}
theorem BAt.rmem {H : Hp} {b : Addr} {W : Wd} {ls : List Nat} {hs : Hears} {mo : Option Nat} {R : Rg} (h : BAt H b W ls hs mo R) {c x : Nat} (hc : c ∈ ls) (m : x ∈ R c) : x ∈ ls := by
  rcases List.mem_cons.mp ((h.perm c hc).mem_iff.mp m) with e | e
  · rw [e]
    exact hc
  · exact heard_mem h.hok e
theorem BAt.rlen {H : Hp} {b : Addr} {W : Wd} {ls : List Nat} {hs : Hears} {mo : Option Nat} {R : Rg} (h : BAt H b W ls hs mo R) {c : Nat} (hc : c ∈ ls) : (R c).length ≤ 5 := by
  rw [(h.perm c hc).length_eq, List.length_cons]
  have := heard_len h.hok c
  have := h.lts.len h.ok
  omega
def sp_ways_behind : Sp := fun vs H Q _ => ∃ b W ls hs mo R x r, ∃ a c : Nat, vs = [.ref b, x, .int a, .str (sg c)] ∧ BAt H b W ls hs mo R ∧ At H (rowD r) x ∧ r ∈ U W.n ∧ c ∈ ls ∧ ∀ H' L, Grow No H H' → H L = none → Ls H' L ((ways W mo R (r, a) c).map wayD) → Q (.ref L) H'
abbrev N_ways_behind : List Str := ["band", "row", "made", "letter", "ways", "rung", "after"]
theorem sc_ways_behind : FnScope ["band", "row", "made", "letter", "ways", "rung", "after"] ["band", "row", "made", "letter"] (defScope s_ways_behind) := ⟨rfl, rfl, rfl, by decide +kernel, rfl, by decide +kernel, by decide +kernel⟩
theorem bd_ways_behind (T : Txt K mg) : Binds K (fdOf K a_ways_behind) ["band", "row", "made", "letter"] [] := FunD.bindsN T.F_ways_behind fun _ _ _ _ _ _ us hl => match us, hl with | [_, _, _, _], _ => rfl
theorem ok_ways_behind (T : Txt K mg) : FnOk P w K mg base CX0 2 a_ways_behind (fdOf K a_ways_behind) ["band", "row", "made", "letter"] (sp_ways_behind) := by
  refine ok0 T.F_ways_behind sc_ways_behind (fun vs H Q E h => ?_) (fun cdv A outer s H vs Q E hr h => ?_)
  · obtain ⟨b, W, ls, hs, mo, R, x, r, a, c, rfl, B, hx, hr0, hc, k⟩ := h
    rfl
  · obtain ⟨b, W, ls, hs, mo, R, x, r, a, c, rfl, B, hx, hr0, hc, k⟩ := h
    have hU := hr.units
    have hu := hu_of hr
    have ok := B.ok
    have hn := ok.bells
    have h5 := bells_le hn
    have hR5 := B.rlen hc
    have fr := u_facts hn hr0
    have rm : ∀ x ∈ R c, x ∈ ls := fun x hx => B.rmem hc hx
    obtain ⟨⟨dx, fs, pm, aR, lr, e, f1, f2, f3, f4, m, t, hl⟩, _, _, hmo⟩ := B
    refine ⟨_, (pss_cons (ps_set (i := 4) sc_ways_behind.nd rfl (Or.inl rfl) (pe_lst pa_nil))
      (pss_cons (ps_for PassesOwn.never rfl (pi_str (pe_dget hu (pe_fld (pv 0) rfl) (pv 3) (fun _ _ => rfl))) (pg_name (i := 5) sc_ways_behind.nd rfl (Or.inl rfl)) (pss_cons (ps_set (i := 6) sc_ways_behind.nd rfl (Or.inl rfl) (pv 2))
      (C8.pss_cut (ps_if (PW.pt (pw_and (pt_cmpR op_ne (pv 5) (pv 3) (nomark _)) (pw_and1 (pt_cmpR op_notN (pe_fld (pv 0) rfl) pe_non (nomark _))))) (pss_one (ps_set (i := 6) sc_ways_behind.nd rfl (Or.inl rfl) (pe_op op_add (pv 2) pe_int))) pss_nil)
      (pss_one (ps_if (PW.pt (pw_or (pt_cmpR op_isN (pe_fld (pv 0) rfl) pe_non (nomark _)) (pw_or1 (pt_cmpR op_le (pv 6) (pe_fld (pv 0) rfl) (nomark _))))) (pss_one (ps_expr (pe_bm PySem.F.plainAttrs_list PySem.F.slot_list_append PySem.F.type_list_append mt_appK (pv 4) (pa_cons (pe_tup (pa_cons (pv 5) (pa_cons (pe_tup (pa_cons (pe_call (ok_times T) (hr.mono (by decide)) (by rfl) T.g_times T.F_times.kp (bd_times T) .nil pass0 (pa_cons (pv 1) (pa_cons (pe_dget hu (pe_fld (pe_fld (pv 0) rfl) rfl) (pv 5) (fun _ _ => rfl)) pa_nil))) (pa_cons (pv 6) pa_nil))) pa_nil))) pa_nil)))) pss_nil)))))
      (pss_one (ps_ret (pv 4))))), ?_⟩
    refine ⟨Nat.zero_le _, fun L hL => ?_⟩
    have g0 : Grow No H (upd H L (.lst [])) := Grow.new hL
    have l0 : Ls (upd H L (.lst [])) L ((wayL W mo (r, a) c []).map wayD) := Ls.new .nil hL
    generalize upd H L (.lst []) = H0 at g0 l0
    obtain ⟨v, hget, av⟩ := (t.growN g0).get ((hl c).mpr hc)
    cases av
    refine ⟨_, rfl, b, c_Band, dx, fs, _, rfl, g0.oN e, T.cl_Band, T.n_Band_rung_for, f3, _, rfl, aR, _, rfl, hget, _, rfl, ?_⟩
    refine for_txK (l := R c) (fun pre σ H' => Grow No H H' ∧ ∃ (t1 t2 : Option V), σ = [some (.ref b), some x, some (.int a), some (.str (sg c)), some (.ref L), t1, t2] ∧ Ls H' L ((wayL W mo (r, a) c pre).map wayD)) ⟨g0, none, none, rfl, l0⟩ (fun pre y post σ H' ey p => ?_) fun σ H' p => ?_
    · obtain ⟨g, t1, t2, rfl, l⟩ := p
      have hy : y ∈ R c := by rw [ey]; simp
      have hyl := rm y hy
      have hpl : pre.length ≤ 5 := by
        have := congrArg List.length ey
        rw [List.length_append] at this
        omega
      have eb := g.oN e
      refine ⟨_, rfl, ?_⟩
      refine ⟨fun σ' H2 => H' = H2 ∧ σ' = [some (.ref b), some x, some (.int a), some (.str (sg c)), some (.ref L), some (.str (sg y)), some (.int (aft mo c a y : Nat))], ?_, ?_⟩
      · refine ⟨_, rfl, _, rfl, rfl, _, rfl, ?_⟩
        rw [sg_dec]
        by_cases hyc : y = c
        · refine iteF' (nF hyc) ?_
          refine iteF' rfl ?_
          refine ⟨rfl, ?_⟩
          unfold aft
          rw [if_neg (fun z => z.1 hyc)]
          rfl
        · refine iteT' (nT hyc) ?_
          refine ⟨_, rfl, b, c_Band, dx, fs, _, rfl, eb, T.cl_Band, T.n_Band_most, f2, rfl, _, rfl, ?_⟩
          cases mo with
          | none =>
            refine iteF' rfl ?_
            refine ⟨rfl, ?_⟩
            unfold aft
            rw [if_neg (fun z => z.2 rfl)]
            rfl
          | some q =>
            refine iteT' rfl ?_
            refine ⟨_, rfl, _, _, rfl, rfl, rfl, ?_⟩
            unfold aft
            rw [if_pos ⟨hyc, fun z => by cases z⟩]
            rfl
      rintro σ' H2 ⟨rfl, rfl⟩
      refine ⟨_, rfl, b, c_Band, dx, fs, _, rfl, eb, T.cl_Band, T.n_Band_most, f2, rfl, _, rfl, ?_⟩
      have fin : okA mo (aft mo c a y) = false → (Grow No H H' ∧ ∃ (t1 t2 : Option V), [some (V.ref b), some x, some (.int a), some (.str (sg c)), some (.ref L), some (.str (sg y)), some (.int (aft mo c a y : Nat))] = [some (.ref b), some x, some (.int a), some (.str (sg c)), some (.ref L), t1, t2] ∧ Ls H' L ((wayL W mo (r, a) c (pre ++ [y])).map wayD)) := fun hf => ⟨g, _, _, rfl, by rw [wayL_snoc, hf, if_neg Bool.false_ne_true, List.append_nil]; exact l⟩
      obtain ⟨⟨dxm, fsm, vpl, vca, vop, aL, vro, aM, aB, l1, l2, em, k1, k2, k3, k4, k5, k6, k7, k8, k9, k10, k11, a1, a2, s1, s2, s3, m1, m2⟩, lts, _⟩ := m.hard g.hard
      obtain ⟨vm, hgm, am⟩ := s2.get ((m2 y).mpr hyl)
      have fm := u_facts hn (mv_in ok y)
      cases mo with
      | none =>
        refine iteT' rfl ?_
        refine iteT' rfl ?_
        refine ⟨_, rfl, tyL l, _, rfl, _, rfl, _, rfl, b, c_Band, dx, fs, _, rfl, eb, T.cl_Band, T.n_Band_method, f1, pm, c_Method, dxm, fsm, _, rfl, em, T.cl_Method, T.n_Method_moves, k7, _, rfl, aM, vm, rfl, hgm, ?_⟩
        refine ⟨x, vm, r, mvOf W y, rfl, g.at hx, am, by rw [fr.1]; exact fm.2.1, by rw [fm.1]; omega, fun H3 v3 g3 a3 => ?_⟩
        refine ⟨_, rfl, (by decide : 2 ≤ sizeLine), fun q1 hq1 => ⟨(by decide : 2 ≤ sizeLine), fun q2 hq2 => ?_⟩⟩
        have t1 := tup_new (.cons a3 (.cons (.num (aft none c a y : Nat)) .nil)) hq1
        have t2 := tup_new (.cons (.text (sg y)) (.cons t1 .nil)) hq2
        have gg := (g3.trans (Grow.new hq1)).trans (Grow.new (o := .tup [.str (sg y), .ref q1]) hq2)
        refine ⟨L, _, _, _, rfl, rfl, l.growN gg, t2, szL (by rw [List.length_map]; have := wayL_len W none (r, a) c pre; omega), fun H4 g4 l4 => ?_⟩
        exact ⟨(g.trans gg).loc g4 hL, _, _, rfl, by rw [wayL_snoc, if_pos (show okA none (aft none c a y) = true from rfl), List.map_append]; exact l4⟩
      | some q =>
        refine iteF' rfl ?_
        refine ⟨_, rfl, _, rfl, b, c_Band, dx, fs, _, rfl, eb, T.cl_Band, T.n_Band_most, f2, _, _, rfl, rfl, _, rfl, ?_⟩
        by_cases hq : aft (some q) c a y ≤ q
        · refine iteT' (dT (by omega)) ?_
          refine ⟨_, rfl, tyL l, _, rfl, _, rfl, _, rfl, b, c_Band, dx, fs, _, rfl, eb, T.cl_Band, T.n_Band_method, f1, pm, c_Method, dxm, fsm, _, rfl, em, T.cl_Method, T.n_Method_moves, k7, _, rfl, aM, vm, rfl, hgm, ?_⟩
          refine ⟨x, vm, r, mvOf W y, rfl, g.at hx, am, by rw [fr.1]; exact fm.2.1, by rw [fm.1]; omega, fun H3 v3 g3 a3 => ?_⟩
          refine ⟨_, rfl, (by decide : 2 ≤ sizeLine), fun q1 hq1 => ⟨(by decide : 2 ≤ sizeLine), fun q2 hq2 => ?_⟩⟩
          have t1 := tup_new (.cons a3 (.cons (.num (aft (some q) c a y : Nat)) .nil)) hq1
          have t2 := tup_new (.cons (.text (sg y)) (.cons t1 .nil)) hq2
          have gg := (g3.trans (Grow.new hq1)).trans (Grow.new (o := .tup [.str (sg y), .ref q1]) hq2)
          refine ⟨L, _, _, _, rfl, rfl, l.growN gg, t2, szL (by rw [List.length_map]; have := wayL_len W (some q) (r, a) c pre; omega), fun H4 g4 l4 => ?_⟩
          exact ⟨(g.trans gg).loc g4 hL, _, _, rfl, by rw [wayL_snoc, if_pos (show okA (some q) (aft (some q) c a y) = true from dT hq), List.map_append]; exact l4⟩
        · refine iteF' (dF (by omega)) ?_
          exact fin (dF hq)
    · obtain ⟨g, t1, t2, rfl, l⟩ := p
      exact ⟨_, rfl, k H' L g hL l⟩
/-- heads: closed under the moves -/
structure Closed (W : Wd) (ls : List Nat) (rs : List Row) : Prop where
  nd : rs.Nodup
  z : rs[0]? = some (rnd W.n)
  u : ∀ r ∈ rs, r ∈ U W.n
  cl : ∀ r ∈ rs, ∀ c ∈ ls, tms r (mvOf W c) ∈ rs
def sp_Heads_init (P : Program) (w : World) : Sp := fun vs H Q _ => ∃ p dx pm W ls, vs = [.ref p, .ref pm] ∧ H p = some (.ins c_Heads dx []) ∧ MAt H pm W ls ∧
  ∀ H' dx fs v rs, Grow (On p) H H' → H' p = some (.ins c_Heads dx fs) → fs.lookup ("rows" : Str) = some v → At H' (.tup (rws rs)) v → Closed W ls rs → Q .non H'
abbrev N_Heads_init : List Str := ["self", "method", "rows", "callings", "at", "row", "letter", "found", "number"]
theorem sc_Heads_init : FnScope ["self", "method", "rows", "callings", "at", "row", "letter", "found", "number"] ["self", "method"] (defScope s_Heads_init) := ⟨rfl, rfl, rfl, by decide +kernel, rfl, by decide +kernel, by decide +kernel⟩
theorem bd_Heads_init (T : Txt K mg) : Binds K (fdOf K a_Heads_init) ["self", "method"] [] := FunD.bindsN T.F_Heads_init fun _ _ _ _ _ _ us hl => match us, hl with | [_, _], _ => rfl
theorem ok_Heads_init (T : Txt K mg) : FnOk P w K mg base CX0 2 a_Heads_init (fdOf K a_Heads_init) ["self", "method"] (sp_Heads_init P w) := by
  refine ok0 T.F_Heads_init sc_Heads_init (fun vs H Q E h => ?_) (fun cdv A outer s H vs Q E hr h => ?_)
  · obtain ⟨p, dx, pm, W, ls, rfl, hp, m, k⟩ := h
    rfl
  · obtain ⟨p, dx, pm, W, ls, rfl, hp, m, k⟩ := h
    have hU := hr.units
    have hu := hu_of hr
    have ok := m.ok
    have hn := ok.bells
    have h5 := bells_le hn
    have hl4 := m.lts.len ok
    obtain ⟨tH, h_MOST_HEADS⟩ := T.i_MOST_HEADS
    obtain ⟨dxm', fsm', em0⟩ := m.ins
    have ne : pm ≠ p := fun z => by
      rw [z, hp] at em0
      cases em0
    refine ⟨_, (pss_cons (ps_fld (pv 0) (pv 1) rfl)
      (pss_cons (ps_set (i := 2) sc_Heads_init.nd rfl (Or.inl rfl) (pe_lst (pa_cons (pe_fld (pv 1) rfl) pa_nil)))
      (pss_cons (ps_set (i := 3) sc_Heads_init.nd rfl (Or.inl rfl) (pe_disp1N hU (pe_fld (pv 1) rfl) pe_str))
      (pss_cons (ps_set (i := 4) sc_Heads_init.nd rfl (Or.inl rfl) pe_int)
      (pss_cons (ps_while PassesOwn.never (pt_cmpR op_lt (pv 4) (pe_callB call_lenK (by rfl) T.z_len PySem.boot_len (pa_cons (pv 2) pa_nil)) (nomark _)) (pss_cons (ps_set (i := 5) sc_Heads_init.nd rfl (Or.inl rfl) (pe_ix ix_lstK (pv 2) (pv 4) (fun _ _ => rfl)))
      (pss_cons (ps_aug (i := 4) sc_Heads_init.nd rfl (Or.inl rfl) pe_int ip_add)
      (pss_one (ps_for PassesOwn.never rfl (pi_tup (pe_fld (pv 1) rfl)) (pg_name (i := 6) sc_Heads_init.nd rfl (Or.inl rfl)) (pss_cons (ps_set (i := 7) sc_Heads_init.nd rfl (Or.inl rfl) (pe_call (ok_times T) (hr.mono (by decide)) (by rfl) T.g_times T.F_times.kp (bd_times T) .nil pass0 (pa_cons (pv 5) (pa_cons (pe_dget hu (pe_fld (pv 1) rfl) (pv 6) (fun _ _ => rfl)) pa_nil))))
      (pss_one (ps_if (pt_cmpR (op_notInN hU) (pv 7) (pv 3) (by rfl)) (pss_cons (ps_if (pt_cmpR op_eq (pe_callB call_lenK (by rfl) T.z_len PySem.boot_len (pa_cons (pv 2) pa_nil)) (pe_glob (v := .int 800) rfl h_MOST_HEADS ⟨_, rfl⟩) (nomark _)) (pss_one ps_never) pss_nil)
      (pss_cons (ps_asg (pe_op op_add_str (pe_getN hU (pv 3) (pv 5) (fun _ _ => rfl)) (pv 6)) (pg_sub (pv 3) (pv 7) (set_dN hU)))
      (pss_one (ps_expr (pe_bm PySem.F.plainAttrs_list PySem.F.slot_list_append PySem.F.type_list_append mt_appK (pv 2) (pa_cons (pv 7) pa_nil)))))) pss_nil))))))))
      (pss_cons (ps_fld (pv 0) (pe_callTy call_tupK (by rfl) T.z_tuple (by decide +kernel) (pa_cons (pv 2) pa_nil)) rfl)
      (pss_cons (ps_fld (pv 0) (pv 3) rfl)
      (pss_cons (ps_fld (pv 0) pe_newN rfl)
      (pss_one (ps_for PassesOwn.never rfl (pi_enum (by rfl) T.z_enumerate (pa_cons (pv 2) pa_nil)) (pg_tup rfl (pgs_cons (pg_name (i := 8) sc_Heads_init.nd rfl (Or.inl rfl)) (pgs_cons (pg_name (i := 5) sc_Heads_init.nd rfl (Or.inl rfl)) pgs_nil))) (pss_one (ps_asg (pv 8) (pg_sub (pe_fld (pv 0) rfl) (pv 5) (set_dN hU)))))))))))))), ?_⟩
    refine ⟨_, rfl, _, rfl, p, c_Heads, dx, _, rfl, hp, T.cl_Heads, T.n_Heads_method, (by decide : 0 < 1000), ?_⟩
    obtain ⟨g1, p1⟩ := fld_put (gs := putF "method" (V.ref pm) []) hp
    have m1 := m.growO g1 ⟨_, _, _, hp⟩ ne
    generalize upd H p _ = H1 at g1 p1 m1
    obtain ⟨⟨dxm, fsm, vpl, vca, vop, aL, vro, aM, aB, l1, l2, em, k1, k2, k3, k4, k5, k6, k7, k8, k9, k10, k11, a1, a2, s1, s2, s3, q1, q2⟩, lts, _⟩ := m1
    refine ⟨_, rfl, pm, c_Method, dxm, fsm, _, rfl, em, T.cl_Method, T.n_Method_opening, k4, (by decide : 1 ≤ sizeLine), fun L hL => ?_⟩
    have gA : Grow No H1 (upd H1 L (.lst [vop])) := Grow.new hL
    have lA : Ls (upd H1 L (.lst [vop])) L (rws [rnd W.n]) := Ls.new (.cons a1 .nil) hL
    have pL : p ≠ L := ne_of_none p1 hL
    generalize upd H1 L (.lst [vop]) = HA at gA lA
    refine fun d hd φ => ?_
    have gs : Grow No HA (upd HA d (.ext φ)) := Grow.new hd
    have pd : p ≠ d := ne_of_none (gA.oN p1) hd
    have dL : d ≠ L := (lA.ne hd).symm
    have aA := gs.at (gA.at a1)
    obtain ⟨bb, rfl, hbb⟩ := row_of aA
    refine ⟨_, rfl, pm, c_Method, dxm, fsm, _, rfl, gs.oN (gA.oN em), T.cl_Method, T.n_Method_opening, k4, upd_same, bb, rowD (rnd W.n), rfl, aA, by rw [depth_row]; decide, fun φ' hdn => ?_⟩
    have gB : Grow No HA (upd (upd HA d (.ext φ)) d (.ext φ')) := gs.loc (Grow.putO upd_same (ext_ne_tup φ)) hd
    have lB := lA.growN gB
    generalize upd (upd HA d (.ext φ)) d (.ext φ') = HB at gB lB hdn
    have G0 : Grow No H1 HB := gA.trans gB
    have rw0 : RW1 W ls [rnd W.n] [[]] := by
      refine ⟨rfl, fun i r w hr hw => ?_, by simp, rfl⟩
      cases i with
      | zero =>
        cases hr
        cases hw
        exact ⟨rfl, Nat.le_refl _, (fun _ h => nomatch h)⟩
      | succ i => cases hr
    have dn4 : DN P w HB d (wordKV [rnd W.n] [[]]) := by
      have e : wordKV [rnd W.n] [[]] = [(rowD (rnd W.n), V.str "")] := by
        unfold wordKV
        rw [tx_nil]
        rfl
      rw [e]
      exact hdn
    have hL1 : H1 L = none := hL
    have hd1 : H1 d = none := gA.ex _ hd
    refine ⟨fun mm σ H' => ∃ (at' : Nat) (rs : List Row) (ws : List (List Nat)) (t5 t6 t7 : Option V), σ = [some (.ref p), some (.ref pm), some (.ref L), some (.ref d), some (.int at'), t5, t6, t7, none] ∧ mm + at' = 25 ∧ Grow No H1 H' ∧ Ls H' L (rws rs) ∧ DN P w H' d (wordKV rs ws) ∧ RW1 W ls rs ws ∧ at' ≤ rs.length ∧ (∀ i r, i < at' → rs[i]? = some r → ∀ c ∈ ls, tms r (mvOf W c) ∈ rs), ⟨25, 0, _, _, none, none, none, rfl, rfl, G0, lB, dn4, rw0, Nat.zero_le _, fun i r h => absurd h (Nat.not_lt_zero _)⟩, fun mm σ H' q => ?_⟩
    obtain ⟨at', rs, ws, t5, t6, t7, rfl, hm, g, ll, dn, rw1, hat, hcl⟩ := q
    refine ⟨_, rfl, _, rfl, .ref L, _, rfl, .inr ⟨L, rfl, ll⟩, _, _, rfl, rfl, _, rfl, ?_⟩
    rw [rws_len]
    by_cases hlt : at' < rs.length
    · refine iteT' (dT (by omega)) ?_
      have hr24 := rw1.le ok
      have hr : rs[at']? = some rs[at'] := List.getElem?_eq_getElem hlt
      have hru := rw1.u ok rs[at'] (List.getElem_mem hlt)
      have hrk : (rws rs)[at']? = some (rowD rs[at']) := by rw [List.getElem?_map, hr]; rfl
      generalize rs[at'] = r at hr hru hrk
      have fr := u_facts hn hru
      have hwx : ∃ w', ws[at']? = some w' := ⟨ws[at']'(by rw [← rw1.len]; exact hlt), List.getElem?_eq_getElem _⟩
      obtain ⟨w', hw⟩ := hwx
      refine ⟨_, fun _ _ z => z, ?_⟩
      refine ⟨_, rfl, _, rfl, L, _, _, at', rowD r, rfl, ll, rfl, ⟨by rw [rws_len]; exact hlt, .inl rfl⟩, hrk, fun vr avr => ?_⟩
      obtain ⟨br, rfl, hbr⟩ := row_of avr
      refine ⟨_, rfl, _, _, rfl, rfl, ?_⟩
      obtain ⟨b, us, rfl, u1, u2⟩ := a2.ref
      refine ⟨_, rfl, pm, c_Method, dxm, fsm, _, rfl, g.oN em, T.cl_Method, T.n_Method_row_of_letters, k6, b, rfl, ⟨_, SqT.of (g.oN u1)⟩, ?_⟩
      refine for_tupK (ks := txts ls) (fun pre σ H2 => Grow No H1 H2 ∧ ∃ (q : List Nat) (rs : List Row) (ws : List (List Nat)) (t6 t7 : Option V), pre = txts q ∧ σ = [some (.ref p), some (.ref pm), some (.ref L), some (.ref d), some (.int ((at' : Int) + 1)), some (.ref br), t6, t7, none] ∧ At H2 (rowD r) (.ref br) ∧ Ls H2 L (rws rs) ∧ DN P w H2 d (wordKV rs ws) ∧ RW1 W ls rs ws ∧ rs[at']? = some r ∧ ws[at']? = some w' ∧ (∀ i r, i < at' → rs[i]? = some r → ∀ c ∈ ls, tms r (mvOf W c) ∈ rs) ∧ (∀ c ∈ q, tms r (mvOf W c) ∈ rs)) ⟨g, [], rs, ws, t6, t7, rfl, rfl, avr, ll, dn, rw1, hr, hw, hcl, (fun _ h => nomatch h)⟩ (fun pre σ H' q => q.1.at a2) (fun pre x post y σ H2 e q hy => ?_) fun σ H2 q => ?_
      · obtain ⟨g, q0, rs, ws, t6, t7, rfl, rfl, avr, ll, dn, rw1, hr, hw, hcl, hq⟩ := q
        obtain ⟨q', c, r', eq, e2, rfl, rfl⟩ := map_mid (f := fun c => NestedKey.text (sg c)) e
        have e2 : q0 = q' := map_inj (fun a b h => by injection h with h; exact sg_inj h) e2
        subst e2
        cases hy
        have hc : c ∈ ls := by rw [eq]; simp
        have hlt : at' < rs.length := (List.getElem?_eq_some_iff.mp hr).1
        have hr24 := rw1.le ok
        have fm := u_facts hn (mv_in ok c)
        obtain ⟨vm, hget, am⟩ := (s2.growN g).get ((q2 c).mpr hc)
        refine ⟨_, rfl, _, rfl, pm, c_Method, dxm, fsm, _, rfl, g.oN em, T.cl_Method, T.n_Method_moves, k7, _, rfl, aM, vm, rfl, hget, ?_⟩
        refine ⟨_, vm, r, mvOf W c, rfl, avr, am, by rw [fr.1]; exact fm.2.1, by rw [fm.1]; omega, fun H5 vf g5 af => ?_⟩
        obtain ⟨bf, rfl, _⟩ := row_of af
        have gg := g.trans g5
        have ll5 := ll.growN g5
        have dn5 := dn.growN g5
        have avr5 := g5.at avr
        refine ⟨_, rfl, _, rfl, bf, d, _, rowD (tms r (mvOf W c)), rfl, rfl, dn5, af, by rw [depth_row]; decide, _, rfl, ?_⟩
        obtain ⟨vv1, vv2⟩ := wordKV_val rw1.len (tms r (mvOf W c))
        by_cases hin : tms r (mvOf W c) ∈ rs
        · obtain ⟨i, w'', _, _, hv⟩ := vv1 hin
          refine iteF' (by simp [hv]) ?_
          refine ⟨gg, q0 ++ [c], rs, ws, _, _, by unfold txts; rw [List.map_append]; rfl, rfl, avr5, ll5, dn5, rw1, hr, hw, hcl, all_snoc hq hin⟩
        · refine iteT' (by simp [vv2 hin]) ?_
          have rw2 := rw1.add hr hw hc hin
          have le2 := rw2.le ok
          rw [len_snoc] at le2
          refine ⟨_, rfl, .ref L, _, rfl, .inr ⟨L, rfl, ll5⟩, rfl, _, rfl, ?_⟩
          refine iteF' (dF (fun z => by rw [rws_len] at z; injection z; omega)) ?_
          -- callings[found] = callings[row] + letter
          have hv := wordKV_at rw1.nd hr hw
          obtain ⟨_, hwl, hwc⟩ := rw1.go at' r w' hr hw
          refine ⟨_, rfl, _, rfl, br, d, _, rowD r, _, rfl, rfl, dn5, avr5, by rw [depth_row]; decide, hv, ?_⟩
          refine ⟨_, rfl, _, _, rfl, rfl, ?_, ?_⟩
          · rw [tx_len]
            exact Nat.le_of_lt (szL (by show w'.length + 1 ≤ 100000; omega))
          rw [tx_sg]
          refine ⟨_, rfl, _, rfl, bf, d, _, rowD (tms r (mvOf W c)), rfl, rfl, dn5, af, by rw [depth_row]; decide, by rw [wordKV_len rw1.len]; exact szL (by omega), fun ψ dn6 => ?_⟩
          have g6 := dn5.putG ψ
          have ev : putK (wordKV rs ws) (rowD (tms r (mvOf W c))) (V.str (tx (w' ++ [c]))) = wordKV (rs ++ [tms r (mvOf W c)]) (ws ++ [w' ++ [c]]) := by
            rw [putK_new _ (vv2 hin), wordKV_snoc rw1.len]
          rw [ev] at dn6
          have ll6 := ll5.grow g6 (fun z => dL z.symm)
          have af6 := g6.at af
          have avr6 := g6.at avr5
          have gg6 := gg.loc g6 hd1
          generalize upd H5 d (.ext ψ) = H6 at dn6 ll6 af6 gg6 avr6
          refine ⟨_, rfl, tyL ll6, _, rfl, L, _, _, _, rfl, rfl, ll6, af6, szL (by rw [rws_len]; omega), fun H7 g7 l7 => ?_⟩
          rw [← rws_snoc] at l7
          have up : ∀ x, x ∈ rs → x ∈ rs ++ [tms r (mvOf W c)] := fun x h => List.mem_append_left _ h
          refine ⟨gg6.loc g7 hL1, q0 ++ [c], _, _, _, _, by unfold txts; rw [List.map_append]; rfl, rfl, g7.at avr6, l7, dn6.grow g7 dL, rw2, by rw [List.getElem?_append_left hlt]; exact hr, ?_, fun i r1 hi hr1 c1 hc1 => ?_, all_snoc (fun c1 hc1 => up _ (hq c1 hc1)) (by simp)⟩
          · rw [List.getElem?_append_left (by rw [← rw1.len]; exact hlt)]
            exact hw
          · rw [List.getElem?_append_left (by omega)] at hr1
            exact up _ (hcl i r1 hi hr1 c1 hc1)
      · obtain ⟨g, q0, rs, ws, t6, t7, eq, rfl, avr, ll, dn, rw1, hr, hw, hcl, hq⟩ := q
        have eq : ls = q0 := map_inj (fun a b h => by injection h with h; exact sg_inj h) eq
        subst eq
        have hlt : at' < rs.length := (List.getElem?_eq_some_iff.mp hr).1
        refine ⟨mm - 1, by omega, at' + 1, rs, ws, _, _, _, rfl, by omega, g, ll, dn, rw1, hlt, fun i r1 hi hr1 => ?_⟩
        by_cases hi2 : i = at'
        · subst hi2
          rw [hr] at hr1
          cases hr1
          exact hq
        · exact hcl i r1 (by omega) hr1
    · refine iteF' (dF (by omega)) ?_
      have hat2 : at' = rs.length := by omega
      have hr24 := rw1.le ok
      refine ⟨_, rfl, L, _, rfl, ll, fun H2 v2 g2 a2' => ?_⟩
      have p2 := (g.trans g2).oN p1
      refine ⟨_, rfl, p, c_Heads, dx, _, rfl, p2, T.cl_Heads, T.n_Heads_rows, ltF (by decide : 0 < 999), ?_⟩
      obtain ⟨g3, p3⟩ := fld_put (gs := putF "rows" v2 (putF "method" (V.ref pm) [])) p2
      have a3 := g3.at a2'
      have l3 := (ll.growN g2).grow g3 (fun z => pL z.symm)
      generalize upd H2 p _ = H3 at g3 p3 a3 l3
      refine ⟨_, rfl, _, rfl, p, c_Heads, dx, _, rfl, p3, T.cl_Heads, T.n_Heads_callings, ltF (ltF (by decide : 0 < 998)), ?_⟩
      obtain ⟨g4, p4⟩ := fld_put (gs := putF "callings" (V.ref d) (putF "rows" v2 (putF "method" (V.ref pm) []))) p3
      have a4 := g4.at a3
      have l4 := l3.grow g4 (fun z => pL z.symm)
      generalize upd H3 p _ = H4 at g4 p4 a4 l4
      refine fun d2 hd2 φ2 dn2 => ?_
      have g5 : Grow No H4 (upd H4 d2 (.ext φ2)) := Grow.new hd2
      have pd2 : p ≠ d2 := ne_of_none p4 hd2
      have l5 := l4.growN g5
      have a5 := g5.at a4
      have p5 := g5.oN p4
      generalize upd H4 d2 (.ext φ2) = H5 at g5 dn2 l5 a5 p5
      refine ⟨_, rfl, p, c_Heads, dx, _, rfl, p5, T.cl_Heads, T.n_Heads_numbers, ltF (ltF (ltF (by decide : 0 < 997))), ?_⟩
      obtain ⟨g6, p6⟩ := fld_put (gs := putF "numbers" (V.ref d2) (putF "callings" (V.ref d) (putF "rows" v2 (putF "method" (V.ref pm) [])))) p5
      have a6 := g6.at a5
      have l6 := l5.grow g6 (fun z => pL z.symm)
      have dn6 := dn2.grow g6 (fun z => pd2 z.symm)
      have G6 : Grow (On p) H _ := g1.trans ((((g.trans g2).any.trans g3).trans g4).trans (g5.any.trans g6))
      have Ld2 : L ≠ d2 := l4.ne hd2
      have hd20 : H d2 = none := (g1.trans (((g.trans g2).any.trans g3).trans g4)).ex _ hd2
      generalize upd H5 p _ = H6 at g6 p6 a6 l6 dn6 G6
      obtain ⟨lv, el, _⟩ := id l6
      refine ⟨_, rfl, L, lv, rfl, SqL.of el, ?_⟩
      refine for_pre (walk_enumL (ks := rws rs)) (rws rs) rfl (fun pre σ H' => Grow (On p) H H' ∧ H' p = some (.ins c_Heads dx (putF "numbers" (V.ref d2) (putF "callings" (V.ref d) (putF "rows" v2 (putF "method" (V.ref pm) []))))) ∧ At H' (.tup (rws rs)) v2 ∧ Ls H' L (rws rs) ∧ (∃ kvs, DN P w H' d2 kvs ∧ kvs.length ≤ pre.length) ∧ ∃ (t5 t6 t7 t8 : Option V), σ = [some (.ref p), some (.ref pm), some (.ref L), some (.ref d), some (.int at'), t5, t6, t7, t8]) ⟨G6, p6, a6, l6, ⟨[], dn6, Nat.le_refl _⟩, _, _, _, _, rfl⟩ (fun pre σ H' q => q.2.2.2.1) (fun pre x post y σ H7 H8 e q hy => ?_) fun σ H7 q => ?_
      · obtain ⟨G7, p7, a7, l7, ⟨kvs, dn7, hk7⟩, t5, t6, t7, t8, rfl⟩ := q
        obtain ⟨T', x', k', rfl, hT, rfl, e1, ax⟩ := hy
        have e2 := at_mid e e1
        subst e2
        obtain ⟨p', z, q, ep, rfl, rfl, rfl⟩ := map_mid e
        have gT : Grow No H7 (upd H7 T' (.tup [.int ((rws p').length : Nat), x'])) := Grow.new hT
        have hpl : p'.length ≤ 24 := by
          have := congrArg List.length ep
          rw [List.length_append] at this
          omega
        obtain ⟨bz, rfl, _⟩ := row_of ax
        refine ⟨T', _, rfl, SqT.of upd_same, rfl, _, _, rfl, _, _, rfl, rfl, ?_⟩
        rw [rws_len] at hk7
        refine ⟨_, rfl, _, rfl, p, c_Heads, dx, _, _, rfl, gT.oN p7, T.cl_Heads, T.n_Heads_numbers, (by repeat (first | (refine (lookF ?_).trans ?_; (decide +kernel)) | exact lookS | exact lookN)), _, rfl, bz, d2, _, rowD z, rfl, rfl, dn7.growN gT, gT.at ax, by rw [depth_row]; decide, szL (by omega), fun ψ dn8 => ?_⟩
        have g8 := (dn7.growN gT).putG ψ
        refine ⟨(G7.then gT).loc g8 hd20, g8.o (gT.oN p7) pd2, g8.at (gT.at a7), (l7.growN gT).grow g8 Ld2, ⟨_, dn8, ?_⟩, _, _, _, _, rfl⟩
        refine Nat.le_trans (length_putK kvs (rowD z) _) ?_
        rw [len_snoc, List.length_map]
        omega
      · obtain ⟨G7, p7, a7, l7, _, t5, t6, t7, t8, rfl⟩ := q
        refine k H7 dx _ v2 rs G7 p7 (by repeat (first | (refine (lookF ?_).trans ?_; (decide +kernel)) | exact lookS | exact lookN)) a7 ⟨rw1.nd, rw1.z, rw1.u ok, fun r hr c hc => ?_⟩
        obtain ⟨i, hi, e⟩ := List.mem_iff_getElem.mp hr
        exact hcl i r (by omega) (by rw [List.getElem?_eq_getElem hi, e]) c hc
end
end K81

namespace K81
open PySem PySem.Spec PyProof.Rows L2
def numsOf (mo : Option Nat) : List Nat := match mo with
  | none => [0]
  | some m => List.range (m + 1)
def nodesOf (mo : Option Nat) (rs : List Row) : List Node := rs.flatMap fun r => (numsOf mo).map fun a => (r, a)
theorem nodesOf_snoc (mo : Option Nat) (rs : List Row) (r : Row) : nodesOf mo (rs ++ [r]) = nodesOf mo rs ++ (numsOf mo).map fun a => (r, a) := by
  unfold nodesOf
  rw [List.flatMap_append]
  simp
theorem nodesOf_len (mo : Option Nat) : ∀ rs : List Row, (nodesOf mo rs).length = rs.length * (numsOf mo).length
  | [] => by simp [nodesOf]
  | r :: rs => by
    have ih := nodesOf_len mo rs
    unfold nodesOf at ih ⊢
    rw [List.flatMap_cons, List.length_append, List.length_map, ih, List.length_cons, Nat.succ_mul]
    omega
theorem numsOf_len {mo : Option Nat} (h : ∀ m, mo = some m → m ≤ 4) : (numsOf mo).length ≤ 5 ∧ 0 < (numsOf mo).length := by
  cases mo with
  | none => exact ⟨by decide, by decide⟩
  | some m =>
    have := h m rfl
    unfold numsOf
    rw [List.length_range]
    omega
theorem len_mul {a b : Nat} (h1 : a ≤ 24) (h2 : b ≤ 5) : a * b ≤ 120 := Nat.le_trans (Nat.mul_le_mul h1 h2) (by decide)
section
variable {P : Program} {w : World} {K : PySem.W.Frag} {mg : Str → Option Value} {base : Heap}
def numD (l : List Nat) : List D := l.map fun a => NestedKey.num (a : Nat)
def sp_Band_nodes : Sp := fun vs H Q _ => ∃ b W ls hs mo R, vs = [.ref b] ∧ BAt H b W ls hs mo R ∧ ∀ H' v rs, Grow No H H' → Closed W ls rs → At H' (.tup ((nodesOf mo rs).map nodeD)) v → Q v H'
abbrev N_Band_nodes : List Str := ["self", "rows", "numbers", "row", "made"]
theorem sc_Band_nodes : FnScope ["self", "rows", "numbers", "row", "made"] ["self"] (defScope s_Band_nodes) := ⟨rfl, rfl, rfl, by decide +kernel, rfl, by decide +kernel, by decide +kernel⟩
theorem bd_Band_nodes (T : Txt K mg) : Binds K (fdOf K a_Band_nodes) ["self"] [] := FunD.bindsN T.F_Band_nodes fun _ _ _ _ _ _ us hl => match us, hl with | [_], _ => rfl
theorem ok_Band_nodes (T : Txt K mg) : FnOk P w K mg base CX0 4 a_Band_nodes (fdOf K a_Band_nodes) ["self"] (sp_Band_nodes) := by
  refine ok0 T.F_Band_nodes sc_Band_nodes (fun vs H Q E h => ?_) (fun cdv A outer s H vs Q E hr h => ?_)
  · obtain ⟨b, W, ls, hs, mo, R, rfl, B, k⟩ := h
    rfl
  · obtain ⟨b, W, ls, hs, mo, R, rfl, B, k⟩ := h
    have hU := hr.units
    have hu := hu_of hr
    obtain ⟨tN, h_MOST_NODES⟩ := T.i_MOST_NODES
    have B0 := B
    obtain ⟨⟨dx, fs, pm, aR, lr, e, f1, f2, f3, f4, m, t, hl⟩, _, _, hmo⟩ := B
    refine ⟨_, (pss_cons (ps_set (i := 1) sc_Band_nodes.nd rfl (Or.inl rfl) (pe_fld (pe_make T.mk_Heads (ok_Heads_init T) (hr.mono (by decide)) rfl T.g_Heads (bd_Heads_init T) .nil pass0 (pa_cons (pe_fld (pv 0) rfl) pa_nil)) rfl))
      (C8.pss_cut (ps_set (i := 2) sc_Band_nodes.nd rfl (Or.inr rfl) (pe_ifExp (pt_cmpR op_isN (pe_fld (pv 0) rfl) pe_non (nomark _)) (pe_lst (pa_cons pe_int pa_nil)) (pe_listRg rfl (by rfl) T.z_list (prg_1 (by rfl) T.z_range (pe_op op_add (pe_fld (pv 0) rfl) pe_int)))))
      (pss_cons (ps_if (pt_cmpR op_gt (pe_op op_mul (pe_callB call_lenK (by rfl) T.z_len PySem.boot_len (pa_cons (pv 1) pa_nil)) (pe_callB call_lenK (by rfl) T.z_len PySem.boot_len (pa_cons (pv 2) pa_nil))) (pe_glob (v := .int 1000) rfl h_MOST_NODES ⟨_, rfl⟩) (nomark _)) (pss_one ps_never) pss_nil)
      (pss_one (ps_ret (pe_callTy call_tupK (by rfl) T.z_tuple (by decide +kernel) (pa_cons (pe_lc2 (own := [("row", 3), ("made", 4)]) (vs1 := [4]) (wi1 := iList K (tVar 2)) rfl sc_Band_nodes.nd (pi_tup (pv 1)) (blkOk_by (own := [("row", 3), ("made", 4)]) (N := N_Band_nodes) (sc := defScope s_Band_nodes) (by decide +kernel)) (by decide) (fun _ _ _ _ _ => pg_name (i := 3) sc_Band_nodes.nd rfl (Or.inl rfl)) (fun _ _ _ _ _ => pts_nil) (fun _ _ _ _ _ => (pi_list (pv 2))) (fun _ _ _ _ _ => pg_name (i := 4) sc_Band_nodes.nd rfl (Or.inl rfl)) (fun _ _ _ _ _ => pts_nil) (fun _ _ _ _ _ => (pe_tup (pa_cons (pv 3) (pa_cons (pv 4) pa_nil))))) pa_nil))))))), ?_⟩
    refine ⟨_, rfl, b, c_Band, dx, fs, _, rfl, e, T.cl_Band, T.n_Band_method, f1, ?_⟩
    refine fun x dx' hx hdx hne => ?_
    have hx' : (upd H dx' (.own x)) x = none := by rw [upd_ne (Ne.symm hne)]; exact hx
    have g1 : Grow No H (upd (upd H dx' (.own x)) x (.ins c_Heads dx' [])) := (Grow.new hdx).trans (Grow.new hx')
    refine ⟨x, dx', pm, W, ls, rfl, upd_same, m.hard g1.hard, fun H2 dx2 fs2 v2 rs g2 p2 k2 a2 cl => ?_⟩
    refine ⟨rfl, x, c_Heads, dx2, fs2, v2, rfl, p2, T.cl_Heads, T.n_Heads_rows, k2, ?_⟩
    have G2 : Grow No H H2 := g1.loc g2 hx
    obtain ⟨hm5, hm0⟩ := numsOf_len hmo
    have hr24 : rs.length ≤ 24 := u_nodup B0.ok.bells cl.nd cl.u
    obtain ⟨a, vs, rfl, h1, h2⟩ := a2.ref
    refine ⟨fun σ' H' => Grow No H2 H' ∧ ∃ Ln, σ' = [some (.ref b), some (.ref a), some (.ref Ln), none, none] ∧ Ls H' Ln (numD (numsOf mo)), ?_, ?_⟩
    · have e2 := G2.oN e
      refine ⟨_, rfl, b, c_Band, dx, fs, _, rfl, e2, T.cl_Band, T.n_Band_most, f2, rfl, _, rfl, ?_⟩
      cases mo with
      | none =>
        refine iteT' rfl ?_
        refine ⟨(by decide : 1 ≤ sizeLine), fun Ln hLn => ?_⟩
        exact ⟨Grow.new hLn, Ln, rfl, Ls.new (.cons (.num 0) .nil) hLn⟩
      | some q =>
        have hq := hmo q rfl
        refine iteF' rfl ?_
        refine ⟨_, rfl, b, c_Band, dx, fs, _, rfl, e2, T.cl_Band, T.n_Band_most, f2, _, _, rfl, rfl, _, rfl, RgOk.of_le (by decide) (by omega) (by decide) (by omega), fun Ln hLn => ?_⟩
        refine ⟨Grow.new hLn, Ln, rfl, ?_⟩
        have ev : rgV 0 ((q : Int) + 1) = ((numsOf (some q)).map fun a : Nat => (a : Int)).map V.int := by
          unfold rgV numsOf
          rw [show ((q : Int) + 1 - 0).toNat = q + 1 by omega, List.map_map]
          refine List.map_congr_left fun i _ => ?_
          show V.int (0 + (i : Int)) = V.int (i : Int)
          rw [Int.zero_add]
        have en : numD (numsOf (some q)) = nums ((numsOf (some q)).map fun a : Nat => (a : Int)) := by
          unfold numD nums
          rw [List.map_map]
          rfl
        rw [en, ev]
        exact Ls.new (ats_nums _) hLn
    rintro σ' H3 ⟨g3, Ln, rfl, ln⟩
    have a3 := g3.at a2
    refine ⟨_, rfl, _, _, rfl, .inl a3, _, rfl, .ref Ln, _, rfl, .inr ⟨Ln, rfl, ln⟩, _, _, rfl, rfl, .inl ⟨by rw [rws_len]; omega, by rw [rws_len]; omega⟩, _, _, rfl, rfl, _, rfl, ?_⟩
    have h120 := len_mul hr24 hm5
    have eln : (numD (numsOf mo)).length = (numsOf mo).length := List.length_map _
    refine iteF' (dF ?_) ?_
    · rw [rws_len, eln]
      have : ((rs.length : Int) * ((numsOf mo).length : Int)) = ((rs.length * (numsOf mo).length : Nat) : Int) := by simp
      omega
    refine ⟨_, rfl, a, rfl, ⟨_, SqT.of (g3.oN h1)⟩, fun L hL => ?_⟩
    have LL : Ln ≠ L := ln.ne hL
    have hnl := nodesOf_len mo
    refine ⟨fun i mm H' => mm = rs.length - i ∧ i ≤ rs.length ∧ Grow No H3 H' ∧ Ls H' L ((nodesOf mo (rs.take i)).map nodeD), ⟨rs.length, rfl, Nat.zero_le _, Grow.new hL, Ls.new .nil hL⟩, fun i mm H' w => ?_⟩
    obtain ⟨rfl, hi, g, l⟩ := w
    have w1 := walk_tupK (K := K) (a := a) (ks := rws rs)
    have w2 := walk_lstK (K := K) (a := Ln) (ks := numD (numsOf mo))
    by_cases hlt : i < rs.length
    · refine .inr ⟨w1.goes i H' (by rw [rws_len]; exact hlt) (g.at a3), fun H' => Grow No H3 H' ∧ Ls H' L ((nodesOf mo (rs.take (i + 1))).map nodeD), fun H' z => ⟨rs.length - (i + 1), by omega, rfl, hlt, z⟩, fun y H4 yld => ?_⟩
      obtain ⟨rfl, k0, hk0, hy⟩ := w1.yields i H' y H4 (by rw [rws_len]; exact hlt) (g.at a3) yld
      rw [List.getElem?_map, List.getElem?_eq_getElem hlt] at hk0
      cases hk0
      have er : rs.take (i + 1) = rs.take i ++ [rs[i]] := take_more rs i hlt
      generalize rs[i] = r at er hy
      refine ⟨rfl, ?_⟩
      obtain ⟨nv, en, _⟩ := ln.growN g
      refine ⟨_, rfl, Ln, rfl, ⟨_, SqL.of en⟩, ?_⟩
      refine ⟨fun j kk H5 => kk = (numsOf mo).length - j ∧ j ≤ (numsOf mo).length ∧ Grow (On L) H4 H5 ∧ Grow No H3 H5 ∧ Ls H5 L ((nodesOf mo (rs.take i) ++ ((numsOf mo).take j).map fun a => (r, a)).map nodeD), ⟨(numsOf mo).length, rfl, Nat.zero_le _, Grow.refl _, g, by rw [List.take_zero, List.map_nil, List.append_nil]; exact l⟩, fun j kk H5 w => ?_⟩
      obtain ⟨rfl, hj, gL, g5, l5⟩ := w
      by_cases hjl : j < (numsOf mo).length
      · refine .inr ⟨w2.goes j H5 (by rw [eln]; exact hjl) (ln.growN g5), fun H6 => Grow (On L) H4 H6 ∧ Grow No H3 H6 ∧ Ls H6 L ((nodesOf mo (rs.take i) ++ ((numsOf mo).take (j + 1)).map fun a => (r, a)).map nodeD), fun H6 z => ⟨(numsOf mo).length - (j + 1), by omega, rfl, hjl, z⟩, fun z H6 yld2 => ?_⟩
        obtain ⟨rfl, k1, hk1, hz⟩ := w2.yields j H5 z H6 (by rw [eln]; exact hjl) (ln.growN g5) yld2
        unfold numD at hk1
        rw [List.getElem?_map, List.getElem?_eq_getElem hjl] at hk1
        cases hk1
        cases hz
        have ej : (numsOf mo).take (j + 1) = (numsOf mo).take j ++ [(numsOf mo)[j]] := take_more (numsOf mo) j hjl
        generalize (numsOf mo)[j] = q at ej
        refine ⟨rfl, ?_⟩
        refine ⟨_, rfl, _, rfl, (by decide : 2 ≤ sizeLine), fun t ht => ?_⟩
        have ay := gL.at hy
        have at2 := tup_new (.cons ay (.cons (.num (q : Nat)) .nil)) ht
        obtain ⟨lv, el, rl⟩ := l5.growN (Grow.new (o := .tup [y, .int (q : Nat)]) ht)
        have hlen : lv.length ≤ 240 := by
          rw [← rl.length, List.length_map, List.length_append, List.length_map, hnl, List.length_take, List.length_take]
          have h1 := len_mul (a := min i rs.length) (b := (numsOf mo).length) (by omega) hm5
          omega
        have gp := Grow.putO (o := .lst (lv ++ [.ref t])) el (lst_ne_tup lv)
        refine ⟨lv, el, szL (by omega), (gL.then (Grow.new ht)).trans gp, (g5.trans (Grow.new ht)).loc gp hL, lv ++ [.ref t], upd_same, ?_⟩
        have e9 : (nodesOf mo (rs.take i) ++ ((numsOf mo).take j ++ [q]).map fun a => (r, a)).map nodeD = (nodesOf mo (rs.take i) ++ ((numsOf mo).take j).map fun a => (r, a)).map nodeD ++ [nodeD (r, q)] := by simp
        rw [ej, e9]
        exact gp.ats (Ats.snoc at2 rl)
      · have ej : j = (numsOf mo).length := by omega
        subst ej
        rw [List.take_length] at l5
        refine .inl ⟨by have := w2.stops H5 (ln.growN g5); rw [eln] at this; exact this, g5, ?_⟩
        rw [er, nodesOf_snoc]
        exact l5
    · have ei : i = rs.length := by omega
      subst ei
      rw [List.take_length] at l
      refine .inl ⟨by have := w1.stops H' (g.at a3); rw [rws_len] at this; exact this, ?_⟩
      exact ⟨L, _, rfl, l, fun H5 v5 g5 a5 => k H5 v5 rs (((G2.trans g3).trans g).trans g5) cl a5⟩
end
end K81

namespace K81
open PySem PySem.Spec PyProof.Rows L2
def keyD (k : Ky) : D := .tup [nodeD k.1, .text (sg k.2)]
theorem nodeD_inj (a b : Node) (h : nodeD a = nodeD b) : a = b := by
  unfold nodeD at h
  injection h with h
  injection h with h1 h
  injection h with h2 h
  injection h2 with h2
  cases a
  cases b
  have e1 := rowD_inj h1
  have e2 := Int.ofNat.inj h2
  simp only at e1 e2
  rw [e1, e2]
theorem keyD_inj (a b : Ky) (h : keyD a = keyD b) : a = b := by
  unfold keyD at h
  injection h with h
  injection h with h1 h
  injection h with h2 h
  injection h2 with h2
  cases a
  cases b
  have e1 := nodeD_inj _ _ h1
  have e2 := sg_inj h2
  simp only at e1 e2
  rw [e1, e2]
theorem dep_node (v : Node) : (nodeD v).depth ≤ 8 := by
  show max (rowD v.1).depth (max 0 0) + 1 ≤ 8
  rw [depth_row]
  decide
theorem dep_key (k : Ky) : (keyD k).depth ≤ 8 := by
  show max (nodeD k.1).depth (max 0 0) + 1 ≤ 8
  have : (nodeD k.1).depth ≤ 2 := by
    show max (rowD k.1.1).depth (max 0 0) + 1 ≤ 2
    rw [depth_row]
    decide
  omega
section
variable {P : Program} {w : World} {K : PySem.W.Frag} {mg : Str → Option Value} {base : Heap}
/-- nodes, closed under ways -/
structure NOk (W : Wd) (ls : List Nat) (mo : Option Nat) (R : Rg) (ns : List Node) : Prop where
  nd : ns.Nodup
  few : ns.length ≤ 120
  u : ∀ v ∈ ns, v.1 ∈ U W.n
  cl : ∀ v ∈ ns, ∀ c ∈ ls, ∀ y ∈ ways W mo R v c, y.2 ∈ ns
/-- what comes into each node, how many ways each key has -/
structure LIn (P : Program) (w : World) (H : Hp) (wy : Node → Nat → List Wy) (ns : List Node) (aI aW : Addr) (Lf : Node → Addr) (ev : List (Node × Ky)) (ks : List Ky) : Prop where
  dI : DN P w H aI (kvF nodeD (fun v => V.ref (Lf v)) ns)
  dW : DN P w H aW (kvF keyD (fun k => V.int ((wy k.1 k.2).length : Nat)) ks)
  li : ∀ v ∈ ns, Ls H (Lf v) ((intoOf ev v).map keyD)
  inj : ∀ u ∈ ns, ∀ v ∈ ns, Lf u = Lf v → u = v
theorem LIn.growN {H H1 : Hp} {wy : Node → Nat → List Wy} {ns : List Node} {aI aW : Addr} {Lf : Node → Addr} {ev : List (Node × Ky)} {ks : List Ky} (h : LIn P w H wy ns aI aW Lf ev ks) (g : Grow No H H1) : LIn P w H1 wy ns aI aW Lf ev ks :=
  ⟨h.dI.growN g, h.dW.growN g, fun v hv => (h.li v hv).growN g, h.inj⟩
theorem LIn.ne {H : Hp} {wy : Node → Nat → List Wy} {ns : List Node} {aI aW : Addr} {Lf : Node → Addr} {ev : List (Node × Ky)} {ks : List Ky} (h : LIn P w H wy ns aI aW Lf ev ks) {v : Node} (hv : v ∈ ns) : Lf v ≠ aI ∧ Lf v ≠ aW := by
  obtain ⟨vs, e⟩ := (h.li v hv).ex
  obtain ⟨φ, e1⟩ := h.dI.at
  obtain ⟨ψ, e2⟩ := h.dW.at
  refine ⟨fun z => ?_, fun z => ?_⟩
  · rw [z, e1] at e
    cases e
  · rw [z, e2] at e
    cases e
theorem LIn.app {H H1 : Hp} {wy : Node → Nat → List Wy} {ns : List Node} {aI aW : Addr} {Lf : Node → Addr} {ev : List (Node × Ky)} {ks : List Ky} (h : LIn P w H wy ns aI aW Lf ev ks) {u : Node} {k : Ky} (hu : u ∈ ns) (g : Grow (On (Lf u)) H H1) (l : Ls H1 (Lf u) ((intoOf ev u).map keyD ++ [keyD k])) : LIn P w H1 wy ns aI aW Lf (ev ++ [(u, k)]) ks := by
  obtain ⟨n1, n2⟩ := h.ne hu
  refine ⟨h.dI.grow g (fun z => n1 z.symm), h.dW.grow g (fun z => n2 z.symm), fun v hv => ?_, h.inj⟩
  rw [intoOf_app, intoOf_one]
  by_cases hvu : u = v
  · subst hvu
    rw [if_pos rfl, List.map_append]
    exact l
  · rw [if_neg hvu, List.append_nil]
    exact (h.li v hv).grow g fun z => hvu (h.inj _ hv _ hu z).symm
theorem LIn.way {H H1 : Hp} {wy : Node → Nat → List Wy} {ns : List Node} {aI aW : Addr} {Lf : Node → Addr} {ev : List (Node × Ky)} {ks ks' : List Ky} (h : LIn P w H wy ns aI aW Lf ev ks) (IW : aI ≠ aW) (g : Grow (On aW) H H1) (d : DN P w H1 aW (kvF keyD (fun k => V.int ((wy k.1 k.2).length : Nat)) ks')) : LIn P w H1 wy ns aI aW Lf ev ks' :=
  ⟨h.dI.grow g IW, d, fun v hv => (h.li v hv).grow g (h.ne hv).2, h.inj⟩
theorem ways_len {H : Hp} {b : Addr} {W : Wd} {ls : List Nat} {hs : Hears} {mo : Option Nat} {R : Rg} (h : BAt H b W ls hs mo R) {c : Nat} (hc : c ∈ ls) (v : Node) : (ways W mo R v c).length ≤ 5 := Nat.le_trans (wayL_len W mo v c (R c)) (h.rlen hc)
theorem intoOf_le (ev : List (Node × Ky)) (u : Node) : (intoOf ev u).length ≤ ev.length := by
  unfold intoOf
  rw [List.length_map]
  exact List.length_filter_le ..
theorem evs_len (wy : Node → Nat → List Wy) (k : Ky) : (evs wy k).length = (wy k.1 k.2).length := List.length_map _
theorem flat_len (wy : Node → Nat → List Wy) : ∀ ks : List Ky, (∀ k ∈ ks, (wy k.1 k.2).length ≤ 5) → (ks.flatMap (evs wy)).length ≤ 5 * ks.length
  | [], _ => Nat.zero_le _
  | k :: ks, h => by
    have h1 := h k (List.mem_cons_self ..)
    have h2 := flat_len wy ks fun x hx => h x (List.mem_cons_of_mem _ hx)
    rw [List.flatMap_cons, List.length_append, evs_len, List.length_cons]
    omega
theorem keys_len (ls : List Nat) : ∀ ns : List Node, (keysOf ns ls).length = ns.length * ls.length
  | [] => by simp [keysOf]
  | v :: ns => by
    have ih := keys_len ls ns
    unfold keysOf at ih ⊢
    rw [List.flatMap_cons, List.length_append, List.length_map, ih, List.length_cons, Nat.succ_mul]
    omega
theorem keys_snoc (ns : List Node) (v : Node) (ls : List Nat) : keysOf (ns ++ [v]) ls = keysOf ns ls ++ ls.map fun c => (v, c) := by
  unfold keysOf
  rw [List.flatMap_append]
  simp
def sp_leads_into (P : Program) (w : World) : Sp := fun vs H Q _ => ∃ b W ls hs mo R x ns, vs = [.ref b, x] ∧ BAt H b W ls hs mo R ∧ At H (.tup (ns.map nodeD)) x ∧ NOk W ls mo R ns ∧
  ∀ H' t aI aW Lf, Grow No H H' → H' t = some (.tup [.ref aI, .ref aW]) → H aI = none → H aW = none → aI ≠ aW → LIn P w H' (ways W mo R) ns aI aW Lf ((keysOf ns ls).flatMap (evs (ways W mo R))) (keysOf ns ls) → Q (.ref t) H'
abbrev N_leads_into : List Str := ["band", "nodes", "into", "ways", "node", "row", "made", "letter", "found", "rung"]
theorem sc_leads_into : FnScope ["band", "nodes", "into", "ways", "node", "row", "made", "letter", "found", "rung"] ["band", "nodes"] (defScope s_leads_into) := ⟨rfl, rfl, rfl, by decide +kernel, rfl, by decide +kernel, by decide +kernel⟩
theorem bd_leads_into (T : Txt K mg) : Binds K (fdOf K a_leads_into) ["band", "nodes"] [] := FunD.bindsN T.F_leads_into fun _ _ _ _ _ _ us hl => match us, hl with | [_, _], _ => rfl
theorem ok_leads_into (T : Txt K mg) : FnOk P w K mg base CX0 3 a_leads_into (fdOf K a_leads_into) ["band", "nodes"] (sp_leads_into P w) := by
  refine ok0 T.F_leads_into sc_leads_into (fun vs H Q E h => ?_) (fun cdv A outer s H vs Q E hr h => ?_)
  · obtain ⟨b, W, ls, hs, mo, R, x, ns, rfl, B, hx, nk, k⟩ := h
    rfl
  · obtain ⟨b, W, ls, hs, mo, R, x, ns, rfl, B, hx, nk, k⟩ := h
    have hU := hr.units
    have hu := hu_of hr
    have ok := B.ok
    have hl4 := B.lts.len ok
    have hlnd := B.lts.nodup ok
    have hnd := nk.nd
    have hfew := nk.few
    have B0 := B
    obtain ⟨⟨dx, fs, pm, aR, lr, e, f1, f2, f3, f4, m, t, hl⟩, _, _, hmo⟩ := B
    obtain ⟨⟨dxm, fsm, vpl, vca, vop, aL, vro, aM, aB, l1, l2, em, k1, k2, k3, k4, k5, k6, k7, k8, k9, k10, k11, a1, a2, s1, s2, s3, m1, m2⟩, lts, _⟩ := m
    refine ⟨_, (pss_cons (ps_set (i := 2) sc_leads_into.nd rfl (Or.inl rfl) pe_newN)
      (pss_cons (ps_set (i := 3) sc_leads_into.nd rfl (Or.inl rfl) pe_newN)
      (pss_cons (ps_for PassesOwn.never rfl (pi_tup (pv 1)) (pg_name (i := 4) sc_leads_into.nd rfl (Or.inl rfl)) (pss_one (ps_asg (pe_lst pa_nil) (pg_sub (pv 2) (pv 4) (set_dN hU)))))
      (pss_cons (ps_for PassesOwn.never rfl (pi_tup (pv 1)) (pg_tup rfl (pgs_cons (pg_name (i := 5) sc_leads_into.nd rfl (Or.inl rfl)) (pgs_cons (pg_name (i := 6) sc_leads_into.nd rfl (Or.inl rfl)) pgs_nil))) (pss_one (ps_for PassesOwn.never rfl (pi_tup (pe_fld (pe_fld (pv 0) rfl) rfl)) (pg_name (i := 7) sc_leads_into.nd rfl (Or.inl rfl)) (pss_cons (ps_set (i := 8) sc_leads_into.nd rfl (Or.inl rfl) (pe_call (ok_ways_behind T) (hr.mono (by decide)) (by rfl) T.g_ways_behind T.F_ways_behind.kp (bd_ways_behind T) .nil pass0 (pa_cons (pv 0) (pa_cons (pv 5) (pa_cons (pv 6) (pa_cons (pv 7) pa_nil))))))
      (pss_cons (ps_asg (pe_callB call_lenK (by rfl) T.z_len PySem.boot_len (pa_cons (pv 8) pa_nil)) (pg_sub (pv 3) (pe_tup (pa_cons (pe_tup (pa_cons (pv 5) (pa_cons (pv 6) pa_nil))) (pa_cons (pv 7) pa_nil))) (set_dN hU)))
      (pss_one (ps_for PassesOwn.never rfl (pi_list (pv 8)) (pg_tup rfl (pgs_cons (pg_name (i := 9) sc_leads_into.nd rfl (Or.inl rfl)) (pgs_cons (pg_name (i := 4) sc_leads_into.nd rfl (Or.inl rfl)) pgs_nil))) (pss_one (ps_expr (pe_bm PySem.F.plainAttrs_list PySem.F.slot_list_append PySem.F.type_list_append mt_appK (pe_getN hU (pv 2) (pv 4) (fun _ _ => rfl)) (pa_cons (pe_tup (pa_cons (pe_tup (pa_cons (pv 5) (pa_cons (pv 6) pa_nil))) (pa_cons (pv 7) pa_nil))) pa_nil)))))))))))
      (pss_one (ps_ret (pe_tup (pa_cons (pv 2) (pa_cons (pv 3) pa_nil))))))))), ?_⟩
    refine fun aI haI φ1 dI0 => ?_
    have gI : Grow No H (upd H aI (.ext φ1)) := Grow.new haI
    generalize upd H aI (.ext φ1) = H1 at gI dI0
    refine fun aW haW φ2 dW0 => ?_
    have gW : Grow No H1 (upd H1 aW (.ext φ2)) := Grow.new haW
    have IW : aI ≠ aW := dI0.ne haW
    have dI0 := dI0.growN gW
    have haW0 := gI.ex _ haW
    generalize upd H1 aW (.ext φ2) = H2 at gW dI0 dW0
    have G2 := gI.trans gW
    obtain ⟨a, xs, rfl, h1, h2⟩ := hx.ref
    refine ⟨_, rfl, a, rfl, ⟨_, SqT.of (G2.oN h1)⟩, ?_⟩
    refine for_tupK (ks := ns.map nodeD) (fun pre σ H' => Grow No H H' ∧ ∃ (p : List Node) (Lf : Node → Addr) (t : Option V), pre = p.map nodeD ∧ σ = [some (.ref b), some (.ref a), some (.ref aI), some (.ref aW), t, none, none, none, none, none] ∧ DN P w H' aI (kvF nodeD (fun v => V.ref (Lf v)) p) ∧ DN P w H' aW [] ∧ (∀ v ∈ p, Ls H' (Lf v) []) ∧ (∀ u ∈ p, ∀ v ∈ p, Lf u = Lf v → u = v) ∧ (∀ v ∈ p, H (Lf v) = none)) ⟨G2, [], fun _ => 0, none, rfl, rfl, dI0, dW0, (fun _ h => nomatch h), (fun _ h => nomatch h), (fun _ h => nomatch h)⟩ (fun pre σ H' q => q.1.at hx) (fun pre d post y σ H' e' q hy => ?_) fun σ H' q => ?_
    · obtain ⟨g, p0, Lf, t0, rfl, rfl, dI, dW, hli, hinj, hfr⟩ := q
      obtain ⟨p', z, r, ep, e2, rfl, rfl⟩ := map_mid e'
      have e2 := map_inj nodeD_inj e2
      subst e2
      have hzn : z ∉ p0 := by
        rw [ep, List.nodup_append] at hnd
        exact fun z' => hnd.2.2 z z' z (List.mem_cons_self ..) rfl
      have hpl : p0.length ≤ 120 := by
        have := congrArg List.length ep
        rw [List.length_append] at this
        omega
      obtain ⟨by', _, rfl, _, _⟩ := hy.ref
      refine ⟨Nat.zero_le _, fun L hL => ?_⟩
      have gL : Grow No H' (upd H' L (.lst [])) := Grow.new hL
      have lL : Ls (upd H' L (.lst [])) L [] := ⟨[], upd_same, .nil⟩
      refine ⟨_, rfl, _, rfl, by', aI, _, nodeD z, rfl, rfl, dI.growN gL, gL.at hy, dep_node z, by rw [kvF_len]; exact szL (by omega), fun ψ dn => ?_⟩
      have g6 := (dI.growN gL).putG ψ
      rw [kvF_new nodeD_inj hzn] at dn
      have ef : ∀ v, fupd (fun v => V.ref (Lf v)) z (.ref L) v = V.ref (if v = z then L else Lf v) := fun v => by
        unfold fupd
        by_cases hv : v = z
        · rw [if_pos hv, if_pos hv]
        · rw [if_neg hv, if_neg hv]
      have ef2 : fupd (fun v => V.ref (Lf v)) z (.ref L) = fun v => V.ref (if v = z then L else Lf v) := funext ef
      rw [ef2] at dn
      have IL : ¬ On aI L := fun z => by
        obtain ⟨φ, ea⟩ := (dI.growN gL).at
        rw [← z, upd_same] at ea
        cases ea
      refine ⟨(g.trans gL).loc g6 haI, p0 ++ [z], fun v => if v = z then L else Lf v, _, by rw [List.map_append]; rfl, rfl, dn, (dW.growN gL).grow g6 (fun q => IW q.symm), fun v hv => ?_, fun u hu v hv huv => ?_, fun v hv => ?_⟩
      · by_cases hvz : v = z
        · show Ls _ (if v = z then L else Lf v) []
          rw [if_pos hvz]
          exact lL.grow g6 IL
        · show Ls _ (if v = z then L else Lf v) []
          rw [if_neg hvz]
          have hv0 : v ∈ p0 := (List.mem_append.mp hv).elim id fun q => (hvz (List.mem_singleton.mp q)).elim
          refine ((hli v hv0).growN gL).grow g6 fun q => ?_
          obtain ⟨φ, ea⟩ := dI.at
          obtain ⟨vs, eb⟩ := (hli v hv0).ex
          rw [show Lf v = aI from q, ea] at eb
          cases eb
      · have old : ∀ v ∈ p0, Lf v ≠ L := fun v hv => (hli v hv).ne hL
        have mem : ∀ v, v ∈ p0 ++ [z] → v ≠ z → v ∈ p0 := fun v hv hne => (List.mem_append.mp hv).elim id fun q => (hne (List.mem_singleton.mp q)).elim
        have huv : (if u = z then L else Lf u) = (if v = z then L else Lf v) := huv
        by_cases hu' : u = z
        · by_cases hv' : v = z
          · rw [hu', hv']
          · rw [if_pos hu', if_neg hv'] at huv
            exact (old v (mem v hv hv') huv.symm).elim
        · by_cases hv' : v = z
          · rw [if_neg hu', if_pos hv'] at huv
            exact (old u (mem u hu hu') huv).elim
          · rw [if_neg hu', if_neg hv'] at huv
            exact hinj u (mem u hu hu') v (mem v hv hv') huv
      · show H (if v = z then L else Lf v) = none
        by_cases hvz : v = z
        · rw [if_pos hvz]
          exact g.ex _ hL
        · rw [if_neg hvz]
          exact hfr v ((List.mem_append.mp hv).elim id fun q => (hvz (List.mem_singleton.mp q)).elim)
    obtain ⟨g, p0, Lf, t0, e', rfl, dI, dW, hli, hinj, hfr⟩ := q
    have e' := map_inj nodeD_inj e'
    subst e'
    have L0 : LIn P w H' (ways W mo R) ns aI aW Lf ([].flatMap (evs (ways W mo R))) [] := ⟨dI, dW, hli, hinj⟩
    have wl : ∀ v, ∀ c ∈ ls, (ways W mo R v c).length ≤ 5 := fun v c hc => ways_len B0 hc v
    refine ⟨_, rfl, a, rfl, ⟨_, SqT.of (g.oN h1)⟩, ?_⟩
    have hkn := keys_nodup hlnd hnd
    have hkl : (keysOf ns ls).length ≤ 480 := by
      rw [keys_len]
      exact Nat.le_trans (Nat.mul_le_mul hfew hl4) (by decide)
    refine for_tupK (ks := ns.map nodeD) (fun pre σ H' => Grow No H H' ∧ ∃ (p : List Node) (t4 t5 t6 t7 t8 t9 : Option V), pre = p.map nodeD ∧ σ = [some (.ref b), some (.ref a), some (.ref aI), some (.ref aW), t4, t5, t6, t7, t8, t9] ∧ LIn P w H' (ways W mo R) ns aI aW Lf ((keysOf p ls).flatMap (evs (ways W mo R))) (keysOf p ls)) ⟨g, [], _, _, _, _, _, _, rfl, rfl, L0⟩ (fun pre σ H' q => q.1.at hx) (fun pre d post y σ H1 e' q hy => ?_) fun σ H1 q => ?_
    · obtain ⟨g1, p0, t4, t5, t6, t7, t8, t9, rfl, rfl, Li⟩ := q
      obtain ⟨p', v, r, ep, e2, rfl, rfl⟩ := map_mid e'
      have e2 := map_inj nodeD_inj e2
      subst e2
      have hv : v ∈ ns := by rw [ep]; simp
      have hru := nk.u v hv
      obtain ⟨bn, us, rfl, n1, n2⟩ := hy.ref
      cases n2 with
      | @cons _ vr _ _ c1 r1 =>
      cases r1 with
      | @cons _ va _ _ c2 r2 =>
      cases r2
      cases c2
      refine ⟨bn, _, rfl, SqT.of n1, rfl, _, _, rfl, _, _, rfl, rfl, ?_⟩
      obtain ⟨bl, ul, rfl, q1, q2⟩ := a2.ref
      refine ⟨_, rfl, b, c_Band, dx, fs, _, rfl, g1.oN e, T.cl_Band, T.n_Band_method, f1, pm, c_Method, dxm, fsm, _, rfl, g1.oN em, T.cl_Method, T.n_Method_row_of_letters, k6, bl, rfl, ⟨_, SqT.of (g1.oN q1)⟩, ?_⟩
      refine for_tupK (ks := txts ls) (fun pre σ H' => Grow No H H' ∧ Grow (fun b => H b = none) H1 H' ∧ ∃ (q : List Nat) (t4 t7 t8 t9 : Option V), pre = txts q ∧ σ = [some (.ref b), some (.ref a), some (.ref aI), some (.ref aW), t4, some vr, some (.int (v.2 : Nat)), t7, t8, t9] ∧ LIn P w H' (ways W mo R) ns aI aW Lf ((keysOf p0 ls ++ q.map fun c => (v, c)).flatMap (evs (ways W mo R))) (keysOf p0 ls ++ q.map fun c => (v, c))) ⟨g1, Grow.refl _, [], _, _, _, _, rfl, rfl, by rw [List.map_nil, List.append_nil]; exact Li⟩ (fun pre σ H' q => q.1.at a2) (fun pre d post y σ H2 e' q hy => ?_) fun σ H2 q => ?_
      · obtain ⟨g2, gn, q0, t4, t7, t8, t9, rfl, rfl, Li⟩ := q
        obtain ⟨q', c, r', eq, e2, rfl, rfl⟩ := map_mid (f := fun c => NestedKey.text (sg c)) e'
        have e2 : q0 = q' := map_inj (fun a b h => by injection h with h; exact sg_inj h) e2
        subst e2
        cases hy
        have hc : c ∈ ls := by rw [eq]; simp
        have hkm : (v, c) ∉ keysOf p0 ls ++ (q0.map fun c => (v, c)) ∧ (keysOf p0 ls ++ q0.map fun c => (v, c)).length ≤ 480 := by
          have e9 : keysOf ns ls = (keysOf p0 ls ++ q0.map fun c => (v, c)) ++ (v, c) :: (r'.map (fun c => (v, c)) ++ keysOf r ls) := by
            have em9 : (ls.map fun c => (v, c)) = (q0.map fun c => (v, c)) ++ (v, c) :: r'.map fun c => (v, c) := by rw [eq, List.map_append, List.map_cons]
            rw [ep]
            unfold keysOf
            rw [List.flatMap_append, List.flatMap_cons, em9]
            simp
          refine ⟨?_, ?_⟩
          · rw [e9, List.nodup_append] at hkn
            exact fun z' => hkn.2.2 _ z' _ (List.mem_cons_self ..) rfl
          · rw [e9, List.length_append] at hkl
            omega
        obtain ⟨hkm, hklen⟩ := hkm
        have eks : keysOf p0 ls ++ ((q0 ++ [c]).map fun c => (v, c)) = (keysOf p0 ls ++ (q0.map fun c => (v, c))) ++ [(v, c)] := by simp
        have hwl5 : ∀ k ∈ keysOf p0 ls ++ (q0.map fun c => (v, c)), (ways W mo R k.1 k.2).length ≤ 5 := fun k hk => by
          rcases List.mem_append.mp hk with z | z
          · exact wl _ _ ((keys_mem (v := k.1) (c := k.2)).mp z).2
          · obtain ⟨c', hc', rfl⟩ := List.mem_map.mp z
            exact wl _ _ (by rw [eq]; exact List.mem_append_left _ hc')
        generalize keysOf p0 ls ++ (q0.map fun c => (v, c)) = ks0 at Li hkm hklen hwl5 eks
        have hfl := flat_len (ways W mo R) ks0 hwl5
        have c1' : At H2 (rowD v.1) vr := gn.at c1
        obtain ⟨br, rfl, _⟩ := row_of c1'
        -- found = ways_behind(..)
        refine ⟨_, rfl, _, rfl, _, rfl, _, rfl, b, W, ls, hs, mo, R, _, v.1, v.2, c, rfl, B0.hard g2.hard, c1', hru, hc, fun H3 Lw g3 hLw lw => ?_⟩
        have Li3 := Li.growN g3
        have c13 := g3.at c1'
        have Lw1 : Lw ≠ aI := fun z => by
          obtain ⟨φ, ea⟩ := Li.dI.at
          rw [← z, hLw] at ea
          cases ea
        have Lw2 : Lw ≠ aW := fun z => by
          obtain ⟨φ, ea⟩ := Li.dW.at
          rw [← z, hLw] at ea
          cases ea
        have Lw3 : ∀ u ∈ ns, Lw ≠ Lf u := fun u hu z => (Li.li u hu).ne hLw z.symm
        refine ⟨_, rfl, .ref Lw, _, rfl, .inr ⟨Lw, rfl, lw⟩, _, rfl, _, rfl, _, rfl, (by decide : 2 ≤ sizeLine), fun t1 ht1 => ⟨_, rfl, (by decide : 2 ≤ sizeLine), fun t2 ht2 => ?_⟩⟩
        have d1 := tup_new (.cons c13 (.cons (.num (v.2 : Nat)) .nil)) ht1
        have d2 := tup_new (.cons d1 (.cons (.text (sg c)) .nil)) ht2
        have gt : Grow No H3 (upd (upd H3 t1 (.tup [.ref br, .int (v.2 : Nat)])) t2 (.tup [.ref t1, .str (sg c)])) := (Grow.new ht1).trans (Grow.new ht2)
        have Li4 := Li3.growN gt
        refine ⟨t2, aW, _, keyD (v, c), rfl, rfl, Li4.dW, d2, dep_key _, by rw [kvF_len]; exact szL (by omega), fun ψ dn => ?_⟩
        have g5 := Li4.dW.putG ψ
        rw [kvF_new keyD_inj hkm, List.length_map] at dn
        have ef : kvF keyD (fupd (fun k => V.int ((ways W mo R k.1 k.2).length : Nat)) (v, c) (V.int ((ways W mo R v c).length : Nat))) (ks0 ++ [(v, c)]) = kvF keyD (fun k => V.int ((ways W mo R k.1 k.2).length : Nat)) (ks0 ++ [(v, c)]) := kvF_congr fun k hk => by
          unfold fupd
          by_cases hk2 : k = (v, c)
          · rw [if_pos hk2, hk2]
          · rw [if_neg hk2]
        rw [ef] at dn
        have Li5 := Li4.way IW g5 dn
        have g25 : Grow (fun b => H b = none) H2 _ := ((g3.trans gt).any (S := fun b => H b = none)).trans (g5.mono fun b z => by rw [show b = aW from z]; exact haW0)
        have G5 := ((g2.trans g3).trans gt).loc g5 haW0
        have c15 := g5.at (gt.at c13)
        have lw5 := (lw.growN gt).grow g5 Lw2
        generalize upd (upd (upd H3 t1 (.tup [.ref br, .int (v.2 : Nat)])) t2 (.tup [.ref t1, .str (sg c)])) aW (.ext ψ) = H5 at dn Li5 g25 G5 c15 lw5
        obtain ⟨lv5, el5, _⟩ := id lw5
        refine ⟨_, rfl, Lw, rfl, ⟨_, SqL.of el5⟩, ?_⟩
        refine for_lstK (ks := (ways W mo R v c).map wayD) (fun pre σ H' => Grow No H H' ∧ Grow (fun b => H b = none) H2 H' ∧ At H' (rowD v.1) (.ref br) ∧ Ls H' Lw ((ways W mo R v c).map wayD) ∧ ∃ (rr : List Wy) (t4 t9 : Option V), pre = rr.map wayD ∧ σ = [some (.ref b), some (.ref a), some (.ref aI), some (.ref aW), t4, some (.ref br), some (.int (v.2 : Nat)), some (.str (sg c)), some (.ref Lw), t9] ∧ LIn P w H' (ways W mo R) ns aI aW Lf (ks0.flatMap (evs (ways W mo R)) ++ rr.map fun y => (y.2, (v, c))) (ks0 ++ [(v, c)])) ⟨G5, g25, c15, lw5, [], _, _, rfl, rfl, by rw [List.map_nil, List.append_nil]; exact Li5⟩ (fun pre σ H' q => q.2.2.2.1) (fun pre d post y σ H6 e6 q hy => ?_) fun σ H6 q => ?_
        · obtain ⟨G6, g26, c16, lw6, rr, t4, t9, rfl, rfl, Li6⟩ := q
          obtain ⟨rr', yw, r6, er, e2, rfl, rfl⟩ := map_mid e6
          have hrl : rr'.length ≤ 5 := by
            have := congrArg List.length er
            rw [List.length_append] at this
            have := wl v c hc
            omega
          have e2 : rr = rr' := map_inj (fun a b h => by
            unfold wayD at h
            injection h with h
            injection h with h1 h
            injection h with h2 h
            injection h1 with h1
            cases a
            cases b
            have e1 := sg_inj h1
            have e2 := nodeD_inj _ _ h2
            simp only at e1 e2
            rw [e1, e2]) e2
          subst e2
          have hyw : yw ∈ ways W mo R v c := by rw [er]; simp
          have hu := nk.cl v hv c hc yw hyw
          obtain ⟨bt, ut, rfl, w1, w2⟩ := hy.ref
          cases w2 with
          | @cons _ x1 _ _ y1 z1 =>
          cases z1 with
          | @cons _ x2 _ _ y2 z2 =>
          cases z2
          cases y1
          obtain ⟨bu, _, rfl, _, _⟩ := y2.ref
          refine ⟨bt, _, rfl, SqT.of w1, rfl, _, _, rfl, _, _, rfl, rfl, ?_⟩
          refine ⟨_, rfl, _, rfl, bu, aI, _, nodeD yw.2, _, rfl, rfl, Li6.dI, y2, dep_node _, kvF_get nodeD_inj hu, tyL (Li6.li _ hu), ?_⟩
          refine ⟨_, rfl, _, rfl, (by decide : 2 ≤ sizeLine), fun t1 ht1 => ⟨_, rfl, (by decide : 2 ≤ sizeLine), fun t2 ht2 => ?_⟩⟩
          have d1 := tup_new (.cons c16 (.cons (.num (v.2 : Nat)) .nil)) ht1
          have d2 := tup_new (.cons d1 (.cons (.text (sg c)) .nil)) ht2
          have gt : Grow No H6 (upd (upd H6 t1 (.tup [.ref br, .int (v.2 : Nat)])) t2 (.tup [.ref t1, .str (sg c)])) := (Grow.new ht1).trans (Grow.new ht2)
          have Li7 := Li6.growN gt
          refine ⟨Lf yw.2, _, keyD (v, c), _, rfl, rfl, Li7.li _ hu, d2, ?_, fun H8 g8 l8 => ?_⟩
          · rw [List.length_map]
            refine szL ?_
            have h1 := intoOf_le (ks0.flatMap (evs (ways W mo R)) ++ rr.map fun y => (y.2, (v, c))) yw.2
            rw [List.length_append, List.length_map] at h1
            omega
          · have hfu : H (Lf yw.2) = none := hfr _ hu
            have Li8 := Li7.app hu g8 l8
            rw [List.append_assoc] at Li8
            refine ⟨(G6.trans gt).loc g8 hfu, (g26.then gt).trans (g8.mono fun b z => by rw [show b = Lf yw.2 from z]; exact hfu), g8.at (gt.at c16), (lw6.growN gt).grow g8 (Lw3 _ hu), rr ++ [yw], _, _, by rw [List.map_append]; rfl, rfl, ?_⟩
            rw [List.map_append]
            exact Li8
        · obtain ⟨G6, g26, c16, lw6, rr, t4, t9, er, rfl, Li6⟩ := q
          have er : ways W mo R v c = rr := map_inj (fun a b h => by
            unfold wayD at h
            injection h with h
            injection h with h1 h
            injection h with h2 h
            injection h1 with h1
            cases a
            cases b
            have e1 := sg_inj h1
            have e2 := nodeD_inj _ _ h2
            simp only at e1 e2
            rw [e1, e2]) er
          refine ⟨G6, gn.trans g26, q0 ++ [c], _, _, _, _, by unfold txts; rw [List.map_append]; rfl, rfl, ?_⟩
          rw [eks, List.flatMap_append]
          have e7 : [(v, c)].flatMap (evs (ways W mo R)) = rr.map fun y => (y.2, (v, c)) := by
            rw [← er]
            simp [evs]
          rw [e7]
          exact Li6
      · obtain ⟨g2, gn, q0, t4, t7, t8, t9, eq, rfl, Li⟩ := q
        have eq : ls = q0 := map_inj (fun a b h => by injection h with h; exact sg_inj h) eq
        subst eq
        refine ⟨g2, p0 ++ [v], _, _, _, _, _, _, by rw [List.map_append]; rfl, rfl, ?_⟩
        rw [keys_snoc]
        exact Li
    · obtain ⟨g1, p0, t4, t5, t6, t7, t8, t9, e', rfl, Li⟩ := q
      have e' := map_inj nodeD_inj e'
      subst e'
      refine ⟨_, rfl, _, rfl, (by decide : 2 ≤ sizeLine), fun t ht => ?_⟩
      exact k _ t aI aW Lf (g1.trans (Grow.new ht)) upd_same haI haW0 IW (Li.growN (Grow.new ht))
end
end K81

namespace K81
open PySem PySem.Spec PyProof.Rows L2
section
variable {P : Program} {w : World} {K : PySem.W.Frag} {mg : Str → Option Value} {base : Heap}
/-- the four tables of the search -/
structure SLn (P : Program) (w : World) (H : Hp) (ls : List Nat) (ns : List Node) (evA : List (Node × Ky)) (aI aW aV : Addr) (Lf : Node → Addr) (val : Node → Int) (lf : Ky → Int) : Prop where
  dI : DN P w H aI (kvF nodeD (fun v => V.ref (Lf v)) ns)
  li : ∀ v ∈ ns, Ls H (Lf v) ((intoOf evA v).map keyD)
  dW : DN P w H aW (kvF keyD (fun k => V.int (lf k)) (keysOf ns ls))
  dV : DN P w H aV (kvF nodeD (fun v => V.int (val v)) ns)
theorem SLn.growN {H H1 : Hp} {ls : List Nat} {ns : List Node} {evA : List (Node × Ky)} {aI aW aV : Addr} {Lf : Node → Addr} {val : Node → Int} {lf : Ky → Int} (h : SLn P w H ls ns evA aI aW aV Lf val lf) (g : Grow No H H1) : SLn P w H1 ls ns evA aI aW aV Lf val lf :=
  ⟨h.dI.growN g, fun v hv => (h.li v hv).growN g, h.dW.growN g, h.dV.growN g⟩
theorem SLn.ne {H : Hp} {ls : List Nat} {ns : List Node} {evA : List (Node × Ky)} {aI aW aV : Addr} {Lf : Node → Addr} {val : Node → Int} {lf : Ky → Int} (h : SLn P w H ls ns evA aI aW aV Lf val lf) {v : Node} (hv : v ∈ ns) {a : Addr} {kvs : List (D × V)} (d : DN P w H a kvs) : Lf v ≠ a := by
  obtain ⟨vs, e⟩ := (h.li v hv).ex
  obtain ⟨φ, e1⟩ := d.at
  intro z
  rw [z, e1] at e
  cases e
def sp_sure_leads (P : Program) (w : World) : Sp := fun vs H Q _ => ∃ b W ls hs mo R x ns, vs = [.ref b, x] ∧ BAt H b W ls hs mo R ∧ At H (.tup (ns.map nodeD)) x ∧ NOk W ls mo R ns ∧ (∃ v ∈ ns, v.1 = rnd W.n) ∧
  ∀ H' aV val, Grow No H H' → H aV = none → DN P w H' aV (kvF nodeD (fun v => V.int (val v)) ns) → Good (ways W mo R) (rnd W.n) ls ns val → Q (.ref aV) H'
abbrev N_sure_leads : List Str := ["band", "nodes", "into", "left", "worths", "node", "level", "number", "found", "key"]
theorem sc_sure_leads : FnScope ["band", "nodes", "into", "left", "worths", "node", "level", "number", "found", "key"] ["band", "nodes"] (defScope s_sure_leads) := ⟨rfl, rfl, rfl, by decide +kernel, rfl, by decide +kernel, by decide +kernel⟩
theorem bd_sure_leads (T : Txt K mg) : Binds K (fdOf K a_sure_leads) ["band", "nodes"] [] := FunD.bindsN T.F_sure_leads fun _ _ _ _ _ _ us hl => match us, hl with | [_, _], _ => rfl
theorem ok_sure_leads (T : Txt K mg) : FnOk P w K mg base CX0 4 a_sure_leads (fdOf K a_sure_leads) ["band", "nodes"] (sp_sure_leads P w) := by
  refine ok0 T.F_sure_leads sc_sure_leads (fun vs H Q E h => ?_) (fun cdv A outer s H vs Q E hr h => ?_)
  · obtain ⟨b, W, ls, hs, mo, R, x, ns, rfl, B, hx, nk, hz0, k⟩ := h
    rfl
  · obtain ⟨b, W, ls, hs, mo, R, x, ns, rfl, B, hx, nk, hz0, k⟩ := h
    have hU := hr.units
    have hu := hu_of hr
    have ok := B.ok
    have hn := ok.bells
    have hl4 := B.lts.len ok
    have hlnd := B.lts.nodup ok
    have hnd := nk.nd
    have hfew := nk.few
    have B0 := B
    obtain ⟨⟨dx, fs, pm, aR, lr, e, f1, f2, f3, f4, m, t, hl⟩, _, _, hmo⟩ := B
    obtain ⟨⟨dxm, fsm, vpl, vca, vop, aL, vro, aM, aB, l1, l2, em, k1, k2, k3, k4, k5, k6, k7, k8, k9, k10, k11, a1, a2, s1, s2, s3, m1, m2⟩, lts, _⟩ := m
    have hkn := keys_nodup hlnd hnd
    refine ⟨_, (pss_cons (ps_asg (pe_call (ok_leads_into T) (hr.mono (by decide)) (by rfl) T.g_leads_into T.F_leads_into.kp (bd_leads_into T) .nil pass0 (pa_cons (pv 0) (pa_cons (pv 1) pa_nil))) (pg_tup rfl (pgs_cons (pg_name (i := 2) sc_sure_leads.nd rfl (Or.inl rfl)) (pgs_cons (pg_name (i := 3) sc_sure_leads.nd rfl (Or.inl rfl)) pgs_nil))))
      (pss_cons (ps_set (i := 4) sc_sure_leads.nd rfl (Or.inl rfl) pe_newN)
      (pss_cons (ps_for PassesOwn.never rfl (pi_tup (pv 1)) (pg_name (i := 5) sc_sure_leads.nd rfl (Or.inl rfl)) (pss_one (ps_asg (pe_un un_neg pe_int) (pg_sub (pv 4) (pv 5) (set_dN hU)))))
      (pss_cons (ps_setLc (i := 6) (own := [("node", 5)]) (tt := tTest (tOp rEqK (tOp rIxK (tVar 5) (tC (.int 0))) (tFld K (tFld K (tVar 0) "method") "opening"))) rfl sc_sure_leads.nd rfl rfl (sw_true rfl rfl rfl (by decide +kernel)) (pi_tup (pv 1)) (blkOk_by (own := [("node", 5)]) (N := N_sure_leads) (sc := defScope s_sure_leads) (by decide +kernel)) (fun _ _ _ _ _ => pg_name (i := 5) sc_sure_leads.nd rfl (Or.inl rfl)) (fun _ _ _ _ _ => pts_one (pt_cmpR (op_eqK hU) (pe_ix ix_tupK (pv 5) pe_int (fun _ _ => rfl)) (pe_fld (pe_fld (pv 0) rfl) rfl) (nomark _))) (fun _ _ _ _ _ => (pv 5)))
      (pss_cons (ps_set (i := 7) sc_sure_leads.nd rfl (Or.inl rfl) pe_int)
      (pss_cons (ps_while PassesOwn.never (pt_truth (pv 6) (by intro _; rfl)) (pss_cons (ps_for PassesOwn.never rfl (pi_list (pv 6)) (pg_name (i := 5) sc_sure_leads.nd rfl (Or.inl rfl)) (pss_one (ps_asg (pv 7) (pg_sub (pv 4) (pv 5) (set_dN hU)))))
      (pss_cons (ps_set (i := 8) sc_sure_leads.nd rfl (Or.inl rfl) pe_newN)
      (pss_cons (ps_for PassesOwn.never rfl (pi_list (pv 6)) (pg_name (i := 5) sc_sure_leads.nd rfl (Or.inl rfl)) (pss_one (ps_for PassesOwn.never rfl (pi_list (pe_getN hU (pv 2) (pv 5) (fun _ _ => rfl))) (pg_name (i := 9) sc_sure_leads.nd rfl (Or.inl rfl)) (pss_cons (ps_augS (pv 3) (pv 9) (get_dN hU) pe_int ip_sub (set_dN hU))
      (pss_one (ps_if (PW.pt (pw_and (pt_cmpR op_eq (pe_getN hU (pv 3) (pv 9) (fun _ _ => rfl)) pe_int (nomark _)) (pw_and1 (pt_cmpR op_lt (pe_getN hU (pv 4) (pe_ix ix_tupK (pv 9) pe_int (fun _ _ => rfl)) (fun _ _ => rfl)) pe_int (nomark _))))) (pss_one (ps_asg pe_bl (pg_sub (pv 8) (pe_ix ix_tupK (pv 9) pe_int (fun _ _ => rfl)) (set_dN hU)))) pss_nil))))))
      (pss_cons (ps_set (i := 6) sc_sure_leads.nd rfl (Or.inl rfl) (pe_callTy (call_listN rfl) (by rfl) T.z_list (by decide +kernel) (pa_cons (pv 8) pa_nil)))
      (pss_one (ps_aug (i := 7) sc_sure_leads.nd rfl (Or.inl rfl) pe_int ip_add)))))))
      (pss_one (ps_ret (pv 4))))))))), ?_⟩
    refine ⟨_, rfl, _, rfl, b, W, ls, hs, mo, R, x, ns, rfl, B0, hx, nk, fun H1 t aI aW Lf g1 ht haI haW IW Li => ?_⟩
    refine ⟨t, _, rfl, SqT.of ht, rfl, _, _, rfl, _, _, rfl, rfl, ?_⟩
    refine fun aV haV φ dV0 => ?_
    have gV : Grow No H1 (upd H1 aV (.ext φ)) := Grow.new haV
    have haV0 := g1.ex _ haV
    have IV : aI ≠ aV := Li.dI.ne haV
    have WV : aW ≠ aV := Li.dW.ne haV
    have hLfV : ∀ v ∈ ns, Lf v ≠ aV := fun v hv => (Li.li v hv).ne haV
    have Li := Li.growN gV
    have g2 := g1.trans gV
    generalize upd H1 aV (.ext φ) = H2 at gV dV0 Li g2
    obtain ⟨a, xs, rfl, h1, h2⟩ := hx.ref
    refine ⟨_, rfl, a, rfl, ⟨_, SqT.of (g2.oN h1)⟩, ?_⟩
    -- worths[node] = -1
    refine for_tupK (ks := ns.map nodeD) (fun pre σ H' => Grow No H H' ∧ ∃ (p : List Node) (t5 : Option V), pre = p.map nodeD ∧ σ = [some (.ref b), some (.ref a), some (.ref aI), some (.ref aW), some (.ref aV), t5, none, none, none, none] ∧ LIn P w H' (ways W mo R) ns aI aW Lf ((keysOf ns ls).flatMap (evs (ways W mo R))) (keysOf ns ls) ∧ DN P w H' aV (kvF nodeD (fun _ => V.int (-1)) p)) ⟨g2, [], none, rfl, rfl, Li, dV0⟩ (fun pre σ H' q => q.1.at hx) (fun pre d post y σ H' e' q hy => ?_) fun σ H' q => ?_
    · obtain ⟨g, p0, t5, rfl, rfl, Li, dV⟩ := q
      obtain ⟨p', z, r, ep, e2, rfl, rfl⟩ := map_mid e'
      have e2 := map_inj nodeD_inj e2
      subst e2
      have hzn : z ∉ p0 := by
        rw [ep, List.nodup_append] at hnd
        exact fun z' => hnd.2.2 z z' z (List.mem_cons_self ..) rfl
      have hpl : p0.length ≤ 120 := by
        have := congrArg List.length ep
        rw [List.length_append] at this
        omega
      obtain ⟨bz, _, rfl, _, _⟩ := hy.ref
      refine ⟨_, rfl, _, rfl, _, rfl, bz, aV, _, nodeD z, rfl, rfl, dV, hy, dep_node z, by rw [kvF_len]; exact szL (by omega), fun ψ dn => ?_⟩
      have g6 := dV.putG ψ
      rw [kvF_new nodeD_inj hzn] at dn
      have ef : kvF nodeD (fupd (fun _ => V.int (-1)) z (V.int (-1))) (p0 ++ [z]) = kvF nodeD (fun _ => V.int (-1)) (p0 ++ [z]) := kvF_congr fun v _ => by
        unfold fupd
        by_cases h : v = z
        · rw [if_pos h]
        · rw [if_neg h]
      rw [ef] at dn
      refine ⟨g.loc g6 haV0, p0 ++ [z], _, by rw [List.map_append]; rfl, rfl, ⟨Li.dI.grow g6 IV, Li.dW.grow g6 WV, fun v hv => (Li.li v hv).grow g6 (hLfV v hv), Li.inj⟩, dn⟩
    obtain ⟨g, p0, t5, e', rfl, Li, dV⟩ := q
    have e' := map_inj nodeD_inj e'
    subst e'
    -- level
    have hxa := g.at hx
    refine ⟨_, rfl, a, rfl, ⟨_, SqT.of (g.oN h1)⟩, fun L hL => ?_⟩
    refine lc_pre (walk_tupK (ks := ns.map nodeD)) (ns.map nodeD) rfl No (fun pre acc _ => ∃ p : List Node, pre = p.map nodeD ∧ acc = (p.filter fun v => decide (v.1 = rnd W.n)).map nodeD) hL id (by rw [List.length_map]; exact szL (by omega)) (fun H' g' => g'.at hxa) (fun _ _ => ⟨[], rfl, rfl⟩) (fun pre d post acc v H3 H4 Kq N e' _ g0 pd y kq kn => ?_) fun H3 acc _ g3 la pd => ?_
    · obtain ⟨rfl, j, h3, h4⟩ := y
      have e2 := at_mid e' h3
      subst e2
      obtain ⟨p', z, r, ep, rfl, rfl, rfl⟩ := map_mid e'
      obtain ⟨p2, e3, rfl⟩ := pd
      have e3 := map_inj nodeD_inj e3
      subst e3
      have eg := (g.trans g0)
      refine ⟨rfl, ?_⟩
      refine ⟨_, rfl, _, _, 0, _, h4, rfl, ix20, rfl, fun v1 av1 => ?_⟩
      refine ⟨_, rfl, b, c_Band, dx, fs, _, rfl, eg.oN e, T.cl_Band, T.n_Band_method, f1, pm, c_Method, dxm, fsm, _, rfl, eg.oN em, T.cl_Method, T.n_Method_opening, k4, rowD z.1, rowD (rnd W.n), av1, eg.at a1, sm_row _, sm_row _, _, rfl, ?_⟩
      by_cases hz : z.1 = rnd W.n
      · refine iteT' (dT (by rw [hz])) ?_
        refine ⟨_, rfl, ?_⟩
        refine kq _ _ (nodeD z) (Grow.refl _) h4 fun _ _ => ⟨p' ++ [z], by rw [List.map_append]; rfl, by rw [List.filter_append, List.map_append]; simp [hz]⟩
      · refine iteF' (dF fun q => hz (rowD_inj q)) ?_
        exact kn _ (Grow.refl _) ⟨p' ++ [z], by rw [List.map_append]; rfl, by rw [List.filter_append, List.map_append]; simp [hz]⟩
    obtain ⟨p2, e3, rfl⟩ := pd
    have e3 := map_inj nodeD_inj e3
    subst e3
    have S3 : SLn P w H3 ls ns ((keysOf ns ls).flatMap (evs (ways W mo R))) aI aW aV Lf (fun _ => -1) (lfI (ways W mo R) []) := by
      have Li := Li.growN g3
      refine ⟨Li.dI, Li.li, ?_, dV.growN g3⟩
      have ef : kvF keyD (fun k => V.int (lfI (ways W mo R) [] k)) (keysOf ns ls) = kvF keyD (fun k => V.int ((ways W mo R k.1 k.2).length : Nat)) (keysOf ns ls) := kvF_congr fun k _ => by
        unfold lfI
        rw [List.filter_eq_self.mpr (fun y _ => by simp)]
      rw [ef]
      exact Li.dW
    have L3 : LInv (ways W mo R) (rnd W.n) ls ns (fun _ => -1) [] 0 (ns.filter fun v => decide (v.1 = rnd W.n)) := ⟨hnd.filter _, fun v hv => (List.mem_filter.mp hv).1, (fun _ _ h => nomatch h), fun _ => ⟨rfl, fun v hv => by rw [List.mem_filter]; simp [hv]⟩, fun h => absurd h (Nat.lt_irrefl 0)⟩
    have hinj := Li.inj
    refine ⟨fun m σ H' => ∃ (lev : List Node) (N : Nat) (val : Node → Int) (Pd : List Node) (aL' : Addr) (t5 t8 t9 : Option V), σ = [some (.ref b), some (.ref a), some (.ref aI), some (.ref aW), some (.ref aV), t5, some (.ref aL'), some (.int (N : Nat)), t8, t9] ∧ Grow No H H' ∧ SLn P w H' ls ns ((keysOf ns ls).flatMap (evs (ways W mo R))) aI aW aV Lf val (lfI (ways W mo R) Pd) ∧ VInv (ways W mo R) (rnd W.n) ls ns val Pd N ∧ LInv (ways W mo R) (rnd W.n) ls ns val Pd N lev ∧ Ls H' aL' (lev.map nodeD) ∧ m + Pd.length = ns.length + 1, ⟨ns.length + 1, _, 0, _, [], L, _, none, none, rfl, g.trans g3, S3, VInv.zero, L3, la, rfl⟩, fun m σ H' q => ?_⟩
    obtain ⟨lev, N, val, Pd, aL', t5, t8, t9, rfl, g, S, vi, li, ll, hm⟩ := q
    obtain ⟨lv, el, rl⟩ := id ll
    refine ⟨_, rfl, !lv.isEmpty, .inl ⟨lv, SqL.of el, rfl⟩, ?_⟩
    have elv : lv.isEmpty = lev.isEmpty := by
      have := rl.length
      rw [List.length_map] at this
      cases lv <;> cases lev <;> simp at this <;> rfl
    rw [elv]
    by_cases hne : lev = []
    · subst hne
      refine iteF' rfl ?_
      refine ⟨_, rfl, ?_⟩
      refine k H' aV val g haV0 S.dV (vi.good' ?_ hfew)
      refine Nat.pos_of_ne_zero fun z => ?_
      obtain ⟨v, hv, hv2⟩ := hz0
      exact (List.not_mem_nil ((((li.first z).2 v hv).mpr hv2))).elim
    have hie : lev.isEmpty = false := by
      cases lev with
      | nil => exact (hne rfl).elim
      | cons _ _ => rfl
    rw [hie]
    refine iteT' rfl ?_
    refine ⟨_, fun _ _ z => z, ?_⟩
    have hlevl : lev.length ≤ 120 := Nat.le_trans (List.Nodup.length_le_of_subset li.nd li.sub) hfew
    have LV : aL' ≠ aV := fun z => by
      obtain ⟨ψ, e1⟩ := S.dV.at
      rw [z, e1] at el
      cases el
    have LW : aL' ≠ aW := fun z => by
      obtain ⟨ψ, e1⟩ := S.dW.at
      rw [z, e1] at el
      cases el
    -- worths[node] = number
    refine ⟨_, rfl, aL', rfl, ⟨_, SqL.of el⟩, ?_⟩
    refine for_lstK (ks := lev.map nodeD) (fun pre σ H' => Grow No H H' ∧ Ls H' aL' (lev.map nodeD) ∧ ∃ (p : List Node) (t5 : Option V), pre = p.map nodeD ∧ σ = [some (.ref b), some (.ref a), some (.ref aI), some (.ref aW), some (.ref aV), t5, some (.ref aL'), some (.int (N : Nat)), t8, t9] ∧ SLn P w H' ls ns ((keysOf ns ls).flatMap (evs (ways W mo R))) aI aW aV Lf (setV val p N) (lfI (ways W mo R) Pd)) ⟨g, ll, [], t5, rfl, rfl, ⟨S.dI, S.li, S.dW, by
      rw [kvF_congr (f' := fun v => V.int (val v)) fun v _ => by rw [setV_out (by simp)]]
      exact S.dV⟩⟩ (fun pre σ H' q => q.2.1) (fun pre d post y σ H4 e' q hy => ?_) fun σ H4 q => ?_
    · obtain ⟨g4, l4, p0, t5, rfl, rfl, S⟩ := q
      obtain ⟨p', z, r, ep, e2, rfl, rfl⟩ := map_mid e'
      have e2 := map_inj nodeD_inj e2
      subst e2
      have hz : z ∈ ns := li.sub z (by rw [ep]; simp)
      obtain ⟨bz, _, rfl, _, _⟩ := hy.ref
      refine ⟨_, rfl, _, rfl, _, rfl, bz, aV, _, nodeD z, rfl, rfl, S.dV, hy, dep_node z, by rw [kvF_len]; exact szL (by omega), fun ψ dn => ?_⟩
      have g6 := S.dV.putG ψ
      rw [kvF_set nodeD_inj hz] at dn
      have ef : kvF nodeD (fupd (fun v => V.int (setV val p0 N v)) z (V.int (N : Nat))) ns = kvF nodeD (fun v => V.int (setV val (p0 ++ [z]) N v)) ns := kvF_congr fun v _ => by
        unfold fupd setV
        dsimp only
        by_cases h : v = z
        · rw [if_pos h, if_pos (by simp [h])]
        · rw [if_neg h]
          by_cases h2 : v ∈ p0
          · rw [if_pos h2, if_pos (List.mem_append_left _ h2)]
          · rw [if_neg h2, if_neg (by simp [h2, h])]
      rw [ef] at dn
      exact ⟨g4.loc g6 haV0, l4.grow g6 LV, p0 ++ [z], _, by rw [List.map_append]; rfl, rfl, ⟨S.dI.grow g6 IV, fun v hv => (S.li v hv).grow g6 (hLfV v hv), S.dW.grow g6 WV, dn⟩⟩
    obtain ⟨g4, l4, p0, t5, e', rfl, S⟩ := q
    have e' := map_inj nodeD_inj e'
    subst e'
    have vi' := vi.step li hne
    generalize hval : setV val lev N = val' at S vi'
    have hvN : ∀ v ∈ lev, val' v = N := fun v hv => by rw [← hval]; exact setV_in hv
    have hndP : ∀ {p : List Node} {z : Node} {r : List Node}, lev = p ++ z :: r → z ∉ Pd ++ p := fun {p z r} ep hz => by
      rcases List.mem_append.mp hz with q | q
      · exact li.dis z (by rw [ep]; simp) q
      · have := li.nd
        rw [ep, List.nodup_append] at this
        exact this.2.2 z q z (List.mem_cons_self ..) rfl
    -- found = {}
    refine fun aF haF φF dF0 => ?_
    have gF : Grow No H4 (upd H4 aF (.ext φF)) := Grow.new haF
    have haF0 := g4.ex _ haF
    have FV : aV ≠ aF := S.dV.ne haF
    have FW : aW ≠ aF := S.dW.ne haF
    have FI : aI ≠ aF := S.dI.ne haF
    have FL : aL' ≠ aF := l4.ne haF
    have FLf : ∀ v ∈ ns, Lf v ≠ aF := fun v hv => (S.li v hv).ne haF
    have S := S.growN gF
    have l5 := l4.growN gF
    have g5 := g4.trans gF
    generalize upd H4 aF (.ext φF) = H5 at gF dF0 S l5 g5
    obtain ⟨lv5, el5, _⟩ := id l5
    refine ⟨_, rfl, aL', rfl, ⟨_, SqL.of el5⟩, ?_⟩
    refine for_lstK (ks := lev.map nodeD) (fun pre σ H' => Grow No H H' ∧ Ls H' aL' (lev.map nodeD) ∧ ∃ (p F : List Node) (t5 t9 : Option V), pre = p.map nodeD ∧ σ = [some (.ref b), some (.ref a), some (.ref aI), some (.ref aW), some (.ref aV), t5, some (.ref aL'), some (.int (N : Nat)), some (.ref aF), t9] ∧ SLn P w H' ls ns ((keysOf ns ls).flatMap (evs (ways W mo R))) aI aW aV Lf val' (lfI (ways W mo R) (Pd ++ p)) ∧ DN P w H' aF (kvF nodeD (fun _ => V.bl true) F) ∧ F.Nodup ∧ (∀ f ∈ F, f ∈ ns ∧ f ∉ Pd ++ lev ∧ Rdy (ways W mo R) ls val' (Pd ++ lev) N f)) ⟨g5, l5, [], [], t5, t9, rfl, rfl, by rw [List.append_nil]; exact S, dF0, List.nodup_nil, (fun _ h => nomatch h)⟩ (fun pre σ H' q => q.2.1) (fun pre d post y σ H6 e' q hy => ?_) fun σ H6 q => ?_
    · obtain ⟨g6, l6, p0, F, t5, t9, rfl, rfl, S, dF, hFnd, hF⟩ := q
      obtain ⟨p', z, r, ep, e2, rfl, rfl⟩ := map_mid e'
      have e2 := map_inj nodeD_inj e2
      subst e2
      have hzl : z ∈ lev := by rw [ep]; simp
      have hz : z ∈ ns := li.sub z hzl
      have hzP := hndP ep
      obtain ⟨bz, _, rfl, _, _⟩ := hy.ref
      have lI := S.li z hz
      obtain ⟨lv6, el6, _⟩ := id lI
      refine ⟨_, rfl, _, rfl, bz, aI, _, nodeD z, _, rfl, rfl, S.dI, hy, dep_node z, kvF_get nodeD_inj hz, _, rfl, ⟨_, SqL.of el6⟩, ?_⟩
      have hI : ∀ k ∈ intoOf ((keysOf ns ls).flatMap (evs (ways W mo R))) z, k ∈ keysOf ns ls := fun k hk => by
        obtain ⟨e1, he1, _, e3⟩ := into_keys hk
        obtain ⟨k', hk', he⟩ := List.mem_flatMap.mp he1
        obtain ⟨y', _, rfl⟩ := List.mem_map.mp he
        rw [← e3]
        exact hk'
      have hcnt : ∀ k ∈ keysOf ns ls, (intoOf ((keysOf ns ls).flatMap (evs (ways W mo R))) z).count k = cntW (ways W mo R) k z := fun k hk => by
        rw [count_into (ways W mo R) k z hkn, if_pos hk]
      generalize intoOf ((keysOf ns ls).flatMap (evs (ways W mo R))) z = I at lI hI hcnt
      refine for_lstK (ks := I.map keyD) (fun pre σ H' => Grow No H H' ∧ Ls H' aL' (lev.map nodeD) ∧ ∃ (p : List Ky) (F : List Node) (t9 : Option V), pre = p.map keyD ∧ σ = [some (.ref b), some (.ref a), some (.ref aI), some (.ref aW), some (.ref aV), some (.ref bz), some (.ref aL'), some (.int (N : Nat)), some (.ref aF), t9] ∧ SLn P w H' ls ns ((keysOf ns ls).flatMap (evs (ways W mo R))) aI aW aV Lf val' (fun k => lfI (ways W mo R) (Pd ++ p0) k - (p.count k : Nat)) ∧ Ls H' (Lf z) (I.map keyD) ∧ DN P w H' aF (kvF nodeD (fun _ => V.bl true) F) ∧ F.Nodup ∧ (∀ f ∈ F, f ∈ ns ∧ f ∉ Pd ++ lev ∧ Rdy (ways W mo R) ls val' (Pd ++ lev) N f)) ⟨g6, l6, [], F, t9, rfl, rfl, ⟨S.dI, S.li, by
        rw [kvF_congr (f' := fun k => V.int (lfI (ways W mo R) (Pd ++ p0) k)) fun k _ => by simp]
        exact S.dW, S.dV⟩, lI, dF, hFnd, hF⟩ (fun pre σ H' q => by obtain ⟨_, _, _, _, _, _, _, _, z, _⟩ := q; exact z) (fun pre d post y σ H7 e7 q hy => ?_) fun σ H7 q => ?_
      · obtain ⟨g7, l7, q0, F, t9, rfl, rfl, S, lI, dF, hFnd, hF⟩ := q
        obtain ⟨q', kk, r7, eq, e2, rfl, rfl⟩ := map_mid e7
        have e2 := map_inj keyD_inj e2
        subst e2
        have hkI : kk ∈ I := by rw [eq]; simp
        have hkk := hI kk hkI
        have hk12 := (keys_mem (v := kk.1) (c := kk.2)).mp hkk
        obtain ⟨bk, uk, rfl, _, _⟩ := hy.ref
        have klen : (keysOf ns ls).length ≤ 480 := by
          rw [keys_len]
          exact Nat.le_trans (Nat.mul_le_mul hfew hl4) (by decide)
        -- left[key] -= 1
        refine ⟨_, rfl, _, rfl, bk, aW, _, keyD kk, _, rfl, rfl, S.dW, hy, dep_key kk, kvF_get keyD_inj hkk, _, _, rfl, rfl, bk, aW, _, keyD kk, rfl, rfl, S.dW, hy, dep_key kk, by rw [kvF_len]; exact szL (by omega), fun ψ dn => ?_⟩
        have g8 := S.dW.putG ψ
        rw [kvF_set keyD_inj hkk] at dn
        have ef : kvF keyD (fupd (fun k => V.int (lfI (ways W mo R) (Pd ++ p0) k - (q0.count k : Nat))) kk (V.int (lfI (ways W mo R) (Pd ++ p0) kk - (q0.count kk : Nat) - 1))) (keysOf ns ls) = kvF keyD (fun k => V.int (lfI (ways W mo R) (Pd ++ p0) k - ((q0 ++ [kk]).count k : Nat))) (keysOf ns ls) := kvF_congr fun k _ => by
          unfold fupd
          dsimp only
          rw [List.count_append, List.count_singleton]
          by_cases h : k = kk
          · subst h
            rw [if_pos rfl]
            simp
            omega
          · rw [if_neg h]
            have h' : ¬ kk = k := fun z => h z.symm
            simp [h']
        rw [ef] at dn
        have WVs : ¬ On aW aV := fun z => WV z.symm
        have hLfW : ∀ v ∈ ns, Lf v ≠ aW := fun v hv => S.ne hv S.dW
        have S8 : SLn P w _ ls ns _ aI aW aV Lf val' (fun k => lfI (ways W mo R) (Pd ++ p0) k - ((q0 ++ [kk]).count k : Nat)) := ⟨S.dI.grow g8 IW, fun v hv => (S.li v hv).grow g8 (hLfW v hv), dn, S.dV.grow g8 WVs⟩
        have l8 := l7.grow g8 LW
        have lI8 := lI.grow g8 (hLfW z hz)
        have dF8 := dF.grow g8 (fun q => FW q.symm)
        have hy8 := g8.at hy
        have G8 := g7.loc g8 haW
        generalize upd H7 aW (.ext ψ) = H8 at g8 dn S8 l8 lI8 dF8 hy8 G8
        have fin : ∀ t, Grow No H H8 ∧ Ls H8 aL' (lev.map nodeD) ∧ ∃ (p : List Ky) (F : List Node) (t9 : Option V), q0.map keyD ++ [keyD kk] = p.map keyD ∧ [some (V.ref b), some (.ref a), some (.ref aI), some (.ref aW), some (.ref aV), some (.ref bz), some (.ref aL'), some (.int (N : Nat)), some (.ref aF), t] = [some (.ref b), some (.ref a), some (.ref aI), some (.ref aW), some (.ref aV), some (.ref bz), some (.ref aL'), some (.int (N : Nat)), some (.ref aF), t9] ∧ SLn P w H8 ls ns ((keysOf ns ls).flatMap (evs (ways W mo R))) aI aW aV Lf val' (fun k => lfI (ways W mo R) (Pd ++ p0) k - (p.count k : Nat)) ∧ Ls H8 (Lf z) (I.map keyD) ∧ DN P w H8 aF (kvF nodeD (fun _ => V.bl true) F) ∧ F.Nodup ∧ (∀ f ∈ F, f ∈ ns ∧ f ∉ Pd ++ lev ∧ Rdy (ways W mo R) ls val' (Pd ++ lev) N f) := fun t => ⟨G8, l8, q0 ++ [kk], F, t, by rw [List.map_append]; rfl, rfl, S8, lI8, dF8, hFnd, hF⟩
        -- if left[key] == 0 and worths[key[0]] < 0
        refine ⟨_, rfl, _, rfl, bk, aW, _, keyD kk, _, rfl, rfl, S8.dW, hy8, dep_key kk, kvF_get keyD_inj hkk, rfl, _, rfl, ?_⟩
        by_cases c1 : V.int (lfI (ways W mo R) (Pd ++ p0) kk - ((q0 ++ [kk]).count kk : Nat)) = V.int 0
        · refine iteT' (dT c1) ?_
          refine ⟨_, rfl, _, rfl, _, _, 0, _, hy8, rfl, ix20, rfl, fun v av => ?_⟩
          obtain ⟨bn, _, rfl, _, _⟩ := av.ref
          refine ⟨bn, aV, _, nodeD kk.1, _, rfl, rfl, S8.dV, av, dep_node _, kvF_get nodeD_inj hk12.1, _, _, rfl, rfl, _, rfl, ?_⟩
          by_cases c2 : val' kk.1 < 0
          · refine iteT' (dT c2) ?_
            refine ⟨_, rfl, _, rfl, _, _, 0, _, hy8, rfl, ix20, rfl, fun v2 av2 => ?_⟩
            obtain ⟨bn2, _, rfl, _, _⟩ := av2.ref
            have hFl : F.length ≤ 120 := Nat.le_trans (List.Nodup.length_le_of_subset hFnd fun f hf => (hF f hf).1) hfew
            refine ⟨bn2, aF, _, nodeD kk.1, rfl, rfl, dF8, av2, dep_node _, by rw [kvF_len]; exact szL (by omega), fun χ dn2 => ?_⟩
            have g9 := dF8.putG χ
            have hout : kk.1 ∉ Pd ++ lev := fun z => by
              have := (vi'.vP _ z).1
              omega
            have hrdy : Rdy (ways W mo R) ls val' (Pd ++ lev) N kk.1 := by
              have hc0 : lfI (ways W mo R) (Pd ++ p0) kk - ((q0 ++ [kk]).count kk : Nat) = 0 := V.int.inj c1
              have hle : (q0 ++ [kk]).count kk ≤ cntW (ways W mo R) kk z := by
                rw [← hcnt kk hkk, eq]
                have : q0 ++ kk :: r7 = (q0 ++ [kk]) ++ r7 := by simp
                rw [this, List.count_append (l₁ := q0 ++ [kk])]
                exact Nat.le_add_right _ _
              have hpos : 0 < (q0 ++ [kk]).count kk := List.count_pos_iff.mpr (by simp)
              have hst := lfI_step (ways W mo R) (Pd ++ p0) z hzP kk
              have hnn := lfI_nonneg (ways W mo R) (Pd ++ p0 ++ [z]) kk
              have hz0' : lfI (ways W mo R) (Pd ++ p0 ++ [z]) kk = 0 := by omega
              obtain ⟨y1, hy1, hy2⟩ := cntW_pos (ways W mo R) (k := kk) (u := z) (by omega)
              refine ⟨kk.2, hk12.2, fun y hy => ?_, y1, hy1, by rw [hy2]; exact hvN z hzl⟩
              have := lfI_zero (ways W mo R) hz0' y hy
              rw [List.append_assoc] at this
              rcases List.mem_append.mp this with q | q
              · exact List.mem_append_left _ q
              · refine List.mem_append_right _ ?_
                rw [ep]
                rcases List.mem_append.mp q with q | q
                · exact List.mem_append_left _ q
                · rw [List.mem_singleton.mp q]
                  simp
            have SF : SLn P w _ ls ns _ aI aW aV Lf val' (fun k => lfI (ways W mo R) (Pd ++ p0) k - ((q0 ++ [kk]).count k : Nat)) := ⟨S8.dI.grow g9 FI, fun v hv => (S8.li v hv).grow g9 (FLf v hv), S8.dW.grow g9 FW, S8.dV.grow g9 FV⟩
            by_cases hin : kk.1 ∈ F
            · rw [kvF_set nodeD_inj hin] at dn2
              rw [kvF_congr (f' := fun _ => V.bl true) fun v _ => by unfold fupd; by_cases h : v = kk.1 <;> simp [h]] at dn2
              exact ⟨G8.loc g9 haF0, l8.grow g9 FL, q0 ++ [kk], F, _, by rw [List.map_append]; rfl, rfl, SF, lI8.grow g9 (FLf z hz), dn2, hFnd, hF⟩
            · rw [kvF_new nodeD_inj hin] at dn2
              rw [kvF_congr (f' := fun _ => V.bl true) fun v _ => by unfold fupd; by_cases h : v = kk.1 <;> simp [h]] at dn2
              refine ⟨G8.loc g9 haF0, l8.grow g9 FL, q0 ++ [kk], F ++ [kk.1], _, by rw [List.map_append]; rfl, rfl, SF, lI8.grow g9 (FLf z hz), dn2, ?_, all_snoc hF ⟨hk12.1, hout, hrdy⟩⟩
              rw [List.nodup_append]
              refine ⟨hFnd, by simp, fun a ha b hb => ?_⟩
              have : b = kk.1 := by simpa using hb
              rw [this]
              exact fun z => hin (z ▸ ha)
          · refine iteF' (K81.dF c2) ?_
            exact fin _
        · refine iteF' (K81.dF c1) ?_
          refine iteF' rfl ?_
          exact fin _
      · obtain ⟨g7, l7, q0, F, t9, eq, rfl, S, lI, dF, hFnd, hF⟩ := q
        have eq := map_inj keyD_inj eq
        subst eq
        refine ⟨g7, l7, p0 ++ [z], F, _, _, by rw [List.map_append]; rfl, rfl, ⟨S.dI, S.li, ?_, S.dV⟩, dF, hFnd, hF⟩
        have ef : kvF keyD (fun k => V.int (lfI (ways W mo R) (Pd ++ (p0 ++ [z])) k)) (keysOf ns ls) = kvF keyD (fun k => V.int (lfI (ways W mo R) (Pd ++ p0) k - (I.count k : Nat))) (keysOf ns ls) := kvF_congr fun k hk => by
          rw [← List.append_assoc, lfI_step (ways W mo R) (Pd ++ p0) z hzP k, hcnt k hk]
        rw [ef]
        exact S.dW
    · obtain ⟨g6, l6, p0, F, t5, t9, e', rfl, S, dF, hFnd, hF⟩ := q
      have e' := map_inj nodeD_inj e'
      subst e'
      refine ⟨_, rfl, aF, _, rfl, dF, fun H7 aL2 haL2 g7 l7 => ?_⟩
      have ek : (kvF nodeD (fun _ => V.bl true) F).map (·.1) = F.map nodeD := by
        unfold kvF
        rw [List.map_map]
        rfl
      rw [ek] at l7
      have hlp := List.length_pos_iff.mpr hne
      have hfew' := vi'.few
      rw [List.length_append] at hfew'
      refine ⟨_, rfl, _, _, rfl, rfl, m - lev.length, by omega, F, N + 1, val', Pd ++ lev, aL2, _, _, _, rfl, g6.trans g7, S.growN g7, vi', LInv.next (lev := lev) vi' hFnd hF, l7, ?_⟩
      rw [List.length_append]
      omega
end
end K81

namespace K81
open PySem PySem.Spec PyProof.Rows L2
theorem nums_mem {mo : Option Nat} {a : Nat} : a ∈ numsOf mo ↔ (match mo with | none => a = 0 | some m => a ≤ m) := by
  cases mo with
  | none => simp [numsOf]
  | some m =>
    show a ∈ List.range (m + 1) ↔ a ≤ m
    rw [List.mem_range]
    omega
theorem nodes_mem {mo : Option Nat} {rs : List Row} {v : Node} : v ∈ nodesOf mo rs ↔ v.1 ∈ rs ∧ v.2 ∈ numsOf mo := by
  unfold nodesOf
  rw [List.mem_flatMap]
  constructor
  · rintro ⟨r, hr, h⟩
    obtain ⟨a, ha, rfl⟩ := List.mem_map.mp h
    exact ⟨hr, ha⟩
  · exact fun ⟨h1, h2⟩ => ⟨v.1, h1, List.mem_map.mpr ⟨v.2, h2, rfl⟩⟩
theorem numsOf_nodup (mo : Option Nat) : (numsOf mo).Nodup := by
  cases mo with
  | none => simp [numsOf]
  | some m => exact List.nodup_range
theorem nodes_nodup (mo : Option Nat) : ∀ {rs : List Row}, rs.Nodup → (nodesOf mo rs).Nodup
  | [], _ => List.nodup_nil
  | r :: rs, nd => by
    have nd' := List.nodup_cons.mp nd
    have ih := nodes_nodup mo nd'.2
    have e : nodesOf mo (r :: rs) = ((numsOf mo).map fun a => (r, a)) ++ nodesOf mo rs := by
      unfold nodesOf
      rw [List.flatMap_cons]
    rw [e, List.nodup_append]
    refine ⟨List.Pairwise.map _ (fun a b h e => h (by cases e; rfl)) (numsOf_nodup mo), ih, fun a ha b hb e => ?_⟩
    subst e
    obtain ⟨c, _, rfl⟩ := List.mem_map.mp ha
    exact nd'.1 (nodes_mem.mp hb).1
section
variable {P : Program} {w : World} {K : PySem.W.Frag} {mg : Str → Option Value} {base : Heap}
theorem nok_of {H : Hp} {b : Addr} {W : Wd} {ls : List Nat} {hs : Hears} {mo : Option Nat} {R : Rg} (B : BAt H b W ls hs mo R) {rs : List Row} (cl : Closed W ls rs) : NOk W ls mo R (nodesOf mo rs) := by
  refine ⟨nodes_nodup mo cl.nd, ?_, fun v hv => cl.u _ (nodes_mem.mp hv).1, fun v hv c hc y hy => ?_⟩
  · rw [nodesOf_len]
    exact len_mul (u_nodup B.ok.bells cl.nd cl.u) (numsOf_len B.le4).1
  · obtain ⟨h1, h2⟩ := nodes_mem.mp hv
    unfold ways wayL at hy
    obtain ⟨x, hx, rfl⟩ := List.mem_map.mp hy
    rw [List.mem_filter] at hx
    refine nodes_mem.mpr ⟨cl.cl _ h1 x (B.rmem hc hx.1), ?_⟩
    rw [nums_mem] at h2 ⊢
    cases mo with
    | none =>
      show aft none c v.2 x = 0
      unfold aft
      rw [if_neg (fun z => z.2 rfl)]
      exact h2
    | some m => exact of_decide_eq_true hx.2
theorem ways_ne {H : Hp} {b : Addr} {W : Wd} {ls : List Nat} {hs : Hears} {mo : Option Nat} {R : Rg} (B : BAt H b W ls hs mo R) {rs : List Row} {v : Node} (hv : v ∈ nodesOf mo rs) {c : Nat} (hc : c ∈ ls) : ways W mo R v c ≠ [] := by
  have hcR : c ∈ R c := (B.perm c hc).mem_iff.mpr (List.mem_cons_self ..)
  have ea : aft mo c v.2 c = v.2 := by
    unfold aft
    rw [if_neg (fun z => z.1 rfl)]
  have h2 := (nodes_mem.mp hv).2
  rw [nums_mem] at h2
  have ok : okA mo (aft mo c v.2 c) = true := by
    rw [ea]
    cases mo with
    | none => rfl
    | some m => exact K81.dT h2
  intro z
  have : (c, (tms v.1 (mvOf W c), aft mo c v.2 c)) ∈ ways W mo R v c := by
    unfold ways wayL
    exact List.mem_map.mpr ⟨c, List.mem_filter.mpr ⟨hcR, ok⟩, rfl⟩
  rw [z] at this
  cases this
theorem inV_ints (i : Int) (l : List Int) : inV (.int i) (l.map V.int) = decide (i ∈ l) := by
  unfold inV
  rw [List.any_map, Bool.eq_iff_iff, List.any_eq_true, decide_eq_true_iff]
  constructor
  · rintro ⟨j, hj, e⟩
    have e : (j == i) = true := e
    have : j = i := by simpa using e
    rw [← this]
    exact hj
  · exact fun h => ⟨i, h, (by show (i == i) = true; simp)⟩
def sp_worst_behind (P : Program) (w : World) : Sp := fun vs H Q _ => ∃ b aV W ls hs mo R rs val x r, ∃ a c : Nat, vs = [.ref b, .ref aV, x, .int a, .str (sg c)] ∧ BAt H b W ls hs mo R ∧ Closed W ls rs ∧ DN P w H aV (kvF nodeD (fun v => V.int (val v)) (nodesOf mo rs)) ∧ (∀ v, -1 ≤ val v) ∧ At H (rowD r) x ∧ (r, a) ∈ nodesOf mo rs ∧ c ∈ ls ∧
  ∀ H', Grow No H H' → Q (.int (wst (ways W mo R) val (r, a) c)) H'
abbrev N_worst_behind : List Str := ["band", "worths", "row", "made", "letter", "found", "rung", "node"]
theorem sc_worst_behind : FnScope ["band", "worths", "row", "made", "letter", "found", "rung", "node"] ["band", "worths", "row", "made", "letter"] (defScope s_worst_behind) := ⟨rfl, rfl, rfl, by decide +kernel, rfl, by decide +kernel, by decide +kernel⟩
theorem bd_worst_behind (T : Txt K mg) : Binds K (fdOf K a_worst_behind) ["band", "worths", "row", "made", "letter"] [] := FunD.bindsN T.F_worst_behind fun _ _ _ _ _ _ us hl => match us, hl with | [_, _, _, _, _], _ => rfl
theorem ok_worst_behind (T : Txt K mg) : FnOk P w K mg base CX0 3 a_worst_behind (fdOf K a_worst_behind) ["band", "worths", "row", "made", "letter"] (sp_worst_behind P w) := by
  refine ok0 T.F_worst_behind sc_worst_behind (fun vs H Q E h => ?_) (fun cdv A outer s H vs Q E hr h => ?_)
  · obtain ⟨b, aV, W, ls, hs, mo, R, rs, val, x, r, a, c, rfl, B, cl, dV, low, hx, hra, hc, k⟩ := h
    rfl
  · obtain ⟨b, aV, W, ls, hs, mo, R, rs, val, x, r, a, c, rfl, B, cl, dV, low, hx, hra, hc, k⟩ := h
    have hU := hr.units
    have hu := hu_of hr
    refine ⟨_, (pss_cons (ps_setLc (i := 5) (own := [("rung", 6), ("node", 7)]) (g := gTup K 2 (gCons (gName 6) (gCons (gName 7) gNil))) (te := tOp (rGetN P w) (tVar 1) (tVar 7)) rfl sc_worst_behind.nd rfl rfl (sw_true rfl rfl rfl (by decide +kernel)) (pi_list (pe_call (ok_ways_behind T) (hr.mono (by decide)) (by rfl) T.g_ways_behind T.F_ways_behind.kp (bd_ways_behind T) .nil pass0 (pa_cons (pv 0) (pa_cons (pv 2) (pa_cons (pv 3) (pa_cons (pv 4) pa_nil)))))) (blkOk_by (own := [("rung", 6), ("node", 7)]) (N := N_worst_behind) (sc := defScope s_worst_behind) (by decide +kernel)) (fun _ _ _ _ _ => (pg_tup rfl (pgs_cons (pg_name (i := 6) sc_worst_behind.nd rfl (Or.inl rfl)) (pgs_cons (pg_name (i := 7) sc_worst_behind.nd rfl (Or.inl rfl)) pgs_nil)))) (fun _ _ _ _ _ => pts_nil) (fun _ _ _ _ _ => (pe_getN hU (pv 1) (pv 7) (fun _ _ => rfl))))
      (pss_cons (ps_if (pt_cmpR op_in_seq (pe_un un_neg pe_int) (pv 5) (by rfl)) (pss_one (ps_ret (pe_un un_neg pe_int))) pss_nil)
      (pss_one (ps_ret (pe_callB (cr_max rfl) (by rfl) T.z_max (by decide +kernel) (pa_cons (pv 5) pa_nil)))))), ?_⟩
    have nk := nok_of B cl
    have hu := nk.u _ hra
    have hne := ways_ne B hra hc
    have hwl := ways_len B hc (r, a)
    have hcl := nk.cl _ hra c hc
    refine ⟨_, rfl, _, rfl, _, rfl, _, rfl, b, W, ls, hs, mo, R, x, r, a, c, rfl, B, hx, hu, hc, fun H1 L g1 hL l1 => ?_⟩
    generalize hw : ways W mo R (r, a) c = wl at l1 hne hwl hcl
    obtain ⟨lv, el, _⟩ := id l1
    refine ⟨L, rfl, ⟨_, SqL.of el⟩, fun L2 hL2 => ?_⟩
    refine lc_pre (walk_lstK (K := K) (a := L) (ks := wl.map wayD)) (wl.map wayD) rfl No (fun pre acc _ => ∃ p : List Wy, pre = p.map wayD ∧ acc = nums (p.map fun y => val y.2)) hL2 id (by rw [List.length_map]; exact szL (by omega)) (fun H' g' => l1.growN g') (fun _ _ => ⟨[], rfl, rfl⟩) (fun pre d post acc v H3 H4 Kq N e' _ g0 pd y kq kn => ?_) fun H3 acc _ g3 la pd => ?_
    · obtain ⟨rfl, j, h3, h4⟩ := y
      have e2 := at_mid e' h3
      subst e2
      obtain ⟨p', z, q, ep, rfl, rfl, rfl⟩ := map_mid e'
      obtain ⟨p2, e3, rfl⟩ := pd
      have hz := hcl z (by rw [ep]; simp)
      obtain ⟨bt, ut, rfl, w1, w2⟩ := h4.ref
      cases w2 with
      | @cons _ x1 _ _ y1 z1 =>
      cases z1 with
      | @cons _ x2 _ _ y2 z2 =>
      cases z2
      obtain ⟨bu, _, rfl, _, _⟩ := y2.ref
      refine ⟨bt, _, rfl, SqT.of w1, rfl, _, _, rfl, _, _, rfl, rfl, ?_⟩
      refine ⟨rfl, ?_⟩
      refine ⟨_, rfl, _, rfl, bu, aV, _, nodeD z.2, _, rfl, rfl, dV.growN (g1.trans g0), y2, dep_node _, kvF_get nodeD_inj hz, ?_⟩
      refine kq _ _ (.num (val z.2)) (Grow.refl _) (.num _) fun _ _ => ⟨p2 ++ [z], by rw [List.map_append, e3]; rfl, by rw [List.map_append]; exact (nums_snoc _ _).symm⟩
    obtain ⟨p2, e3, rfl⟩ := pd
    have e3 : wl = p2 := map_inj (fun a b h => by
      unfold wayD at h
      injection h with h
      injection h with h1 h
      injection h with h2 h
      injection h1 with h1
      cases a
      cases b
      have e1 := sg_inj h1
      have e2 := nodeD_inj _ _ h2
      simp only at e1 e2
      rw [e1, e2]) e3
    subst e3
    have i3 := la.ints
    have G := g1.trans g3
    have k' := k H3 G
    unfold wst at k'
    rw [hw] at k'
    refine ⟨_, rfl, _, rfl, L2, _, rfl, .inl (SqL.of i3), rfl, by rw [List.all_map]; exact List.all_eq_true.mpr fun _ _ => rfl, _, rfl, ?_⟩
    rw [inV_ints]
    by_cases h1 : (-1 : Int) ∈ wl.map fun y => val y.2
    · refine iteT' (by simpa using h1) ?_
      rw [if_pos h1] at k'
      exact ⟨_, rfl, k'⟩
    · refine iteF' (by simpa using h1) ?_
      rw [if_neg h1] at k'
      refine ⟨_, rfl, L2, _, rfl, SqL.of i3, by rw [List.length_map]; exact List.length_pos_iff.mpr hne, fun mx hm hle => ?_⟩
      have : maxL (wl.map fun y => val y.2) = mx := maxL_eq hm hle (by
        obtain ⟨y, _, rfl⟩ := List.mem_map.mp hm
        exact low _)
      rw [this] at k'
      exact k'
/-! ### the seeing -/
def tabD (val : Node → Int) (v : Node) : D := .tup [rowD v.1, .num (v.2 : Nat), .num (val v)]
structure SAt (P : Program) (w : World) (H : Hp) (s : Addr) (W : Wd) (ls : List Nat) (hs : Hears) (mo : Option Nat) (R : Rg) (rs : List Row) (val : Node → Int) : Prop where
  ex : ∃ dx fs pb aV vt, H s = some (.ins c_Seeing dx fs) ∧ fs.lookup ("band" : Str) = some (.ref pb) ∧ fs.lookup ("worths" : Str) = some (.ref aV) ∧ fs.lookup ("table" : Str) = some vt ∧
    fs.lookup ("told_node" : Str) = none ∧ fs.lookup ("value" : Str) = none ∧ fs.lookup ("plan" : Str) = none ∧ fs.lookup ("called_at" : Str) = none ∧ fs.lookup ("play" : Str) = none ∧
    BAt H pb W ls hs mo R ∧ DN P w H aV (kvF nodeD (fun v => V.int (val v)) (nodesOf mo rs)) ∧ At H (.tup ((nodesOf mo rs).map (tabD val))) vt
  cl : Closed W ls rs
  good : Good (ways W mo R) (rnd W.n) ls (nodesOf mo rs) val
theorem SAt.hard {H H' : Hp} {s : Addr} {W : Wd} {ls : List Nat} {hs : Hears} {mo : Option Nat} {R : Rg} {rs : List Row} {val : Node → Int} (h : SAt P w H s W ls hs mo R rs val) (k : Hard H H') : SAt P w H' s W ls hs mo R rs val := by
  obtain ⟨⟨dx, fs, pb, aV, vt, e, f1, f2, f3, f4, f5, f6, f7, f8, B, d, t⟩, c, g⟩ := h
  exact ⟨⟨dx, fs, pb, aV, vt, k s _ e (fun ys z => by cases z), f1, f2, f3, f4, f5, f6, f7, f8, B.hard k, d.hard k, t.mono k.tk⟩, c, g⟩
theorem SAt.B {H : Hp} {s : Addr} {W : Wd} {ls : List Nat} {hs : Hears} {mo : Option Nat} {R : Rg} {rs : List Row} {val : Node → Int} (h : SAt P w H s W ls hs mo R rs val) : ∃ pb, BAt H pb W ls hs mo R := let ⟨⟨_, _, pb, _, _, _, _, _, _, _, _, _, _, _, B, _⟩, _, _⟩ := h; ⟨pb, B⟩
def plV : Option Nat → V
  | none => .non
  | some c => .str (sg c)
def sp_Seeing_called_at (P : Program) (w : World) : Sp := fun vs H Q _ => ∃ s y W ls hs mo R rs val v, vs = [.ref s, y] ∧ SAt P w H s W ls hs mo R rs val ∧ At H (nodeD v) y ∧ v ∈ nodesOf mo rs ∧
  ∀ H', Grow No H H' → Q (plV (planF (ways W mo R) ls val v)) H'
abbrev N_Seeing_called_at : List Str := ["self", "node", "due", "letter"]
theorem sc_Seeing_called_at : FnScope ["self", "node", "due", "letter"] ["self", "node"] (defScope s_Seeing_called_at) := ⟨rfl, rfl, rfl, by decide +kernel, rfl, by decide +kernel, by decide +kernel⟩
theorem bd_Seeing_called_at (T : Txt K mg) : Binds K (fdOf K a_Seeing_called_at) ["self", "node"] [] := FunD.bindsN T.F_Seeing_called_at fun _ _ _ _ _ _ us hl => match us, hl with | [_, _], _ => rfl
theorem ok_Seeing_called_at (T : Txt K mg) : FnOk P w K mg base CX0 4 a_Seeing_called_at (fdOf K a_Seeing_called_at) ["self", "node"] (sp_Seeing_called_at P w) := by
  refine ok0 T.F_Seeing_called_at sc_Seeing_called_at (fun vs H Q E h => ?_) (fun cdv A outer s H vs Q E hr h => ?_)
  · obtain ⟨s0, y, W, ls, hs, mo, R, rs, val, v, rfl, S, hy, hv, k⟩ := h
    rfl
  · obtain ⟨s0, y, W, ls, hs, mo, R, rs, val, v, rfl, S, hy, hv, k⟩ := h
    have hU := hr.units
    have hu := hu_of hr
    refine ⟨_, (pss_cons (ps_set (i := 2) sc_Seeing_called_at.nd rfl (Or.inl rfl) (pe_getN hU (pe_fld (pv 0) rfl) (pv 1) (fun _ _ => rfl)))
      (pss_cons (ps_if (pt_cmpR op_eq (pv 2) pe_int (nomark _)) (pss_one (ps_ret pe_non)) pss_nil)
      (pss_cons (ps_for PassesOwn.never rfl (pi_tup (pe_fld (pe_fld (pe_fld (pv 0) rfl) rfl) rfl)) (pg_name (i := 3) sc_Seeing_called_at.nd rfl (Or.inl rfl)) (pss_one (ps_if (pt_cmpR op_eq (pe_call (ok_worst_behind T) (hr.mono (by decide)) (by rfl) T.g_worst_behind T.F_worst_behind.kp (bd_worst_behind T) .nil pass0 (pa_cons (pe_fld (pv 0) rfl) (pa_cons (pe_fld (pv 0) rfl) (pa_cons (pe_ix ix_tupK (pv 1) pe_int (fun _ _ => rfl)) (pa_cons (pe_ix ix_tupK (pv 1) pe_int (fun _ _ => rfl)) (pa_cons (pv 3) pa_nil)))))) (pe_op op_sub (pv 2) pe_int) (nomark _)) (pss_one (ps_ret (pv 3))) pss_nil)))
      (pss_one (ps_ret pe_non))))), ?_⟩
    have good := S.good
    have cl := S.cl
    have S0 := S
    obtain ⟨⟨dx, fs, pb, aV, vt, e, f1, f2, f3, f4, f5, f6, f7, f8, B, dV, ht⟩, _, _⟩ := S
    have hl4 := B.lts.len B.ok
    obtain ⟨by', _, rfl, _, _⟩ := hy.ref
    refine ⟨_, rfl, s0, c_Seeing, dx, fs, _, rfl, e, T.cl_Seeing, T.n_Seeing_worths, f2, _, rfl, by', aV, _, nodeD v, _, rfl, rfl, dV, hy, dep_node v, kvF_get nodeD_inj hv, ?_⟩
    refine ⟨_, rfl, rfl, _, rfl, ?_⟩
    by_cases h0 : val v = 0
    · refine iteT' (K81.dT (by rw [h0])) ?_
      have := k H (Grow.refl _)
      unfold planF at this
      rw [if_pos h0] at this
      exact this
    refine iteF' (K81.dF (fun z => h0 (V.int.inj z))) ?_
    have B0 := B
    obtain ⟨⟨dxb, fsb, pm, aR, lr, eb, b1, b2, b3, b4, m, t, hl⟩, _, _, hmo⟩ := B
    obtain ⟨⟨dxm, fsm, vpl, vca, vop, aL, vro, aM, aB, l1, l2, em, k1, k2, k3, k4, k5, k6, k7, k8, k9, k10, k11, a1, a2, s1, s2, s3, m1, m2⟩, lts, _⟩ := m
    obtain ⟨bl, ul, rfl, q1, q2⟩ := a2.ref
    refine ⟨_, rfl, s0, c_Seeing, dx, fs, _, rfl, e, T.cl_Seeing, T.n_Seeing_band, f1, pb, c_Band, dxb, fsb, _, rfl, eb, T.cl_Band, T.n_Band_method, b1, pm, c_Method, dxm, fsm, _, rfl, em, T.cl_Method, T.n_Method_row_of_letters, k6, bl, rfl, ⟨_, SqT.of q1⟩, ?_⟩
    refine for_tupK (ks := txts ls) (fun pre σ H' => Grow No H H' ∧ ∃ (q : List Nat) (t : Option V), pre = txts q ∧ σ = [some (.ref s0), some (.ref by'), some (.int (val v)), t] ∧ ∀ c ∈ q, wst (ways W mo R) val v c ≠ val v - 1) ⟨Grow.refl _, [], none, rfl, rfl, (fun _ h => nomatch h)⟩ (fun pre σ H' q => q.1.at a2) (fun pre d post y σ H2 e' q hy2 => ?_) fun σ H2 q => ?_
    · obtain ⟨g, q0, t, rfl, rfl, hq⟩ := q
      obtain ⟨q', c, r', eq, e2, rfl, rfl⟩ := map_mid (f := fun c => NestedKey.text (sg c)) e'
      have e2 : q0 = q' := map_inj (fun a b h => by injection h with h; exact sg_inj h) e2
      subst e2
      cases hy2
      have hc : c ∈ ls := by rw [eq]; simp
      have hyg := g.at hy
      refine ⟨_, rfl, s0, c_Seeing, dx, fs, _, rfl, g.oN e, T.cl_Seeing, T.n_Seeing_band, f1, _, rfl, s0, c_Seeing, dx, fs, _, rfl, g.oN e, T.cl_Seeing, T.n_Seeing_worths, f2, _, rfl, _, _, 0, _, hyg, rfl, ix20, rfl, fun v1 av1 => ?_⟩
      refine ⟨_, rfl, _, _, 1, _, hyg, rfl, ix21, rfl, fun v2 av2 => ?_⟩
      cases av2
      refine ⟨_, rfl, pb, aV, W, ls, hs, mo, R, rs, val, v1, v.1, v.2, c, rfl, B0.hard g.hard, cl, dV.growN g, good.low, av1, hv, hc, fun H3 g3 => ?_⟩
      refine ⟨_, rfl, _, _, rfl, rfl, rfl, _, rfl, ?_⟩
      by_cases hw : wst (ways W mo R) val v c = val v - 1
      · refine iteT' (K81.dT (congrArg V.int hw)) ?_
        refine ⟨_, rfl, ?_⟩
        have := k H3 (g.trans g3)
        have ep : planF (ways W mo R) ls val v = some c := by
          unfold planF
          rw [if_neg h0, eq, List.find?_append]
          have e0 : q0.find? (fun c => wst (ways W mo R) val v c == val v - 1) = none := by
            rw [List.find?_eq_none]
            intro x hx z
            exact hq x hx (by simpa using z)
          rw [e0]
          simp [hw]
        rw [ep] at this
        exact this
      · refine iteF' (K81.dF fun z => hw (V.int.inj z)) ?_
        exact ⟨g.trans g3, q0 ++ [c], _, by unfold txts; rw [List.map_append]; rfl, rfl, all_snoc hq hw⟩
    · obtain ⟨g, q0, t, eq, rfl, hq⟩ := q
      have eq : ls = q0 := map_inj (fun a b h => by injection h with h; exact sg_inj h) eq
      subst eq
      have := k H2 g
      have ep : planF (ways W mo R) ls val v = none := by
        unfold planF
        rw [if_neg h0, List.find?_eq_none]
        intro x hx z
        exact hq x hx (by simpa using z)
      rw [ep] at this
      exact this
end
end K81

namespace K81
open PySem PySem.Spec PyProof.Rows L2
section
variable {P : Program} {w : World} {K : PySem.W.Frag} {mg : Str → Option Value} {base : Heap}
def sp_is_sound_row : Sp := fun vs H Q _ => ∃ x r, ∃ n : Nat, vs = [x, .int n] ∧ At H (rowD r) x ∧ Bells n ∧ r ∈ U n ∧ ∀ H', Grow No H H' → Q (.bl true) H'
abbrev N_is_sound_row : List Str := ["thing", "stage", "there", "bell"]
theorem sc_is_sound_row : FnScope ["thing", "stage", "there", "bell"] ["thing", "stage"] (defScope s_is_sound_row) := ⟨rfl, rfl, rfl, by decide +kernel, rfl, by decide +kernel, by decide +kernel⟩
theorem bd_is_sound_row (T : Txt K mg) : Binds K (fdOf K a_is_sound_row) ["thing", "stage"] [] := FunD.bindsN T.F_is_sound_row fun _ _ _ _ _ _ us hl => match us, hl with | [_, _], _ => rfl
theorem ok_is_sound_row (T : Txt K mg) : FnOk P w K mg base CX0 2 a_is_sound_row (fdOf K a_is_sound_row) ["thing", "stage"] (sp_is_sound_row) := by
  refine ok0 T.F_is_sound_row sc_is_sound_row (fun vs H Q E h => ?_) (fun cdv A outer s H vs Q E hr h => ?_)
  · obtain ⟨x, r, n, rfl, hx, hn, hr0, k⟩ := h
    rfl
  · obtain ⟨x, r, n, rfl, hx, hn, hr0, k⟩ := h
    have hU := hr.units
    have hu := hu_of hr
    refine ⟨_, (pss_cons (ps_if (PW.pt (pw_or (pt_not (pt_val (pe_callB call_isK (by rfl) T.z_isinstance (by decide +kernel) (pa_cons (pv 0) (pa_cons (pe_bltn (v := .ty "tuple") rfl T.z_tuple (by decide +kernel) rfl) pa_nil))))) (pw_or1 (pt_cmpR op_ne (pe_callB call_lenK (by rfl) T.z_len PySem.boot_len (pa_cons (pv 0) pa_nil)) (pv 1) (nomark _))))) (pss_one (ps_ret pe_bl)) pss_nil)
      (pss_cons (ps_set (i := 2) sc_is_sound_row.nd rfl (Or.inl rfl) pe_dnewK)
      (pss_cons (ps_for PassesOwn.never rfl (pi_tup (pv 0)) (pg_name (i := 3) sc_is_sound_row.nd rfl (Or.inl rfl)) (pss_cons (ps_if (PW.pt (pw_or (pt_not (pt_val (pe_call (ok_is_integer T) (hr.mono (by decide)) (by rfl) T.g_is_integer T.F_is_integer.kp (bd_is_integer T) .nil pass0 (pa_cons (pv 3) (pa_cons pe_int (pa_cons (pv 1) pa_nil)))))) (pw_or1 (pt_cmp (pc_din hu (pv 3) (pv 2)))))) (pss_one (ps_ret pe_bl)) pss_nil)
      (pss_one (ps_dput hu (pv 2) (pv 3) pe_bl rfl))))
      (pss_one (ps_ret pe_bl))))), ?_⟩
    have h5 := bells_le hn
    obtain ⟨hlen, hin, hnd, _⟩ := u_facts hn hr0
    refine ⟨_, rfl, _, _, _, true, rfl, hx, kt_tt, _, rfl, ?_⟩
    refine iteF' rfl ?_
    refine ⟨_, rfl, _, _, rfl, .inl hx, _, rfl, rfl, _, rfl, ?_⟩
    refine iteF' (nF (by rw [nums_len, hlen])) ?_
    refine fun dd hd => ?_
    have g0 : Grow No H (upd H dd (.dK [])) := Grow.new hd
    have k0 : (upd H dd (.dK [])) dd = some (.dK []) := upd_same
    generalize upd H dd (.dK []) = H0 at g0 k0
    obtain ⟨a, rfl, ha⟩ := row_of hx
    refine ⟨_, rfl, a, rfl, ⟨_, SqT.of (g0.oN ha)⟩, ?_⟩
    refine for_tupK (ks := nums r) (fun pre σ H' => Grow No H H' ∧ ∃ (p : Row) (kvs : List (Key × V)) (t : Option V), pre = nums p ∧ σ = [some (.ref a), some (.int n), some (.ref dd), t] ∧ H' dd = some (.dK kvs) ∧ kvs.map (·.1) = p.map fun i => (Sum.inl i : Key)) ⟨g0, [], [], none, rfl, rfl, k0, rfl⟩ (fun pre σ H' p => p.1.at hx) (fun pre d post y σ H1 e p hy => ?_) fun σ H1 p => ?_
    · obtain ⟨g, p0, kvs, t, rfl, rfl, hk, ek⟩ := p
      obtain ⟨p, z, q, rfl, e2, rfl, rfl⟩ := nums_mid e
      have e2 := nums_inj e2
      subst e2
      cases hy
      have hz := hin z (by simp)
      have hzn : z ∉ p0 := by
        rw [List.nodup_append] at hnd
        exact fun z' => hnd.2.2 z z' z (List.mem_cons_self ..) rfl
      have hv : valV kvs (Sum.inl z : Key) = none := valV_no fun w' => by
        rw [ek] at w'
        obtain ⟨i, hi, e9⟩ := List.mem_map.mp w'
        exact hzn (Sum.inl.inj e9 ▸ hi)
      have hkl : kvs.length = p0.length := by
        have := congrArg List.length ek
        rw [List.length_map, List.length_map] at this
        exact this
      have hpl : p0.length ≤ 5 := by
        rw [List.length_append] at hlen
        omega
      refine ⟨_, rfl, _, rfl, z, 1, n, rfl, ?_⟩
      refine ⟨_, rfl, ?_⟩
      refine iteF' (nF ⟨hz.1, hz.2⟩) ?_
      have hg : DGet H1 dd (.int z) none := by
        rw [← hv]
        exact DGet.k (k := Sum.inl z) hk
      refine ⟨_, rfl, _, rfl, dd, none, rfl, hg, _, rfl, ?_⟩
      refine iteF' rfl ?_
      refine ⟨_, rfl, _, rfl, dd, _, rfl, DPut.k (k := Sum.inl z) hk (by rw [hkl]; exact szL (by omega)), ?_⟩
      refine ⟨g.loc (Grow.putO hk (dK_ne_tup _)) hd, p0 ++ [z], kvs ++ [(Sum.inl z, .bl true)], _, (nums_snoc p0 z).symm, rfl, by rw [upd_same, putK_new _ hv], ?_⟩
      rw [List.map_append, List.map_append, ek]
      rfl
    · exact k H1 p.1
def sp_is_sound_number : Sp := fun vs H Q _ => ∃ b W ls hs mo R, ∃ a : Nat, vs = [.ref b, .int a] ∧ BAt H b W ls hs mo R ∧ a ∈ numsOf mo ∧ Q (.bl true) H
abbrev N_is_sound_number : List Str := ["band", "thing"]
theorem sc_is_sound_number : FnScope ["band", "thing"] ["band", "thing"] (defScope s_is_sound_number) := ⟨rfl, rfl, rfl, by decide +kernel, rfl, by decide +kernel, by decide +kernel⟩
theorem bd_is_sound_number (T : Txt K mg) : Binds K (fdOf K a_is_sound_number) ["band", "thing"] [] := FunD.bindsN T.F_is_sound_number fun _ _ _ _ _ _ us hl => match us, hl with | [_, _], _ => rfl
theorem ok_is_sound_number (T : Txt K mg) : FnOk P w K mg base CX0 2 a_is_sound_number (fdOf K a_is_sound_number) ["band", "thing"] (sp_is_sound_number) := by
  refine ok0 T.F_is_sound_number sc_is_sound_number (fun vs H Q E h => ?_) (fun cdv A outer s H vs Q E hr h => ?_)
  · obtain ⟨b, W, ls, hs, mo, R, a, rfl, B, ha, k⟩ := h
    rfl
  · obtain ⟨b, W, ls, hs, mo, R, a, rfl, B, ha, k⟩ := h
    have hU := hr.units
    have hu := hu_of hr
    refine ⟨_, (pss_one (ps_ret (pe_call (ok_is_integer T) (hr.mono (by decide)) (by rfl) T.g_is_integer T.F_is_integer.kp (bd_is_integer T) .nil pass0 (pa_cons (pv 1) (pa_cons pe_int (pa_cons (pe_ifExp (pt_cmpR op_isN (pe_fld (pv 0) rfl) pe_non (nomark _)) pe_int (pe_fld (pv 0) rfl)) pa_nil)))))), ?_⟩
    obtain ⟨⟨dx, fs, pm, aR, lr, e, f1, f2, f3, f4, m, t, hl⟩, _, _, hmo⟩ := B
    rw [nums_mem] at ha
    refine ⟨_, rfl, ?_⟩
    refine ⟨_, rfl, b, c_Band, dx, fs, _, rfl, e, T.cl_Band, T.n_Band_most, f2, rfl, _, rfl, ?_⟩
    cases mo with
    | none =>
      refine iteT' rfl ?_
      refine ⟨_, _, _, rfl, ?_⟩
      have ha : a = 0 := ha
      have e : decide ((0 : Int) ≤ (a : Nat) ∧ ((a : Nat) : Int) ≤ 0) = true := K81.dT ⟨by omega, by omega⟩
      rw [← e] at k
      exact k
    | some q =>
      refine iteF' rfl ?_
      refine ⟨_, rfl, b, c_Band, dx, fs, _, rfl, e, T.cl_Band, T.n_Band_most, f2, _, _, _, rfl, ?_⟩
      have ha : a ≤ q := ha
      have e : decide ((0 : Int) ≤ (a : Nat) ∧ ((a : Nat) : Int) ≤ (q : Nat)) = true := K81.dT ⟨by omega, by omega⟩
      rw [← e] at k
      exact k
theorem sm_row1 {n : Nat} {r : Row} (hn : Bells n) (h : r ∈ U n) : (rowD r).depth ≤ 4 ∧ smB (rowD r) = true := ⟨by rw [depth_row]; decide, smB_row (by rw [(u_facts hn h).1]; have := bells_le hn; omega)⟩
def sp_Seeing_told_node (P : Program) (w : World) : Sp := fun vs H Q _ => ∃ s x W ls hs mo R rs val r, ∃ a : Nat, vs = [.ref s, x, .int a] ∧ SAt P w H s W ls hs mo R rs val ∧ At H (rowD r) x ∧ (r, a) ∈ nodesOf mo rs ∧
  ∀ H' v, Grow No H H' → At H' (nodeD (r, a)) v → Q v H'
abbrev N_Seeing_told_node : List Str := ["self", "row", "made", "kept"]
theorem sc_Seeing_told_node : FnScope ["self", "row", "made", "kept"] ["self", "row", "made"] (defScope s_Seeing_told_node) := ⟨rfl, rfl, rfl, by decide +kernel, rfl, by decide +kernel, by decide +kernel⟩
theorem bd_Seeing_told_node (T : Txt K mg) : Binds K (fdOf K a_Seeing_told_node) ["self", "row", "made"] [] := FunD.bindsN T.F_Seeing_told_node fun _ _ _ _ _ _ us hl => match us, hl with | [_, _, _], _ => rfl
theorem ok_Seeing_told_node (T : Txt K mg) : FnOk P w K mg base CX0 6 a_Seeing_told_node (fdOf K a_Seeing_told_node) ["self", "row", "made"] (sp_Seeing_told_node P w) := by
  refine ok0 T.F_Seeing_told_node sc_Seeing_told_node (fun vs H Q E h => ?_) (fun cdv A outer s H vs Q E hr h => ?_)
  · obtain ⟨s0, x, W, ls, hs, mo, R, rs, val, r, a, rfl, S, hx, hra, k⟩ := h
    rfl
  · obtain ⟨s0, x, W, ls, hs, mo, R, rs, val, r, a, rfl, S, hx, hra, k⟩ := h
    have hU := hr.units
    have hu := hu_of hr
    have cl := S.cl
    have hru := cl.u _ (nodes_mem.mp hra).1
    have hnum := (nodes_mem.mp hra).2
    have S0 := S
    obtain ⟨⟨dx, fs, pb, aV, vt, e, f1, f2, f3, f4, f5, f6, f7, f8, B, dV, ht⟩, _, _⟩ := S
    have hn := B.ok.bells
    have B0 := B
    obtain ⟨⟨dxb, fsb, pm, aR, lr, eb, b1, b2, b3, b4, m, t, hl⟩, _, _, hmo⟩ := B
    obtain ⟨⟨dxm, fsm, vpl, vca, vop, aL, vro, aM, aB, l1, l2, em, k1, k2, k3, k4, k5, k6, k7, k8, k9, k10, k11, a1, a2, s1, s2, s3, m1, m2⟩, lts, _⟩ := m
    obtain ⟨dsD, vD, bD⟩ := bd1_deep T
    refine ⟨_, (pss_cons (ps_set (i := 3) sc_Seeing_told_node.nd rfl (Or.inl rfl) (pe_call (ok_deep4 T) (hr.mono (by decide)) (by rfl) T.g_deep T.F_deep.kp bD vD pass0 (pa_cons (pv 1) pa_nil)))
      (pss_cons (ps_if (PW.pt (pw_or (pt_not (pt_val (pe_call (ok_is_sound_row T) (hr.mono (by decide)) (by rfl) T.g_is_sound_row T.F_is_sound_row.kp (bd_is_sound_row T) .nil pass0 (pa_cons (pv 3) (pa_cons (pe_fld (pe_fld (pe_fld (pv 0) rfl) rfl) rfl) pa_nil))))) (pw_or1 (pt_not (pt_val (pe_call (ok_is_sound_number T) (hr.mono (by decide)) (by rfl) T.g_is_sound_number T.F_is_sound_number.kp (bd_is_sound_number T) .nil pass0 (pa_cons (pe_fld (pv 0) rfl) (pa_cons (pv 2) pa_nil)))))))) (pss_one ps_never) pss_nil)
      (pss_cons (ps_if (pt_cmpR (op_notInN hU) (pe_tup (pa_cons (pv 3) (pa_cons (pv 2) pa_nil))) (pe_fld (pv 0) rfl) (by rfl)) (pss_one ps_never) pss_nil)
      (pss_one (ps_ret (pe_tup (pa_cons (pv 3) (pa_cons (pv 2) pa_nil)))))))), ?_⟩
    obtain ⟨sr1, sr2⟩ := sm_row1 hn hru
    refine ⟨_, rfl, x, _, 0, rfl, hx, sr1, sr2, fun H1 v1 g1 c1 => ?_⟩
    refine ⟨_, rfl, _, rfl, s0, c_Seeing, dx, fs, _, rfl, g1.oN e, T.cl_Seeing, T.n_Seeing_band, f1, pb, c_Band, dxb, fsb, _, rfl, g1.oN eb, T.cl_Band, T.n_Band_method, b1, pm, c_Method, dxm, fsm, _, rfl, g1.oN em, T.cl_Method, T.n_Method_stage, k1, v1, r, W.n, rfl, c1, hn, hru, fun H2 g2 => ?_⟩
    refine ⟨_, rfl, ?_⟩
    refine iteF' rfl ?_
    have G2 := g1.trans g2
    refine ⟨_, rfl, s0, c_Seeing, dx, fs, _, rfl, G2.oN e, T.cl_Seeing, T.n_Seeing_band, f1, _, rfl, pb, W, ls, hs, mo, R, a, rfl, B0.hard G2.hard, hnum, ?_⟩
    refine ⟨_, rfl, ?_⟩
    refine iteF' rfl ?_
    refine ⟨_, rfl, _, rfl, (by decide : 2 ≤ sizeLine), fun t1 ht1 => ?_⟩
    have d1 := tup_new (.cons (g2.at c1) (.cons (.num (a : Nat)) .nil)) ht1
    have G3 := G2.trans (Grow.new (o := .tup [v1, .int (a : Nat)]) ht1)
    refine ⟨_, rfl, s0, c_Seeing, dx, fs, _, rfl, G3.oN e, T.cl_Seeing, T.n_Seeing_worths, f2, t1, aV, _, nodeD (r, a), rfl, rfl, dV.growN G3, d1, dep_node _, _, rfl, ?_⟩
    refine iteF' (by simp [kvF_get nodeD_inj hra]) ?_
    refine ⟨_, rfl, _, rfl, (by decide : 2 ≤ sizeLine), fun t2 ht2 => ?_⟩
    have d2 := tup_new (.cons ((Grow.new (S := No) (o := .tup [v1, .int (a : Nat)]) ht1).at (g2.at c1)) (.cons (.num (a : Nat)) .nil)) ht2
    exact k _ _ (G3.trans (Grow.new ht2)) d2
def sp_Seeing_value (P : Program) (w : World) : Sp := fun vs H Q _ => ∃ s x W ls hs mo R rs val r, ∃ a : Nat, vs = [.ref s, x, .int a] ∧ SAt P w H s W ls hs mo R rs val ∧ At H (rowD r) x ∧ (r, a) ∈ nodesOf mo rs ∧
  ∀ H', Grow No H H' → Q (.int (val (r, a))) H'
abbrev N_Seeing_value : List Str := ["self", "row", "made"]
theorem sc_Seeing_value : FnScope ["self", "row", "made"] ["self", "row", "made"] (defScope s_Seeing_value) := ⟨rfl, rfl, rfl, by decide +kernel, rfl, by decide +kernel, by decide +kernel⟩
theorem bd_Seeing_value (T : Txt K mg) : Binds K (fdOf K a_Seeing_value) ["self", "row", "made"] [] := bindsFull (dvs := [V.int 0]) (FunD.binds1 T.F_Seeing_value 3 1 (by intro z; cases z) rfl fun _ _ _ _ _ _ _ us its hl hi => match us, hl, its, hi with | [_, _, _], _, [_], _ => ⟨_, rfl, rfl⟩)
theorem ok_Seeing_value (T : Txt K mg) : FnOk P w K mg base CX0 7 a_Seeing_value (fdOf K a_Seeing_value) ["self", "row", "made"] (sp_Seeing_value P w) := by
  refine ok0 T.F_Seeing_value sc_Seeing_value (fun vs H Q E h => ?_) (fun cdv A outer s H vs Q E hr h => ?_)
  · obtain ⟨s0, x, W, ls, hs, mo, R, rs, val, r, a, rfl, S, hx, hra, k⟩ := h
    rfl
  · obtain ⟨s0, x, W, ls, hs, mo, R, rs, val, r, a, rfl, S, hx, hra, k⟩ := h
    have hU := hr.units
    have hu := hu_of hr
    refine ⟨_, (pss_one (ps_ret (pe_getN hU (pe_fld (pv 0) rfl) (pe_meth (pv 0) T.cl_Seeing T.m_Seeing_told_node (ok_Seeing_told_node T) (hr.mono (by decide)) (bd_Seeing_told_node T) .nil pass0 (pa_cons (pv 1) (pa_cons (pv 2) pa_nil))) (fun _ _ => rfl)))), ?_⟩
    have S0 := S
    obtain ⟨⟨dx, fs, pb, aV, vt, e, f1, f2, f3, f4, f5, f6, f7, f8, B, dV, ht⟩, _, _⟩ := S
    refine ⟨_, rfl, s0, c_Seeing, dx, fs, _, rfl, e, T.cl_Seeing, T.n_Seeing_worths, f2, _, rfl, s0, dx, fs, rfl, e, f4, _, rfl, _, rfl, s0, x, W, ls, hs, mo, R, rs, val, r, a, rfl, S0, hx, hra, fun H1 v1 g1 c1 => ?_⟩
    obtain ⟨bn, _, rfl, _, _⟩ := c1.ref
    exact ⟨bn, aV, _, nodeD (r, a), _, rfl, rfl, dV.growN g1, c1, dep_node _, kvF_get nodeD_inj hra, k H1 g1⟩
def sp_Seeing_plan (P : Program) (w : World) : Sp := fun vs H Q _ => ∃ s x W ls hs mo R rs val r, ∃ a : Nat, vs = [.ref s, x, .int a] ∧ SAt P w H s W ls hs mo R rs val ∧ At H (rowD r) x ∧ (r, a) ∈ nodesOf mo rs ∧ 0 ≤ val (r, a) ∧
  ∀ H', Grow No H H' → Q (plV (planF (ways W mo R) ls val (r, a))) H'
abbrev N_Seeing_plan : List Str := ["self", "row", "made", "node"]
theorem sc_Seeing_plan : FnScope ["self", "row", "made", "node"] ["self", "row", "made"] (defScope s_Seeing_plan) := ⟨rfl, rfl, rfl, by decide +kernel, rfl, by decide +kernel, by decide +kernel⟩
theorem bd_Seeing_plan (T : Txt K mg) : Binds K (fdOf K a_Seeing_plan) ["self", "row", "made"] [] := bindsFull (dvs := [V.int 0]) (FunD.binds1 T.F_Seeing_plan 3 1 (by intro z; cases z) rfl fun _ _ _ _ _ _ _ us its hl hi => match us, hl, its, hi with | [_, _, _], _, [_], _ => ⟨_, rfl, rfl⟩)
theorem ok_Seeing_plan (T : Txt K mg) : FnOk P w K mg base CX0 7 a_Seeing_plan (fdOf K a_Seeing_plan) ["self", "row", "made"] (sp_Seeing_plan P w) := by
  refine ok0 T.F_Seeing_plan sc_Seeing_plan (fun vs H Q E h => ?_) (fun cdv A outer s H vs Q E hr h => ?_)
  · obtain ⟨s0, x, W, ls, hs, mo, R, rs, val, r, a, rfl, S, hx, hra, hpos, k⟩ := h
    rfl
  · obtain ⟨s0, x, W, ls, hs, mo, R, rs, val, r, a, rfl, S, hx, hra, hpos, k⟩ := h
    have hU := hr.units
    have hu := hu_of hr
    refine ⟨_, (pss_cons (ps_set (i := 3) sc_Seeing_plan.nd rfl (Or.inl rfl) (pe_meth (pv 0) T.cl_Seeing T.m_Seeing_told_node (ok_Seeing_told_node T) (hr.mono (by decide)) (bd_Seeing_told_node T) .nil pass0 (pa_cons (pv 1) (pa_cons (pv 2) pa_nil))))
      (pss_cons (ps_if (pt_cmpR op_lt (pe_getN hU (pe_fld (pv 0) rfl) (pv 3) (fun _ _ => rfl)) pe_int (nomark _)) (pss_one ps_never) pss_nil)
      (pss_one (ps_ret (pe_meth (pv 0) T.cl_Seeing T.m_Seeing_called_at (ok_Seeing_called_at T) (hr.mono (by decide)) (bd_Seeing_called_at T) .nil pass0 (pa_cons (pv 3) pa_nil)))))), ?_⟩
    have S0 := S
    obtain ⟨⟨dx, fs, pb, aV, vt, e, f1, f2, f3, f4, f5, f6, f7, f8, B, dV, ht⟩, _, _⟩ := S
    refine ⟨_, rfl, s0, dx, fs, rfl, e, f4, _, rfl, _, rfl, s0, x, W, ls, hs, mo, R, rs, val, r, a, rfl, S0, hx, hra, fun H1 v1 g1 c1 => ?_⟩
    obtain ⟨bn, _, rfl, _, _⟩ := c1.ref
    refine ⟨_, rfl, s0, c_Seeing, dx, fs, _, rfl, g1.oN e, T.cl_Seeing, T.n_Seeing_worths, f2, _, rfl, bn, aV, _, nodeD (r, a), _, rfl, rfl, dV.growN g1, c1, dep_node _, kvF_get nodeD_inj hra, _, _, rfl, rfl, _, rfl, ?_⟩
    refine iteF' (K81.dF (by omega)) ?_
    exact ⟨_, rfl, s0, dx, fs, rfl, g1.oN e, f7, _, rfl, s0, _, W, ls, hs, mo, R, rs, val, (r, a), rfl, S0.hard g1.hard, c1, hra, fun H2 g2 => k H2 (g1.trans g2)⟩
end
end K81

namespace K81
open PySem PySem.Spec PyProof.Rows L2
section
variable {P : Program} {w : World} {K : PySem.W.Frag} {mg : Str → Option Value} {base : Heap}
theorem ins_ne {H : Hp} {a b C D dx dy : Addr} {fs gs : List (Str × V)} (h : H a = some (.ins C dx fs)) (h' : H b = some (.ins D dy gs)) (ne : C ≠ D) : a ≠ b := fun z => by
  rw [z, h'] at h
  cases h
  exact ne rfl
theorem BAt.growO {H H' : Hp} {b s dx : Addr} {fs : List (Str × V)} {W : Wd} {ls : List Nat} {hs : Hears} {mo : Option Nat} {R : Rg} (h : BAt H b W ls hs mo R) (g : Grow (On s) H H') (he : H s = some (.ins c_Seeing dx fs)) : BAt H' b W ls hs mo R := by
  obtain ⟨⟨dxb, fsb, pm, aR, lr, e, f1, f2, f3, f4, m, t, hl⟩, x, y, z⟩ := h
  obtain ⟨dxm, fsm, em⟩ := m.ins
  have n1 : b ≠ s := ins_ne e he (by decide)
  have n2 : pm ≠ s := ins_ne em he (by decide)
  have nR : ¬ On s aR := fun z => by
    obtain ⟨kvs, ek, _⟩ := t
    rw [show aR = s from z, he] at ek
    cases ek
  exact ⟨⟨dxb, fsb, pm, aR, lr, g.o e n1, f1, f2, f3, f4, m.growO g ⟨_, _, _, he⟩ n2, t.grow g nR, hl⟩, x, y, z⟩
theorem BAt.ins {H : Hp} {b : Addr} {W : Wd} {ls : List Nat} {hs : Hears} {mo : Option Nat} {R : Rg} (h : BAt H b W ls hs mo R) : ∃ dx fs, H b = some (.ins c_Band dx fs) ∧ fs.lookup ("nodes" : Str) = none := by
  obtain ⟨⟨dxb, fsb, pm, aR, lr, e, f1, f2, f3, f4, m, t, hl⟩, x, y, z⟩ := h
  exact ⟨_, _, e, f4⟩
def sp_Seeing_init (P : Program) (w : World) : Sp := fun vs H Q _ => ∃ s dx b W ls hs mo R, vs = [.ref s, .ref b] ∧ H s = some (.ins c_Seeing dx []) ∧ BAt H b W ls hs mo R ∧
  ∀ H' rs val, Grow (On s) H H' → SAt P w H' s W ls hs mo R rs val → Q .non H'
abbrev N_Seeing_init : List Str := ["self", "band", "nodes", "row", "made"]
theorem sc_Seeing_init : FnScope ["self", "band", "nodes", "row", "made"] ["self", "band"] (defScope s_Seeing_init) := ⟨rfl, rfl, rfl, by decide +kernel, rfl, by decide +kernel, by decide +kernel⟩
theorem bd_Seeing_init (T : Txt K mg) : Binds K (fdOf K a_Seeing_init) ["self", "band"] [] := FunD.bindsN T.F_Seeing_init fun _ _ _ _ _ _ us hl => match us, hl with | [_, _], _ => rfl
theorem ok_Seeing_init (T : Txt K mg) : FnOk P w K mg base CX0 5 a_Seeing_init (fdOf K a_Seeing_init) ["self", "band"] (sp_Seeing_init P w) := by
  refine ok0 T.F_Seeing_init sc_Seeing_init (fun vs H Q E h => ?_) (fun cdv A outer s H vs Q E hr h => ?_)
  · obtain ⟨s0, dx, b, W, ls, hs, mo, R, rfl, hs0, B, k⟩ := h
    rfl
  · obtain ⟨s0, dx, b, W, ls, hs, mo, R, rfl, hs0, B, k⟩ := h
    have hU := hr.units
    have hu := hu_of hr
    obtain ⟨dxb, fsb, eb, fb⟩ := B.ins
    refine ⟨_, (pss_cons (ps_set (i := 2) sc_Seeing_init.nd rfl (Or.inl rfl) (pe_meth0 (pv 1) T.cl_Band T.m_Band_nodes (ok_Band_nodes T) (hr.mono (by decide)) (bd_Band_nodes T) .nil pass0))
      (pss_cons (ps_fld (pv 0) (pv 1) rfl)
      (pss_cons (ps_fld (pv 0) (pe_call (ok_sure_leads T) (hr.mono (by decide)) (by rfl) T.g_sure_leads T.F_sure_leads.kp (bd_sure_leads T) .nil pass0 (pa_cons (pv 1) (pa_cons (pv 2) pa_nil))) rfl)
      (pss_one (ps_fld (pv 0) (pe_callTy call_tupK (by rfl) T.z_tuple (by decide +kernel) (pa_cons (pe_lc (own := [("row", 3), ("made", 4)]) (g := gTup K 2 (gCons (gName 3) (gCons (gName 4) gNil))) (te := tTup (tCons (tVar 3) (tCons (tVar 4) (tCons (tOp (rGetN P w) (tFld K (tVar 0) "worths") (tTup (tCons (tVar 3) (tCons (tVar 4) tNil)))) tNil)))) rfl sc_Seeing_init.nd (pi_tup (pv 2)) (blkOk_by (own := [("row", 3), ("made", 4)]) (N := N_Seeing_init) (sc := defScope s_Seeing_init) (by decide +kernel)) (fun _ _ _ _ _ => (pg_tup rfl (pgs_cons (pg_name (i := 3) sc_Seeing_init.nd rfl (Or.inl rfl)) (pgs_cons (pg_name (i := 4) sc_Seeing_init.nd rfl (Or.inl rfl)) pgs_nil)))) (fun _ _ _ _ _ => pts_nil) (fun _ _ _ _ _ => (pe_tup (pa_cons (pv 3) (pa_cons (pv 4) (pa_cons (pe_getN hU (pe_fld (pv 0) rfl) (pe_tup (pa_cons (pv 3) (pa_cons (pv 4) pa_nil))) (fun _ _ => rfl)) pa_nil)))))) pa_nil)) rfl))))), ?_⟩
    refine ⟨_, rfl, b, dxb, fsb, rfl, eb, fb, b, W, ls, hs, mo, R, rfl, B, fun H1 v1 rs g1 cl a1 => ?_⟩
    obtain ⟨an, us, rfl, u1, u2⟩ := a1.ref
    have e1 := g1.oN hs0
    have B1 := B.hard g1.hard
    refine ⟨_, rfl, _, rfl, s0, c_Seeing, dx, _, rfl, e1, T.cl_Seeing, T.n_Seeing_band, (by decide : 0 < 1000), ?_⟩
    obtain ⟨g2, e2⟩ := fld_put (gs := putF "band" (V.ref b) []) e1
    have B2 := B1.growO g2 e1
    have a2 := g2.at a1
    generalize upd H1 s0 _ = H2 at g2 e2 B2 a2
    have hz0 : ∃ v ∈ nodesOf mo rs, v.1 = rnd W.n := ⟨(rnd W.n, 0), nodes_mem.mpr ⟨List.mem_of_getElem? cl.z, by rw [nums_mem]; cases mo <;> simp⟩, rfl⟩
    refine ⟨_, rfl, _, rfl, b, W, ls, hs, mo, R, _, nodesOf mo rs, rfl, B2, a2, nok_of B2 cl, hz0, fun H3 aV val g3 haV dV good => ?_⟩
    have e3 := g3.oN e2
    refine ⟨_, rfl, s0, c_Seeing, dx, _, rfl, e3, T.cl_Seeing, T.n_Seeing_worths, ltF (by decide : 0 < 999), ?_⟩
    obtain ⟨g4, e4⟩ := fld_put (gs := putF "worths" (V.ref aV) (putF "band" (V.ref b) [])) e3
    have B4 := (B2.hard g3.hard).growO g4 e3
    have a4 := g4.at (g3.at a2)
    have sV : ¬ On s0 aV := fun z => by
      obtain ⟨φ, ea⟩ := dV.at
      rw [show aV = s0 from z, e3] at ea
      cases ea
    have d4 := dV.grow g4 sV
    generalize upd H3 s0 _ = H4 at g4 e4 B4 a4 d4
    obtain ⟨an', us', e', u3, u4⟩ := a4.ref
    cases e'
    have hl120 := (nok_of B4 cl).few
    refine ⟨_, rfl, an, rfl, ⟨_, SqT.of u3⟩, fun L hL => ?_⟩
    refine lc_pre (walk_tupK (ks := (nodesOf mo rs).map nodeD)) ((nodesOf mo rs).map nodeD) rfl No (fun pre acc _ => ∃ p : List Node, pre = p.map nodeD ∧ acc = p.map (tabD val)) hL id (by rw [List.length_map]; exact szL (by omega)) (fun H' g' => g'.at a4) (fun _ _ => ⟨[], rfl, rfl⟩) (fun pre d post acc v H5 H6 Kq N e' _ g0 pd y kq kn => ?_) fun H5 acc _ g5 la pd => ?_
    · obtain ⟨rfl, j, h3, h4⟩ := y
      have e9 := at_mid e' h3
      subst e9
      obtain ⟨p', z, q, ep, rfl, rfl, rfl⟩ := map_mid e'
      obtain ⟨p2, e3, rfl⟩ := pd
      have e3 := map_inj nodeD_inj e3
      subst e3
      have hz : z ∈ nodesOf mo rs := by rw [ep]; simp
      obtain ⟨bt, ut, rfl, w1, w2⟩ := h4.ref
      cases w2 with
      | @cons _ x1 _ _ y1 z1 =>
      cases z1 with
      | @cons _ x2 _ _ y2 z2 =>
      cases z2
      cases y2
      refine ⟨bt, _, rfl, SqT.of w1, rfl, _, _, rfl, _, _, rfl, rfl, ?_⟩
      refine ⟨rfl, ?_⟩
      refine ⟨_, rfl, _, rfl, _, rfl, s0, c_Seeing, dx, _, _, rfl, g0.oN e4, T.cl_Seeing, T.n_Seeing_worths, (by repeat (first | (refine (lookF ?_).trans ?_; (decide +kernel)) | exact lookS | exact lookN)), _, rfl, _, rfl, (by decide : 2 ≤ sizeLine), fun t1 ht1 => ?_⟩
      have d1 := tup_new (.cons y1 (.cons (.num (z.2 : Nat)) .nil)) ht1
      have gt : Grow No _ _ := Grow.new (o := .tup [x1, .int (z.2 : Nat)]) ht1
      refine ⟨t1, aV, _, nodeD z, _, rfl, rfl, (d4.growN g0).growN gt, d1, dep_node z, kvF_get nodeD_inj hz, (by decide : 3 ≤ sizeLine), fun t2 ht2 => ?_⟩
      have d2 := tup_new (.cons (gt.at y1) (.cons (.num (z.2 : Nat)) (.cons (.num (val z)) .nil))) ht2
      exact kq _ _ (tabD val z) (gt.trans (Grow.new ht2)) d2 fun _ _ => ⟨p' ++ [z], by rw [List.map_append]; rfl, by rw [List.map_append]; rfl⟩
    obtain ⟨p2, e3, rfl⟩ := pd
    have e3 := map_inj nodeD_inj e3
    subst e3
    refine ⟨L, _, rfl, la, fun H6 v6 g6 a6 => ?_⟩
    have g56 := g5.trans g6
    have e6 := g56.oN e4
    refine ⟨_, rfl, s0, c_Seeing, dx, _, rfl, e6, T.cl_Seeing, T.n_Seeing_table, ltF (ltF (by decide : 0 < 998)), ?_⟩
    obtain ⟨g7, e7⟩ := fld_put (gs := putF "table" v6 (putF "worths" (V.ref aV) (putF "band" (V.ref b) []))) e6
    have B7 := (B4.hard g56.hard).growO g7 e6
    have d7 := (d4.growN g56).grow g7 sV
    have a7 := g7.at a6
    refine k _ rs val (g1.after (((g2.then g3).trans g4).trans (g56.any.trans g7))) ⟨⟨dx, _, b, aV, v6, e7, (by repeat (first | (refine (lookF ?_).trans ?_; (decide +kernel)) | exact lookS | exact lookN)), (by repeat (first | (refine (lookF ?_).trans ?_; (decide +kernel)) | exact lookS | exact lookN)), (by repeat (first | (refine (lookF ?_).trans ?_; (decide +kernel)) | exact lookS | exact lookN)), (by repeat (first | (refine (lookF ?_).trans ?_; (decide +kernel)) | exact lookS | exact lookN)), (by repeat (first | (refine (lookF ?_).trans ?_; (decide +kernel)) | exact lookS | exact lookN)), (by repeat (first | (refine (lookF ?_).trans ?_; (decide +kernel)) | exact lookS | exact lookN)), (by repeat (first | (refine (lookF ?_).trans ?_; (decide +kernel)) | exact lookS | exact lookN)), (by repeat (first | (refine (lookF ?_).trans ?_; (decide +kernel)) | exact lookS | exact lookN)), B7, d7, a7⟩, cl, good⟩
def sp_Seeing_trap (P : Program) (w : World) : Sp := fun vs H Q _ => ∃ s W ls hs mo R rs val, vs = [.ref s] ∧ SAt P w H s W ls hs mo R rs val ∧
  ∀ H' v, Grow No H H' → At H' (.tup (((nodesOf mo rs).filter fun v => decide (val v < 0)).map nodeD)) v → Q v H'
abbrev N_Seeing_trap : List Str := ["self", "row", "made", "worth"]
theorem sc_Seeing_trap : FnScope ["self", "row", "made", "worth"] ["self"] (defScope s_Seeing_trap) := ⟨rfl, rfl, rfl, by decide +kernel, rfl, by decide +kernel, by decide +kernel⟩
theorem bd_Seeing_trap (T : Txt K mg) : Binds K (fdOf K a_Seeing_trap) ["self"] [] := FunD.bindsN T.F_Seeing_trap fun _ _ _ _ _ _ us hl => match us, hl with | [_], _ => rfl
theorem ok_Seeing_trap (T : Txt K mg) : FnOk P w K mg base CX0 1 a_Seeing_trap (fdOf K a_Seeing_trap) ["self"] (sp_Seeing_trap P w) := by
  refine ok0 T.F_Seeing_trap sc_Seeing_trap (fun vs H Q E h => ?_) (fun cdv A outer s H vs Q E hr h => ?_)
  · obtain ⟨s0, W, ls, hs, mo, R, rs, val, rfl, S, k⟩ := h
    rfl
  · obtain ⟨s0, W, ls, hs, mo, R, rs, val, rfl, S, k⟩ := h
    have hU := hr.units
    have hu := hu_of hr
    refine ⟨_, (pss_one (ps_ret (pe_callTy call_tupK (by rfl) T.z_tuple (by decide +kernel) (pa_cons (pe_lc (own := [("row", 1), ("made", 2), ("worth", 3)]) (g := gTup K 3 (gCons (gName 1) (gCons (gName 2) (gCons (gName 3) gNil)))) rfl sc_Seeing_trap.nd (pi_tup (pe_fld (pv 0) rfl)) (blkOk_by (own := [("row", 1), ("made", 2), ("worth", 3)]) (N := N_Seeing_trap) (sc := defScope s_Seeing_trap) (by decide +kernel)) (fun _ _ _ _ _ => (pg_tup rfl (pgs_cons (pg_name (i := 1) sc_Seeing_trap.nd rfl (Or.inl rfl)) (pgs_cons (pg_name (i := 2) sc_Seeing_trap.nd rfl (Or.inl rfl)) (pgs_cons (pg_name (i := 3) sc_Seeing_trap.nd rfl (Or.inl rfl)) pgs_nil))))) (fun _ _ _ _ _ => pts_one (pt_cmpR op_lt (pv 3) pe_int (nomark _))) (fun _ _ _ _ _ => (pe_tup (pa_cons (pv 1) (pa_cons (pv 2) pa_nil))))) pa_nil)))), ?_⟩
    have cl := S.cl
    obtain ⟨⟨dx, fs, pb, aV, vt, e, f1, f2, f3, f4, f5, f6, f7, f8, B, dV, ht⟩, _, _⟩ := S
    have hl120 := (nok_of B cl).few
    obtain ⟨at', us, rfl, u1, u2⟩ := ht.ref
    refine ⟨_, rfl, s0, c_Seeing, dx, fs, _, rfl, e, T.cl_Seeing, T.n_Seeing_table, f3, at', rfl, ⟨_, SqT.of u1⟩, fun L hL => ?_⟩
    refine lc_pre (walk_tupK (ks := (nodesOf mo rs).map (tabD val))) ((nodesOf mo rs).map (tabD val)) rfl No (fun pre acc _ => ∃ p : List Node, pre = p.map (tabD val) ∧ acc = (p.filter fun v => decide (val v < 0)).map nodeD) hL id (by rw [List.length_map]; exact szL (by omega)) (fun H' g' => g'.at ht) (fun _ _ => ⟨[], rfl, rfl⟩) (fun pre d post acc v H5 H6 Kq N e' _ g0 pd y kq kn => ?_) fun H5 acc _ g5 la pd => ?_
    · obtain ⟨rfl, j, h3, h4⟩ := y
      have e9 := at_mid e' h3
      subst e9
      obtain ⟨p', z, q, ep, rfl, rfl, rfl⟩ := map_mid e'
      obtain ⟨p2, e3, rfl⟩ := pd
      have e3 : p' = p2 := map_inj (fun a b h => by
        unfold tabD at h
        injection h with h
        injection h with h1 h
        injection h with h2 h
        injection h2 with h2
        cases a
        cases b
        have e1 := rowD_inj h1
        have e2 := Int.ofNat.inj h2
        simp only at e1 e2
        rw [e1, e2]) e3
      subst e3
      obtain ⟨bt, ut, rfl, w1, w2⟩ := h4.ref
      cases w2 with
      | @cons _ x1 _ _ y1 z1 =>
      cases z1 with
      | @cons _ x2 _ _ y2 z2 =>
      cases z2 with
      | @cons _ x3 _ _ y3 z3 =>
      cases z3
      cases y2
      cases y3
      refine ⟨bt, _, rfl, SqT.of w1, rfl, _, _, rfl, _, _, rfl, _, _, rfl, rfl, ?_⟩
      refine ⟨rfl, ?_⟩
      refine ⟨_, rfl, _, _, rfl, rfl, _, rfl, ?_⟩
      by_cases hz : val z < 0
      · refine iteT' (K81.dT hz) ?_
        refine ⟨_, rfl, _, rfl, (by decide : 2 ≤ sizeLine), fun t1 ht1 => ?_⟩
        have d1 := tup_new (.cons y1 (.cons (.num (z.2 : Nat)) .nil)) ht1
        exact kq _ _ (nodeD z) (Grow.new ht1) d1 fun _ _ => ⟨p' ++ [z], by rw [List.map_append]; rfl, by rw [List.filter_append, List.map_append]; simp [hz]⟩
      · refine iteF' (K81.dF hz) ?_
        exact kn _ (Grow.refl _) ⟨p' ++ [z], by rw [List.map_append]; rfl, by rw [List.filter_append, List.map_append]; simp [hz]⟩
    obtain ⟨p2, e3, rfl⟩ := pd
    have e3 : nodesOf mo rs = p2 := map_inj (fun a b h => by
      unfold tabD at h
      injection h with h
      injection h with h1 h
      injection h with h2 h
      injection h2 with h2
      cases a
      cases b
      have e1 := rowD_inj h1
      have e2 := Int.ofNat.inj h2
      simp only at e1 e2
      rw [e1, e2]) e3
    subst e3
    exact ⟨L, _, rfl, la, fun H6 v6 g6 a6 => k H6 v6 (g5.trans g6) a6⟩
end
end K81

namespace K81
open PySem PySem.Spec PyProof.Rows L2
/-- what is rung, letter by letter, against the plan -/
def PlayOk (W : Wd) (ls : List Nat) (mo : Option Nat) (R : Rg) (val : Node → Int) : Node → List Nat → List Nat → Node → Prop
  | v, [], [], v' => v = v'
  | v, c :: cs, p :: ps, v' => planF (ways W mo R) ls val v = some p ∧ p ∈ ls ∧ (c, (tms v.1 (mvOf W c), aft mo p v.2 c)) ∈ ways W mo R v p ∧ PlayOk W ls mo R val (tms v.1 (mvOf W c), aft mo p v.2 c) cs ps v'
  | _, _, _, _ => False
theorem way_eq {W : Wd} {mo : Option Nat} {R : Rg} {v : Node} {p : Nat} {y : Nat × Node} (h : y ∈ ways W mo R v p) : y.2 = (tms v.1 (mvOf W y.1), aft mo p v.2 y.1) := by
  unfold ways wayL at h
  obtain ⟨x, _, rfl⟩ := List.mem_map.mp h
  rfl
theorem wayD_inj {a b : Wy} (h : wayD a = wayD b) : a = b := by
  unfold wayD at h
  injection h with h
  injection h with h1 h
  injection h with h2 h
  injection h1 with h1
  have e1 := sg_inj h1
  have e2 := nodeD_inj _ _ h2
  cases a
  cases b
  simp only at e1 e2
  rw [e1, e2]
section
variable {P : Program} {w : World} {K : PySem.W.Frag} {mg : Str → Option Value} {base : Heap}
def sp_Seeing_play (P : Program) (w : World) : Sp := fun vs H Q _ => ∃ s x W ls hs mo R rs val r cs ps v', vs = [.ref s, x, .str (tx cs)] ∧ SAt P w H s W ls hs mo R rs val ∧ At H (rowD r) x ∧ (r, 0) ∈ nodesOf mo rs ∧ 0 ≤ val (r, 0) ∧ cs.length ≤ 200 ∧ PlayOk W ls mo R val (r, 0) cs ps v' ∧
  ∀ H' y, Grow No H H' → At H' (.tup [.text (tx ps), nodeD v']) y → Q y H'
abbrev N_Seeing_play : List Str := ["self", "row", "rung", "node", "called", "number", "letter", "call", "after", "other", "found"]
theorem sc_Seeing_play : FnScope ["self", "row", "rung", "node", "called", "number", "letter", "call", "after", "other", "found"] ["self", "row", "rung"] (defScope s_Seeing_play) := ⟨rfl, rfl, rfl, by decide +kernel, rfl, by decide +kernel, by decide +kernel⟩
theorem bd_Seeing_play (T : Txt K mg) : Binds K (fdOf K a_Seeing_play) ["self", "row", "rung"] [] := FunD.bindsN T.F_Seeing_play fun _ _ _ _ _ _ us hl => match us, hl with | [_, _, _], _ => rfl
theorem ok_Seeing_play (T : Txt K mg) : FnOk P w K mg base CX0 7 a_Seeing_play (fdOf K a_Seeing_play) ["self", "row", "rung"] (sp_Seeing_play P w) := by
  refine ok0 T.F_Seeing_play sc_Seeing_play (fun vs H Q E h => ?_) (fun cdv A outer s H vs Q E hr h => ?_)
  · obtain ⟨s0, x, W, ls, hs, mo, R, rs, val, r, cs, ps, v', rfl, S, hx, hra, hpos, hlen, hp, k⟩ := h
    rfl
  · obtain ⟨s0, x, W, ls, hs, mo, R, rs, val, r, cs, ps, v', rfl, S, hx, hra, hpos, hlen, hp, k⟩ := h
    have hU := hr.units
    have hu := hu_of hr
    have cl := S.cl
    have S0 := S
    obtain ⟨⟨dx, fs, pb, aV, vt, e, f1, f2, f3, f4, f5, f6, f7, f8, B, dV, ht⟩, _, _⟩ := S
    have nk := nok_of B cl
    refine ⟨_, (pss_cons (ps_set (i := 3) sc_Seeing_play.nd rfl (Or.inl rfl) (pe_meth (pv 0) T.cl_Seeing T.m_Seeing_told_node (ok_Seeing_told_node T) (hr.mono (by decide)) (bd_Seeing_told_node T) .nil pass0 (pa_cons (pv 1) (pa_cons pe_int pa_nil))))
      (pss_cons (ps_if (pt_cmpR op_lt (pe_getN hU (pe_fld (pv 0) rfl) (pv 3) (fun _ _ => rfl)) pe_int (nomark _)) (pss_one ps_never) pss_nil)
      (pss_cons (ps_if (pt_not (pt_val (pe_callB call_isK (by rfl) T.z_isinstance (by decide +kernel) (pa_cons (pv 2) (pa_cons (pe_bltn (v := .ty "str") rfl T.z_str (by decide +kernel) rfl) pa_nil))))) (pss_one ps_never) pss_nil)
      (pss_cons (ps_set (i := 4) sc_Seeing_play.nd rfl (Or.inl rfl) (pe_lst pa_nil))
      (pss_cons (ps_for PassesOwn.never rfl (pi_enumS (by rfl) T.z_enumerate (pa_cons (pv 2) pa_nil)) (pg_tup rfl (pgs_cons (pg_name (i := 5) sc_Seeing_play.nd rfl (Or.inl rfl)) (pgs_cons (pg_name (i := 6) sc_Seeing_play.nd rfl (Or.inl rfl)) pgs_nil))) (pss_cons (ps_set (i := 7) sc_Seeing_play.nd rfl (Or.inl rfl) (pe_meth (pv 0) T.cl_Seeing T.m_Seeing_called_at (ok_Seeing_called_at T) (hr.mono (by decide)) (bd_Seeing_called_at T) .nil pass0 (pa_cons (pv 3) pa_nil)))
      (pss_cons (ps_if (pt_cmpR op_isN (pv 7) pe_non (nomark _)) (pss_one ps_never) pss_nil)
      (pss_cons (ps_set (i := 8) sc_Seeing_play.nd rfl (Or.inl rfl) pe_non)
      (pss_cons (ps_for PassesOwn.never rfl (pi_list (pe_call (ok_ways_behind T) (hr.mono (by decide)) (by rfl) T.g_ways_behind T.F_ways_behind.kp (bd_ways_behind T) .nil pass0 (pa_cons (pe_fld (pv 0) rfl) (pa_cons (pe_ix ix_tupK (pv 3) pe_int (fun _ _ => rfl)) (pa_cons (pe_ix ix_tupK (pv 3) pe_int (fun _ _ => rfl)) (pa_cons (pv 7) pa_nil)))))) (pg_tup rfl (pgs_cons (pg_name (i := 9) sc_Seeing_play.nd rfl (Or.inl rfl)) (pgs_cons (pg_name (i := 10) sc_Seeing_play.nd rfl (Or.inl rfl)) pgs_nil))) (pss_one (ps_if (pt_cmpR op_eq (pv 9) (pv 6) (nomark _)) (pss_one (ps_set (i := 8) sc_Seeing_play.nd rfl (Or.inl rfl) (pv 10))) pss_nil)))
      (pss_cons (ps_if (pt_cmpR op_isN (pv 8) pe_non (nomark _)) (pss_one ps_never) pss_nil)
      (pss_cons (ps_expr (pe_bm PySem.F.plainAttrs_list PySem.F.slot_list_append PySem.F.type_list_append mt_appK (pv 4) (pa_cons (pv 7) pa_nil)))
      (pss_one (ps_set (i := 3) sc_Seeing_play.nd rfl (Or.inl rfl) (pv 8))))))))))
      (pss_one (ps_ret (pe_tup (pa_cons (pe_join pe_str (pv 4)) (pa_cons (pv 3) pa_nil)))))))))), ?_⟩
    refine ⟨_, rfl, s0, dx, fs, rfl, e, f4, _, rfl, s0, x, W, ls, hs, mo, R, rs, val, r, 0, rfl, S0, hx, hra, fun H1 v1 g1 c1 => ?_⟩
    obtain ⟨bn, _, rfl, _, _⟩ := id c1.ref
    refine ⟨_, rfl, s0, c_Seeing, dx, fs, _, rfl, g1.oN e, T.cl_Seeing, T.n_Seeing_worths, f2, _, rfl, bn, aV, _, nodeD (r, 0), _, rfl, rfl, dV.growN g1, c1, dep_node _, kvF_get nodeD_inj hra, _, _, rfl, rfl, _, rfl, ?_⟩
    refine iteF' (K81.dF (by omega)) ?_
    refine ⟨_, rfl, _, .text _, _, true, rfl, .text _, kt_ss, _, rfl, ?_⟩
    refine iteF' rfl ?_
    refine ⟨Nat.zero_le _, fun L hL => ?_⟩
    have g0 : Grow No H1 (upd H1 L (.lst [])) := Grow.new hL
    have l0 : Ls (upd H1 L (.lst [])) L (txts []) := Ls.new .nil hL
    generalize upd H1 L (.lst []) = H0 at g0 l0
    refine ⟨_, rfl, _, rfl, ?_⟩
    refine for_pre (walk_enumS (l := cs)) cs rfl (fun pre σ H' => Grow No H1 H' ∧ ∃ (bv : Addr) (v : Node) (q ps' : List Nat) (t1 t2 t3 t4 t5 t6 : Option V), ps = q ++ ps' ∧ q.length = pre.length ∧ σ = [some (.ref s0), some x, some (.str (tx cs)), some (.ref bv), some (.ref L), t1, t2, t3, t4, t5, t6] ∧ At H' (nodeD v) (.ref bv) ∧ v ∈ nodesOf mo rs ∧ Ls H' L (txts q) ∧ PlayOk W ls mo R val v (cs.drop pre.length) ps' v') ⟨g0, bn, (r, 0), [], ps, _, _, _, _, _, _, rfl, rfl, rfl, g0.at c1, hra, l0, hp⟩ (fun _ _ _ _ => trivial) (fun pre c post y σ H2 H3 ec p hy => ?_) fun σ H2 p => ?_
    · obtain ⟨g, bv, v, q, ps', t1, t2, t3, t4, t5, t6, eps, eq, rfl, av, hv, l, hpl⟩ := p
      obtain ⟨T', c', rfl, hT, rfl, e1⟩ := hy
      have e2 : c' = c := by
        rw [ec, List.getElem?_append_right (Nat.le_refl _), Nat.sub_self] at e1
        exact (Option.some.inj e1).symm
      subst e2
      rw [ec, List.drop_left] at hpl
      cases ps' with
      | nil => exact hpl.elim
      | cons pc ps2 =>
      obtain ⟨hplan, hpc, hway, hrest⟩ := hpl
      have gT : Grow No H2 (upd H2 T' (.tup [.int (pre.length : Nat), .str (sg c')])) := Grow.new hT
      refine ⟨T', _, rfl, SqT.of upd_same, rfl, _, _, rfl, _, _, rfl, rfl, ?_⟩
      generalize upd H2 T' (.tup [.int (pre.length : Nat), .str (sg c')]) = H4 at gT
      have g4 := (g1.trans g).trans gT
      refine ⟨_, rfl, s0, dx, fs, rfl, g4.oN e, f7, _, rfl, s0, _, W, ls, hs, mo, R, rs, val, v, rfl, S0.hard g4.hard, gT.at av, hv, fun H5 g5 => ?_⟩
      rw [hplan]
      refine ⟨_, rfl, rfl, _, rfl, ?_⟩
      refine iteF' (K81.dF (fun z => by cases z)) ?_
      have g5' := g4.trans g5
      have av5 := (gT.trans g5).at av
      refine ⟨_, rfl, s0, c_Seeing, dx, fs, _, rfl, g5'.oN e, T.cl_Seeing, T.n_Seeing_band, f1, ?_⟩
      refine ⟨_, rfl, _, _, 0, _, av5, rfl, ix20, rfl, fun v1 av1 => ?_⟩
      refine ⟨_, rfl, _, _, 1, _, av5, rfl, ix21, rfl, fun v2 av2 => ?_⟩
      cases av2
      have hu := cl.u _ (nodes_mem.mp hv).1
      have hlw := ways_len B hpc v
      refine ⟨_, rfl, pb, W, ls, hs, mo, R, v1, v.1, v.2, pc, rfl, B.hard g5'.hard, av1, hu, hpc, fun H6 L2 g6 hL2 l6 => ?_⟩
      have hways := nk.cl _ hv pc hpc
      generalize hw : ways W mo R (v.1, v.2) pc = wl at l6
      have hw : ways W mo R v pc = wl := hw
      rw [hw] at hlw hway hways
      obtain ⟨lv, el, _⟩ := id l6
      have gl : Grow No H2 H6 := (gT.trans g5).trans g6
      refine ⟨L2, rfl, ⟨_, SqL.of el⟩, ?_⟩
      refine for_lstK (ks := wl.map wayD) (fun pre' σ H' => Grow No H6 H' ∧ ∃ (p : List Wy) (aft' : V) (t1 t2 : Option V), pre' = p.map wayD ∧ σ = [some (.ref s0), some x, some (.str (tx cs)), some (.ref bv), some (.ref L), some (.int (pre.length : Nat)), some (.str (sg c')), some (.str (sg pc)), some aft', t1, t2] ∧ ((∀ y ∈ p, y.1 ≠ c') ∧ aft' = .non ∨ (∃ y ∈ p, y.1 = c') ∧ At H' (nodeD (tms v.1 (mvOf W c'), aft mo pc v.2 c')) aft')) ⟨Grow.refl _, [], .non, _, _, rfl, rfl, .inl ⟨(fun _ h => nomatch h), rfl⟩⟩ (fun pre' σ H' p => l6.growN p.1) (fun pre' d post' y σ H7 e' p hy => ?_) fun σ H7 p => ?_
      · obtain ⟨g7, p, aft', t1, t2, rfl, rfl, ha⟩ := p
        obtain ⟨p', z, q', ep, e3, rfl, rfl⟩ := map_mid e'
        have e3 : p = p' := map_inj (fun a b h => wayD_inj h) e3
        subst e3
        have hz : z ∈ wl := by rw [ep]; simp
        obtain ⟨bt, ut, rfl, w1, w2⟩ := hy.ref
        cases w2 with
        | @cons _ x1 _ _ y1 z1 =>
        cases z1 with
        | @cons _ x2 _ _ y2 z2 =>
        cases z2
        cases y1
        refine ⟨bt, _, rfl, SqT.of w1, rfl, _, _, rfl, _, _, rfl, rfl, ?_⟩
        refine ⟨_, rfl, _, rfl, rfl, _, rfl, ?_⟩
        rw [sg_dec]
        by_cases hzc : z.1 = c'
        · refine iteT' (K81.dT hzc) ?_
          have ez := way_eq (hw ▸ hz)
          rw [hzc] at ez
          refine ⟨_, rfl, g7, p ++ [z], _, _, _, by rw [List.map_append]; rfl, rfl, .inr ⟨⟨z, by simp, hzc⟩, ?_⟩⟩
          rw [← ez]
          exact y2
        · refine iteF' (K81.dF hzc) ?_
          refine ⟨g7, p ++ [z], aft', _, _, by rw [List.map_append]; rfl, rfl, ?_⟩
          rcases ha with ⟨h1, h2⟩ | ⟨⟨y, h1, h2⟩, h3⟩
          · exact .inl ⟨all_snoc h1 hzc, h2⟩
          · exact .inr ⟨⟨y, by simp [h1], h2⟩, h3⟩
      · obtain ⟨g7, p, aft', t1, t2, e3, rfl, ha⟩ := p
        have e3 : wl = p := map_inj (fun a b h => wayD_inj h) e3
        subst e3
        rcases ha with ⟨h1, h2⟩ | ⟨_, h3⟩
        · exact (h1 _ hway rfl).elim
        obtain ⟨ba, _, rfl, _, _⟩ := id h3.ref
        refine ⟨_, rfl, rfl, _, rfl, ?_⟩
        refine iteF' (K81.dF (fun z => by cases z)) ?_
        have l7 := l.growN (gl.trans g7)
        have hql : q.length ≤ 200 := by
          rw [eq]
          have := congrArg List.length ec
          rw [List.length_append] at this
          omega
        refine ⟨_, rfl, tyL l7, _, rfl, ?_⟩
        refine ⟨L, _, _, _, rfl, rfl, l7, .text (sg pc), szL (by unfold txts; rw [List.length_map]; omega), fun H8 g8 l8 => ?_⟩
        refine ⟨_, rfl, (g.trans (gl.trans g7)).loc g8 hL, ba, (tms v.1 (mvOf W c'), aft mo pc v.2 c'), q ++ [pc], ps2, _, _, _, _, _, _, by rw [eps]; simp, by simp [eq], rfl, ?_, hways _ hway, ?_, ?_⟩
        · exact g8.at h3
        · unfold txts
          rw [List.map_append]
          exact l8
        · have ec' : cs = (pre ++ [c']) ++ post := by rw [ec]; simp
          rw [ec', List.drop_left]
          exact hrest
    · obtain ⟨g, bv, v, q, ps', t1, t2, t3, t4, t5, t6, eps, eq, rfl, av, hv, l, hpl⟩ := p
      rw [List.drop_length] at hpl
      cases ps' with
      | cons _ _ => exact hpl.elim
      | nil =>
      have hpl : v = v' := hpl
      subst hpl
      rw [List.append_nil] at eps
      subst eps
      have J := join_parts (K := K) l (by omega)
      refine ⟨⟨_, rfl⟩, _, rfl, "", L, ps.map sg, rfl, rfl, J.1, J.2, ?_⟩
      rw [joinE]
      refine ⟨_, rfl, (by decide : 2 ≤ sizeLine), fun t1 ht1 => ?_⟩
      have d1 := tup_new (.cons (.text (tx ps)) (.cons av .nil)) ht1
      exact k _ _ ((g1.trans g).trans (Grow.new ht1)) d1
end
end K81

namespace K81
open PySem PySem.Spec PyProof.Rows L2
/-! # x in o, o an instance with the text's own __contains__ -/
def rInOwn (C : Addr) (sp : Sp) (E : XK) : R2 := fun x y H Q => ∃ p dx fs, y = .ref p ∧ H p = some (.ins C dx fs) ∧ sp [.ref p, x] H (fun v H' => ∃ b, v = .bl b ∧ Q (.bl b) H') E
theorem op_inOwn {X : Cx} {CX : CXT} {k : Nat} {C f : Addr} {fd : FuncData} {ps : List Str} {sp : Sp} {E : XK} (hm : Meth X.K C "__contains__" f) (F : FnOk X.prog X.w X.K X.mg X.base CX k f fd ps sp) (hr : Room k X.A) (hb : Binds X.K fd ps []) (hx : Passes CX X E) :
    OpR X (compareOp .In) (rInOwn C sp E) := by
  intro pins s σ H x y v u Q I rx ry hq
  obtain ⟨p, dx, fs, rfl, hp, q⟩ := hq
  cases ry
  obtain ⟨mA, J, _⟩ := ins_get I.hok hp
  obtain ⟨od, J, _⟩ := J.look
  obtain ⟨m, hF⟩ := I.fr
  refine PySem.W.in_K hF I.ok.mod.kin J hm.at_ hm.fn ?_
  refine thn (run_fn (us := [.ref p, v]) (vs := [.ref p, x]) F hr hb .nil hx I (.cons rfl (.cons rx .nil)) (by rw [List.append_nil]; exact q)) fun r s' hz => ?_
  obtain ⟨z, H', I', rz, b, rfl, qz⟩ := hz
  cases rz
  exact wpAny_truthy_bool ⟨.bl b, H', I', rfl, qz⟩
end K81

namespace K81
open PySem PySem.Spec PyProof.Rows L2
/-! # Slips -/
abbrev Slip := Nat × Nat
def sMis : Str := ("mistaken" : Str)
def slipD (s : Slip) : D := .tup [.text sMis, .num (s.1 : Nat), .text (sg s.2)]
theorem slipD_inj (a b : Slip) (h : slipD a = slipD b) : a = b := by
  unfold slipD at h
  injection h with h
  injection h with _ h
  injection h with h1 h
  injection h with h2 h
  injection h1 with h1
  injection h2 with h2
  have e1 := Int.ofNat.inj h1
  have e2 := sg_inj h2
  cases a
  cases b
  simp only at e1 e2
  rw [e1, e2]
def mkD (k : Nat) : D := .tup [.text sMis, .num (k : Nat)]
theorem mkD_inj (a b : Nat) (h : mkD a = mkD b) : a = b := by
  unfold mkD at h
  injection h with h
  injection h with _ h
  injection h with h _
  injection h with h
  exact Int.ofNat.inj h
theorem dep_mk (k : Nat) : (mkD k).depth ≤ 8 := by
  unfold mkD
  simp [NestedKey.depth, NestedKey.depthAll]
/-- what a slip may be -/
structure SlOk (ls cs : List Nat) (s : Slip) : Prop where
  lt : s.1 < cs.length
  mem : s.2 ∈ ls
  ne : cs[s.1]? ≠ some s.2
section
variable {P : Program} {w : World} {K : PySem.W.Frag} {mg : Str → Option Value} {base : Heap}
def sp_check_calling : Sp := fun vs H Q _ => ∃ p W ls cs, vs = [.ref p, .str (tx cs)] ∧ MAt H p W ls ∧ (∀ c ∈ cs, c ∈ ls) ∧ cs.length ≤ 400 ∧ ∀ H', Grow No H H' → Q .non H'
abbrev N_check_calling : List Str := ["method", "calling", "number", "letter"]
theorem sc_check_calling : FnScope ["method", "calling", "number", "letter"] ["method", "calling"] (defScope s_check_calling) := ⟨rfl, rfl, rfl, by decide +kernel, rfl, by decide +kernel, by decide +kernel⟩
theorem bd_check_calling (T : Txt K mg) : Binds K (fdOf K a_check_calling) ["method", "calling"] [] := FunD.bindsN T.F_check_calling fun _ _ _ _ _ _ us hl => match us, hl with | [_, _], _ => rfl
theorem ok_check_calling (T : Txt K mg) : FnOk P w K mg base CX0 1 a_check_calling (fdOf K a_check_calling) ["method", "calling"] (sp_check_calling) := by
  refine ok0 T.F_check_calling sc_check_calling (fun vs H Q E h => ?_) (fun cdv A outer s H vs Q E hr h => ?_)
  · obtain ⟨p, W, ls, cs, rfl, m, hc, hlen, k⟩ := h
    rfl
  · obtain ⟨p, W, ls, cs, rfl, m, hc, hlen, k⟩ := h
    have hU := hr.units
    have hu := hu_of hr
    obtain ⟨⟨dx, fs, vpl, vca, vop, aL, vro, aM, aB, l1, l2, e, f1, f2, f3, f4, f5, f6, f7, f8, f9, f10, f11, a1, a2, t1, t2, t3, m1, m2⟩, lts, ok⟩ := m
    refine ⟨_, (pss_cons (ps_if (PW.pt (pw_or (pt_not (pt_val (pe_callB call_isK (by rfl) T.z_isinstance (by decide +kernel) (pa_cons (pv 1) (pa_cons (pe_bltn (v := .ty "str") rfl T.z_str (by decide +kernel) rfl) pa_nil))))) (pw_or1 (pt_cmpR op_gt (pe_callB call_len_str (by rfl) T.z_len PySem.boot_len (pa_cons (pv 1) pa_nil)) pe_int (nomark _))))) (pss_one ps_never) pss_nil)
      (pss_one (ps_for PassesOwn.never rfl (pi_enumS (by rfl) T.z_enumerate (pa_cons (pv 1) pa_nil)) (pg_tup rfl (pgs_cons (pg_name (i := 2) sc_check_calling.nd rfl (Or.inl rfl)) (pgs_cons (pg_name (i := 3) sc_check_calling.nd rfl (Or.inl rfl)) pgs_nil))) (pss_one (ps_if (pt_cmp (pc_dnotin hu (pv 3) (pe_fld (pv 0) rfl))) (pss_one ps_never) pss_nil))))), ?_⟩
    refine ⟨_, rfl, _, .text _, _, true, rfl, .text _, kt_ss, _, rfl, ?_⟩
    refine iteF' rfl ?_
    refine ⟨_, rfl, _, rfl, by rw [tx_len]; exact Nat.le_of_lt (szL (by omega)), _, _, rfl, rfl, _, rfl, ?_⟩
    rw [tx_len]
    refine iteF' (K81.dF (by omega)) ?_
    refine ⟨_, rfl, _, rfl, ?_⟩
    refine for_pre (walk_enumS (l := cs)) cs rfl (fun pre σ H' => Grow No H H' ∧ ∃ (t1 t2 : Option V), σ = [some (.ref p), some (.str (tx cs)), t1, t2]) ⟨Grow.refl _, _, _, rfl⟩ (fun _ _ _ _ => trivial) (fun pre c post y σ H2 H3 ec q hy => ?_) fun σ H2 q => ?_
    · obtain ⟨g, u1, u2, rfl⟩ := q
      obtain ⟨T', c', rfl, hT, rfl, e1⟩ := hy
      have e2 : c' = c := by
        rw [ec, List.getElem?_append_right (Nat.le_refl _), Nat.sub_self] at e1
        exact (Option.some.inj e1).symm
      subst e2
      have gT : Grow No H2 (upd H2 T' (.tup [.int (pre.length : Nat), .str (sg c')])) := Grow.new hT
      refine ⟨T', _, rfl, SqT.of upd_same, rfl, _, _, rfl, _, _, rfl, rfl, ?_⟩
      generalize upd H2 T' (.tup [.int (pre.length : Nat), .str (sg c')]) = H4 at gT
      have hcl : c' ∈ ls := hc c' (by rw [ec]; simp)
      obtain ⟨o, ho, hs⟩ := (t2.growN (g.trans gT)).has c'
      refine ⟨_, rfl, _, rfl, p, c_Method, dx, fs, _, rfl, (g.trans gT).oN e, T.cl_Method, T.n_Method_moves, f7, aM, o, rfl, ho, _, rfl, ?_⟩
      refine iteF' (by rw [hs, decide_eq_true ((m2 c').mpr hcl)]; rfl) ?_
      exact ⟨g.trans gT, _, _, rfl⟩
    · exact k H2 q.1
def sp_is_slip : Sp := fun vs H Q _ => ∃ x p W ls cs s, vs = [x, .ref p, .str (tx cs)] ∧ MAt H p W ls ∧ At H (slipD s) x ∧ SlOk ls cs s ∧ cs.length ≤ 400 ∧ Q (.bl true) H
abbrev N_is_slip : List Str := ["thing", "method", "calling"]
theorem sc_is_slip : FnScope ["thing", "method", "calling"] ["thing", "method", "calling"] (defScope s_is_slip) := ⟨rfl, rfl, rfl, by decide +kernel, rfl, by decide +kernel, by decide +kernel⟩
theorem bd_is_slip (T : Txt K mg) : Binds K (fdOf K a_is_slip) ["thing", "method", "calling"] [] := FunD.bindsN T.F_is_slip fun _ _ _ _ _ _ us hl => match us, hl with | [_, _, _], _ => rfl
theorem ok_is_slip (T : Txt K mg) : FnOk P w K mg base CX0 4 a_is_slip (fdOf K a_is_slip) ["thing", "method", "calling"] (sp_is_slip) := by
  refine ok0 T.F_is_slip sc_is_slip (fun vs H Q E h => ?_) (fun cdv A outer s H vs Q E hr h => ?_)
  · obtain ⟨x, p, W, ls, cs, s, rfl, m, hx, ok, hlen, k⟩ := h
    rfl
  · obtain ⟨x, p, W, ls, cs, s, rfl, m, hx, ok, hlen, k⟩ := h
    have hU := hr.units
    have hu := hu_of hr
    refine ⟨_, (pss_cons (ps_if (PW.pt (pw_or (pt_not (pt_val (pe_callB call_isK (by rfl) T.z_isinstance (by decide +kernel) (pa_cons (pv 0) (pa_cons (pe_bltn (v := .ty "tuple") rfl T.z_tuple (by decide +kernel) rfl) pa_nil))))) (pw_or (pt_cmpR op_lt (pe_callB call_lenK (by rfl) T.z_len PySem.boot_len (pa_cons (pv 0) pa_nil)) pe_int (nomark _)) (pw_or1 (pt_not (pt_val (pe_callB call_isK (by rfl) T.z_isinstance (by decide +kernel) (pa_cons (pe_ix ix_tupK (pv 0) pe_int (fun _ _ => rfl)) (pa_cons (pe_bltn (v := .ty "str") rfl T.z_str (by decide +kernel) rfl) pa_nil))))))))) (pss_one (ps_ret pe_bl)) pss_nil)
      (pss_cons (ps_if (pt_not (pt_val (pe_call (ok_is_integer T) (hr.mono (by decide)) (by rfl) T.g_is_integer T.F_is_integer.kp (bd_is_integer T) .nil pass0 (pa_cons (pe_ix ix_tupK (pv 0) pe_int (fun _ _ => rfl)) (pa_cons pe_int (pa_cons (pe_op op_sub (pe_callB call_len_str (by rfl) T.z_len PySem.boot_len (pa_cons (pv 2) pa_nil)) pe_int) pa_nil)))))) (pss_one (ps_ret pe_bl)) pss_nil)
      (pss_cons (ps_if (pt_cmpR op_eq (pe_ix ix_tupK (pv 0) pe_int (fun _ _ => rfl)) pe_str (nomark _)) (pss_one (ps_ret (pe_and (pe_cmpR op_eq (pe_callB call_lenK (by rfl) T.z_len PySem.boot_len (pa_cons (pv 0) pa_nil)) pe_int (nomark _)) (pe_and (pe_cmpR (op_inOwn T.m_Method_contains (ok_Method_contains T) (hr.mono (by decide)) (bd_Method_contains T) pass0) (pe_ix ix_tupK (pv 0) pe_int (fun _ _ => rfl)) (pv 1) (by rfl)) (pe_one (pe_cmpR op_ne (pe_ix ix_tupK (pv 0) pe_int (fun _ _ => rfl)) (pe_ix ix_str (pv 2) (pe_ix ix_tupK (pv 0) pe_int (fun _ _ => rfl)) (fun _ _ => rfl)) (nomark _))))))) pss_nil)
      (pss_cons (ps_if (pt_cmpR op_ne (pe_callB call_lenK (by rfl) T.z_len PySem.boot_len (pa_cons (pv 0) pa_nil)) pe_int (nomark _)) (pss_one (ps_ret pe_bl)) pss_nil)
      (pss_cons (ps_if (pt_cmpR op_eq (pe_ix ix_tupK (pv 0) pe_int (fun _ _ => rfl)) pe_str (nomark _)) (pss_one ps_never) pss_nil)
      (pss_one ps_never)))))), ?_⟩
    refine ⟨_, rfl, _, _, _, true, rfl, hx, kt_tt, _, rfl, ?_⟩
    refine iteF' rfl ?_
    refine ⟨_, rfl, _, _, rfl, .inl hx, _, _, rfl, rfl, _, rfl, ?_⟩
    refine iteF' rfl ?_
    refine ⟨_, rfl, _, _, 0, _, hx, rfl, ix30, rfl, fun v1 av1 => ?_⟩
    cases av1
    refine ⟨_, .text _, _, true, rfl, .text _, kt_ss, _, rfl, ?_⟩
    refine iteF' rfl ?_
    refine ⟨_, rfl, _, _, 1, _, hx, rfl, ix31, rfl, fun v2 av2 => ?_⟩
    cases av2
    have hlt := ok.lt
    refine ⟨_, rfl, _, rfl, by rw [tx_len]; exact Nat.le_of_lt (szL (by omega)), _, _, rfl, rfl, _, _, _, rfl, ?_⟩
    rw [tx_len]
    refine ⟨_, rfl, ?_⟩
    refine iteF' (nF ⟨by omega, by omega⟩) ?_
    refine ⟨_, rfl, _, _, 0, _, hx, rfl, ix30, rfl, fun v1 av1 => ?_⟩
    cases av1
    refine ⟨rfl, _, rfl, ?_⟩
    refine iteT' (by decide) ?_
    refine ⟨_, rfl, _, _, rfl, .inl hx, rfl, _, rfl, ?_⟩
    refine iteT' rfl ?_
    refine ⟨_, rfl, _, _, 2, _, hx, rfl, ix32, rfl, fun v1 av1 => ?_⟩
    cases av1
    obtain ⟨dx, fs, em⟩ := m.ins
    refine ⟨_, rfl, p, dx, fs, rfl, em, p, W, ls, s.2, rfl, m, ok.mem, _, rfl, _, rfl, ?_⟩
    refine iteT' rfl ?_
    refine ⟨_, rfl, _, _, 2, _, hx, rfl, ix32, rfl, fun v1 av1 => ?_⟩
    cases av1
    refine ⟨_, rfl, ?_⟩
    refine ⟨_, rfl, _, _, 1, _, hx, rfl, ix31, rfl, fun v2 av2 => ?_⟩
    cases av2
    have hg : cs[s.1]? = some cs[s.1] := List.getElem?_eq_getElem hlt
    refine ⟨tx cs, (s.1 : Nat), cs[s.1], rfl, rfl, by rw [tx_len]; exact Nat.le_of_lt (szL (by omega)), ?_, ?_⟩
    · unfold atI
      have el : (tx cs).cps.toList = cs := by simp [tx]
      rw [el, ixN_of (j := s.1) ⟨hlt, .inl rfl⟩]
      exact hg
    show rNe (V.str (sg s.2)) (V.str (sg cs[s.1])) H Q
    refine ⟨rfl, ?_⟩
    have hne : ¬ s.2 = cs[s.1] := fun z => ok.ne (by rw [hg, z])
    rw [sg_dec, nT hne]
    exact k
def sp_mark_of : Sp := fun vs H Q _ => ∃ x s, vs = [x] ∧ At H (slipD s) x ∧ ∀ H' v, Grow No H H' → At H' (mkD s.1) v → Q v H'
abbrev N_mark_of : List Str := ["slip"]
theorem sc_mark_of : FnScope ["slip"] ["slip"] (defScope s_mark_of) := ⟨rfl, rfl, rfl, by decide +kernel, rfl, by decide +kernel, by decide +kernel⟩
theorem bd_mark_of (T : Txt K mg) : Binds K (fdOf K a_mark_of) ["slip"] [] := FunD.bindsN T.F_mark_of fun _ _ _ _ _ _ us hl => match us, hl with | [_], _ => rfl
theorem ok_mark_of (T : Txt K mg) : FnOk P w K mg base CX0 1 a_mark_of (fdOf K a_mark_of) ["slip"] (sp_mark_of) := by
  refine ok0 T.F_mark_of sc_mark_of (fun vs H Q E h => ?_) (fun cdv A outer s H vs Q E hr h => ?_)
  · obtain ⟨x, s, rfl, hx, k⟩ := h
    rfl
  · obtain ⟨x, s, rfl, hx, k⟩ := h
    have hU := hr.units
    have hu := hu_of hr
    refine ⟨_, (pss_cons (ps_if (pt_cmpR op_eq (pe_ix ix_tupK (pv 0) pe_int (fun _ _ => rfl)) pe_str (nomark _)) (pss_one (ps_ret (pe_slice sl_takeK (pv 0) po_none (po_some pe_int)))) pss_nil)
      (pss_one ps_never)), ?_⟩
    refine ⟨_, rfl, _, _, 0, _, hx, rfl, ix30, rfl, fun v1 av1 => ?_⟩
    cases av1
    refine ⟨rfl, _, rfl, ?_⟩
    refine iteT' (by decide) ?_
    exact ⟨_, rfl, _, rfl, _, 2, hx, rfl, rfl, fun H' v g a => k H' v g a⟩
def sp_check_slips (P : Program) (w : World) : Sp := fun vs H Q _ => ∃ p x W ls cs, ∃ sl : List Slip, vs = [.ref p, .str (tx cs), x] ∧ MAt H p W ls ∧ At H (.tup (sl.map slipD)) x ∧ (∀ s ∈ sl, SlOk ls cs s) ∧ sl.Pairwise (fun a b => a.1 < b.1) ∧ cs.length ≤ 400 ∧ sl.length ≤ 20 ∧ ∀ H', Grow No H H' → Q .non H'
abbrev N_check_slips : List Str := ["method", "calling", "slips", "last", "there", "number", "slip"]
theorem sc_check_slips : FnScope ["method", "calling", "slips", "last", "there", "number", "slip"] ["method", "calling", "slips"] (defScope s_check_slips) := ⟨rfl, rfl, rfl, by decide +kernel, rfl, by decide +kernel, by decide +kernel⟩
theorem bd_check_slips (T : Txt K mg) : Binds K (fdOf K a_check_slips) ["method", "calling", "slips"] [] := FunD.bindsN T.F_check_slips fun _ _ _ _ _ _ us hl => match us, hl with | [_, _, _], _ => rfl
theorem ok_check_slips (T : Txt K mg) : FnOk P w K mg base CX0 5 a_check_slips (fdOf K a_check_slips) ["method", "calling", "slips"] (sp_check_slips P w) := by
  refine ok0 T.F_check_slips sc_check_slips (fun vs H Q E h => ?_) (fun cdv A outer s H vs Q E hr h => ?_)
  · obtain ⟨p, x, W, ls, cs, sl, rfl, m, hx, ok, pw, hlen, hsl, k⟩ := h
    rfl
  · obtain ⟨p, x, W, ls, cs, sl, rfl, m, hx, ok, pw, hlen, hsl, k⟩ := h
    have hU := hr.units
    have hu := hu_of hr
    obtain ⟨tS, h_MOST_SLIPS⟩ := T.i_MOST_SLIPS
    refine ⟨_, (pss_cons (ps_if (pt_not (pt_val (pe_callB call_isK (by rfl) T.z_isinstance (by decide +kernel) (pa_cons (pv 2) (pa_cons (pe_bltn (v := .ty "tuple") rfl T.z_tuple (by decide +kernel) rfl) pa_nil))))) (pss_one ps_never) pss_nil)
      (pss_cons (ps_set (i := 3) sc_check_slips.nd rfl (Or.inl rfl) pe_int)
      (pss_cons (ps_set (i := 4) sc_check_slips.nd rfl (Or.inl rfl) pe_newN)
      (pss_cons (ps_for PassesOwn.never rfl (pi_enumT (by rfl) T.z_enumerate (pa_cons (pv 2) pa_nil)) (pg_tup rfl (pgs_cons (pg_name (i := 5) sc_check_slips.nd rfl (Or.inl rfl)) (pgs_cons (pg_name (i := 6) sc_check_slips.nd rfl (Or.inl rfl)) pgs_nil))) (pss_cons (ps_if (PW.pt (pw_or (pt_not (pt_val (pe_call (ok_is_slip T) (hr.mono (by decide)) (by rfl) T.g_is_slip T.F_is_slip.kp (bd_is_slip T) .nil pass0 (pa_cons (pv 6) (pa_cons (pv 0) (pa_cons (pv 1) pa_nil)))))) (pw_or (pt_cmpR op_lt (pe_ix ix_tupK (pv 6) pe_int (fun _ _ => rfl)) (pv 3) (nomark _)) (pw_or1 (pt_cmpR (op_inN hU) (pe_call (ok_mark_of T) (hr.mono (by decide)) (by rfl) T.g_mark_of T.F_mark_of.kp (bd_mark_of T) .nil pass0 (pa_cons (pv 6) pa_nil)) (pv 4) (by rfl)))))) (pss_one ps_never) pss_nil)
      (pss_cons (ps_set (i := 3) sc_check_slips.nd rfl (Or.inl rfl) (pe_ix ix_tupK (pv 6) pe_int (fun _ _ => rfl)))
      (pss_one (ps_if (pt_cmpR op_ne (pe_ix ix_tupK (pv 6) pe_int (fun _ _ => rfl)) pe_str (nomark _)) (pss_one (ps_asg pe_bl (pg_sub (pv 4) (pe_call (ok_mark_of T) (hr.mono (by decide)) (by rfl) T.g_mark_of T.F_mark_of.kp (bd_mark_of T) .nil pass0 (pa_cons (pv 6) pa_nil)) (set_dN hU)))) pss_nil)))))
      (pss_one (ps_if (pt_cmpR op_gt (pe_callB call_lenK (by rfl) T.z_len PySem.boot_len (pa_cons (pv 2) pa_nil)) (pe_glob (v := .int 20) rfl h_MOST_SLIPS ⟨_, rfl⟩) (nomark _)) (pss_one ps_never) pss_nil)))))), ?_⟩
    obtain ⟨a, vs, rfl, h1, h2⟩ := hx.ref
    refine ⟨_, rfl, _, _, _, true, rfl, hx, kt_tt, _, rfl, ?_⟩
    refine iteF' rfl ?_
    refine fun d hd φ dn => ?_
    have g0 : Grow No H (upd H d (.ext φ)) := Grow.new hd
    generalize upd H d (.ext φ) = H0 at g0 dn
    refine ⟨_, rfl, a, vs, rfl, g0.oN h1, ?_⟩
    refine for_pre walk_enumT (sl.map slipD) rfl (fun pre σ H' => Grow No H H' ∧ ∃ (q : List Slip) (l : Int) (t1 t2 : Option V), pre = q.map slipD ∧ σ = [some (.ref p), some (.str (tx cs)), some (.ref a), some (.int l), some (.ref d), t1, t2] ∧ DN P w H' d (kvF mkD (fun _ => V.bl true) (q.map Prod.fst)) ∧ ∀ s : Slip, (∀ b ∈ q, b.1 < s.1) → l ≤ (s.1 : Nat)) ⟨g0, [], 0, none, none, rfl, rfl, dn, fun s _ => by omega⟩ (fun pre σ H' p => p.1.at hx) (fun pre z post y σ H2 H3 e q hy => ?_) fun σ H2 q => ?_
    · obtain ⟨g, q, l, t1, t2, rfl, rfl, dn, hl⟩ := q
      obtain ⟨T', x', k', rfl, hT, rfl, e1, ax⟩ := hy
      have e2 := at_mid e e1
      subst e2
      obtain ⟨q', s, r, ep, e3, rfl, rfl⟩ := map_mid e
      have e3 : q = q' := map_inj slipD_inj e3
      subst e3
      have hs : s ∈ sl := by rw [ep]; simp
      have hlast : ∀ b ∈ q, b.1 < s.1 := by
        rw [ep, List.pairwise_append] at pw
        exact fun b hb => pw.2.2 b hb s (List.mem_cons_self ..)
      have hql : q.length ≤ 20 := by
        have := congrArg List.length ep
        rw [List.length_append] at this
        omega
      have hnq : s.1 ∉ q.map Prod.fst := fun z => by
        obtain ⟨b, hb, eb⟩ := List.mem_map.mp z
        have := hlast b hb
        omega
      have gT : Grow No H2 (upd H2 T' (.tup [.int ((q.map slipD).length : Nat), x'])) := Grow.new hT
      refine ⟨T', _, rfl, SqT.of upd_same, rfl, _, _, rfl, _, _, rfl, rfl, ?_⟩
      have ax4 := gT.at ax
      generalize upd H2 T' (.tup [.int ((q.map slipD).length : Nat), x']) = H4 at gT ax4
      have g4 := g.trans gT
      refine ⟨_, rfl, _, rfl, _, rfl, x', p, W, ls, cs, s, rfl, m.hard g4.hard, ax4, ok s hs, hlen, ?_⟩
      refine ⟨_, rfl, ?_⟩
      refine iteF' rfl ?_
      refine ⟨_, rfl, _, _, 1, _, ax4, rfl, ix31, rfl, fun v2 av2 => ?_⟩
      cases av2
      refine ⟨_, rfl, _, _, rfl, rfl, _, rfl, ?_⟩
      refine iteF' (K81.dF (by have := hl s hlast; omega)) ?_
      refine ⟨_, rfl, x', s, rfl, ax4, fun H5 v5 g5 a5 => ?_⟩
      obtain ⟨b5, _, rfl, _, _⟩ := id a5.ref
      refine ⟨_, rfl, b5, d, _, mkD s.1, rfl, rfl, (dn.growN gT).growN g5, a5, dep_mk _, _, rfl, ?_⟩
      refine iteF' (by simp [kvF_no mkD_inj hnq]) ?_
      have ax5 := g5.at ax4
      refine ⟨_, rfl, _, _, 1, _, ax5, rfl, ix31, rfl, fun v2 av2 => ?_⟩
      cases av2
      refine ⟨_, rfl, _, _, 0, _, ax5, rfl, ix30, rfl, fun v1 av1 => ?_⟩
      cases av1
      refine ⟨rfl, _, rfl, ?_⟩
      refine iteT' (by decide) ?_
      refine ⟨_, rfl, _, rfl, x', s, rfl, ax5, fun H6 v6 g6 a6 => ?_⟩
      obtain ⟨b6, _, rfl, _, _⟩ := id a6.ref
      have dn6 := ((dn.growN gT).growN g5).growN g6
      refine ⟨b6, d, _, mkD s.1, rfl, rfl, dn6, a6, dep_mk _, szL (by rw [kvF_len, List.length_map]; omega), fun ψ dn8 => ?_⟩
      have g8 := dn6.putG ψ
      refine ⟨((g4.trans g5).trans g6).loc g8 hd, q ++ [s], (s.1 : Nat), _, _, by rw [List.map_append]; rfl, rfl, ?_, fun s' hs' => ?_⟩
      · rw [kvF_new mkD_inj hnq] at dn8
        rw [List.map_append]
        rw [kvF_congr (f' := fun _ => V.bl true) (fun x _ => by unfold fupd; split <;> rfl)] at dn8
        exact dn8
      · have := hs' s (by simp)
        omega
    · obtain ⟨g, q, l, t1, t2, _, rfl, dn, hl⟩ := q
      refine ⟨_, rfl, _, _, rfl, .inl (g.at hx), _, _, rfl, rfl, _, rfl, ?_⟩
      rw [List.length_map]
      refine iteF' (K81.dF (by omega)) ?_
      exact k H2 g
def sp_head_rung : Sp := fun vs H Q _ => ∃ v L, ∃ sl : List Slip, vs = [v, .ref L] ∧ Ls H L (sl.map slipD) ∧ Q v H
abbrev N_head_rung : List Str := ["row", "slips", "slip"]
theorem sc_head_rung : FnScope ["row", "slips", "slip"] ["row", "slips"] (defScope s_head_rung) := ⟨rfl, rfl, rfl, by decide +kernel, rfl, by decide +kernel, by decide +kernel⟩
theorem bd_head_rung (T : Txt K mg) : Binds K (fdOf K a_head_rung) ["row", "slips"] [] := FunD.bindsN T.F_head_rung fun _ _ _ _ _ _ us hl => match us, hl with | [_, _], _ => rfl
theorem ok_head_rung (T : Txt K mg) : FnOk P w K mg base CX0 2 a_head_rung (fdOf K a_head_rung) ["row", "slips"] (sp_head_rung) := by
  refine ok0 T.F_head_rung sc_head_rung (fun vs H Q E h => ?_) (fun cdv A outer s H vs Q E hr h => ?_)
  · obtain ⟨v, L, sl, rfl, l, k⟩ := h
    rfl
  · obtain ⟨v, L, sl, rfl, l, k⟩ := h
    have hU := hr.units
    have hu := hu_of hr
    refine ⟨_, (pss_cons (ps_for PassesOwn.never rfl (pi_list (pv 1)) (pg_name (i := 2) sc_head_rung.nd rfl (Or.inl rfl)) (pss_one (ps_if (pt_cmpR op_eq (pe_ix ix_tupK (pv 2) pe_int (fun _ _ => rfl)) pe_str (nomark _)) (pss_one ps_never) pss_nil)))
      (pss_one (ps_ret (pv 0)))), ?_⟩
    obtain ⟨lv, el, _⟩ := id l
    refine ⟨_, rfl, _, rfl, ⟨_, SqL.of el⟩, ?_⟩
    refine for_lstK (ks := sl.map slipD) (fun pre σ H' => H' = H ∧ ∃ (t1 : Option V), σ = [some v, some (.ref L), t1]) ⟨rfl, _, rfl⟩ (fun pre σ H' p => p.1 ▸ l) (fun pre z post y σ H2 e q hy => ?_) fun σ H2 q => ?_
    · obtain ⟨rfl, t1, rfl⟩ := q
      obtain ⟨q', s, r, ep, rfl, rfl, rfl⟩ := map_mid e
      refine ⟨_, rfl, _, _, 0, _, hy, rfl, ix30, rfl, fun v1 av1 => ?_⟩
      cases av1
      refine ⟨rfl, _, rfl, ?_⟩
      refine iteF' (by decide) ?_
      exact ⟨rfl, _, rfl⟩
    · obtain ⟨rfl, t1, rfl⟩ := q
      exact ⟨_, rfl, k⟩
/-- the letter rung -/
def rungOf (sl : List Slip) (c : Nat) : Nat := sl.foldl (fun _ s => s.2) c
theorem rungOf_snoc (sl : List Slip) (s : Slip) (c : Nat) : rungOf (sl ++ [s]) c = s.2 := by
  unfold rungOf
  rw [List.foldl_append]
  rfl
def sp_lead_rung : Sp := fun vs H Q _ => ∃ p W ls c L, ∃ sl : List Slip, vs = [.ref p, .str (sg c), .ref L] ∧ MAt H p W ls ∧ Ls H L (sl.map slipD) ∧ rungOf sl c ∈ ls ∧ ∀ H' L', Grow No H H' → H L' = none → Ls H' L' (rws (leadOf W (rungOf sl c))) → Q (.ref L') H'
abbrev N_lead_rung : List Str := ["method", "letter", "slips", "rung", "slip", "lead"]
theorem sc_lead_rung : FnScope ["method", "letter", "slips", "rung", "slip", "lead"] ["method", "letter", "slips"] (defScope s_lead_rung) := ⟨rfl, rfl, rfl, by decide +kernel, rfl, by decide +kernel, by decide +kernel⟩
theorem bd_lead_rung (T : Txt K mg) : Binds K (fdOf K a_lead_rung) ["method", "letter", "slips"] [] := FunD.bindsN T.F_lead_rung fun _ _ _ _ _ _ us hl => match us, hl with | [_, _, _], _ => rfl
theorem ok_lead_rung (T : Txt K mg) : FnOk P w K mg base CX0 3 a_lead_rung (fdOf K a_lead_rung) ["method", "letter", "slips"] (sp_lead_rung) := by
  refine ok0 T.F_lead_rung sc_lead_rung (fun vs H Q E h => ?_) (fun cdv A outer s H vs Q E hr h => ?_)
  · obtain ⟨p, W, ls, c, L, sl, rfl, m, l, hc, k⟩ := h
    rfl
  · obtain ⟨p, W, ls, c, L, sl, rfl, m, l, hc, k⟩ := h
    have hU := hr.units
    have hu := hu_of hr
    refine ⟨_, (pss_cons (ps_set (i := 3) sc_lead_rung.nd rfl (Or.inl rfl) (pv 1))
      (pss_cons (ps_for PassesOwn.never rfl (pi_list (pv 2)) (pg_name (i := 4) sc_lead_rung.nd rfl (Or.inl rfl)) (pss_one (ps_if (pt_cmpR op_eq (pe_ix ix_tupK (pv 4) pe_int (fun _ _ => rfl)) pe_str (nomark _)) (pss_one (ps_set (i := 3) sc_lead_rung.nd rfl (Or.inl rfl) (pe_ix ix_tupK (pv 4) pe_int (fun _ _ => rfl)))) pss_nil)))
      (pss_cons (ps_set (i := 5) sc_lead_rung.nd rfl (Or.inl rfl) (pe_callTy call_lstK (by rfl) T.z_list (by decide +kernel) (pa_cons (pe_meth (pv 0) T.cl_Method T.m_Method_lead (ok_Method_lead T) (hr.mono (by decide)) (bd_Method_lead T) .nil pass0 (pa_cons (pv 3) pa_nil)) pa_nil)))
      (pss_cons (ps_for PassesOwn.never rfl (pi_list (pv 2)) (pg_name (i := 4) sc_lead_rung.nd rfl (Or.inl rfl)) (pss_one (ps_if (pt_cmpR op_eq (pe_ix ix_tupK (pv 4) pe_int (fun _ _ => rfl)) pe_str (nomark _)) (pss_one ps_never) pss_nil)))
      (pss_one (ps_ret (pv 5))))))), ?_⟩
    obtain ⟨lv, el, _⟩ := id l
    refine ⟨_, rfl, ?_⟩
    refine ⟨_, rfl, _, rfl, ⟨_, SqL.of el⟩, ?_⟩
    refine for_lstK (ks := sl.map slipD) (fun pre σ H' => H' = H ∧ ∃ (q : List Slip) (t1 t2 : Option V), pre = q.map slipD ∧ σ = [some (.ref p), some (.str (sg c)), some (.ref L), some (.str (sg (rungOf q c))), t1, t2]) ⟨rfl, [], _, _, rfl, rfl⟩ (fun pre σ H' p => p.1 ▸ l) (fun pre z post y σ H2 e q hy => ?_) fun σ H2 q => ?_
    · obtain ⟨rfl, q, t1, t2, rfl, rfl⟩ := q
      obtain ⟨q', s, r, ep, e3, rfl, rfl⟩ := map_mid e
      refine ⟨_, rfl, _, _, 0, _, hy, rfl, ix30, rfl, fun v1 av1 => ?_⟩
      cases av1
      refine ⟨rfl, _, rfl, ?_⟩
      refine iteT' (by decide) ?_
      refine ⟨_, rfl, _, _, 2, _, hy, rfl, ix32, rfl, fun v2 av2 => ?_⟩
      cases av2
      exact ⟨rfl, q ++ [s], _, _, by rw [List.map_append]; rfl, by rw [rungOf_snoc]; rfl⟩
    obtain ⟨rfl, q, t1, t2, e, rfl⟩ := q
    have e : sl = q := map_inj slipD_inj e
    subst e
    have m0 := m
    obtain ⟨⟨dx, fs, vpl, vca, vop, aL, vro, aM, aB, l1, l2, em, f1, f2, f3, f4, f5, f6, f7, f8, f9, f10, f11, a1, a2, t1, t2, t3, m1, m2⟩, lts, ok⟩ := m
    refine ⟨_, rfl, p, dx, fs, rfl, em, f10, _, rfl, p, W, ls, _, rfl, m0, hc, fun v av => ?_⟩
    refine ⟨v, _, rfl, .inl av, fun H1 L1 hL1 g1 r1 => ?_⟩
    have l1 := l.growN g1
    obtain ⟨lv1, el1, _⟩ := id l1
    refine ⟨_, rfl, _, rfl, ⟨_, SqL.of el1⟩, ?_⟩
    refine for_lstK (ks := sl.map slipD) (fun pre σ H' => H' = H1 ∧ ∃ (t1 : Option V), σ = [some (.ref p), some (.str (sg c)), some (.ref L), some (.str (sg (rungOf sl c))), t1, some (.ref L1)]) ⟨rfl, _, rfl⟩ (fun pre σ H' p => p.1 ▸ l1) (fun pre z post y σ H3 e q hy => ?_) fun σ H3 q => ?_
    · obtain ⟨rfl, t1, rfl⟩ := q
      obtain ⟨q', s, r, ep, e3, rfl, rfl⟩ := map_mid e
      refine ⟨_, rfl, _, _, 0, _, hy, rfl, ix30, rfl, fun v1 av1 => ?_⟩
      cases av1
      refine ⟨rfl, _, rfl, ?_⟩
      refine iteF' (by decide) ?_
      exact ⟨rfl, _, rfl⟩
    · obtain ⟨rfl, t1, rfl⟩ := q
      exact ⟨_, rfl, k H3 L1 g1 hL1 r1⟩
end
end K81

namespace K81
open PySem PySem.Spec PyProof.Rows L2
/-! # Ringings -/
theorem tms_assoc {r m c : Row} (h : In1 m.length c) : tms (tms r m) c = tms r (tms m c) := by
  unfold tms
  rw [List.map_map]
  refine List.map_congr_left fun i hi => ?_
  have hi := h i hi
  have hl : i.toNat - 1 < m.length := by omega
  show (m.map _).getD (i.toNat - 1) 0 = r.getD ((m.getD (i.toNat - 1) 0).toNat - 1) 0
  rw [List.getD_eq_getElem?_getD, List.getElem?_map, List.getD_eq_getElem?_getD (l := m), List.getElem?_eq_getElem hl]
  rfl
theorem behind_tms {n : Nat} (b : Bells n) (r : Row) : ∀ {cs : List Row} {m : Row}, m ∈ PU n → (∀ c ∈ cs, c ∈ chgs n) → behind n (tms r m) cs = tms r (behind n m cs)
  | [], _, _, _ => rfl
  | c :: cs, m, hm, a => by
    have hc := a c (List.mem_cons_self ..)
    show behind n (tms (tms r m) (cmv n c)) cs = tms r (behind n (tms m (cmv n c)) cs)
    rw [tms_assoc (by rw [(pu_facts b hm).1]; exact cmv_in b hc)]
    exact behind_tms b r (pu_step b hm hc) fun d hd => a d (List.mem_cons_of_mem _ hd)
theorem pres_tms {n : Nat} (b : Bells n) (r : Row) : ∀ {cs : List Row} {m : Row}, m ∈ PU n → (∀ c ∈ cs, c ∈ chgs n) → pres n (tms r m) cs = (pres n m cs).map (tms r)
  | [], _, _, _ => rfl
  | c :: cs, m, hm, a => by
    have hc := a c (List.mem_cons_self ..)
    show tms r m :: pres n (tms (tms r m) (cmv n c)) cs = tms r m :: (pres n (tms m (cmv n c)) cs).map (tms r)
    rw [tms_assoc (by rw [(pu_facts b hm).1]; exact cmv_in b hc)]
    rw [pres_tms b r (pu_step b hm hc) fun d hd => a d (List.mem_cons_of_mem _ hd)]
/-- the heads before each lead; the rows of the leads -/
def hdsI (W : Wd) : Row → List Nat → List Row
  | _, [] => []
  | r, c :: cs => r :: hdsI W (tms r (mvOf W c)) cs
def bods (W : Wd) : Row → List Nat → List Row
  | _, [] => []
  | r, c :: cs => pres W.n r (leadOf W c) ++ bods W (tms r (mvOf W c)) cs
def hds (W : Wd) (r : Row) (us : List Nat) : List Row := hdsI W r us ++ [goTo W r us]
theorem hdsI_app (W : Wd) : ∀ (a b : List Nat) (r : Row), hdsI W r (a ++ b) = hdsI W r a ++ hdsI W (goTo W r a) b
  | [], _, _ => rfl
  | c :: a, b, r => by
    show r :: hdsI W _ (a ++ b) = r :: (hdsI W _ a ++ _)
    rw [hdsI_app W a b]
    rfl
theorem bods_app (W : Wd) : ∀ (a b : List Nat) (r : Row), bods W r (a ++ b) = bods W r a ++ bods W (goTo W r a) b
  | [], _, _ => rfl
  | c :: a, b, r => by
    show pres W.n r (leadOf W c) ++ bods W _ (a ++ b) = pres W.n r (leadOf W c) ++ bods W _ a ++ _
    rw [bods_app W a b, List.append_assoc]
    rfl
theorem hdsI_snoc (W : Wd) (a : List Nat) (c : Nat) (r : Row) : hdsI W r (a ++ [c]) = hdsI W r a ++ [goTo W r a] := hdsI_app W a [c] r
theorem bods_snoc (W : Wd) (a : List Nat) (c : Nat) (r : Row) : bods W r (a ++ [c]) = bods W r a ++ pres W.n (goTo W r a) (leadOf W c) := by
  rw [bods_app]
  show bods W r a ++ (pres W.n (goTo W r a) (leadOf W c) ++ []) = _
  rw [List.append_nil]
theorem hdsI_len (W : Wd) : ∀ (a : List Nat) (r : Row), (hdsI W r a).length = a.length
  | [], _ => rfl
  | c :: a, r => by
    show (hdsI W _ a).length + 1 = a.length + 1
    rw [hdsI_len W a]
theorem bods_len {W : Wd} (ok : WOk W) : ∀ (a : List Nat) (r : Row), (bods W r a).length ≤ 10 * a.length
  | [], _ => Nat.le_refl _
  | c :: a, r => by
    have := bods_len ok a (tms r (mvOf W c))
    have := lead_len ok c
    show (pres W.n r (leadOf W c) ++ bods W _ a).length ≤ 10 * (a.length + 1)
    rw [List.length_append, pres_len]
    omega
/-- the row behind a lead is the head's move -/
theorem behind_mv {W : Wd} (ok : WOk W) {r : Row} (hr : r ∈ U W.n) (c : Nat) : behind W.n r (leadOf W c) = tms r (mvOf W c) := by
  have h := behind_tms ok.bells r (pu_rnd ok.bells) (lead_chg ok c)
  rw [(u_facts ok.bells hr).2.2.2.2.1] at h
  exact h
theorem pres_mv {W : Wd} (ok : WOk W) {r : Row} (hr : r ∈ U W.n) (c : Nat) : pres W.n r (leadOf W c) = (pres W.n (rnd W.n) (leadOf W c)).map (tms r) := by
  have h := pres_tms ok.bells r (pu_rnd ok.bells) (lead_chg ok c)
  rw [(u_facts ok.bells hr).2.2.2.2.1] at h
  exact h
/-- the letters rung -/
def hereAt (sl : List Slip) (i : Nat) : List Slip := sl.filter fun s => decide (s.1 = i)
def rungs (sl : List Slip) : Nat → List Nat → List Nat
  | _, [] => []
  | i, c :: cs => rungOf (hereAt sl i) c :: rungs sl (i + 1) cs
theorem rungs_app (sl : List Slip) : ∀ (a b : List Nat) (i : Nat), rungs sl i (a ++ b) = rungs sl i a ++ rungs sl (i + a.length) b
  | [], _, _ => rfl
  | c :: a, b, i => by
    show _ :: rungs sl (i + 1) (a ++ b) = _ :: (rungs sl (i + 1) a ++ _)
    rw [rungs_app sl a b (i + 1)]
    have e : i + 1 + a.length = i + (c :: a).length := by rw [List.length_cons]; omega
    rw [e]
theorem rungs_len (sl : List Slip) : ∀ (a : List Nat) (i : Nat), (rungs sl i a).length = a.length
  | [], _ => rfl
  | c :: a, i => by
    show (rungs sl (i + 1) a).length + 1 = a.length + 1
    rw [rungs_len sl a]
theorem rungOf_mem {ls : List Nat} {c : Nat} (hc : c ∈ ls) : ∀ {sl : List Slip}, (∀ s ∈ sl, s.2 ∈ ls) → rungOf sl c ∈ ls := fun {sl} h => by
  induction sl generalizing c with
  | nil => exact hc
  | cons s sl ih =>
    exact ih (h s (List.mem_cons_self ..)) fun x hx => h x (List.mem_cons_of_mem _ hx)
theorem sm_slips {sl : List Slip} (h : sl.length ≤ 20) : NestedKey.depth (.tup (sl.map slipD)) ≤ 4 ∧ smB (.tup (sl.map slipD)) = true := by
  constructor
  · have : NestedKey.depthAll (sl.map slipD) ≤ 1 := depthAll_le _ fun k hk => by
      obtain ⟨s, _, rfl⟩ := List.mem_map.mp hk
      unfold slipD
      simp [NestedKey.depth, NestedKey.depthAll]
    show NestedKey.depthAll (sl.map slipD) + 1 ≤ 4
    omega
  · refine smB_tup (by rw [List.length_map]; omega) fun k hk => ?_
    obtain ⟨s, _, rfl⟩ := List.mem_map.mp hk
    refine smB_tup (by show 3 ≤ 1000; decide) fun d hd => ?_
    rcases List.mem_cons.mp hd with e | hd
    · rw [e]
      rfl
    rcases List.mem_cons.mp hd with e | hd
    · rw [e]
      simp [smB]
    rw [List.mem_singleton.mp hd]
    simp [smB]
section
variable {P : Program} {w : World} {K : PySem.W.Frag} {mg : Str → Option Value} {base : Heap}
def sp_Ringing_init (P : Program) (w : World) : Sp := fun vs H Q _ => ∃ s dx p x W ls cs, ∃ sl : List Slip, vs = [.ref s, .ref p, .str (tx cs), x] ∧ H s = some (.ins c_Ringing dx []) ∧ MAt H p W ls ∧ (∀ c ∈ cs, c ∈ ls) ∧ cs.length ≤ 400 ∧
  At H (.tup (sl.map slipD)) x ∧ (∀ s ∈ sl, SlOk ls cs s) ∧ sl.Pairwise (fun a b => a.1 < b.1) ∧ sl.length ≤ 20 ∧
  ∀ H' dx' fs v1 v2, Grow (On s) H H' → H' s = some (.ins c_Ringing dx' fs) → fs.lookup ("row_of_heads" : Str) = some v1 → fs.lookup ("rows" : Str) = some v2 → fs.lookup ("__iter__" : Str) = none → fs.lookup ("__len__" : Str) = none → At H' (.tup (rws (hds W (rnd W.n) (rungs sl 0 cs)))) v1 → At H' (.tup (rws (bods W (rnd W.n) (rungs sl 0 cs)))) v2 → Q .non H'
abbrev N_Ringing_init : List Str := ["self", "method", "calling", "slips", "kept", "meant", "heads", "rows", "row", "number", "letter", "here", "change", "slip"]
theorem sc_Ringing_init : FnScope ["self", "method", "calling", "slips", "kept", "meant", "heads", "rows", "row", "number", "letter", "here", "change", "slip"] ["self", "method", "calling", "slips"] (defScope s_Ringing_init) := ⟨rfl, rfl, rfl, by decide +kernel, rfl, by decide +kernel, by decide +kernel⟩
theorem bd_Ringing_init (T : Txt K mg) : Binds K (fdOf K a_Ringing_init) ["self", "method", "calling", "slips"] [] := bindsFull (dvs := [V.ref 986]) (FunD.binds1 T.F_Ringing_init 4 1 (by intro z; cases z) rfl fun _ _ _ _ _ _ _ us its hl hi => match us, hl, its, hi with | [_, _, _, _], _, [_], _ => ⟨_, rfl, rfl⟩)
theorem ok_Ringing_init (T : Txt K mg) : FnOk P w K mg base CX0 6 a_Ringing_init (fdOf K a_Ringing_init) ["self", "method", "calling", "slips"] (sp_Ringing_init P w) := by
  refine ok0 T.F_Ringing_init sc_Ringing_init (fun vs H Q E h => ?_) (fun cdv A outer s H vs Q E hr h => ?_)
  · obtain ⟨s0, dx, p, x, W, ls, cs, sl, rfl, hs0, m, hcs, hlen, hx, hok, hpw, hsl, k⟩ := h
    rfl
  · obtain ⟨s0, dx, p, x, W, ls, cs, sl, rfl, hs0, m, hcs, hlen, hx, hok, hpw, hsl, k⟩ := h
    have hU := hr.units
    have hu := hu_of hr
    obtain ⟨dsD, vD, bD⟩ := bd1_deep T
    refine ⟨_, (pss_cons (ps_expr (pe_call (ok_check_calling T) (hr.mono (by decide)) (by rfl) T.g_check_calling T.F_check_calling.kp (bd_check_calling T) .nil pass0 (pa_cons (pv 1) (pa_cons (pv 2) pa_nil))))
      (pss_cons (ps_set (i := 4) sc_Ringing_init.nd rfl (Or.inl rfl) (pe_call (ok_deep4 T) (hr.mono (by decide)) (by rfl) T.g_deep T.F_deep.kp bD vD pass0 (pa_cons (pv 3) pa_nil)))
      (pss_cons (ps_expr (pe_call (ok_check_slips T) (hr.mono (by decide)) (by rfl) T.g_check_slips T.F_check_slips.kp (bd_check_slips T) .nil pass0 (pa_cons (pv 1) (pa_cons (pv 2) (pa_cons (pv 4) pa_nil)))))
      (pss_cons (ps_fld (pv 0) (pv 1) rfl)
      (pss_cons (ps_fld (pv 0) (pv 2) rfl)
      (pss_cons (ps_fld (pv 0) (pv 4) rfl)
      (pss_cons (ps_set (i := 5) sc_Ringing_init.nd rfl (Or.inl rfl) (pe_lst (pa_cons (pe_fld (pv 1) rfl) pa_nil)))
      (pss_cons (ps_set (i := 6) sc_Ringing_init.nd rfl (Or.inl rfl) (pe_lst pa_nil))
      (pss_cons (ps_set (i := 7) sc_Ringing_init.nd rfl (Or.inl rfl) (pe_lst pa_nil))
      (pss_cons (ps_set (i := 8) sc_Ringing_init.nd rfl (Or.inl rfl) (pe_fld (pv 1) rfl))
      (pss_cons (ps_for PassesOwn.never rfl (pi_enumS (by rfl) T.z_enumerate (pa_cons (pv 2) pa_nil)) (pg_tup rfl (pgs_cons (pg_name (i := 9) sc_Ringing_init.nd rfl (Or.inr rfl)) (pgs_cons (pg_name (i := 10) sc_Ringing_init.nd rfl (Or.inl rfl)) pgs_nil))) (pss_cons (ps_setLc (i := 11) (own := [("slip", 13)])  rfl sc_Ringing_init.nd rfl rfl (sw_true rfl rfl rfl (by decide +kernel)) (pi_tup (pv 4)) (blkOk_by (own := [("slip", 13)]) (N := N_Ringing_init) (sc := defScope s_Ringing_init) (by decide +kernel)) (fun _ _ _ _ _ => pg_name (i := 13) sc_Ringing_init.nd rfl (Or.inl rfl)) (fun _ _ _ _ _ => pts_one (pt_cmpR op_eq (pe_ix ix_tupK (pv 13) pe_int (fun _ _ => rfl)) (pv 9) (nomark _))) (fun _ _ _ _ _ => (pv 13)))
      (pss_cons (ps_set (i := 8) sc_Ringing_init.nd rfl (Or.inl rfl) (pe_call (ok_head_rung T) (hr.mono (by decide)) (by rfl) T.g_head_rung T.F_head_rung.kp (bd_head_rung T) .nil pass0 (pa_cons (pv 8) (pa_cons (pv 11) pa_nil))))
      (pss_cons (ps_expr (pe_bm PySem.F.plainAttrs_list PySem.F.slot_list_append PySem.F.type_list_append mt_appK (pv 6) (pa_cons (pv 8) pa_nil)))
      (pss_cons (ps_for PassesOwn.never rfl (pi_list (pe_call (ok_lead_rung T) (hr.mono (by decide)) (by rfl) T.g_lead_rung T.F_lead_rung.kp (bd_lead_rung T) .nil pass0 (pa_cons (pv 1) (pa_cons (pv 10) (pa_cons (pv 11) pa_nil))))) (pg_name (i := 12) sc_Ringing_init.nd rfl (Or.inl rfl)) (pss_cons (ps_expr (pe_bm PySem.F.plainAttrs_list PySem.F.slot_list_append PySem.F.type_list_append mt_appK (pv 7) (pa_cons (pv 8) pa_nil)))
      (pss_one (ps_set (i := 8) sc_Ringing_init.nd rfl (Or.inl rfl) (pe_call (ok_times T) (hr.mono (by decide)) (by rfl) T.g_times T.F_times.kp (bd_times T) .nil pass0 (pa_cons (pv 8) (pa_cons (pe_call (ok_change_move T) (hr.mono (by decide)) (by rfl) T.g_change_move T.F_change_move.kp (bd_change_move T) .nil pass0 (pa_cons (pv 12) (pa_cons (pe_fld (pv 1) rfl) pa_nil))) pa_nil)))))))
      (pss_one (ps_expr (pe_bm PySem.F.plainAttrs_list PySem.F.slot_list_append PySem.F.type_list_append mt_appK (pv 5) (pa_cons (pe_call (ok_times T) (hr.mono (by decide)) (by rfl) T.g_times T.F_times.kp (bd_times T) .nil pass0 (pa_cons (pe_ix ix_lstK (pv 5) (pe_un un_neg pe_int) (fun _ _ => rfl)) (pa_cons (pe_dget hu (pe_fld (pv 1) rfl) (pv 10) (fun _ _ => rfl)) pa_nil))) pa_nil)))))))))
      (pss_cons (ps_expr (pe_bm PySem.F.plainAttrs_list PySem.F.slot_list_append PySem.F.type_list_append mt_appK (pv 6) (pa_cons (pv 8) pa_nil)))
      (pss_cons (ps_fld (pv 0) (pe_callTy call_tupK (by rfl) T.z_tuple (by decide +kernel) (pa_cons (pv 6) pa_nil)) rfl)
      (pss_cons (ps_fld (pv 0) (pe_callTy call_tupK (by rfl) T.z_tuple (by decide +kernel) (pa_cons (pv 5) pa_nil)) rfl)
      (pss_one (ps_fld (pv 0) (pe_callTy call_tupK (by rfl) T.z_tuple (by decide +kernel) (pa_cons (pv 7) pa_nil)) rfl)))))))))))))))), ?_⟩
    have ok := m.ok
    have hn := ok.bells
    have h5 := bells_le hn
    refine ⟨_, rfl, _, rfl, p, W, ls, cs, rfl, m, hcs, hlen, fun H1 g1 => ?_⟩
    obtain ⟨sd1, sd2⟩ := sm_slips hsl
    refine ⟨_, rfl, x, _, 0, rfl, g1.at hx, sd1, sd2, fun H2 v2 g2 a2 => ?_⟩
    refine ⟨_, rfl, _, rfl, _, rfl, p, v2, W, ls, cs, sl, rfl, m.hard (g1.trans g2).hard, a2, hok, hpw, hlen, hsl, fun H3 g3 => ?_⟩
    have G3 := (g1.trans g2).trans g3
    have e3 := G3.oN hs0
    have m3 := m.hard G3.hard
    have a3 := g3.at a2
    have hpS : p ≠ s0 := let ⟨_, _, em⟩ := m.ins; ins_ne em hs0 (by decide)
    refine ⟨_, rfl, _, rfl, s0, c_Ringing, dx, _, rfl, e3, T.cl_Ringing, T.n_Ringing_method, (by decide : 0 < 1000), ?_⟩
    obtain ⟨g4, e4⟩ := fld_put (gs := putF "method" (V.ref p) []) e3
    have m4 := m3.growO g4 ⟨_, _, _, e3⟩ hpS
    have a4 := g4.at a3
    generalize upd H3 s0 _ = H4 at g4 e4 m4 a4
    refine ⟨_, rfl, _, rfl, s0, c_Ringing, dx, _, rfl, e4, T.cl_Ringing, T.n_Ringing_calling, ltF (by decide : 0 < 999), ?_⟩
    obtain ⟨g5, e5⟩ := fld_put (gs := putF "calling" (V.str (tx cs)) (putF "method" (V.ref p) [])) e4
    have m5 := m4.growO g5 ⟨_, _, _, e4⟩ hpS
    have a5 := g5.at a4
    generalize upd H4 s0 _ = H5 at g5 e5 m5 a5
    refine ⟨_, rfl, _, rfl, s0, c_Ringing, dx, _, rfl, e5, T.cl_Ringing, T.n_Ringing_slips, ltF (ltF (by decide : 0 < 998)), ?_⟩
    obtain ⟨g6, e6⟩ := fld_put (gs := putF "slips" v2 (putF "calling" (V.str (tx cs)) (putF "method" (V.ref p) []))) e5
    have m6 := m5.growO g6 ⟨_, _, _, e5⟩ hpS
    have a6 := g6.at a5
    have G6 : Grow (On s0) H _ := G3.after ((g4.trans g5).trans g6)
    generalize upd H5 s0 _ = H6 at g6 e6 m6 a6 G6
    have m60 := m6
    obtain ⟨⟨dxm, fsm, vpl, vca, vop, aL, vro, aM, aB, l1, l2, em, k1, k2, k3, k4, k5, k6, k7, k8, k9, k10, k11, b1, b2, t1, t2, t3, n1, n2⟩, lts, _⟩ := m6
    refine ⟨_, rfl, p, c_Method, dxm, fsm, _, rfl, em, T.cl_Method, T.n_Method_opening, k4, (by decide : 1 ≤ sizeLine), fun L5 hL5 => ?_⟩
    have g7 : Grow No H6 (upd H6 L5 (.lst [vop])) := Grow.new hL5
    have r5 : Ls (upd H6 L5 (.lst [vop])) L5 (rws [rnd W.n]) := Ls.new (.cons b1 .nil) hL5
    generalize upd H6 L5 (.lst [vop]) = H7 at g7 r5
    refine ⟨Nat.zero_le _, fun L6 hL6 => ?_⟩
    have g8 : Grow No H7 (upd H7 L6 (.lst [])) := Grow.new hL6
    have r6 : Ls (upd H7 L6 (.lst [])) L6 (rws []) := Ls.new .nil hL6
    have h67 : L5 ≠ L6 := r5.ne hL6
    have r5 := r5.growN g8
    generalize upd H7 L6 (.lst []) = H8 at g8 r6 r5
    refine ⟨Nat.zero_le _, fun L7 hL7 => ?_⟩
    have g9 : Grow No H8 (upd H8 L7 (.lst [])) := Grow.new hL7
    have r7 : Ls (upd H8 L7 (.lst [])) L7 (rws []) := Ls.new .nil hL7
    have h57 : L5 ≠ L7 := r5.ne hL7
    have h68 : L6 ≠ L7 := r6.ne hL7
    have r5 := r5.growN g9
    have r6 := r6.growN g9
    generalize upd H8 L7 (.lst []) = H9 at g9 r7 r6 r5
    have hL6' : H6 L6 = none := g7.ex _ hL6
    have hL7' : H6 L7 = none := (g7.trans g8).ex _ hL7
    have G9 := (g7.trans g8).trans g9
    refine ⟨_, rfl, p, c_Method, dxm, fsm, _, rfl, G9.oN em, T.cl_Method, T.n_Method_opening, k4, ?_⟩
    refine ⟨_, rfl, _, rfl, ?_⟩
    obtain ⟨aK, uK, rfl, q1, q2⟩ := a6.ref
    refine for_pre (walk_enumS (l := cs)) cs rfl (fun pre σ H' => Grow No H6 H' ∧ ∃ (v : V) (u9 u10 u11 u12 : Option V) (ms : List Row) (mr : Row), σ = [some (.ref s0), some (.ref p), some (.str (tx cs)), some x, some (.ref aK), some (.ref L5), some (.ref L6), some (.ref L7), some v, u9, u10, u11, u12, none] ∧ At H' (rowD (goTo W (rnd W.n) (rungs sl 0 pre))) v ∧ Ls H' L5 (rws (ms ++ [mr])) ∧ mr ∈ U W.n ∧ ms.length = pre.length ∧ Ls H' L6 (rws (hdsI W (rnd W.n) (rungs sl 0 pre))) ∧ Ls H' L7 (rws (bods W (rnd W.n) (rungs sl 0 pre)))) ⟨G9, vop, none, none, none, none, [], rnd W.n, rfl, G9.at b1, r5, u_rnd hn, rfl, r6, r7⟩ (fun _ _ _ _ => trivial) (fun pre c post y σ H10 H11 ec q hy => ?_) fun σ H10 q => ?_
    · obtain ⟨G, v, u9, u10, u11, u12, ms, mr, rfl, av, r5, hmr, hms, r6, r7⟩ := q
      obtain ⟨T', c', rfl, hT, rfl, e1⟩ := hy
      have e2 : c' = c := by
        rw [ec, List.getElem?_append_right (Nat.le_refl _), Nat.sub_self] at e1
        exact (Option.some.inj e1).symm
      subst e2
      have hcl : c' ∈ ls := hcs c' (by rw [ec]; simp)
      have hpl : pre.length ≤ 400 := by
        have := congrArg List.length ec
        rw [List.length_append] at this
        omega
      have gT : Grow No H10 (upd H10 T' (.tup [.int (pre.length : Nat), .str (sg c')])) := Grow.new hT
      refine ⟨T', _, rfl, SqT.of upd_same, rfl, _, _, rfl, _, _, rfl, rfl, ?_⟩
      generalize upd H10 T' (.tup [.int (pre.length : Nat), .str (sg c')]) = H12 at gT
      have G12 := G.trans gT
      refine ⟨_, rfl, aK, rfl, ⟨_, SqT.of (G12.oN q1)⟩, fun L hL => ?_⟩
      refine lc_pre (walk_tupK (ks := sl.map slipD)) (sl.map slipD) rfl No (fun pre' acc _ => ∃ p : List Slip, pre' = p.map slipD ∧ acc = (hereAt p pre.length).map slipD) hL id (by rw [List.length_map]; exact szL (by omega)) (fun H' g' => g'.at (G12.at a6)) (fun _ _ => ⟨[], rfl, rfl⟩) (fun pre' d post' acc v' H13 H14 Kq N e' _ g0 pd y kq kn => ?_) fun H13 acc _ g13 la pd => ?_
      · obtain ⟨rfl, j, h3, h4⟩ := y
        have e9 := at_mid e' h3
        subst e9
        obtain ⟨p', z, qq, ep, rfl, rfl, rfl⟩ := map_mid e'
        obtain ⟨p2, e3, rfl⟩ := pd
        have e3 := map_inj slipD_inj e3
        subst e3
        refine ⟨rfl, ?_⟩
        refine ⟨_, rfl, _, _, 1, _, h4, rfl, ix31, rfl, fun v1 av1 => ?_⟩
        cases av1
        refine ⟨_, rfl, rfl, _, rfl, ?_⟩
        by_cases hz : z.1 = pre.length
        · refine iteT' (K81.dT (by rw [hz])) ?_
          refine ⟨_, rfl, ?_⟩
          exact kq _ _ (slipD z) (Grow.refl _) h4 fun _ _ => ⟨p' ++ [z], by rw [List.map_append]; rfl, by unfold hereAt; rw [List.filter_append, List.map_append]; simp [hz]⟩
        · refine iteF' (K81.dF (fun q => hz (Int.ofNat.inj (V.int.inj q)))) ?_
          exact kn _ (Grow.refl _) ⟨p' ++ [z], by rw [List.map_append]; rfl, by unfold hereAt; rw [List.filter_append, List.map_append]; simp [hz]⟩
      obtain ⟨p2, e', rfl⟩ := pd
      have e' := map_inj slipD_inj e'
      subst e'
      have hul : rungOf (hereAt sl pre.length) c' ∈ ls := rungOf_mem hcl fun s hs => (hok s (List.mem_filter.mp hs).1).mem
      have eus : rungs sl 0 (pre ++ [c']) = rungs sl 0 pre ++ [rungOf (hereAt sl pre.length) c'] := by
        rw [rungs_app, Nat.zero_add]
        rfl
      have hru : goTo W (rnd W.n) (rungs sl 0 pre) ∈ U W.n := goTo_u ok (u_rnd hn)
      have hul1 : (rungs sl 0 pre).length = pre.length := rungs_len sl pre 0
      rw [eus]
      have G13 := G12.trans g13
      have av13 := (gT.trans g13).at av
      have r5 := r5.growN (gT.trans g13)
      have r6' := r6.growN gT
      have hL6n : L6 ≠ L := r6'.ne hL
      have r6 := r6'.growN g13
      have r7 := r7.growN (gT.trans g13)
      refine ⟨_, rfl, _, rfl, v, L, hereAt sl pre.length, rfl, la, ?_⟩
      refine ⟨_, rfl, tyL r6, _, rfl, L6, _, _, _, rfl, rfl, r6, av13, szL (by rw [rws_len, hdsI_len]; omega), fun H15 g15 l15 => ?_⟩
      rw [← rws_snoc] at l15
      have G15 := G13.loc g15 hL6'
      have la15 := la.grow g15 (fun z => hL6n z.symm)
      have r5 := r5.grow g15 (fun z => h67 z)
      have r7 := r7.grow g15 (fun z => h68 z.symm)
      have av15 := g15.at av13
      refine ⟨_, rfl, _, rfl, _, rfl, p, W, ls, c', L, hereAt sl pre.length, rfl, m60.hard G15.hard, la15, hul, fun H16 L16 g16 hL16 l16 => ?_⟩
      generalize rungOf (hereAt sl pre.length) c' = u at hul eus l16
      have n5 : L5 ≠ L16 := r5.ne hL16
      have n6 : L6 ≠ L16 := l15.ne hL16
      have n7 : L7 ≠ L16 := r7.ne hL16
      obtain ⟨lv16, el16, _⟩ := id l16
      refine ⟨L16, rfl, ⟨_, SqL.of el16⟩, ?_⟩
      have G16 := G15.trans g16
      have hlead := lead_len ok u
      have hbl := bods_len ok (rungs sl 0 pre) (rnd W.n)
      refine for_lstK (ks := rws (leadOf W u)) (fun pre' σ H' => Grow No H6 H' ∧ ∃ (pp : List Row) (v' : V) (t12 : Option V), pre' = rws pp ∧ σ = [some (.ref s0), some (.ref p), some (.str (tx cs)), some x, some (.ref aK), some (.ref L5), some (.ref L6), some (.ref L7), some v', some (.int (pre.length : Nat)), some (.str (sg c')), some (.ref L), t12, none] ∧ At H' (rowD (behind W.n (goTo W (rnd W.n) (rungs sl 0 pre)) pp)) v' ∧ Ls H' L16 (rws (leadOf W u)) ∧ Ls H' L5 (rws (ms ++ [mr])) ∧ Ls H' L6 (rws (hdsI W (rnd W.n) (rungs sl 0 pre) ++ [goTo W (rnd W.n) (rungs sl 0 pre)])) ∧ Ls H' L7 (rws (bods W (rnd W.n) (rungs sl 0 pre) ++ pres W.n (goTo W (rnd W.n) (rungs sl 0 pre)) pp))) ⟨G16, [], v, _, rfl, rfl, g16.at av15, l16, r5.growN g16, l15.growN g16, by show Ls _ _ (rws (_ ++ [])); rw [List.append_nil]; exact r7.growN g16⟩ (fun pre' σ H' q => let ⟨_, _, _, _, _, _, _, z, _⟩ := q; z) (fun pre' d post' y σ H17 e q hy => ?_) fun σ H17 q => ?_
      · obtain ⟨G17, pp, v', t12, rfl, rfl, av, l16, r5, r6, r7⟩ := q
        obtain ⟨p', z, qq, ep, e2, rfl, rfl⟩ := map_mid e
        have e2 := rws_inj e2
        subst e2
        have hz : z ∈ chgs W.n := lead_chg ok u z (by rw [ep]; simp)
        have hppl : pp.length ≤ 10 := by
          have := congrArg List.length ep
          rw [List.length_append] at this
          omega
        have pu := behind_pu hn (cs := pp) (u_facts hn hru).2.2.2.2.2 fun c' hc' => lead_chg ok u c' (by rw [ep]; simp [hc'])
        refine ⟨_, rfl, tyL r7, _, rfl, L7, _, _, _, rfl, rfl, r7, av, szL (by rw [rws_len, List.length_append, pres_len]; omega), fun H18 g18 l18 => ?_⟩
        rw [← rws_snoc, List.append_assoc, ← pres_snoc W.n pp z] at l18
        have G18 := G17.loc g18 hL7'
        refine ⟨_, rfl, _, rfl, _, rfl, p, c_Method, dxm, fsm, _, rfl, G18.oN em, T.cl_Method, T.n_Method_stage, k1, y, z, W.n, rfl, g18.at hy, hn, hz, fun H19 v19 g19 a19 => ?_⟩
        refine ⟨v', v19, _, _, rfl, g19.at (g18.at av), a19, by rw [(pu_facts hn pu).1]; exact cmv_in hn hz, by rw [cmv_len hn hz]; omega, fun H20 v20 g20 a20 => ?_⟩
        have gg := g19.trans g20
        exact ⟨G18.trans gg, pp ++ [z], v20, _, by rw [rws_snoc], rfl, by rw [behind_snoc]; exact a20, (l16.grow g18 (fun z => n7 z.symm)).growN gg, (r5.grow g18 (fun z => h57 z)).growN gg, (r6.grow g18 (fun z => h68 z)).growN gg, l18.growN gg⟩
      · obtain ⟨G17, pp, v', t12, e, rfl, av, l16, r5, r6, r7⟩ := q
        have e := rws_inj e
        subst e
        rw [behind_mv ok hru, ← goTo_snoc] at av
        rw [← hdsI_snoc] at r6
        rw [← bods_snoc] at r7
        obtain ⟨vm, hgm, am⟩ := (t2.growN G17).get ((n2 c').mpr hcl)
        have fm := u_facts hn (mv_in ok c')
        have fr := u_facts hn hmr
        refine ⟨_, rfl, tyL r5, _, rfl, _, rfl, L5, _, -1, ms.length, rowD mr, rfl, r5, rfl, ⟨by rw [rws_len, List.length_append, List.length_singleton]; omega, .inr (by rw [rws_len, List.length_append, List.length_singleton]; omega)⟩, by rw [List.getElem?_map, List.getElem?_append_right (Nat.le_refl _), Nat.sub_self]; rfl, fun v5 av5 => ?_⟩
        refine ⟨_, rfl, p, c_Method, dxm, fsm, _, rfl, G17.oN em, T.cl_Method, T.n_Method_moves, k7, _, rfl, aM, vm, rfl, hgm, ?_⟩
        refine ⟨v5, vm, mr, mvOf W c', rfl, av5, am, by rw [fr.1]; exact fm.2.1, by rw [fm.1]; omega, fun H18 v18 g18 a18 => ?_⟩
        refine ⟨L5, _, _, _, rfl, rfl, r5.growN g18, a18, szL (by rw [rws_len, List.length_append, List.length_singleton]; omega), fun H19 g19 l19 => ?_⟩
        rw [← rws_snoc] at l19
        exact ⟨(G17.trans g18).loc g19 hL5, v', _, _, _, _, ms ++ [mr], tms mr (mvOf W c'), rfl, g19.at (g18.at av), l19, u_step hn hmr (mv_in ok c'), by rw [len_snoc, len_snoc, hms], (r6.growN g18).grow g19 (fun z => h67 z.symm), (r7.growN g18).grow g19 (fun z => h57 z.symm)⟩
    · obtain ⟨G, v, u9, u10, u11, u12, ms, mr, rfl, av, r5, hmr, hms, r6, r7⟩ := q
      have hul1 : (rungs sl 0 cs).length = cs.length := rungs_len sl cs 0
      have hbl := bods_len ok (rungs sl 0 cs) (rnd W.n)
      refine ⟨_, rfl, tyL r6, _, rfl, L6, _, _, _, rfl, rfl, r6, av, szL (by rw [rws_len, hdsI_len]; omega), fun H11 g11 l11 => ?_⟩
      rw [← rws_snoc] at l11
      have G11 := G.loc g11 hL6'
      have r5 := r5.grow g11 (fun z => h67 z)
      have r7 := r7.grow g11 (fun z => h68 z.symm)
      have e11 := G11.oN e6
      have hsL : ∀ {L : Addr} {ks : List D} {H' : Hp} {C dd : Addr} {fs : List (Str × V)}, Ls H' L ks → H' s0 = some (.ins C dd fs) → L ≠ s0 := fun {L ks H' C dd fs} l e z => by
        obtain ⟨lv, el, _⟩ := l
        rw [z, e] at el
        cases el
      refine ⟨_, rfl, L6, _, rfl, l11, fun H12 v12 g12 a12 => ?_⟩
      have e12 := g12.oN e11
      refine ⟨_, rfl, s0, c_Ringing, dx, _, rfl, e12, T.cl_Ringing, T.n_Ringing_row_of_heads, ltF (ltF (ltF (by decide : 0 < 997))), ?_⟩
      obtain ⟨g13, e13⟩ := fld_put (gs := putF "row_of_heads" v12 (putF "slips" (V.ref aK) (putF "calling" (V.str (tx cs)) (putF "method" (V.ref p) [])))) e12
      have r5 := (r5.growN g12).grow g13 (hsL r5 e11)
      have r7 := (r7.growN g12).grow g13 (hsL r7 e11)
      have a13 := g13.at a12
      have G13 : Grow (On s0) H6 _ := (G11.trans g12).any.trans g13
      generalize upd H12 s0 _ = H13 at g13 e13 r5 r7 a13 G13
      refine ⟨_, rfl, L5, _, rfl, r5, fun H14 v14 g14 a14 => ?_⟩
      have e14 := g14.oN e13
      refine ⟨_, rfl, s0, c_Ringing, dx, _, rfl, e14, T.cl_Ringing, T.n_Ringing_row_of_meant, ltF (ltF (ltF (ltF (by decide : 0 < 996)))), ?_⟩
      obtain ⟨g15, e15⟩ := fld_put (gs := putF "row_of_meant" v14 (putF "row_of_heads" v12 (putF "slips" (V.ref aK) (putF "calling" (V.str (tx cs)) (putF "method" (V.ref p) []))))) e14
      have r7 := (r7.growN g14).grow g15 (hsL r7 e13)
      have a15 := g15.at (g14.at a13)
      have G15 : Grow (On s0) H6 _ := (G13.trans g14.any).trans g15
      generalize upd H14 s0 _ = H15 at g15 e15 r7 a15 G15
      refine ⟨_, rfl, L7, _, rfl, r7, fun H16 v16 g16 a16 => ?_⟩
      have e16 := g16.oN e15
      refine ⟨_, rfl, s0, c_Ringing, dx, _, rfl, e16, T.cl_Ringing, T.n_Ringing_rows, ltF (ltF (ltF (ltF (ltF (by decide : 0 < 995))))), ?_⟩
      obtain ⟨g17, e17⟩ := fld_put (gs := putF "rows" v16 (putF "row_of_meant" v14 (putF "row_of_heads" v12 (putF "slips" (V.ref aK) (putF "calling" (V.str (tx cs)) (putF "method" (V.ref p) [])))))) e16
      exact k _ dx _ v12 v16 (G6.trans ((G15.trans g16.any).trans g17)) e17 (by repeat (first | (refine (lookF ?_).trans ?_; (decide +kernel)) | exact lookS | exact lookN)) (by repeat (first | (refine (lookF ?_).trans ?_; (decide +kernel)) | exact lookS | exact lookN)) (by repeat (first | (refine (lookF ?_).trans ?_; (decide +kernel)) | exact lookS | exact lookN)) (by repeat (first | (refine (lookF ?_).trans ?_; (decide +kernel)) | exact lookS | exact lookN)) (g17.at (g16.at a15)) (g17.at a16)
end
end K81

namespace K81
open PySem PySem.Spec PyProof.Rows L2
/-! # Touches -/
theorem pe_nev {X : Cx} {e : Expr} : PE X e (fun _ _ _ => False) := ⟨fun _ _ _ _ _ _ h => h.elim⟩
theorem pres_pu {n : Nat} (b : Bells n) : ∀ {cs : List Row} {m : Row}, m ∈ PU n → (∀ c ∈ cs, c ∈ chgs n) → ∀ z ∈ pres n m cs, z ∈ PU n
  | [], _, _, _, _, hz => nomatch hz
  | c :: cs, m, hm, a, z, hz => by
    rcases List.mem_cons.mp (show z ∈ m :: pres n (tms m (cmv n c)) cs from hz) with e | hz
    · rw [e]
      exact hm
    · exact pres_pu b (pu_step b hm (a c (List.mem_cons_self ..))) (fun d hd => a d (List.mem_cons_of_mem _ hd)) z hz
theorem hds_snoc (W : Wd) (r : Row) (a : List Nat) (c : Nat) : hds W r (a ++ [c]) = hds W r a ++ [tms (goTo W r a) (mvOf W c)] := by
  unfold hds
  rw [hdsI_snoc, goTo_snoc]
section
variable {P : Program} {w : World} {K : PySem.W.Frag} {mg : Str → Option Value} {base : Heap}
def sp_Touch_init : Sp := fun vs H Q _ => ∃ s dx p W ls us, vs = [.ref s, .ref p, .str (tx us), .non] ∧ H s = some (.ins c_Touch dx []) ∧ MAt H p W ls ∧ (∀ c ∈ us, c ∈ ls) ∧ us.length ≤ 400 ∧
  ∀ H' dx' fs v1 v2, Grow (On s) H H' → H' s = some (.ins c_Touch dx' fs) → fs.lookup ("row_of_heads" : Str) = some v1 → fs.lookup ("rows" : Str) = some v2 → fs.lookup ("__iter__" : Str) = none → fs.lookup ("__len__" : Str) = none → At H' (.tup (rws (hds W (rnd W.n) us))) v1 → At H' (.tup (rws (bods W (rnd W.n) us))) v2 → Q .non H'
abbrev N_Touch_init : List Str := ["self", "method", "calling", "start", "heads", "rows", "letter", "head", "row"]
theorem sc_Touch_init : FnScope ["self", "method", "calling", "start", "heads", "rows", "letter", "head", "row"] ["self", "method", "calling", "start"] (defScope s_Touch_init) := ⟨rfl, rfl, rfl, by decide +kernel, rfl, by decide +kernel, by decide +kernel⟩
theorem bd_Touch_init (T : Txt K mg) : Binds K (fdOf K a_Touch_init) ["self", "method", "calling", "start"] [] := bindsFull (dvs := [V.non]) (FunD.binds1 T.F_Touch_init 4 1 (by intro z; cases z) rfl fun _ _ _ _ _ _ _ us its hl hi => match us, hl, its, hi with | [_, _, _, _], _, [_], _ => ⟨_, rfl, rfl⟩)
theorem ok_Touch_init (T : Txt K mg) : FnOk P w K mg base CX0 2 a_Touch_init (fdOf K a_Touch_init) ["self", "method", "calling", "start"] (sp_Touch_init) := by
  refine ok0 T.F_Touch_init sc_Touch_init (fun vs H Q E h => ?_) (fun cdv A outer s H vs Q E hr h => ?_)
  · obtain ⟨s0, dx, p, W, ls, us, rfl, hs0, m, hcs, hlen, k⟩ := h
    rfl
  · obtain ⟨s0, dx, p, W, ls, us, rfl, hs0, m, hcs, hlen, k⟩ := h
    have hU := hr.units
    have hu := hu_of hr
    refine ⟨_, (pss_cons (ps_expr (pe_call (ok_check_calling T) (hr.mono (by decide)) (by rfl) T.g_check_calling T.F_check_calling.kp (bd_check_calling T) .nil pass0 (pa_cons (pv 1) (pa_cons (pv 2) pa_nil))))
      (pss_cons (ps_fld (pv 0) (pv 1) rfl)
      (pss_cons (ps_fld (pv 0) (pv 2) rfl)
      (pss_cons (ps_fld (pv 0) (pe_ifExp (pt_cmpR op_isN (pv 3) pe_non (nomark _)) (pe_fld (pv 1) rfl) pe_nev) rfl)
      (pss_cons (ps_set (i := 4) sc_Touch_init.nd rfl (Or.inl rfl) (pe_lst (pa_cons (pe_fld (pv 0) rfl) pa_nil)))
      (pss_cons (ps_set (i := 5) sc_Touch_init.nd rfl (Or.inl rfl) (pe_lst pa_nil))
      (pss_cons (ps_for PassesOwn.never rfl (pi_str (pv 2)) (pg_name (i := 6) sc_Touch_init.nd rfl (Or.inl rfl)) (pss_cons (ps_set (i := 7) sc_Touch_init.nd rfl (Or.inr rfl) (pe_ix ix_lstK (pv 4) (pe_un un_neg pe_int) (fun _ _ => rfl)))
      (pss_cons (ps_expr (pe_bm PySem.F.plainAttrs_list PySem.F.slot_list_extend PySem.F.type_list_extend mt_extK (pv 5) (pa_cons (pe_lc (own := [("row", 8)])  rfl sc_Touch_init.nd (pi_tup (pe_dget hu (pe_fld (pv 1) rfl) (pv 6) (fun _ _ => rfl))) (blkOk_by (own := [("row", 8)]) (N := N_Touch_init) (sc := defScope s_Touch_init) (by decide +kernel)) (fun _ _ _ _ _ => pg_name (i := 8) sc_Touch_init.nd rfl (Or.inl rfl)) (fun _ _ _ _ _ => pts_nil) (fun _ _ _ _ _ => (pe_call (ok_times T) (hr.mono (by decide)) (by rfl) T.g_times T.F_times.kp (bd_times T) .nil pass0 (pa_cons (pv 7) (pa_cons (pv 8) pa_nil))))) pa_nil)))
      (pss_one (ps_expr (pe_bm PySem.F.plainAttrs_list PySem.F.slot_list_append PySem.F.type_list_append mt_appK (pv 4) (pa_cons (pe_call (ok_times T) (hr.mono (by decide)) (by rfl) T.g_times T.F_times.kp (bd_times T) .nil pass0 (pa_cons (pv 7) (pa_cons (pe_dget hu (pe_fld (pv 1) rfl) (pv 6) (fun _ _ => rfl)) pa_nil))) pa_nil)))))))
      (pss_cons (ps_fld (pv 0) (pe_callTy call_tupK (by rfl) T.z_tuple (by decide +kernel) (pa_cons (pv 4) pa_nil)) rfl)
      (pss_one (ps_fld (pv 0) (pe_callTy call_tupK (by rfl) T.z_tuple (by decide +kernel) (pa_cons (pv 5) pa_nil)) rfl)))))))))), ?_⟩
    have ok := m.ok
    have hn := ok.bells
    have h5 := bells_le hn
    have hpS : p ≠ s0 := let ⟨_, _, em⟩ := m.ins; ins_ne em hs0 (by decide)
    refine ⟨_, rfl, _, rfl, p, W, ls, us, rfl, m, hcs, hlen, fun H3 g3 => ?_⟩
    have e3 := g3.oN hs0
    have m3 := m.hard g3.hard
    refine ⟨_, rfl, _, rfl, s0, c_Touch, dx, _, rfl, e3, T.cl_Touch, T.n_Touch_method, (by decide : 0 < 1000), ?_⟩
    obtain ⟨g4, e4⟩ := fld_put (gs := putF "method" (V.ref p) []) e3
    have m4 := m3.growO g4 ⟨_, _, _, e3⟩ hpS
    generalize upd H3 s0 _ = H4 at g4 e4 m4
    refine ⟨_, rfl, _, rfl, s0, c_Touch, dx, _, rfl, e4, T.cl_Touch, T.n_Touch_calling, ltF (by decide : 0 < 999), ?_⟩
    obtain ⟨g5, e5⟩ := fld_put (gs := putF "calling" (V.str (tx us)) (putF "method" (V.ref p) [])) e4
    have m5 := m4.growO g5 ⟨_, _, _, e4⟩ hpS
    have G5 : Grow (On s0) H _ := g3.after (g4.trans g5)
    generalize upd H4 s0 _ = H5 at g5 e5 m5 G5
    have m50 := m5
    obtain ⟨⟨dxm, fsm, vpl, vca, vop, aL, vro, aM, aB, l1, l2, em, k1, k2, k3, k4, k5, k6, k7, k8, k9, k10, k11, b1, b2, t1, t2, t3, n1, n2⟩, lts, _⟩ := m5
    refine ⟨_, rfl, rfl, _, rfl, ?_⟩
    refine iteT' rfl ?_
    refine ⟨_, rfl, p, c_Method, dxm, fsm, _, rfl, em, T.cl_Method, T.n_Method_opening, k4, ?_⟩
    refine ⟨_, rfl, s0, c_Touch, dx, _, rfl, e5, T.cl_Touch, T.n_Touch_start, ltF (ltF (by decide : 0 < 998)), ?_⟩
    obtain ⟨g6, e6⟩ := fld_put (gs := putF "start" vop (putF "calling" (V.str (tx us)) (putF "method" (V.ref p) []))) e5
    have m6 := m50.growO g6 ⟨_, _, _, e5⟩ hpS
    have b6 := g6.at b1
    have G6 : Grow (On s0) H _ := G5.trans g6
    generalize upd H5 s0 _ = H6 at g6 e6 m6 b6 G6
    clear k1 k2 k3 k4 k5 k6 k7 k8 k9 k10 k11 t1 t2 t3 n1 n2 em
    obtain ⟨⟨dxm, fsm, vpl, vca, vop', aL, vro, aM, aB, l1, l2, em, k1, k2, k3, k4, k5, k6, k7, k8, k9, k10, k11, b1', b2', t1, t2, t3, n1, n2⟩, _, _⟩ := m6
    refine ⟨_, rfl, s0, c_Touch, dx, _, vop, rfl, e6, T.cl_Touch, T.n_Touch_start, (by repeat (first | (refine (lookF ?_).trans ?_; (decide +kernel)) | exact lookS | exact lookN)), (by decide : 1 ≤ sizeLine), fun L4 hL4 => ?_⟩
    have g7 : Grow No H6 (upd H6 L4 (.lst [vop])) := Grow.new hL4
    have r4 : Ls (upd H6 L4 (.lst [vop])) L4 (rws [rnd W.n]) := Ls.new (.cons b6 .nil) hL4
    generalize upd H6 L4 (.lst [vop]) = H7 at g7 r4
    refine ⟨Nat.zero_le _, fun L5 hL5 => ?_⟩
    have g8 : Grow No H7 (upd H7 L5 (.lst [])) := Grow.new hL5
    have r5 : Ls (upd H7 L5 (.lst [])) L5 (rws []) := Ls.new .nil hL5
    have h45 : L4 ≠ L5 := r4.ne hL5
    have r4 := r4.growN g8
    generalize upd H7 L5 (.lst []) = H8 at g8 r5 r4
    have hL5' : H6 L5 = none := g7.ex _ hL5
    have G8 := g7.trans g8
    refine ⟨_, rfl, _, rfl, ?_⟩
    refine for_txK (l := us) (fun pre σ H' => Grow No H6 H' ∧ ∃ (u6 u7 : Option V), σ = [some (.ref s0), some (.ref p), some (.str (tx us)), some .non, some (.ref L4), some (.ref L5), u6, u7, none] ∧ Ls H' L4 (rws (hds W (rnd W.n) pre)) ∧ Ls H' L5 (rws (bods W (rnd W.n) pre))) ⟨G8, none, none, rfl, r4, r5⟩ (fun pre c post σ H9 ec q => ?_) fun σ H9 q => ?_
    · obtain ⟨G, u6, u7, rfl, r4, r5⟩ := q
      have hcl : c ∈ ls := hcs c (by rw [ec]; simp)
      have hpl : pre.length ≤ 400 := by
        have := congrArg List.length ec
        rw [List.length_append] at this
        omega
      have hru : goTo W (rnd W.n) pre ∈ U W.n := goTo_u ok (u_rnd hn)
      have fr := u_facts hn hru
      have fm := u_facts hn (mv_in ok c)
      have hlead := lead_len ok c
      have hbl := bods_len ok pre (rnd W.n)
      refine ⟨_, rfl, _, rfl, L4, _, -1, (hdsI W (rnd W.n) pre).length, rowD (goTo W (rnd W.n) pre), rfl, r4, rfl, ⟨by unfold hds; rw [rws_len, List.length_append, List.length_singleton]; omega, .inr (by unfold hds; rw [rws_len, List.length_append, List.length_singleton]; omega)⟩, by unfold hds; rw [List.getElem?_map, List.getElem?_append_right (Nat.le_refl _), Nat.sub_self]; rfl, fun v7 av7 => ?_⟩
      obtain ⟨vb, hgb, ab⟩ := (t3.growN G).get ((n2 c).mpr hcl)
      obtain ⟨bb, ub, rfl, q1, q2⟩ := ab.ref
      refine ⟨_, rfl, tyL r5, _, rfl, p, c_Method, dxm, fsm, _, rfl, G.oN em, T.cl_Method, T.n_Method_bodies, k8, _, rfl, aB, .ref bb, rfl, hgb, bb, rfl, ⟨_, SqT.of q1⟩, fun L hL => ?_⟩
      have hL4n : L4 ≠ L := r4.ne hL
      have hL5n : L5 ≠ L := r5.ne hL
      refine lc_pre (walk_tupK (ks := rws (pres W.n (rnd W.n) (leadOf W c)))) (rws (pres W.n (rnd W.n) (leadOf W c))) rfl No (fun pre' acc _ => ∃ pp : List Row, pre' = rws pp ∧ acc = rws (pp.map (tms (goTo W (rnd W.n) pre)))) hL id (by rw [rws_len, pres_len]; exact szL (by omega)) (fun H' g' => g'.at ab) (fun _ _ => ⟨[], rfl, rfl⟩) (fun pre' d post' acc v' H13 H14 Kq N e' _ g0 pd y kq kn => ?_) fun H13 acc _ g13 la pd => ?_
      · obtain ⟨rfl, j, h3, h4⟩ := y
        have e9 := at_mid e' h3
        subst e9
        obtain ⟨p', z, qq, ep, rfl, rfl, rfl⟩ := map_mid e'
        obtain ⟨pp, e3, rfl⟩ := pd
        have e3 := rws_inj e3
        subst e3
        have hz := pu_facts hn (pres_pu hn (pu_rnd hn) (lead_chg ok c) z (by rw [ep]; simp))
        refine ⟨rfl, ?_⟩
        refine ⟨_, rfl, _, rfl, v7, v', _, z, rfl, g0.at av7, h4, by rw [fr.1]; exact hz.2.1, by rw [hz.1]; omega, fun H15 v15 g15 a15 => ?_⟩
        exact kq _ _ (rowD (tms (goTo W (rnd W.n) pre) z)) g15 a15 fun _ _ => ⟨p' ++ [z], by rw [rws_snoc], by rw [List.map_append, ← rws_snoc]; rfl⟩
      obtain ⟨pp, e3, rfl⟩ := pd
      have e3 := rws_inj e3
      subst e3
      have r4 := r4.growN g13
      have r5 := r5.growN g13
      have G13 := G.trans g13
      refine ⟨L5, L, _, _, rfl, rfl, r5, la, by rw [rws_len, rws_len, List.length_map, pres_len]; exact Nat.le_of_lt (szL (by omega)), fun H15 g15 l15 => ?_⟩
      rw [rws_app, ← pres_mv ok hru, ← bods_snoc] at l15
      have G15 := G13.loc g15 hL5'
      have r4 := r4.grow g15 (fun z => h45 z)
      have av15 := g15.at (g13.at av7)
      obtain ⟨vm, hgm, am⟩ := (t2.growN G15).get ((n2 c).mpr hcl)
      refine ⟨_, rfl, tyL r4, _, rfl, _, rfl, p, c_Method, dxm, fsm, _, rfl, G15.oN em, T.cl_Method, T.n_Method_moves, k7, _, rfl, aM, vm, rfl, hgm, ?_⟩
      refine ⟨v7, vm, _, mvOf W c, rfl, av15, am, by rw [fr.1]; exact fm.2.1, by rw [fm.1]; omega, fun H18 v18 g18 a18 => ?_⟩
      refine ⟨L4, _, _, _, rfl, rfl, r4.growN g18, a18, szL (by unfold hds; rw [rws_len, List.length_append, List.length_singleton, hdsI_len]; omega), fun H19 g19 l19 => ?_⟩
      rw [← rws_snoc, ← hds_snoc] at l19
      exact ⟨(G15.trans g18).loc g19 hL4, _, _, rfl, l19, (l15.growN g18).grow g19 (fun z => h45 z.symm)⟩
    · obtain ⟨G, u6, u7, rfl, r4, r5⟩ := q
      have e9 := G.oN e6
      have hsL : ∀ {L : Addr} {ks : List D} {H' : Hp} {C dd : Addr} {fs : List (Str × V)}, Ls H' L ks → H' s0 = some (.ins C dd fs) → L ≠ s0 := fun {L ks H' C dd fs} l e z => by
        obtain ⟨lv, el, _⟩ := l
        rw [z, e] at el
        cases el
      refine ⟨_, rfl, L4, _, rfl, r4, fun H12 v12 g12 a12 => ?_⟩
      have e12 := g12.oN e9
      refine ⟨_, rfl, s0, c_Touch, dx, _, rfl, e12, T.cl_Touch, T.n_Touch_row_of_heads, ltF (ltF (ltF (by decide : 0 < 997))), ?_⟩
      obtain ⟨g13, e13⟩ := fld_put (gs := putF "row_of_heads" v12 (putF "start" vop (putF "calling" (V.str (tx us)) (putF "method" (V.ref p) [])))) e12
      have r5 := (r5.growN g12).grow g13 (hsL r5 e9)
      have a13 := g13.at a12
      have G13 : Grow (On s0) H6 _ := (G.trans g12).any.trans g13
      generalize upd H12 s0 _ = H13 at g13 e13 r5 a13 G13
      refine ⟨_, rfl, L5, _, rfl, r5, fun H16 v16 g16 a16 => ?_⟩
      have e16 := g16.oN e13
      refine ⟨_, rfl, s0, c_Touch, dx, _, rfl, e16, T.cl_Touch, T.n_Touch_rows, ltF (ltF (ltF (ltF (by decide : 0 < 996)))), ?_⟩
      obtain ⟨g17, e17⟩ := fld_put (gs := putF "rows" v16 (putF "row_of_heads" v12 (putF "start" vop (putF "calling" (V.str (tx us)) (putF "method" (V.ref p) []))))) e16
      exact k _ dx _ v12 v16 (G6.trans ((G13.trans g16.any).trans g17)) e17 (by repeat (first | (refine (lookF ?_).trans ?_; (decide +kernel)) | exact lookS | exact lookN)) (by repeat (first | (refine (lookF ?_).trans ?_; (decide +kernel)) | exact lookS | exact lookN)) (by repeat (first | (refine (lookF ?_).trans ?_; (decide +kernel)) | exact lookS | exact lookN)) (by repeat (first | (refine (lookF ?_).trans ?_; (decide +kernel)) | exact lookS | exact lookN)) (g17.at (g16.at a13)) (g17.at a16)
theorem bd1_Touch_init (T : Txt K mg) : ∃ ds, Vals [V.non] ds ∧ Binds K (fdOf K a_Touch_init) ["self", "method", "calling", "start"] ds := FunD.binds1 T.F_Touch_init 3 0 (by intro z; cases z) rfl fun _ _ _ _ _ _ _ us its hl hi => match us, hl, its, hi with | [_, _, _], _, [_], _ => ⟨_, rfl, rfl⟩
end
end K81

namespace K81
open PySem PySem.Spec PyProof.Rows L2
/-! # iter(tuple); list(o), o an instance whose own __iter__ gives an iterator over a tuple, with an own __len__ -/
def tiObj (a : Addr) : Obj := { cls := .type "tuple_iterator", data := .fields #[.ref a, .int 0 0] }
def TiO (a it : Addr) : HO := .ext fun h => h.get? it = some (tiObj a)
theorem tiO_ok {P : Program} {w : World} {H : Hp} {h : Heap} {a it : Addr} (e : h.get? it = some (tiObj a)) : ObjOk P w H h it (TiO a it) := ⟨e, ⟨_, e⟩, fun h1 h2 q k => k _ q⟩
def rIterT (K : PySem.W.Frag) : List V → Hp → VK → Prop := fun xs H Q => ∃ (a : Addr) (us : List V), xs = [.ref a] ∧ SqT K H a us ∧ ∀ it, H it = none → (∀ m o, H m = some o → m < it) → Q (.ref it) (upd H it (TiO a it))
section
variable {X : Cx}
theorem call_iterT : CallR X (.builtin "iter") (rIterT X.K) := by
  intro pins s σ H xs us Q I r h
  obtain ⟨a, zs, rfl, hq, q⟩ := h
  obtain ⟨u, rfl, ru⟩ := vals1 r
  cases ru
  obtain ⟨its, rv, pl, hz⟩ := I.tuple hq
  refine Calls.call_function_entry (by decide +kernel) (by decide +kernel) PySem.W.kdk_entry_iter (PySem.W.kdk_args_iter _) ?_
  unfold Builtin.«iter»
  refine wpAny_bind (m := someArgs "iter" 1 2 _) (wpAny_of_eq (a := [Value.ref a]) (by first | rfl | kernel_rfl!) ?_)
  show wpAny _ _ (pyIter (.ref a) >>= _) _ _ _
  refine wpAny_bind (wpAny_pyIter_tuple pl ?_)
  refine wpAny_pure ⟨_, rfl, ?_⟩
  refine ⟨.ref s.heap.objs.size, _, I.laid (t' := s.toks) (fun b u e => Heap.get?_push_of_some _ e) (Nat.le_refl _) (tiO_ok (a := a) (Heap.get?_push_size _ rfl)), rfl, q _ (I.hok.fresh (Nat.le_refl _)) fun m o e => ?_⟩
  rcases Nat.lt_or_ge m s.heap.objs.size with z | z
  · exact z
  · have := I.hok.fresh z
    rw [e] at this
    cases this
/-- what the own __iter__ and __len__ promise -/
def sp_it (C : Addr) : Sp := fun vs H Q _ => ∃ p dx fs a us, vs = [.ref p] ∧ H p = some (.ins C dx fs) ∧ fs.lookup ("rows" : Str) = some (.ref a) ∧ H a = some (.tup us) ∧ ∀ it, H it = none → (∀ m o, H m = some o → m < it) → Q (.ref it) (upd H it (TiO a it))
def sp_ln (C : Addr) : Sp := fun vs H Q _ => ∃ p dx fs a us, vs = [.ref p] ∧ H p = some (.ins C dx fs) ∧ fs.lookup ("rows" : Str) = some (.ref a) ∧ H a = some (.tup us) ∧ Q (.int (us.length : Nat)) H
variable {pins : List (Addr × Obj)} {σ : L2.St} {H : Hp} {s : Shared}
theorem lt_loop {Rs : Result → Shared → Prop} {us : List V} {a it q : Addr} (hc : X.calm = true) (hl : us.length < sizeLine) (hq : H q = some (.lst [])) (ha : H a = some (.tup us)) (hf : FpOk X pins H it)
    (hdone : ∀ s, Inv X pins σ (upd H q (.lst us)) s → Rs (.ok (.ret .none)) s) :
    ∀ (n i : Nat) (s : Shared), us.length - i = n → i ≤ us.length → Inv X pins σ (upd H q (.lst (us.take i))) s → s.heap.IsTupleIter it a i → codeAny (model X.prog X.w) X.A.in1 (.builtin "list.extend.loop" ⟨[.ref q, .ref it, .none], []⟩) Rs s := by
  have hqa : a ≠ q := fun z => by
    rw [z, hq] at ha
    cases ha
  have hqi : it ≠ q := fun z => by
    have := hf.1
    rw [z, hq] at this
    cases this
  intro n
  induction n with
  | zero =>
    intro i s hn hi I st
    have hi : i = us.length := by omega
    subst hi
    refine codeAny_builtin PySem.F.entry_extend_loop ?_
    rw [Around.under_plainId PySem.F.plain_extend_loop _]
    show wpAny _ X.A.in1.in1 (pyNext (.ref it) >>= _) _ _ s
    have ha' : upd H q (.lst (us.take us.length)) a = some (.tup us) := by rw [upd_ne hqa]; exact ha
    obtain ⟨its, rv, p, hz⟩ := I.tuple (SqT.of ha')
    have el := rv.length
    obtain ⟨f0, f1, f2, f3, f4, f5⟩ := hf
    have f0' : upd H q (.lst (us.take us.length)) it = none := by rw [upd_ne hqi]; exact f0
    refine wpAny_bind (wpAny_pyNext_tuple_end (I.ok.hd hc) st (show s.heap.IsTuple a its.toArray from p) (by simp; omega) fun h' eb => ?_)
    have I2 := I.turned (t' := s.toks) (fun b o hb e => eb b o hb e) f0' f1 f3 f4 f5
    rw [List.take_length] at I2
    exact wpAny_pure (hdone _ I2)
  | succ n ih =>
    intro i s hn hi I st
    refine codeAny_builtin PySem.F.entry_extend_loop ?_
    rw [Around.under_plainId PySem.F.plain_extend_loop _]
    show wpAny _ X.A.in1.in1 (pyNext (.ref it) >>= _) _ _ s
    have ha' : upd H q (.lst (us.take i)) a = some (.tup us) := by rw [upd_ne hqa]; exact ha
    obtain ⟨its, rv, p, hz⟩ := I.tuple (SqT.of ha')
    have el := rv.length
    have hi' : i < us.length := by omega
    obtain ⟨u, hu, ru⟩ := rv.get (List.getElem?_eq_getElem hi')
    obtain ⟨f0, f1, f2, f3, f4, f5⟩ := id hf
    have f0' : upd H q (.lst (us.take i)) it = none := by rw [upd_ne hqi]; exact f0
    refine wpAny_bind (wpAny_pyNext_tuple_item st (show s.heap.IsTuple a its.toArray from p) (x := u) (by simpa using hu) fun h' st' sb => ?_)
    have I1 : Inv X pins σ (upd H q (.lst (us.take i))) { s with heap := h' } := I.turned (t' := s.toks) (fun b o hb e => (sb.2 b hb).trans e) f0' f1 f3 f4 f5
    show wpAny _ X.A.in1.in1 (updateSeq q (·.push u) >>= _) _ _ _
    obtain ⟨z, its2, k, r2, hl2, e⟩ := I1.lstM upd_same
    have l2 := r2.length
    rw [List.length_take, Nat.min_eq_left hi] at l2
    have I2 := I1.lset (f := (·.push u)) (its' := its2 ++ [u]) (ys := us.take i ++ [us[i]]) (t' := s.toks) upd_same e (by simp) (r2.append (.cons ru .nil)) (by rw [List.length_append, List.length_singleton, List.length_take]; omega)
    rw [upd_upd, ← take_more us i hi'] at I2
    refine wpAny_bind (wpAny_updateSeq e rfl (wpAny_pure ⟨plainId_quiet PySem.F.plain_extend_loop _, ?_⟩) (by rw [List.size_toArray]; omega) (by show (its2.toArray.push u).size ≤ sizeLine + 1; rw [Array.size_push, List.size_toArray]; omega))
    refine ih (i + 1) _ (by omega) (by omega) I2 ?_
    obtain ⟨o, ho, r⟩ := st'
    exact ⟨o, (Heap.get?_update_ne _ it q _ hqi).trans ho, r⟩
variable {CI CL : CXT} {C fi fl p q a : Addr} {fdI fdL : FuncData} {psI psL : List Str} {EI EL : XK} {n : Nat}
theorem lt_hint {A1 : Around} {E : Value → Shared → Prop} {dx : Addr} {fs : List (Str × V)} {us : List V} (sb : Sub X n A1.in1) (hl : Meth X.K C "__len__" fl) (FL : FnOk X.prog X.w X.K X.mg X.base CX0 n fl fdL psL (sp_ln C)) (bL : Binds X.K fdL psL [])
    (I : Inv X pins σ H s) (hp : H p = some (.ins C dx fs)) (hr : fs.lookup ("rows" : Str) = some (.ref a)) (ha : H a = some (.tup us)) (hz : us.length ≤ 100000) {Q : Bool → Shared → Prop}
    (h : ∀ (b : Bool) (s' : Shared), Inv X pins σ H s' → Q b s') : wpAny (model X.prog X.w) A1 (Builtin.List.listLengthHint (.ref p)) Q E s := by
  obtain ⟨mA, J, _⟩ := ins_get I.hok hp
  obtain ⟨od, J, _⟩ := J.look
  obtain ⟨m, hF⟩ := I.fr
  unfold Builtin.List.listLengthHint
  refine wpAny_bind (wpAny_bind (J.type.here ((PySem.W.looks_findIn I.kIn hl.at_).here ?_)))
  refine PySem.W.KFB.if_not rfl ?_
  show wpAny _ _ (rule "list.length-hint.len" >>= _) _ _ _
  refine wpAny_bind (wpAny_rule ?_)
  refine wpAny_bind (wpAny_attempt (PySem.W.len_K hF I.ok.mod.kin J hl.at_ hl.fn ?_))
  have e0 : Env0 X.prog X.w X.K X.mg X.base A1.in1 X.stack s H := by
    have e := I.env0
    exact ⟨by rw [sb.fr]; exact e.frames, e.mod, e.bs, e.bsz, e.funs, e.frf, e.hok, e.bare⟩
  have hsp : sp_ln C [.ref p] H (fun v H' => v = .int (us.length : Nat) ∧ H' = H) E0 := ⟨p, dx, fs, a, us, rfl, hp, hr, ha, rfl, rfl⟩
  have hlL := FL.len _ _ _ _ hsp
  have r2 : Vals [V.ref p] [Value.ref p] := .cons rfl .nil
  refine wpAny_call (codeAny_mono (FL.run A1.in1 X.stack s H ⟨[.ref p], []⟩ [.ref p] [.ref p] _ E0 sb.room e0 (by
    have := bL s [.ref p] I.kIn (by simpa using hlL)
    simpa using this) r2 hsp) fun r s' hq' => ?_)
  cases r with
  | error e => exact hq'.elim
  | ok fl =>
    cases fl with
    | next => exact False.elim hq'
    | brk => exact False.elim hq'
    | cont => exact False.elim hq'
    | ret u =>
      obtain ⟨v, H', I', rv, rfl, rfl⟩ := I.after hq'
      obtain ⟨t, rfl⟩ := rv
      refine ⟨⟨by omega, by omega⟩, ?_⟩
      have I2 : Inv X pins σ H' { s' with toks := s'.toks + 1 } := I'.kept (t' := s'.toks + 1) fun b o e => e
      show wpAny _ _ (asInt? (.int (us.length : Nat) s'.toks) >>= _) Q E _
      refine wpAny_bind (m := asInt? _) (wpAny_pure ?_)
      have hno : ¬ Builtin.List.listTooLong ((us.length : Nat) : Int).toNat = true := by
        unfold Builtin.List.listTooLong
        rw [Int.toNat_natCast, decide_eq_true_eq]
        have : us.length < sizeLine := szL hz
        omega
      show wpAny _ _ (if Builtin.List.listTooLong ((us.length : Nat) : Int).toNat = true then _ else _) _ _ _
      rw [if_neg hno]
      exact wpAny_pure (h _ _ I2)
theorem lt_extend {Rs : Result → Shared → Prop} {dx : Addr} {fs : List (Str × V)} {us : List V} (hrm : Room (n + 3) X.A) (hc : X.calm = true) (hi : Meth X.K C "__iter__" fi) (hl : Meth X.K C "__len__" fl)
    (FI : FnOk X.prog X.w X.K X.mg X.base CI n fi fdI psI (sp_it C)) (bI : Binds X.K fdI psI []) (xI : Passes CI X EI) (FL : FnOk X.prog X.w X.K X.mg X.base CX0 n fl fdL psL (sp_ln C)) (bL : Binds X.K fdL psL [])
    (hdone : ∀ s, Inv X pins σ (upd H q (.lst us)) s → Rs (.ok (.ret .none)) s) (herr : ∀ e s, X.xe e s → Rs (.error e) s)
    (I : Inv X pins σ H s) (hp : H p = some (.ins C dx fs)) (hr : fs.lookup ("rows" : Str) = some (.ref a)) (ha : H a = some (.tup us)) (hz : us.length ≤ 100000) (hq : H q = some (.lst [])) (hy : X.s_0.heap.objs.size ≤ q) :
    wpAny (model X.prog X.w) X.A.in1.in1 (Builtin.List.listExtendWith (.ref q) (.ref p) .none)
      (fun fin s' => match fin with | .done f => Rs (.ok f) s' | .again c' => c'.quiet = true ∧ codeAny (model X.prog X.w) X.A.in1 c' Rs s') (fun e s' => Rs (.error e) s') s := by
  have hne : q ≠ p := ne_of hq hp (fun z => nomatch z)
  have sb2 : Sub X (n + 1) X.A.in1.in1 := (Sub.in1 (Sub.in1 (⟨hrm, rfl⟩ : Sub X (n + 3) X.A)))
  have sb3 : Sub X n X.A.in1.in1.in1 := sb2.in1
  obtain ⟨mA, J, _⟩ := ins_get I.hok hp
  obtain ⟨od, J, _⟩ := J.look
  obtain ⟨m0, hF⟩ := I.fr
  unfold Builtin.List.listExtendWith
  refine wpAny_bind (J.type.here ?_)
  have h1 : Builtin.List.listSameRef (.ref q) (.ref p) = false := by simp [Builtin.List.listSameRef, hne]
  have h2 : (Value.ref C == Value.type "list") = false := rfl
  have h3 : (Value.ref C == Value.type "tuple") = false := rfl
  simp only [h1, h2, h3, Bool.or_false, Bool.false_eq_true, if_false]
  refine wpAny_bind (PySem.W.owit_iter hF I.ok.mod.kin J hi.at_ hi.fn ?_)
  have e0 : Env0 X.prog X.w X.K X.mg X.base X.A.in1.in1 X.stack s H := by
    have e := I.env0
    exact ⟨e.frames, e.mod, e.bs, e.bsz, e.funs, e.frf, e.hok, e.bare⟩
  have hspI : sp_it C [.ref p] H (fun v H' => ∃ it, v = .ref it ∧ H it = none ∧ (∀ m o, H m = some o → m < it) ∧ H' = upd H it (TiO a it)) EI := ⟨p, dx, fs, a, us, rfl, hp, hr, ha, fun it n1 n2 => ⟨it, rfl, n1, n2, rfl⟩⟩
  have hlI := FI.len _ _ _ _ hspI
  have r2 : Vals [V.ref p] [Value.ref p] := .cons rfl .nil
  refine wpAny_call (codeAny_mono (FI.run X.A.in1.in1 X.stack s H ⟨[.ref p], []⟩ [.ref p] [.ref p] _ EI (sb2.mono (Nat.le_succ n)).room e0 (by
    have := bI s [.ref p] I.kIn (by simpa using hlI)
    simpa using this) r2 hspI) fun r s' hq' => ?_)
  cases r with
  | error e => exact herr e s' (xI pins σ H s e s' I hq')
  | ok fl =>
    cases fl with
    | next => exact False.elim hq'
    | brk => exact False.elim hq'
    | cont => exact False.elim hq'
    | ret u =>
      obtain ⟨v, H', I', rv, it, rfl, n1, n2, eH⟩ := I.after hq'
      subst eH
      cases rv
      have e1 : s'.heap.get? it = some (tiObj a) := (I'.hok it _ upd_same).1
      have n0 : ∀ {b : Addr} {o : HO}, H b = some o → upd H it (TiO a it) b = some o := fun {b o} e => by
        rw [upd_ne (ne_of_none e n1)]
        exact e
      show PySem.W.OwitIt _ _ _ _ _ _
      unfold PySem.W.OwitIt
      refine wpAny_specialOf (T := "tuple_iterator") ⟨_, e1, rfl⟩ PySem.F.slot_tuple_iterator_next.lookup ?_
      refine wpAny_bind (wpAny_holding (lt_hint sb3 hl FL bL I' (n0 hp) hr (n0 ha) hz fun b s2 I2 => ?_))
      have e2 : s2.heap.get? it = some (tiObj a) := (I2.hok it _ upd_same).1
      have I3 : Inv X pins σ (ItX.dropH (upd H it (TiO a it)) it) s2 := ItX.inv_drop I2 upd_same
      have fp : FpOk X pins (ItX.dropH (upd H it (TiO a it)) it) it := ItX.inv_fp I2 (u := TiO a it) upd_same (Nat.le_of_lt (Nat.lt_of_le_of_lt hy (n2 q _ hq)))
      rw [ItX.dropH_upd n1] at I3 fp
      have st : s2.heap.IsTupleIter it a 0 := ⟨_, e2, rfl, rfl⟩
      have hH : upd H q (.lst (us.take 0)) = H := by
        funext b
        by_cases hb : b = q
        · rw [hb, upd_same, hq]
          rfl
        · rw [upd_ne hb]
      refine wpAny_ite_split (fun _ => ?_) (fun _ => wpAny_pure ⟨plainId_quiet PySem.F.plain_extend_loop _, lt_loop hc (szL hz) hq ha fp hdone _ 0 s2 rfl (Nat.zero_le _) (by rw [hH]; exact I3) st⟩)
      refine wpAny_bind (wpAny_rule ?_)
      refine wpAny_bind ?_
      show wpAny _ _ (updateSeq q (·.push .none) >>= fun _ => updateSeq q (·.pop)) _ _ _
      obtain ⟨z, its, k, r3, hl3, e3⟩ := I3.lstM hq
      cases r3
      refine wpAny_bind (wpAny_updateSeq e3 rfl ?_)
      have J2 := I3.lset (f := (·.push Value.none)) (its' := [Value.none]) (ys := [.non]) (t' := s2.toks) hq e3 (by simp) (.cons rfl .nil) (by rw [List.length_singleton, sizeLine_eq]; decide)
      obtain ⟨z4, its4, k4, r4, hl4, e4⟩ := J2.lstM upd_same
      obtain ⟨u4, rfl, ru4⟩ := r4.one
      have hqi : it ≠ q := fun z => by
        have := fp.1
        rw [z, hq] at this
        cases this
      refine wpAny_updateSeq e4 rfl ?_ (by show 1 ≤ sizeLine; rw [sizeLine_eq]; decide) (by show 0 ≤ sizeLine + 1; exact Nat.zero_le _)
      have J3 := J2.lset (f := (·.pop)) (its := [u4]) (its' := []) (ys := []) (t' := s2.toks) upd_same e4 (by rfl) .nil (Nat.zero_le _)
      rw [upd_upd] at J3
      refine wpAny_pure ⟨plainId_quiet PySem.F.plain_extend_loop _, lt_loop hc (szL hz) hq ha fp hdone _ 0 _ rfl (Nat.zero_le _) J3 ?_⟩
      obtain ⟨o, ho, r⟩ := st
      exact ⟨o, (Heap.get?_update_ne _ it q _ hqi).trans ((Heap.get?_update_ne _ it q _ hqi).trans ho), r⟩
/-- list(o) -/
def rListT (C : Addr) : List V → Hp → VK → Prop := fun xs H Q => ∃ p dx fs a us, xs = [.ref p] ∧ H p = some (.ins C dx fs) ∧ fs.lookup ("rows" : Str) = some (.ref a) ∧ H a = some (.tup us) ∧ us.length ≤ 100000 ∧ ∀ q, H q = none → Q (.ref q) (upd H q (.lst us))
theorem call_listT (hrm : Room (n + 3) X.A) (hc : X.calm = true) (hi : Meth X.K C "__iter__" fi) (hl : Meth X.K C "__len__" fl)
    (FI : FnOk X.prog X.w X.K X.mg X.base CX0 n fi fdI psI (sp_it C)) (bI : Binds X.K fdI psI []) (FL : FnOk X.prog X.w X.K X.mg X.base CX0 n fl fdL psL (sp_ln C)) (bL : Binds X.K fdL psL []) : CallR X (.type "list") (rListT C) := by
  intro pins s σ H xs us Q I rv h
  obtain ⟨p, dx, fs, a, vs, rfl, hp, hr, ha, hz, hq⟩ := h
  obtain ⟨u, rfl, ru⟩ := rv.one
  cases ru
  refine callType_codes (Q₁ := fun obj s₁ => obj = .ref s.heap.objs.size ∧ s₁ = { s with heap := s.heap.push { cls := .type "list", data := .seq #[] } }) PySem.F.called_list (PySem.F.typeCall_list_1 _) PySem.F.entry_list_init
    (code_list_new _ ⟨rfl, rfl⟩) fun obj s₁ h₁ => ?_
  obtain ⟨rfl, rfl⟩ := h₁
  have hS : (s.heap.push { cls := .type "list", data := .seq #[] }).get? s.heap.objs.size = some { cls := .type "list", data := .seq #[] } := Heap.get?_push_size _ rfl
  refine ⟨⟨_, hS, rfl⟩, PySem.F.args_list_init_2 _ _, ?_⟩
  have fr : H s.heap.objs.size = none := I.hok.fresh (Nat.le_refl _)
  have hQ := hq _ fr
  have I1 : Inv X pins σ (upd H s.heap.objs.size (.lst [])) { s with heap := s.heap.push { cls := .type "list", data := .seq #[] } } := I.lnew (its := []) (t' := s.toks) .nil (Nat.zero_le _)
  show wpAny _ _ (do let old ← Builtin.List.listItems (.ref s.heap.objs.size); Builtin.List.listUpdate (.ref s.heap.objs.size) (fun _ => #[]); letGo old.toList.reverse; Builtin.List.listExtendWith (.ref s.heap.objs.size) (.ref p) .none) _ _ _
  refine wpAny_bind ?_
  unfold Builtin.List.listItems
  refine wpAny_bind (wpAny_seqItems hS rfl (wpAny_pure ?_))
  show wpAny _ _ (updateSeq s.heap.objs.size (fun _ => #[]) >>= fun _ => letGo (#[] : Array Value).toList.reverse >>= fun _ => Builtin.List.listExtendWith (.ref s.heap.objs.size) (.ref p) .none) _ _ _
  refine wpAny_bind (wpAny_updateSeq hS rfl ?_)
  have I2 := I1.lset (f := fun _ => #[]) (its := []) (its' := []) (ys := []) (t' := s.toks) upd_same hS rfl .nil (Nat.zero_le _)
  rw [upd_upd] at I2
  refine wpAny_bind (wpAny_letGo ?_)
  have hp2 : upd H s.heap.objs.size (.lst []) p = some (.ins C dx fs) := by rw [upd_ne (ne_of_none hp fr)]; exact hp
  have ha2 : upd H s.heap.objs.size (.lst []) a = some (.tup vs) := by rw [upd_ne (ne_of_none ha fr)]; exact ha
  exact lt_extend (Rs := wants (fun r s₂ => r = .none ∧ EP X pins σ Q (.ref s.heap.objs.size) s₂) X.xe) hrm hc hi hl FI bI pass0 FL bL
    (fun s' I' => ⟨rfl, .ref s.heap.objs.size, _, by rw [upd_upd] at I'; exact I', rfl, hQ⟩) (fun e s' he => he) I2 hp2 hr ha2 hz upd_same I.sz
end
end K81

namespace K81
open PySem PySem.Spec PyProof.Rows L2
/-! # The heads, the rows of a ringing or touch -/
/-- a ringing or touch stands at s: its heads, its rows -/
def RAt (C : Addr) (H : Hp) (s : Addr) (hs bs : List Row) : Prop := ∃ dx fs v1 v2, H s = some (.ins C dx fs) ∧ fs.lookup ("row_of_heads" : Str) = some v1 ∧ fs.lookup ("rows" : Str) = some v2 ∧ fs.lookup ("__iter__" : Str) = none ∧ fs.lookup ("__len__" : Str) = none ∧ At H (.tup (rws hs)) v1 ∧ At H (.tup (rws bs)) v2
theorem RAt.hard {C : Addr} {H H' : Hp} {s : Addr} {hs bs : List Row} (h : RAt C H s hs bs) (k : Hard H H') : RAt C H' s hs bs := by
  obtain ⟨dx, fs, v1, v2, e, f1, f2, f3, f4, a1, a2⟩ := h
  exact ⟨dx, fs, v1, v2, k s _ e (fun ys z => by cases z), f1, f2, f3, f4, a1.mono k.tk, a2.mono k.tk⟩
section
variable {P : Program} {w : World} {K : PySem.W.Frag} {mg : Str → Option Value} {base : Heap}
def sp_hd (C : Addr) : Sp := fun vs H Q _ => ∃ s hs bs, vs = [.ref s] ∧ RAt C H s hs bs ∧ ∀ v, At H (.tup (rws hs)) v → Q v H
abbrev sp_Touch_heads : Sp := sp_hd c_Touch
abbrev sp_Ringing_heads : Sp := sp_hd c_Ringing
def sp_Ringing_end : Sp := fun vs H Q _ => ∃ s hs r bs, vs = [.ref s] ∧ RAt c_Ringing H s (hs ++ [r]) bs ∧ ∀ v, At H (rowD r) v → Q v H
abbrev sp_Touch_iter : Sp := sp_it c_Touch
abbrev sp_Ringing_iter : Sp := sp_it c_Ringing
abbrev sp_Touch_len : Sp := sp_ln c_Touch
abbrev sp_Ringing_len : Sp := sp_ln c_Ringing
abbrev N_Touch_heads : List Str := ["self"]
theorem sc_Touch_heads : FnScope ["self"] ["self"] (defScope s_Touch_heads) := ⟨rfl, rfl, rfl, by decide +kernel, rfl, by decide +kernel, by decide +kernel⟩
theorem bd_Touch_heads (T : Txt K mg) : Binds K (fdOf K a_Touch_heads) ["self"] [] := FunD.bindsN T.F_Touch_heads fun _ _ _ _ _ _ us hl => match us, hl with | [_], _ => rfl
theorem ok_Touch_heads (T : Txt K mg) : FnOk P w K mg base CX0 1 a_Touch_heads (fdOf K a_Touch_heads) ["self"] (sp_Touch_heads) := by
  refine ok0 T.F_Touch_heads sc_Touch_heads (fun vs H Q E h => ?_) (fun cdv A outer s H vs Q E hr h => ?_)
  · obtain ⟨s0, hs, bs, rfl, ⟨dx, fs, v1, v2, e, f1, f2, f3, f4, a1, a2⟩, k⟩ := h
    rfl
  · obtain ⟨s0, hs, bs, rfl, ⟨dx, fs, v1, v2, e, f1, f2, f3, f4, a1, a2⟩, k⟩ := h
    have hU := hr.units
    have hu := hu_of hr
    refine ⟨_, (pss_one (ps_ret (pe_fld (pv 0) rfl))), ?_⟩
    exact ⟨_, rfl, s0, c_Touch, dx, fs, v1, rfl, e, T.cl_Touch, T.n_Touch_row_of_heads, f1, k v1 a1⟩
abbrev N_Ringing_heads : List Str := ["self"]
theorem sc_Ringing_heads : FnScope ["self"] ["self"] (defScope s_Ringing_heads) := ⟨rfl, rfl, rfl, by decide +kernel, rfl, by decide +kernel, by decide +kernel⟩
theorem bd_Ringing_heads (T : Txt K mg) : Binds K (fdOf K a_Ringing_heads) ["self"] [] := FunD.bindsN T.F_Ringing_heads fun _ _ _ _ _ _ us hl => match us, hl with | [_], _ => rfl
theorem ok_Ringing_heads (T : Txt K mg) : FnOk P w K mg base CX0 1 a_Ringing_heads (fdOf K a_Ringing_heads) ["self"] (sp_Ringing_heads) := by
  refine ok0 T.F_Ringing_heads sc_Ringing_heads (fun vs H Q E h => ?_) (fun cdv A outer s H vs Q E hr h => ?_)
  · obtain ⟨s0, hs, bs, rfl, ⟨dx, fs, v1, v2, e, f1, f2, f3, f4, a1, a2⟩, k⟩ := h
    rfl
  · obtain ⟨s0, hs, bs, rfl, ⟨dx, fs, v1, v2, e, f1, f2, f3, f4, a1, a2⟩, k⟩ := h
    have hU := hr.units
    have hu := hu_of hr
    refine ⟨_, (pss_one (ps_ret (pe_fld (pv 0) rfl))), ?_⟩
    exact ⟨_, rfl, s0, c_Ringing, dx, fs, v1, rfl, e, T.cl_Ringing, T.n_Ringing_row_of_heads, f1, k v1 a1⟩
abbrev N_Ringing_end : List Str := ["self"]
theorem sc_Ringing_end : FnScope ["self"] ["self"] (defScope s_Ringing_end) := ⟨rfl, rfl, rfl, by decide +kernel, rfl, by decide +kernel, by decide +kernel⟩
theorem bd_Ringing_end (T : Txt K mg) : Binds K (fdOf K a_Ringing_end) ["self"] [] := FunD.bindsN T.F_Ringing_end fun _ _ _ _ _ _ us hl => match us, hl with | [_], _ => rfl
theorem ok_Ringing_end (T : Txt K mg) : FnOk P w K mg base CX0 1 a_Ringing_end (fdOf K a_Ringing_end) ["self"] (sp_Ringing_end) := by
  refine ok0 T.F_Ringing_end sc_Ringing_end (fun vs H Q E h => ?_) (fun cdv A outer s H vs Q E hr h => ?_)
  · obtain ⟨s0, hs, r, bs, rfl, ⟨dx, fs, v1, v2, e, f1, f2, f3, f4, a1, a2⟩, k⟩ := h
    rfl
  · obtain ⟨s0, hs, r, bs, rfl, ⟨dx, fs, v1, v2, e, f1, f2, f3, f4, a1, a2⟩, k⟩ := h
    have hU := hr.units
    have hu := hu_of hr
    refine ⟨_, (pss_one (ps_ret (pe_ix ix_tupK (pe_fld (pv 0) rfl) (pe_un un_neg pe_int) (fun _ _ => rfl)))), ?_⟩
    exact ⟨_, rfl, s0, c_Ringing, dx, fs, v1, rfl, e, T.cl_Ringing, T.n_Ringing_row_of_heads, f1, _, rfl, _, -1, hs.length, rowD r, a1, rfl, ⟨by rw [rws_len, List.length_append, List.length_singleton]; omega, .inr (by rw [rws_len, List.length_append, List.length_singleton]; omega)⟩, by rw [List.getElem?_map, List.getElem?_append_right (Nat.le_refl _), Nat.sub_self]; rfl, k⟩
abbrev N_Touch_iter : List Str := ["self"]
theorem sc_Touch_iter : FnScope ["self"] ["self"] (defScope s_Touch_iter) := ⟨rfl, rfl, rfl, by decide +kernel, rfl, by decide +kernel, by decide +kernel⟩
theorem bd_Touch_iter (T : Txt K mg) : Binds K (fdOf K a_Touch_iter) ["self"] [] := FunD.bindsN T.F_Touch_iter fun _ _ _ _ _ _ us hl => match us, hl with | [_], _ => rfl
theorem ok_Touch_iter (T : Txt K mg) : FnOk P w K mg base CX0 1 a_Touch_iter (fdOf K a_Touch_iter) ["self"] (sp_Touch_iter) := by
  refine ok0 T.F_Touch_iter sc_Touch_iter (fun vs H Q E h => ?_) (fun cdv A outer s H vs Q E hr h => ?_)
  · obtain ⟨s0, dx, fs, a, us, rfl, e, f, ha, k⟩ := h
    rfl
  · obtain ⟨s0, dx, fs, a, us, rfl, e, f, ha, k⟩ := h
    have hU := hr.units
    have hu := hu_of hr
    refine ⟨_, (pss_one (ps_ret (pe_callB call_iterT (by rfl) T.z_iter (by decide +kernel) (pa_cons (pe_fld (pv 0) rfl) pa_nil)))), ?_⟩
    exact ⟨_, rfl, s0, c_Touch, dx, fs, _, rfl, e, T.cl_Touch, T.n_Touch_rows, f, a, us, rfl, SqT.of ha, k⟩
abbrev N_Ringing_iter : List Str := ["self"]
theorem sc_Ringing_iter : FnScope ["self"] ["self"] (defScope s_Ringing_iter) := ⟨rfl, rfl, rfl, by decide +kernel, rfl, by decide +kernel, by decide +kernel⟩
theorem bd_Ringing_iter (T : Txt K mg) : Binds K (fdOf K a_Ringing_iter) ["self"] [] := FunD.bindsN T.F_Ringing_iter fun _ _ _ _ _ _ us hl => match us, hl with | [_], _ => rfl
theorem ok_Ringing_iter (T : Txt K mg) : FnOk P w K mg base CX0 1 a_Ringing_iter (fdOf K a_Ringing_iter) ["self"] (sp_Ringing_iter) := by
  refine ok0 T.F_Ringing_iter sc_Ringing_iter (fun vs H Q E h => ?_) (fun cdv A outer s H vs Q E hr h => ?_)
  · obtain ⟨s0, dx, fs, a, us, rfl, e, f, ha, k⟩ := h
    rfl
  · obtain ⟨s0, dx, fs, a, us, rfl, e, f, ha, k⟩ := h
    have hU := hr.units
    have hu := hu_of hr
    refine ⟨_, (pss_one (ps_ret (pe_callB call_iterT (by rfl) T.z_iter (by decide +kernel) (pa_cons (pe_fld (pv 0) rfl) pa_nil)))), ?_⟩
    exact ⟨_, rfl, s0, c_Ringing, dx, fs, _, rfl, e, T.cl_Ringing, T.n_Ringing_rows, f, a, us, rfl, SqT.of ha, k⟩
abbrev N_Touch_len : List Str := ["self"]
theorem sc_Touch_len : FnScope ["self"] ["self"] (defScope s_Touch_len) := ⟨rfl, rfl, rfl, by decide +kernel, rfl, by decide +kernel, by decide +kernel⟩
theorem bd_Touch_len (T : Txt K mg) : Binds K (fdOf K a_Touch_len) ["self"] [] := FunD.bindsN T.F_Touch_len fun _ _ _ _ _ _ us hl => match us, hl with | [_], _ => rfl
theorem ok_Touch_len (T : Txt K mg) : FnOk P w K mg base CX0 1 a_Touch_len (fdOf K a_Touch_len) ["self"] (sp_Touch_len) := by
  refine ok0 T.F_Touch_len sc_Touch_len (fun vs H Q E h => ?_) (fun cdv A outer s H vs Q E hr h => ?_)
  · obtain ⟨s0, dx, fs, a, us, rfl, e, f, ha, k⟩ := h
    rfl
  · obtain ⟨s0, dx, fs, a, us, rfl, e, f, ha, k⟩ := h
    have hU := hr.units
    have hu := hu_of hr
    refine ⟨_, (pss_one (ps_ret (pe_callB call_len (by rfl) T.z_len PySem.boot_len (pa_cons (pe_fld (pv 0) rfl) pa_nil)))), ?_⟩
    exact ⟨_, rfl, s0, c_Touch, dx, fs, _, rfl, e, T.cl_Touch, T.n_Touch_rows, f, .ref a, _, rfl, .inr ⟨us, SqT.of ha, rfl⟩, k⟩
abbrev N_Ringing_len : List Str := ["self"]
theorem sc_Ringing_len : FnScope ["self"] ["self"] (defScope s_Ringing_len) := ⟨rfl, rfl, rfl, by decide +kernel, rfl, by decide +kernel, by decide +kernel⟩
theorem bd_Ringing_len (T : Txt K mg) : Binds K (fdOf K a_Ringing_len) ["self"] [] := FunD.bindsN T.F_Ringing_len fun _ _ _ _ _ _ us hl => match us, hl with | [_], _ => rfl
theorem ok_Ringing_len (T : Txt K mg) : FnOk P w K mg base CX0 1 a_Ringing_len (fdOf K a_Ringing_len) ["self"] (sp_Ringing_len) := by
  refine ok0 T.F_Ringing_len sc_Ringing_len (fun vs H Q E h => ?_) (fun cdv A outer s H vs Q E hr h => ?_)
  · obtain ⟨s0, dx, fs, a, us, rfl, e, f, ha, k⟩ := h
    rfl
  · obtain ⟨s0, dx, fs, a, us, rfl, e, f, ha, k⟩ := h
    have hU := hr.units
    have hu := hu_of hr
    refine ⟨_, (pss_one (ps_ret (pe_callB call_len (by rfl) T.z_len PySem.boot_len (pa_cons (pe_fld (pv 0) rfl) pa_nil)))), ?_⟩
    exact ⟨_, rfl, s0, c_Ringing, dx, fs, _, rfl, e, T.cl_Ringing, T.n_Ringing_rows, f, .ref a, _, rfl, .inr ⟨us, SqT.of ha, rfl⟩, k⟩
end
end K81

namespace K81
open PySem PySem.Spec PyProof.Rows L2
/-! # The ringing against the touch -/
/-- the slips: where what is rung differs from what is called -/
def slipsOf : Nat → List Nat → List Nat → List Slip
  | b, c :: cs, r :: rs => (if r = c then [] else [(b, r)]) ++ slipsOf (b + 1) cs rs
  | _, _, _ => []
theorem slipsOf_snoc : ∀ (cs us : List Nat) (b c r : Nat), us.length = cs.length → slipsOf b (cs ++ [c]) (us ++ [r]) = slipsOf b cs us ++ (if r = c then [] else [(b + cs.length, r)])
  | [], [], b, c, r, _ => by
    show (if r = c then [] else [(b, r)]) ++ [] = [] ++ _
    rw [List.append_nil]
    rfl
  | d :: cs, e :: us, b, c, r, h => by
    have ih := slipsOf_snoc cs us (b + 1) c r (by simpa using h)
    show _ ++ slipsOf (b + 1) (cs ++ [c]) (us ++ [r]) = (_ ++ slipsOf (b + 1) cs us) ++ _
    rw [ih, List.append_assoc]
    have e : b + 1 + cs.length = b + (d :: cs).length := by rw [List.length_cons]; omega
    rw [e]
  | [], _ :: _, _, _, _, h => nomatch h
  | _ :: _, [], _, _, _, h => nomatch h
theorem slipsOf_mem : ∀ {cs us : List Nat} {b : Nat} {s : Slip}, s ∈ slipsOf b cs us → b ≤ s.1 ∧ s.1 < b + cs.length ∧ us[s.1 - b]? = some s.2 ∧ cs[s.1 - b]? ≠ some s.2
  | [], us, b, s, h => by
    cases us <;> exact nomatch h
  | c :: cs, [], b, s, h => nomatch h
  | c :: cs, r :: us, b, s, h => by
    rcases List.mem_append.mp (show s ∈ (if r = c then [] else [(b, r)]) ++ slipsOf (b + 1) cs us from h) with h | h
    · by_cases e : r = c
      · rw [if_pos e] at h
        exact nomatch h
      · rw [if_neg e] at h
        rw [List.mem_singleton.mp h]
        refine ⟨Nat.le_refl _, by simp, by simp, by simpa using fun z => e z.symm⟩
    · obtain ⟨h1, h2, h3, h4⟩ := slipsOf_mem h
      have e : s.1 - b = (s.1 - (b + 1)) + 1 := by omega
      refine ⟨by omega, by rw [List.length_cons]; omega, ?_, ?_⟩
      · rw [e, List.getElem?_cons_succ]
        exact h3
      · rw [e, List.getElem?_cons_succ]
        exact h4
theorem slipsOf_pw : ∀ (cs us : List Nat) (b : Nat), (slipsOf b cs us).Pairwise fun x y => x.1 < y.1
  | [], us, b => by cases us <;> exact List.Pairwise.nil
  | c :: cs, [], b => List.Pairwise.nil
  | c :: cs, r :: us, b => by
    show ((if r = c then [] else [(b, r)]) ++ slipsOf (b + 1) cs us).Pairwise _
    rw [List.pairwise_append]
    refine ⟨by split <;> simp, slipsOf_pw cs us (b + 1), fun x hx y hy => ?_⟩
    have := (slipsOf_mem hy).1
    by_cases e : r = c
    · rw [if_pos e] at hx
      exact nomatch hx
    · rw [if_neg e] at hx
      rw [List.mem_singleton.mp hx]
      show b < y.1
      omega
theorem here_none {sl : List Slip} {i : Nat} (h : ∀ s ∈ sl, s.1 ≠ i) : hereAt sl i = [] := by
  unfold hereAt
  rw [List.filter_eq_nil_iff]
  intro s hs z
  exact h s hs (of_decide_eq_true z)
theorem rungs_low {sl : List Slip} : ∀ (wd : List Nat) (i : Nat), (∀ s ∈ sl, i + wd.length ≤ s.1) → rungs sl i wd = wd
  | [], _, _ => rfl
  | c :: wd, i, h => by
    show rungOf (hereAt sl i) c :: rungs sl (i + 1) wd = c :: wd
    rw [here_none fun s hs => by have := h s hs; rw [List.length_cons] at this; omega, rungs_low wd (i + 1) fun s hs => by have := h s hs; rw [List.length_cons] at this; omega]
    rfl
theorem rungs_slips : ∀ (cs us : List Nat) (b : Nat) (A : List Slip), us.length = cs.length → (∀ s ∈ A, s.1 < b) → rungs (A ++ slipsOf b cs us) b cs = us
  | [], [], _, _, _, _ => rfl
  | [], _ :: _, _, _, h, _ => nomatch h
  | _ :: _, [], _, _, h, _ => nomatch h
  | c :: cs, r :: us, b, A, h, hA => by
    have e1 : A ++ slipsOf b (c :: cs) (r :: us) = (A ++ (if r = c then [] else [(b, r)])) ++ slipsOf (b + 1) cs us := by
      rw [List.append_assoc]
      rfl
    have hA' : ∀ s ∈ A ++ (if r = c then [] else [(b, r)]), s.1 < b + 1 := fun s hs => by
      rcases List.mem_append.mp hs with z | z
      · have := hA s z
        omega
      · by_cases e : r = c
        · rw [if_pos e] at z
          exact nomatch z
        · rw [if_neg e] at z
          rw [List.mem_singleton.mp z]
          exact Nat.lt_succ_self _
    show rungOf (hereAt (A ++ slipsOf b (c :: cs) (r :: us)) b) c :: rungs (A ++ slipsOf b (c :: cs) (r :: us)) (b + 1) cs = r :: us
    rw [e1, rungs_slips cs us (b + 1) _ (by simpa using h) hA']
    have e2 : hereAt ((A ++ (if r = c then [] else [(b, r)])) ++ slipsOf (b + 1) cs us) b = if r = c then [] else [(b, r)] := by
      have n1 : hereAt A b = [] := here_none fun s hs => by have := hA s hs; omega
      have n2 : hereAt (slipsOf (b + 1) cs us) b = [] := here_none fun s hs => by have := (slipsOf_mem hs).1; omega
      unfold hereAt at n1 n2 ⊢
      rw [List.filter_append, List.filter_append, n1, n2]
      split <;> simp
    rw [e2]
    by_cases e : r = c
    · rw [if_pos e, e]
      rfl
    · rw [if_neg e]
      rfl
theorem hds_app (W : Wd) (r : Row) (a b : List Nat) : hds W r (a ++ b) = hdsI W r a ++ hds W (goTo W r a) b := by
  unfold hds
  rw [hdsI_app, goTo_app, List.append_assoc]
theorem slipsOf_len : ∀ (cs us : List Nat) (b : Nat), (slipsOf b cs us).length ≤ cs.length
  | [], us, b => by cases us <;> exact Nat.le_refl _
  | c :: cs, [], b => Nat.zero_le _
  | c :: cs, r :: us, b => by
    have := slipsOf_len cs us (b + 1)
    show ((if r = c then [] else [(b, r)]) ++ slipsOf (b + 1) cs us).length ≤ cs.length + 1
    rw [List.length_append]
    split <;> simp <;> omega
theorem sms_rws (cs : List Row) : Sms (rws cs) := sms_all fun k hk => by
  obtain ⟨r, _, rfl⟩ := List.mem_map.mp hk
  exact sm_row r
theorem sm_tupR (cs : List Row) : Sm (.tup (rws cs)) := by
  have h : NestedKey.depthAll (rws cs) ≤ 1 := depthAll_le _ fun k hk => by
    obtain ⟨r, _, rfl⟩ := List.mem_map.mp hk
    rw [depth_row]
    exact Nat.le_refl 1
  refine ⟨?_, (sms_rws cs).2⟩
  show NestedKey.depthAll (rws cs) + 1 ≤ 60
  omega
theorem tx_at {l : List Nat} {i : Nat} (h : i < l.length) : atI (tx l).cps.toList ((i : Nat) : Int) = some l[i] := by
  unfold atI
  have el : (tx l).cps.toList = l := by simp [tx]
  rw [el, ixN_of (j := i) ⟨h, .inl rfl⟩]
  exact List.getElem?_eq_getElem h
theorem tx_sz {l : List Nat} (h : l.length ≤ 100000) : (tx l).length ≤ sizeLine := by rw [tx_len]; exact Nat.le_of_lt (szL h)
section
variable {P : Program} {w : World} {K : PySem.W.Frag} {mg : Str → Option Value} {base : Heap}
def sp_law_ringing_fits (P : Program) (w : World) : Sp := fun vs H Q _ => ∃ p W ls wd cs us L, vs = [.ref p, .str (tx wd), .str (tx cs), .str (tx us), .ref L] ∧ MAt H p W ls ∧ (∀ c ∈ wd, c ∈ ls) ∧ (∀ c ∈ cs, c ∈ ls) ∧ (∀ c ∈ us, c ∈ ls) ∧ wd.length ≤ 24 ∧ cs.length ≤ 130 ∧ us.length = cs.length ∧
  Ls H L (rws (hds W (goTo W (rnd W.n) wd) us)) ∧ ∀ H', Grow No H H' → Q (.bl true) H'
abbrev N_law_ringing_fits : List Str := ["_law_method", "_law_word", "_law_called", "_law_rung", "_law_heads_here", "_law_slips", "_law_k", "_law_ringing", "_law_touch"]
theorem sc_law_ringing_fits : FnScope ["_law_method", "_law_word", "_law_called", "_law_rung", "_law_heads_here", "_law_slips", "_law_k", "_law_ringing", "_law_touch"] ["_law_method", "_law_word", "_law_called", "_law_rung", "_law_heads_here"] (defScope s_law_ringing_fits) := ⟨rfl, rfl, rfl, by decide +kernel, rfl, by decide +kernel, by decide +kernel⟩
theorem bd_law_ringing_fits (T : Txt K mg) : Binds K (fdOf K a_law_ringing_fits) ["_law_method", "_law_word", "_law_called", "_law_rung", "_law_heads_here"] [] := FunD.bindsN T.F_law_ringing_fits fun _ _ _ _ _ _ us hl => match us, hl with | [_, _, _, _, _], _ => rfl
theorem ok_law_ringing_fits (T : Txt K mg) : FnOk P w K mg base CX0 8 a_law_ringing_fits (fdOf K a_law_ringing_fits) ["_law_method", "_law_word", "_law_called", "_law_rung", "_law_heads_here"] (sp_law_ringing_fits P w) := by
  refine ok0 T.F_law_ringing_fits sc_law_ringing_fits (fun vs H Q E h => ?_) (fun cdv A outer s H vs Q E hr h => ?_)
  · obtain ⟨p, W, ls, wd, cs, us, L, rfl, m, hw, hc, hu0, hwl, hcl, hul, l, k⟩ := h
    rfl
  · obtain ⟨p, W, ls, wd, cs, us, L, rfl, m, hw, hc, hu0, hwl, hcl, hul, l, k⟩ := h
    have hU := hr.units
    have hu := hu_of hr
    obtain ⟨dsT, vT, bT⟩ := bd1_Touch_init T
    refine ⟨_, (pss_cons (ps_set (i := 5) sc_law_ringing_fits.nd rfl (Or.inl rfl) (pe_lst pa_nil))
      (pss_cons (ps_for PassesOwn.never rfl (pi_range1 (by rfl) T.z_range (pa_cons (pe_callB call_len_str (by rfl) T.z_len PySem.boot_len (pa_cons (pv 3) pa_nil)) pa_nil)) (pg_name (i := 6) sc_law_ringing_fits.nd rfl (Or.inl rfl)) (pss_one (ps_if (pt_cmpR op_ne (pe_ix ix_str (pv 3) (pv 6) (fun _ _ => rfl)) (pe_ix ix_str (pv 2) (pv 6) (fun _ _ => rfl)) (nomark _)) (pss_one (ps_expr (pe_bm PySem.F.plainAttrs_list PySem.F.slot_list_append PySem.F.type_list_append mt_appK (pv 5) (pa_cons (pe_tup (pa_cons pe_str (pa_cons (pe_op op_add (pe_callB call_len_str (by rfl) T.z_len PySem.boot_len (pa_cons (pv 1) pa_nil)) (pv 6)) (pa_cons (pe_ix ix_str (pv 3) (pv 6) (fun _ _ => rfl)) pa_nil)))) pa_nil)))) pss_nil)))
      (pss_cons (ps_if (pt_cmpR op_gt (pe_callB call_lenK (by rfl) T.z_len PySem.boot_len (pa_cons (pv 5) pa_nil)) pe_int (nomark _)) (pss_one (ps_ret pe_bl)) pss_nil)
      (pss_cons (ps_set (i := 7) sc_law_ringing_fits.nd rfl (Or.inl rfl) (pe_make T.mk_Ringing (ok_Ringing_init T) (hr.mono (by decide)) rfl T.g_Ringing (bd_Ringing_init T) .nil pass0 (pa_cons (pv 0) (pa_cons (pe_op op_add_str (pv 1) (pv 2)) (pa_cons (pe_callTy call_tupK (by rfl) T.z_tuple (by decide +kernel) (pa_cons (pv 5) pa_nil)) pa_nil)))))
      (pss_cons (ps_set (i := 8) sc_law_ringing_fits.nd rfl (Or.inl rfl) (pe_make T.mk_Touch (ok_Touch_init T) (hr.mono (by decide)) rfl T.g_Touch bT vT pass0 (pa_cons (pv 0) (pa_cons (pe_op op_add_str (pv 1) (pv 3)) pa_nil))))
      (pss_cons (ps_if (PW.pt (pw_or (pt_cmpR (op_neKL hU) (pe_callTy call_lstK (by rfl) T.z_list (by decide +kernel) (pa_cons (pe_slice sl_dropK (pe_prop (pv 7) T.cl_Ringing T.pr_Ringing_heads (ok_Ringing_heads T) (hr.mono (by decide)) (bd_Ringing_heads T) .nil pass0 rfl) (po_some (pe_callB call_len_str (by rfl) T.z_len PySem.boot_len (pa_cons (pv 1) pa_nil))) po_none) pa_nil)) (pv 4) (nomark _)) (pw_or1 (pt_cmpR (op_neK hU) (pe_prop (pv 7) T.cl_Ringing T.pr_Ringing_end (ok_Ringing_end T) (hr.mono (by decide)) (bd_Ringing_end T) .nil pass0 rfl) (pe_ix ix_lstK (pv 4) (pe_un un_neg pe_int) (fun _ _ => rfl)) (nomark _))))) (pss_one (ps_ret pe_bl)) pss_nil)
      (pss_one (ps_ret (pe_and (pe_cmpR (op_eqK hU) (pe_prop (pv 7) T.cl_Ringing T.pr_Ringing_heads (ok_Ringing_heads T) (hr.mono (by decide)) (bd_Ringing_heads T) .nil pass0 rfl) (pe_prop (pv 8) T.cl_Touch T.pr_Touch_heads (ok_Touch_heads T) (hr.mono (by decide)) (bd_Touch_heads T) .nil pass0 rfl) (nomark _)) (pe_one (pe_cmpR (op_eqKL hU) (pe_callTy (call_listT (hr.mono (by decide)) rfl T.m_Ringing_iter T.m_Ringing_len (ok_Ringing_iter T) ((bd_Ringing_iter T)) (ok_Ringing_len T) (bd_Ringing_len T)) (by rfl) T.z_list (by decide +kernel) (pa_cons (pv 7) pa_nil)) (pe_callTy (call_listT (hr.mono (by decide)) rfl T.m_Touch_iter T.m_Touch_len (ok_Touch_iter T) ((bd_Touch_iter T)) (ok_Touch_len T) (bd_Touch_len T)) (by rfl) T.z_list (by decide +kernel) (pa_cons (pv 8) pa_nil)) (nomark _)))))))))))), ?_⟩
    have ok := m.ok
    have hn := ok.bells
    refine ⟨Nat.zero_le _, fun LS hLS => ?_⟩
    have g0 : Grow No H (upd H LS (.lst [])) := Grow.new hLS
    have l0 : Ls (upd H LS (.lst [])) LS (([] : List Slip).map slipD) := Ls.new .nil hLS
    generalize upd H LS (.lst []) = H0 at g0 l0
    refine ⟨_, rfl, _, rfl, tx_sz (by omega), _, rfl, (by rw [tx_len]; omega), (by rw [tx_len]; omega), ?_⟩
    rw [tx_len, Int.toNat_natCast]
    refine for_range (fun i σ H' => Grow No H H' ∧ ∃ (t : Option V), σ = [some (.ref p), some (.str (tx wd)), some (.str (tx cs)), some (.str (tx us)), some (.ref L), some (.ref LS), t, none, none] ∧ Ls H' LS ((slipsOf wd.length (cs.take i) (us.take i)).map slipD)) ⟨g0, none, rfl, by rw [List.take_zero, List.take_zero]; exact l0⟩ (fun i σ H' hi q => ?_) fun σ H' q => ?_
    · obtain ⟨g, t, rfl, l1⟩ := q
      have hi1 : i < us.length := by omega
      have hi2 : i < cs.length := by omega
      have hsn := slipsOf_snoc (cs.take i) (us.take i) wd.length cs[i] us[i] (by rw [List.length_take, List.length_take, hul])
      rw [← take_more cs i hi2, ← take_more us i hi1, List.length_take, Nat.min_eq_left (Nat.le_of_lt hi2)] at hsn
      have hsl : (slipsOf wd.length (cs.take i) (us.take i)).length ≤ 130 := by
        have := slipsOf_len (cs.take i) (us.take i) wd.length
        rw [List.length_take] at this
        omega
      refine ⟨_, rfl, _, rfl, tx us, (i : Nat), us[i], rfl, congrArg V.int (Int.zero_add _), tx_sz (by omega), tx_at hi1, ?_⟩
      refine ⟨_, rfl, _, rfl, tx cs, (i : Nat), cs[i], rfl, congrArg V.int (Int.zero_add _), tx_sz (by omega), tx_at hi2, ?_⟩
      refine ⟨rfl, _, rfl, ?_⟩
      have ed : decide (V.str (⟨#[us[i]]⟩ : Str) = V.str (⟨#[cs[i]]⟩ : Str)) = decide (us[i] = cs[i]) := sg_dec us[i] cs[i]
      rw [ed]
      by_cases h : us[i] = cs[i]
      · refine iteF' (nF h) ?_
        exact ⟨g, _, rfl, by rw [hsn, if_pos h, List.append_nil]; exact l1⟩
      · refine iteT' (nT h) ?_
        refine ⟨_, rfl, tyL l1, ?_⟩
        refine ⟨_, rfl, _, rfl, tx_sz (by omega), _, rfl, _, _, rfl, rfl, _, rfl, _, rfl, tx us, (i : Nat), us[i], rfl, congrArg V.int (Int.zero_add _), tx_sz (by omega), tx_at hi1, (by decide : 3 ≤ sizeLine), fun t1 ht1 => ?_⟩
        have d1 := tup_new (.cons (.text sMis) (.cons (.num (((tx wd).length : Nat) + (0 + (i : Int)))) (.cons (.text (sg us[i])) .nil))) ht1
        have ez : (((tx wd).length : Nat) : Int) + (0 + (i : Int)) = ((wd.length + i : Nat) : Int) := by rw [tx_len]; omega
        have ed2 : NestedKey.tup [.text sMis, .num (((tx wd).length : Nat) + (0 + (i : Int))), .text (sg us[i])] = slipD (wd.length + i, us[i]) := by
          unfold slipD
          rw [ez]
        rw [ed2] at d1
        refine ⟨LS, _, _, _, rfl, rfl, l1.growN (Grow.new ht1), d1, szL (by rw [List.length_map]; omega), fun H4 g4 l4 => ?_⟩
        exact ⟨(g.trans (Grow.new ht1)).loc g4 hLS, _, rfl, by rw [hsn, if_neg h, List.map_append]; exact l4⟩
    · obtain ⟨g, t, rfl, l1⟩ := q
      rw [List.take_length, List.take_of_length_le (by omega)] at l1
      refine ⟨_, rfl, _, _, rfl, .inr ⟨LS, rfl, l1⟩, _, _, rfl, rfl, _, rfl, ?_⟩
      rw [List.length_map]
      have hsm : ∀ s ∈ slipsOf wd.length cs us, SlOk ls (wd ++ cs) s := fun s hs => by
        obtain ⟨h1, h2, h3, h4⟩ := slipsOf_mem hs
        refine ⟨by rw [List.length_append]; omega, hu0 _ (List.mem_of_getElem? h3), ?_⟩
        rw [List.getElem?_append_right h1]
        exact h4
      have hpw := slipsOf_pw cs us wd.length
      have hrg : rungs (slipsOf wd.length cs us) 0 (wd ++ cs) = wd ++ us := by
        rw [rungs_app, rungs_low wd 0 fun s hs => by have := (slipsOf_mem hs).1; omega, Nat.zero_add]
        exact congrArg (wd ++ ·) (rungs_slips cs us wd.length [] hul (fun _ h => nomatch h))
      generalize slipsOf wd.length cs us = sl at l1 hsm hpw hrg
      by_cases h20 : 20 < sl.length
      · refine iteT' (K81.dT (by omega)) ?_
        exact k H' g
      refine iteF' (K81.dF (by omega)) ?_
      refine ⟨_, rfl, _, rfl, _, rfl, tx wd, tx cs, rfl, rfl, by rw [tx_len, tx_len]; exact Nat.le_of_lt (szL (by omega)), _, rfl, LS, _, rfl, l1, fun H1 v1 g1 a1 => ?_⟩
      refine fun x1 dx1 hx1 hdx1 hne1 => ?_
      have hx1' : (upd H1 dx1 (.own x1)) x1 = none := by rw [upd_ne (Ne.symm hne1)]; exact hx1
      have g2 : Grow No H1 (upd (upd H1 dx1 (.own x1)) x1 (.ins c_Ringing dx1 [])) := (Grow.new hdx1).trans (Grow.new hx1')
      have G2 := (g.trans g1).trans g2
      refine ⟨x1, dx1, p, v1, W, ls, wd ++ cs, sl, by rw [tx_app]; rfl, upd_same, m.hard G2.hard, fun c hc' => (List.mem_append.mp hc').elim (hw c) (hc c), by rw [List.length_append]; omega, g2.at a1, hsm, hpw, by omega, fun H3 dx3 fs3 w1 w2 g3 p3 f1 f2 f3 f4 b1 b2 => ?_⟩
      rw [hrg] at b1 b2
      have G3 : Grow No H H3 := (g.trans g1).trans (g2.loc g3 hx1)
      have r1 : RAt c_Ringing H3 x1 _ _ := ⟨dx3, fs3, w1, w2, p3, f1, f2, f3, f4, b1, b2⟩
      refine ⟨rfl, ?_⟩
      refine ⟨_, rfl, _, rfl, _, rfl, tx wd, tx us, rfl, rfl, by rw [tx_len, tx_len]; exact Nat.le_of_lt (szL (by omega)), ?_⟩
      refine fun x2 dx2 hx2 hdx2 hne2 => ?_
      have hx2' : (upd H3 dx2 (.own x2)) x2 = none := by rw [upd_ne (Ne.symm hne2)]; exact hx2
      have g4 : Grow No H3 (upd (upd H3 dx2 (.own x2)) x2 (.ins c_Touch dx2 [])) := (Grow.new hdx2).trans (Grow.new hx2')
      have G4 := G3.trans g4
      refine ⟨x2, dx2, p, W, ls, wd ++ us, by rw [tx_app]; rfl, upd_same, m.hard G4.hard, fun c hc' => (List.mem_append.mp hc').elim (hw c) (hu0 c), by rw [List.length_append]; omega, fun H5 dx5 fs5 w3 w4 g5 p5 q1 q2 q3 q4 b3 b4 => ?_⟩
      have g35 : Grow No H3 H5 := g4.loc g5 hx2
      have G5 : Grow No H H5 := G3.trans g35
      have r1 := r1.hard g35.hard
      have r2 : RAt c_Touch H5 x2 _ _ := ⟨dx5, fs5, w3, w4, p5, q1, q2, q3, q4, b3, b4⟩
      refine ⟨rfl, ?_⟩
      have lL := l.growN G5
      obtain ⟨dxa, fsa, wa1, wa2, ea, fa1, fa2, fa3, fa4, ba1, ba2⟩ := id r1
      refine ⟨_, rfl, x1, dxa, fsa, rfl, ea, x1, _, _, rfl, r1, fun v6 a6 => ?_⟩
      refine ⟨_, rfl, _, rfl, tx_sz (by omega), _, rfl, _, wd.length, a6, by rw [tx_len], rfl, fun H6 v7 g6 a7 => ?_⟩
      refine ⟨v7, _, rfl, .inl a7, fun H7 L7 hL7 g7 l7 => ?_⟩
      rw [rws_drop, hds_app, List.drop_left' (hdsI_len W wd (rnd W.n))] at l7
      have g67 := g6.trans g7
      have lL7 := lL.growN g67
      obtain ⟨vs7, e7, t7⟩ := id l7
      obtain ⟨vsL, eL, tL⟩ := id lL7
      refine ⟨_, rfl, L7, L, vs7, vsL, _, _, rfl, rfl, e7, eL, t7, tL, sms_rws _, sms_rws _, _, rfl, ?_⟩
      refine iteF' (by simp) ?_
      have r1' := r1.hard g67.hard
      rw [hds_app] at r1'
      unfold hds at r1'
      rw [← List.append_assoc] at r1'
      refine ⟨_, rfl, x1, dxa, fsa, rfl, g67.oN ea, x1, _, _, _, rfl, r1', fun v8 a8 => ?_⟩
      unfold hds at lL7
      refine ⟨_, rfl, _, rfl, L, _, -1, us.length, rowD (goTo W (goTo W (rnd W.n) wd) us), rfl, lL7, rfl, ⟨by rw [rws_len, List.length_append, List.length_singleton, hdsI_len]; omega, .inr (by rw [rws_len, List.length_append, List.length_singleton, hdsI_len]; omega)⟩, by rw [List.getElem?_map, List.getElem?_append_right (by rw [hdsI_len]; exact Nat.le_refl _), hdsI_len, Nat.sub_self]; rfl, fun v9 a9 => ?_⟩
      refine ⟨_, _, a8, a9, sm_row _, sm_row _, _, rfl, ?_⟩
      refine iteF' (by simp) ?_
      have r1 := r1.hard g67.hard
      have r2 := r2.hard g67.hard
      refine ⟨_, rfl, x1, dxa, fsa, rfl, g67.oN ea, x1, _, _, rfl, r1, fun v10 a10 => ?_⟩
      refine ⟨_, rfl, x2, dx5, fs5, rfl, g67.oN p5, x2, _, _, rfl, r2, fun v11 a11 => ?_⟩
      refine ⟨_, _, a10, a11, sm_tupR _, sm_tupR _, _, rfl, ?_⟩
      refine iteT' (by simp) ?_
      have hbl := bods_len ok (wd ++ us) (rnd W.n)
      rw [List.length_append] at hbl
      obtain ⟨dxr, fsr, vr1, vr2, er, fr1, fr2, fr3, fr4, br1, br2⟩ := r1
      obtain ⟨aR, us1, rfl, hR, AR⟩ := br2.ref
      have lR := AR.length
      rw [rws_len] at lR
      refine ⟨_, rfl, x1, dxr, fsr, aR, us1, rfl, er, fr2, hR, by omega, fun q1 hq1 => ?_⟩
      have g8 : Grow No H7 (upd H7 q1 (.lst us1)) := Grow.new hq1
      have l8 := Ls.new AR hq1
      obtain ⟨dxt, fst', vt1, vt2, et, ft1, ft2, ft3, ft4, bt1, bt2⟩ := r2.hard g8.hard
      obtain ⟨aT, us2, rfl, hT, AT⟩ := bt2.ref
      have lT := AT.length
      rw [rws_len] at lT
      generalize upd H7 q1 (.lst us1) = H8 at g8 l8 et hT AT
      refine ⟨_, rfl, x2, dxt, fst', aT, us2, rfl, et, ft2, hT, by omega, fun q2 hq2 => ?_⟩
      have g9 : Grow No H8 (upd H8 q2 (.lst us2)) := Grow.new hq2
      have l9 := Ls.new AT hq2
      obtain ⟨z8, e8, A8⟩ := l8.growN g9
      obtain ⟨z9, e9, A9⟩ := id l9
      refine ⟨q1, q2, _, _, _, _, rfl, rfl, e8, e9, A8, A9, sms_rws _, sms_rws _, ?_⟩
      rw [decide_eq_true rfl]
      exact k _ (((G5.trans g67).trans g8).trans g9)
end
end K81

namespace K81
open PySem PySem.Spec PyProof.Rows L2
/-! # The play of the law -/
theorem PlayOk.snoc {W : Wd} {ls : List Nat} {mo : Option Nat} {R : Rg} {val : Node → Int} : ∀ {us qs : List Nat} {v v' : Node} {c p : Nat}, PlayOk W ls mo R val v us qs v' → planF (ways W mo R) ls val v' = some p → p ∈ ls → (c, (tms v'.1 (mvOf W c), aft mo p v'.2 c)) ∈ ways W mo R v' p →
    PlayOk W ls mo R val v (us ++ [c]) (qs ++ [p]) (tms v'.1 (mvOf W c), aft mo p v'.2 c)
  | [], [], v, v', c, p, h, h1, h2, h3 => by
    have h : v = v' := h
    subst h
    exact ⟨h1, h2, h3, rfl⟩
  | d :: us, q :: qs, v, v', c, p, h, h1, h2, h3 => ⟨h.1, h.2.1, h.2.2.1, PlayOk.snoc (us := us) (qs := qs) h.2.2.2 h1 h2 h3⟩
  | [], _ :: _, _, _, _, _, h, _, _, _ => h.elim
  | _ :: _, [], _, _, _, _, h, _, _, _ => h.elim
section
variable {P : Program} {w : World} {K : PySem.W.Frag} {mg : Str → Option Value} {base : Heap}
def sp_law_played (P : Program) (w : World) : Sp := fun vs H Q _ => ∃ d c s aM xh x W ls hs mo R rs val r, vs = [.ref d, .ref s, .ref aM, xh, moV mo, x] ∧ Draw H d c ∧ SAt P w H s W ls hs mo R rs val ∧ TD H aM ls (mvD W) ∧ At H (hearsD hs) xh ∧ At H (rowD r) x ∧ r ∈ rs ∧ 0 ≤ val (r, 0) ∧
  ∀ H' t L us qs a, Grow (On d) H H' → Draw H' d c → H' t = some (.tup [.str (tx qs), .str (tx us), .ref L, .int (a : Nat)]) → Ls H' L (rws (hds W r us)) → PlayOk W ls mo R val (r, 0) us qs (goTo W r us, a) → goTo W r us = rnd W.n → (us.length : Int) ≤ val (r, 0) → us.length = qs.length → (∀ c ∈ us, c ∈ ls) → (∀ c ∈ qs, c ∈ ls) → Q (.ref t) H'
abbrev N_law_played : List Str := ["_law_draw_here", "_law_seeing", "_law_moves_here", "_law_hears_here", "_law_most", "_law_row", "_law_called", "_law_rung", "_law_made", "_law_heads_here", "_law_limit", "_law_turn", "_law_letter_here", "_law_pool", "_law_other"]
theorem sc_law_played : FnScope ["_law_draw_here", "_law_seeing", "_law_moves_here", "_law_hears_here", "_law_most", "_law_row", "_law_called", "_law_rung", "_law_made", "_law_heads_here", "_law_limit", "_law_turn", "_law_letter_here", "_law_pool", "_law_other"] ["_law_draw_here", "_law_seeing", "_law_moves_here", "_law_hears_here", "_law_most", "_law_row"] (defScope s_law_played) := ⟨rfl, rfl, rfl, by decide +kernel, rfl, by decide +kernel, by decide +kernel⟩
theorem bd_law_played (T : Txt K mg) : Binds K (fdOf K a_law_played) ["_law_draw_here", "_law_seeing", "_law_moves_here", "_law_hears_here", "_law_most", "_law_row"] [] := FunD.bindsN T.F_law_played fun _ _ _ _ _ _ us hl => match us, hl with | [_, _, _, _, _, _], _ => rfl
theorem ok_law_played (T : Txt K mg) : FnOk P w K mg base CX0 8 a_law_played (fdOf K a_law_played) ["_law_draw_here", "_law_seeing", "_law_moves_here", "_law_hears_here", "_law_most", "_law_row"] (sp_law_played P w) := by
  refine ok0 T.F_law_played sc_law_played (fun vs H Q E h => ?_) (fun cdv A outer s H vs Q E hr h => ?_)
  · obtain ⟨d, c, s0, aM, xh, x, W, ls, hs, mo, R, rs, val, r, rfl, hd, S, tM, hxh, hx, hrs, hpos, k⟩ := h
    rfl
  · obtain ⟨d, c, s0, aM, xh, x, W, ls, hs, mo, R, rs, val, r, rfl, hd, S, tM, hxh, hx, hrs, hpos, k⟩ := h
    have hU := hr.units
    have hu := hu_of hr
    have cl := S.cl
    have good := S.good
    have S0 := S
    obtain ⟨⟨dx, fs, pb, aV, vt, e, f1, f2, f3, f4, f5, f6, f7, f8, B, dV, ht⟩, _, _⟩ := S
    have nk := nok_of B cl
    have ok := B.ok
    have hn := ok.bells
    have h5 := bells_le hn
    have hl4 := B.lts.len ok
    have hra : (r, 0) ∈ nodesOf mo rs := nodes_mem.mpr ⟨hrs, by rw [nums_mem]; cases mo <;> simp⟩
    have hdl : ∀ {H' : Hp}, Draw H' d c → ∀ o, H' d = some o → ∃ xs, o = .lst xs := fun {H'} z o eo => by
      obtain ⟨cells, i, b, t, e', s', ⟨h1, h2⟩, h3⟩ := z
      rw [h1] at eo
      cases eo
      exact ⟨_, rfl⟩
    refine ⟨_, (pss_cons (ps_set (i := 6) sc_law_played.nd rfl (Or.inl rfl) pe_str)
      (pss_cons (ps_set (i := 7) sc_law_played.nd rfl (Or.inl rfl) pe_str)
      (pss_cons (ps_set (i := 8) sc_law_played.nd rfl (Or.inl rfl) pe_int)
      (pss_cons (ps_set (i := 9) sc_law_played.nd rfl (Or.inl rfl) (pe_lst (pa_cons (pv 5) pa_nil)))
      (pss_cons (ps_set (i := 10) sc_law_played.nd rfl (Or.inl rfl) (pe_meth (pv 1) T.cl_Seeing T.m_Seeing_value (ok_Seeing_value T) (hr.mono (by decide)) (bd_Seeing_value T) .nil pass0 (pa_cons (pv 5) (pa_cons pe_int pa_nil))))
      (pss_cons (ps_for PassesOwn.never rfl (pi_range1 (by rfl) T.z_range (pa_cons pe_int pa_nil)) (pg_name (i := 11) sc_law_played.nd rfl (Or.inl rfl)) (pss_cons (ps_if (PW.pt (pw_or (pt_cmpR op_eq (pv 11) (pv 10) (nomark _)) (pw_or1 (pt_cmpR (op_eqK hU) (pe_ix ix_lstK (pv 9) (pe_un un_neg pe_int) (fun _ _ => rfl)) (pe_call (ok_law_rounds T) (hr.mono (by decide)) (by rfl) T.g_law_rounds T.F_law_rounds.kp (bd_law_rounds T) .nil pass0 (pa_cons (pe_callB call_lenK (by rfl) T.z_len PySem.boot_len (pa_cons (pv 5) pa_nil)) pa_nil)) (nomark _))))) (pss_one ps_break) pss_nil)
      (pss_cons (ps_set (i := 12) sc_law_played.nd rfl (Or.inl rfl) (pe_meth (pv 1) T.cl_Seeing T.m_Seeing_plan (ok_Seeing_plan T) (hr.mono (by decide)) (bd_Seeing_plan T) .nil pass0 (pa_cons (pe_ix ix_lstK (pv 9) (pe_un un_neg pe_int) (fun _ _ => rfl)) (pa_cons (pv 8) pa_nil))))
      (pss_cons (ps_if (PW.pt (pw_or (pt_not (pt_val (pe_callB call_isK (by rfl) T.z_isinstance (by decide +kernel) (pa_cons (pv 12) (pa_cons (pe_bltn (v := .ty "str") rfl T.z_str (by decide +kernel) rfl) pa_nil))))) (pw_or1 (pt_cmp (pc_dnotin hu (pv 12) (pv 2)))))) (pss_one ps_never) pss_nil)
      (pss_cons (ps_set (i := 13) sc_law_played.nd rfl (Or.inl rfl) (pe_lst (pa_cons (pv 12) pa_nil)))
      (C8.pss_cut (ps_if (PW.pt (pw_or (pt_cmpR op_isN (pv 4) pe_non (nomark _)) (pw_or1 (pt_cmpR op_lt (pv 8) (pv 4) (nomark _))))) (pss_one (ps_set (i := 13) sc_law_played.nd rfl (Or.inl rfl) (pe_call (ok_law_can_ring T) (hr.mono (by decide)) (by rfl) T.g_law_can_ring T.F_law_can_ring.kp (bd_law_can_ring T) .nil pass0 (pa_cons (pv 3) (pa_cons (pv 12) pa_nil))))) pss_nil)
      (pss_cons (ps_set (i := 14) sc_law_played.nd rfl (Or.inl rfl) (pe_ix ix_lstK (pv 13) (pe_call (ok_law_pick T) (hr.mono (by decide)) (by rfl) T.g_law_pick T.F_law_pick.kp (bd_law_pick T) .nil pass0 (pa_cons (pv 0) (pa_cons (pe_callB call_lenK (by rfl) T.z_len PySem.boot_len (pa_cons (pv 13) pa_nil)) pa_nil))) (fun _ _ => rfl)))
      (C8.pss_cut (ps_if (PW.pt (pw_and (pt_cmpR op_ne (pv 14) (pv 12) (nomark _)) (pw_and1 (pt_cmpR op_notN (pv 4) pe_non (nomark _))))) (pss_one (ps_set (i := 8) sc_law_played.nd rfl (Or.inl rfl) (pe_op op_add (pv 8) pe_int))) pss_nil)
      (pss_cons (ps_set (i := 6) sc_law_played.nd rfl (Or.inl rfl) (pe_op op_add_str (pv 6) (pv 12)))
      (pss_cons (ps_set (i := 7) sc_law_played.nd rfl (Or.inl rfl) (pe_op op_add_str (pv 7) (pv 14)))
      (pss_one (ps_expr (pe_bm PySem.F.plainAttrs_list PySem.F.slot_list_append PySem.F.type_list_append mt_appK (pv 9) (pa_cons (pe_call (ok_law_moved T) (hr.mono (by decide)) (by rfl) T.g_law_moved T.F_law_moved.kp (bd_law_moved T) .nil pass0 (pa_cons (pe_ix ix_lstK (pv 9) (pe_un un_neg pe_int) (fun _ _ => rfl)) (pa_cons (pe_dget hu (pv 2) (pv 14) (fun _ _ => rfl)) pa_nil))) pa_nil))))))))))))))
      (pss_one (ps_ret (pe_tup (pa_cons (pv 6) (pa_cons (pv 7) (pa_cons (pv 9) (pa_cons (pv 8) pa_nil))))))))))))), ?_⟩
    refine ⟨_, rfl, (by decide : 1 ≤ sizeLine), fun LH hLH => ?_⟩
    have n1 := hd.ne hLH
    have n2 := hd.nc hLH
    have g0 : Grow No H (upd H LH (.lst [x])) := Grow.new hLH
    have d0 : Draw (upd H LH (.lst [x])) d c := hd.growN g0
    have l0 : Ls (upd H LH (.lst [x])) LH (rws (hds W r [])) := Ls.new (.cons hx .nil) hLH
    generalize upd H LH (.lst [x]) = H0 at g0 d0 l0
    refine ⟨_, rfl, s0, dx, fs, rfl, g0.oN e, f5, _, rfl, s0, x, W, ls, hs, mo, R, rs, val, r, 0, rfl, S0.hard g0.hard, g0.at hx, hra, fun H1 g1 => ?_⟩
    refine ⟨_, rfl, (by decide), (by decide), ?_⟩
    refine for_range (fun i σ H' => Grow (On d) H H' ∧ Draw H' d c ∧ ∃ (us qs : List Nat) (a : Nat) (t1 t2 t3 t4 : Option V), σ = [some (.ref d), some (.ref s0), some (.ref aM), some xh, some (moV mo), some x, some (.str (tx qs)), some (.str (tx us)), some (.int (a : Nat)), some (.ref LH), some (.int (val (r, 0))), t1, t2, t3, t4] ∧ us.length = i ∧ qs.length = i ∧ PlayOk W ls mo R val (r, 0) us qs (goTo W r us, a) ∧ (goTo W r us, a) ∈ nodesOf mo rs ∧ 0 ≤ val (goTo W r us, a) ∧ val (goTo W r us, a) ≤ val (r, 0) - (i : Nat) ∧ Ls H' LH (rws (hds W r us)) ∧ (∀ c ∈ us, c ∈ ls) ∧ (∀ c ∈ qs, c ∈ ls)) ⟨(g0.trans g1).any, (d0.growN g1), [], [], 0, none, none, none, none, rfl, rfl, rfl, rfl, hra, hpos, by show val (r, 0) ≤ _; omega, l0.growN g1, (fun _ h => nomatch h), (fun _ h => nomatch h)⟩ (fun i σ H' hi q => ?_) fun σ H' q => ?_
    · obtain ⟨g, dd, us, qs, a, t1, t2, t3, t4, rfl, hul, hql, hp, hv, hv0, hvl, l, hu, hq⟩ := q
      have hlim := good.high (r, 0)
      have hi : i < 130 := hi
      have hvU := cl.u _ (nodes_mem.mp hv).1
      have fv := u_facts hn hvU
      have fr := u_facts hn (cl.u _ hrs)
      have fin : ∀ {H2 : Hp} (t1 t2 t3 t4 : Option V), Grow No H' H2 → goTo W r us = rnd W.n → tRet (tTup (tCons (tVar 6) (tCons (tVar 7) (tCons (tVar 9) (tCons (tVar 8) tNil))))) { nx := fun _ _ => False, rt := Q } [some (.ref d), some (.ref s0), some (.ref aM), some xh, some (moV mo), some x, some (.str (tx qs)), some (.str (tx us)), some (.int (a : Nat)), some (.ref LH), some (.int (val (r, 0))), t1, t2, t3, t4] H2 := fun {H2} t1 t2 t3 t4 g2 hz => by
        refine ⟨_, rfl, _, rfl, _, rfl, _, rfl, (by decide : 4 ≤ sizeLine), fun t ht => ?_⟩
        have g3 : Grow No H2 (upd H2 t (.tup [.str (tx qs), .str (tx us), .ref LH, .int (a : Nat)])) := Grow.new ht
        exact k _ t LH us qs a (g.then (g2.trans g3)) (dd.growN (g2.trans g3)) upd_same (l.growN (g2.trans g3)) hp hz (by rw [hul]; omega) (by rw [hul, hql]) hu hq
      have hget : (rws (hds W r us))[us.length]? = some (rowD (goTo W r us)) := by
        unfold hds
        rw [List.getElem?_map, List.getElem?_append_right (by rw [hdsI_len]; exact Nat.le_refl _), hdsI_len, Nat.sub_self]
        rfl
      have hlen : (rws (hds W r us)).length = us.length + 1 := by
        unfold hds
        rw [rws_len, List.length_append, List.length_singleton, hdsI_len]
      have hix : IxAt (rws (hds W r us)).length (-1) us.length := ⟨by omega, .inr (by omega)⟩
      refine ⟨_, rfl, _, rfl, rfl, _, rfl, ?_⟩
      by_cases hb : (0 : Int) + (i : Nat) = val (r, 0)
      · refine iteT' (K81.dT (congrArg V.int hb)) ?_
        have v0 : val (goTo W r us, a) = 0 := by omega
        exact fin _ _ _ _ (Grow.refl _) ((good.z _ hv).mp v0)
      refine iteF' (K81.dF (fun z => hb (V.int.inj z))) ?_
      refine ⟨_, rfl, _, rfl, LH, _, -1, us.length, rowD (goTo W r us), rfl, l, rfl, hix, hget, fun v1 av1 => ?_⟩
      refine ⟨_, rfl, _, _, rfl, .inl (g.at hx), r.length, by rw [nums_len]; rfl, by rw [fr.1]; omega, fun H2 v2 g2 a2 => ?_⟩
      refine ⟨_, _, g2.at av1, a2, sm_row _, sm_row _, _, rfl, ?_⟩
      rw [fr.1]
      by_cases hz : goTo W r us = rnd W.n
      · refine iteT' (K81.dT (by rw [hz])) ?_
        exact fin _ _ _ _ g2 hz
      refine iteF' (K81.dF (fun z => hz (rowD_inj z))) ?_
      have hvp : 0 < val (goTo W r us, a) := by
        have : val (goTo W r us, a) ≠ 0 := fun z => hz ((good.z _ hv).mp z)
        omega
      obtain ⟨p, hpl, hplan, hways⟩ := good.plan _ hv hvp
      have G2 : Grow (On d) H H2 := g.then g2
      have hG2 : Hard H H2 := G2.hardD (hdl hd)
      have l2 := l.growN g2
      refine ⟨_, rfl, s0, dx, fs, rfl, hG2 _ _ e (fun ys z => by cases z), f6, _, rfl, _, rfl, LH, _, -1, us.length, rowD (goTo W r us), rfl, l2, rfl, hix, hget, fun v3 av3 => ?_⟩
      refine ⟨_, rfl, s0, v3, W, ls, hs, mo, R, rs, val, goTo W r us, a, rfl, S0.hard hG2, av3, hv, hv0, fun H3 g3 => ?_⟩
      rw [hplan, show plV (some p) = V.str (sg p) from rfl]
      have G3 := G2.then g3
      have hG3 : Hard H H3 := G3.hardD (hdl hd)
      refine ⟨_, rfl, _, .text _, _, true, rfl, .text _, kt_ss, _, rfl, ?_⟩
      refine iteF' rfl ?_
      obtain ⟨o, ho, hs'⟩ := (tM.hard hG3).has p
      refine ⟨_, rfl, _, rfl, aM, o, rfl, ho, _, rfl, ?_⟩
      refine iteF' (by rw [hs', decide_eq_true hpl]; rfl) ?_
      refine ⟨_, rfl, (by decide : 1 ≤ sizeLine), fun LP hLP => ?_⟩
      have g4 : Grow No H3 (upd H3 LP (.lst [.str (sg p)])) := Grow.new hLP
      have p4 : Ls (upd H3 LP (.lst [.str (sg p)])) LP (txts [p]) := Ls.new (.cons (.text _) .nil) hLP
      generalize upd H3 LP (.lst [.str (sg p)]) = H4 at g4 p4
      have g24 := (g2.trans g3).trans g4
      have hRp := B.perm p hpl
      have hRl := B.rlen hpl
      refine ⟨fun σ' H5 => ∃ LP' ys, σ' = [some (.ref d), some (.ref s0), some (.ref aM), some xh, some (moV mo), some x, some (.str (tx qs)), some (.str (tx us)), some (.int (a : Nat)), some (.ref LH), some (.int (val (r, 0))), some (.int (0 + (i : Nat))), some (.str (sg p)), some (.ref LP'), t4] ∧ Grow No H' H5 ∧ Ls H5 LP' (txts ys) ∧ ys ≠ [] ∧ ys.length ≤ 5 ∧ (∀ y ∈ ys, y ∈ R p ∧ okA mo (aft mo p a y) = true) ∧ d ≠ LP', ?_, ?_⟩
      · have hxh4 : At H4 (hearsD hs) xh := (g.then g24).at hxh
        have hpR : p ∈ R p := hRp.mem_iff.mpr (List.mem_cons_self ..)
        have ha2 := (nodes_mem.mp hv).2
        rw [nums_mem] at ha2
        cases mo with
        | none =>
          refine ⟨_, rfl, rfl, _, rfl, ?_⟩
          refine iteT' rfl ?_
          refine ⟨_, rfl, _, rfl, xh, hs, ls, p, rfl, hxh4, B.hok, hl4, fun H5 L5 ys g5 pm l5 n5 => ?_⟩
          refine ⟨L5, ys, rfl, g24.trans g5, l5, fun z => ?_, by rw [pm.length_eq, ← hRp.length_eq]; exact hRl, fun y hy => ⟨hRp.mem_iff.mpr (pm.mem_iff.mp hy), rfl⟩, (dd.growN g24).ne n5⟩
          rw [z] at pm
          exact nomatch pm.symm.length_eq
        | some q =>
          refine ⟨_, rfl, rfl, _, rfl, ?_⟩
          refine iteF' rfl ?_
          refine ⟨_, rfl, _, rfl, _, _, rfl, rfl, _, rfl, ?_⟩
          have ha2 : a ≤ q := ha2
          by_cases hq2 : a < q
          · refine iteT' (K81.dT (by omega)) ?_
            refine ⟨_, rfl, _, rfl, xh, hs, ls, p, rfl, hxh4, B.hok, hl4, fun H5 L5 ys g5 pm l5 n5 => ?_⟩
            refine ⟨L5, ys, rfl, g24.trans g5, l5, fun z => ?_, by rw [pm.length_eq, ← hRp.length_eq]; exact hRl, fun y hy => ⟨hRp.mem_iff.mpr (pm.mem_iff.mp hy), ?_⟩, (dd.growN g24).ne n5⟩
            · rw [z] at pm
              exact nomatch pm.symm.length_eq
            · refine K81.dT (show aft (some q) p a y ≤ q from ?_)
              unfold aft
              split <;> omega
          · refine iteF' (K81.dF (by omega)) ?_
            refine ⟨LP, [p], rfl, g24, p4, (fun z => nomatch z), (by simp), fun y hy => ?_, (dd.growN (g2.trans g3)).ne hLP⟩
            rw [List.mem_singleton.mp hy]
            refine ⟨hpR, K81.dT (show aft (some q) p a p ≤ q from ?_)⟩
            unfold aft
            rw [if_neg (fun z => z.1 rfl)]
            exact ha2
      rintro σ' H5 ⟨LP', ys, rfl, g5, p5, hne, hy5, hys, nLd⟩
      have G5 : Grow (On d) H H5 := g.then g5
      have d5 := dd.growN g5
      have hpos5 := List.length_pos_iff.mpr hne
      refine ⟨_, rfl, _, rfl, _, rfl, _, _, rfl, .inr ⟨LP', rfl, p5⟩, d, c, (ys.length : Nat), by unfold txts; rw [List.length_map]; rfl, d5, by omega, by omega, fun H6 z g6 d6 z0 z1 => ?_⟩
      have hzn : z.toNat < ys.length := by omega
      refine ⟨LP', txts ys, z, z.toNat, .text (sg ys[z.toNat]), rfl, p5.keep g6 nLd, rfl, ⟨by rw [txts_len]; exact hzn, .inl (by omega)⟩, by unfold txts; rw [List.getElem?_map, List.getElem?_eq_getElem hzn]; rfl, fun v6 av6 => ?_⟩
      rw [av6.str_]
      obtain ⟨huR, huok⟩ := hys _ (List.getElem_mem hzn)
      generalize ys[z.toNat] = u at huR huok
      have way : (u, (tms (goTo W r us) (mvOf W u), aft mo p a u)) ∈ ways W mo R (goTo W r us, a) p := by
        unfold ways wayL
        exact List.mem_map.mpr ⟨u, List.mem_filter.mpr ⟨huR, huok⟩, rfl⟩
      have hul' : u ∈ ls := B.rmem hpl huR
      have G6 : Grow (On d) H H6 := G5.trans g6
      have hG6 : Hard H H6 := G6.hardD (hdl hd)
      have l6 := (l.growN g5).keep g6 n1
      refine ⟨fun σ' H7 => H6 = H7 ∧ σ' = [some (.ref d), some (.ref s0), some (.ref aM), some xh, some (moV mo), some x, some (.str (tx qs)), some (.str (tx us)), some (.int (aft mo p a u : Nat)), some (.ref LH), some (.int (val (r, 0))), some (.int (0 + (i : Nat))), some (.str (sg p)), some (.ref LP'), some (.str (sg u))], ?_, ?_⟩
      · refine ⟨_, rfl, _, rfl, rfl, _, rfl, ?_⟩
        rw [sg_dec]
        by_cases hyc : u = p
        · refine iteF' (nF hyc) ?_
          refine iteF' rfl ?_
          refine ⟨rfl, ?_⟩
          unfold aft
          rw [if_neg (fun z => z.1 hyc)]
          rfl
        · refine iteT' (nT hyc) ?_
          cases mo with
          | none =>
            refine ⟨_, rfl, rfl, _, rfl, ?_⟩
            refine iteF' rfl ?_
            refine ⟨rfl, ?_⟩
            unfold aft
            rw [if_neg (fun z => z.2 rfl)]
            rfl
          | some q =>
            refine ⟨_, rfl, rfl, _, rfl, ?_⟩
            refine iteT' rfl ?_
            refine ⟨_, rfl, _, _, rfl, rfl, rfl, ?_⟩
            unfold aft
            rw [if_pos ⟨hyc, fun z => by cases z⟩]
            rfl
      rintro σ' H7 ⟨rfl, rfl⟩
      refine ⟨_, rfl, _, rfl, tx qs, sg p, rfl, rfl, by rw [sg_tx, tx_len, tx_len, List.length_singleton]; exact Nat.le_of_lt (szL (by omega)), ?_⟩
      refine ⟨_, rfl, _, rfl, tx us, sg u, rfl, rfl, by rw [sg_tx, tx_len, tx_len, List.length_singleton]; exact Nat.le_of_lt (szL (by omega)), ?_⟩
      obtain ⟨vm, hgm, am⟩ := (tM.hard hG6).get hul'
      have fm := u_facts hn (mv_in ok u)
      refine ⟨_, rfl, tyL l6, ?_⟩
      refine ⟨_, rfl, _, rfl, LH, _, -1, us.length, rowD (goTo W r us), rfl, l6, rfl, hix, hget, fun v7 av7 => ?_⟩
      refine ⟨_, rfl, _, rfl, aM, vm, rfl, hgm, ?_⟩
      refine ⟨v7, vm, goTo W r us, mvOf W u, rfl, av7, am, by rw [fv.1]; exact fm.2.1, by rw [fm.1]; omega, fun H7 v8 g7 a8 => ?_⟩
      refine ⟨LH, _, _, _, rfl, rfl, l6.growN g7, a8, szL (by rw [hlen]; omega), fun H8 g8 l8 => ?_⟩
      have gs := goTo_snoc W us u r
      obtain ⟨w1, w2⟩ := hways _ way
      refine ⟨(G6.then g7).loc g8 hLH, (d6.growN g7).at g8 n1 n2, us ++ [u], qs ++ [p], aft mo p a u, some (.int (0 + (i : Nat))), some (.str (sg p)), some (.ref LP'), some (.str (sg u)), by rw [tx_sg, tx_sg]; rfl, by simp [hul], by simp [hql], by rw [gs]; exact PlayOk.snoc hp hplan hpl way, by rw [gs]; exact nk.cl _ hv p hpl _ way, by rw [gs]; exact w1, by rw [gs]; have w2 : val (tms (goTo W r us) (mvOf W u), aft mo p a u) ≤ val (goTo W r us, a) - 1 := w2; omega, ?_, all_snoc hu hul', all_snoc hq hpl⟩
      rw [hds_app, show hds W (goTo W r us) [u] = [goTo W r us, tms (goTo W r us) (mvOf W u)] from rfl]
      unfold hds at l8
      have e9 : rws (hdsI W r us ++ [goTo W r us]) ++ [rowD (tms (goTo W r us) (mvOf W u))] = rws (hdsI W r us ++ [goTo W r us, tms (goTo W r us) (mvOf W u)]) := by simp
      rw [← e9]
      exact l8
    · obtain ⟨g, dd, us, qs, a, t1, t2, t3, t4, rfl, hul, hql, hp, hv, hv0, hvl, l, hu, hq⟩ := q
      have := good.high (r, 0)
      have e130 : ((130 : Int).toNat : Int) = 130 := rfl
      omega
end
end K81

namespace K81
open PySem PySem.Spec PyProof.Rows L2
/-! # NoValue's own __init__ -/
abbrev prg0 : Program := PySem.Challenge.pw_truetouch_k81_whole_plays_are_ringings
abbrev nvEnv (L cda : Addr) : Env := PySem.W.ksEnv "NoValue.__init__" (defScope s_nv) L a_nv (.ref cda) nvCell
section
variable {P : Program} {w : World} {K : PySem.W.Frag} {mg : Str → Option Value} {base : Heap}
def cxNv (P : Program) (w : World) (K : PySem.W.Frag) (mg : Str → Option Value) (base : Heap) (A : Around) (outer : List Env) (s : Shared) (H : Hp) (cda : Addr) : Cx where
  prog := P
  w := w
  K := K
  mg := mg
  base := base
  A := A.deeper (nvEnv s.heap.objs.size cda)
  N := ["self", "row"]
  s_0 := s
  H_0 := H
  env := nvEnv s.heap.objs.size cda
  outer := outer
  stack := nvEnv s.heap.objs.size cda :: outer
  ex := []
  fn := fun _ => false
  calm := false
  pn := []
  xe := fun _ _ => False
theorem nv_body : defBody s_nv = [.Expr (.Call (.Attribute (.Call (.Name "super" ⟨85, 8, 85, 13⟩) [] [] ⟨85, 8, 85, 15⟩) "__init__" ⟨85, 8, 85, 24⟩) [.Constant (.str "the head has no value") 0 ⟨85, 25, 85, 48⟩] [] ⟨85, 8, 85, 49⟩) ⟨85, 8, 85, 49⟩,
  .Assign [.Attribute (.Name "self" ⟨86, 8, 86, 12⟩) "row" ⟨86, 8, 86, 16⟩] (.Name "row" ⟨86, 19, 86, 22⟩) ⟨86, 8, 86, 22⟩] := rfl
theorem nv_lookup : (defScope s_nv).names.lookup ("self" : Str) = some .local ∧ (defScope s_nv).names.lookup ("row" : Str) = some .local ∧ (defScope s_nv).names.lookup ("super" : Str) = some .globalImplicit ∧ (defScope s_nv).names.lookup ("__class__" : Str) = some .free ∧ (defScope s_nv).kind = .function ∧ (defScope s_nv).isCoroutine = false ∧ (defScope s_nv).isGenerator = false := by
  refine ⟨?_, ?_, ?_, ?_, ?_, ?_, ?_⟩ <;> decide +kernel
theorem nv_cells : (∀ x ∈ (defScope s_nv).names, x.2 ≠ .cell) ∧ ∀ x ∈ (defScope s_nv).names, x.2 = .free → x.1 = "__class__" := by
  refine ⟨?_, ?_⟩ <;> decide +kernel
/-- the entry of NoValue's __init__ -/
theorem nv_start {A : Around} {outer : List Env} {s : Shared} {H : Hp} {h1 : Heap} {cda tk : Nat} {x v : V} {u1 u2 : Value} (T : Txt K mg) (hd : A.handled = none) (e0 : Env0 P w K mg base A outer s H) (rx : RelV x u1) (rv : RelV v u2)
    (hns : h1.Ns s.heap.objs.size (fun y => [(("self" : Str), u1), ("row", u2)].reverse.lookup y)) (kp : ∀ b o, s.heap.get? b = some o → h1.get? b = some o) : Inv (cxNv P w K mg base A outer s H cda) [] [some x, some v] H { s with heap := h1, toks := tk } := by
  obtain ⟨n1, n2, n3, n4, n5, n6, n7⟩ := nv_lookup
  obtain ⟨cl, cld, csl, hcell⟩ := T.nv.cell
  have hcb : base.get? nvCell = some _ := e0.mod.kin _ _ hcell
  have noA : ∀ b : Addr, b ∉ (cxNv P w K mg base A outer s H cda).ex := fun b z => absurd (show b ∈ ([] : List Addr) from z) (by simp)
  have one : ∀ {y : Str} {c : Addr}, [(("__class__" : Str), nvCell)].lookup y = some c → y = "__class__" ∧ c = nvCell := fun {y c} h => by
    rw [List.lookup_cons] at h
    cases hb : y == ("__class__" : Str) with
    | true =>
      rw [hb] at h
      exact ⟨by simpa using hb, (Option.some.inj h).symm⟩
    | false =>
      rw [hb] at h
      cases h
  refine ⟨⟨e0.mod, n5, rfl, rfl, Nat.le_refl _, fun y z c h1 h2 => ?_, fun y hy => ?_, fun y c z _ => Bool.noConfusion z, fun z => Bool.noConfusion z, Around.frames_deeper e0.frames, .inr ⟨rfl, rfl⟩, fun b z => absurd z (noA b), e0.bs, e0.bsz, fun b _ _ => noA b, fun b z => absurd z (noA b), e0.funs, e0.frf⟩,
    rfl, e0.bare, Un.kept kp, ⟨_, hns, fun i y v' h1 h2 h3 => ?_⟩, fun y c h => ?_, e0.hok.fresh (Nat.le_refl _), fun y c h => ?_, fun p hp => absurd (show p ∈ ([] : List (Addr × Obj)) from hp) (by simp), e0.hok.kept kp, rfl⟩
  · rw [(one h1).1, (one h2).1]
  · have hy : (defScope s_nv).names.lookup y = some .cell ∨ (defScope s_nv).names.lookup y = some .free := hy
    rcases hy with hy | hy
    · exact absurd rfl (nv_cells.1 _ (PySem.mem_of_lookup hy))
    · have e := nv_cells.2 _ (PySem.mem_of_lookup hy) rfl
      have e : y = "__class__" := e
      exact ⟨nvCell, by rw [e]; rfl⟩
  · match i, h1, h2 with
    | 0, h1, h2 =>
      cases h1; cases h2
      exact ⟨u1, rx, .inl ⟨n1, rfl⟩⟩
    | 1, h1, h2 =>
      cases h1; cases h2
      exact ⟨u2, rv, .inl ⟨n2, rfl⟩⟩
  · rw [(one h).2]
    exact ⟨_, _, kp _ _ (e0.bs _ _ hcb).1, rfl⟩
  · rw [(one h).2]
    exact (e0.bs _ _ hcb).2
def sp_nv : Sp := fun vs H Q _ => ∃ (a : Addr) (v : V), vs = [.ref a, v] ∧ H a = some (exo a c_NoValue none) ∧ ∀ dx, H dx = none → dx ≠ a → Q .non (upd (upd H dx (exd dx [("row", v)])) a (exo a c_NoValue (some dx)))
theorem nv_oex (T : Txt K mg) : OexC K c_NoValue := ⟨T.nv.cls, T.nv.sa, T.nv.exC, T.nv.tyC, T.nv.kp⟩
theorem ok_nv (hP : P = prg0) (T : Txt K mg) : ∃ fd, Binds K fd ["self", "row"] [] ∧ FnOk P w K mg base CX0 1 a_nv fd ["self", "row"] sp_nv := by
  obtain ⟨oc, od, osl, kV, doc, pm, an, cda, ct, ccl, cdd, vs0, ccs, tf, lk, hcd, lkc, hvs⟩ := T.nv.fn
  obtain ⟨n1, n2, n3, n4, n5, n6, n7⟩ := nv_lookup
  have hbd := nv_body
  obtain ⟨nm, q, N, bs, bm, sn, sub, ab, col, dd, k0, k1, k2, k3, k5, hC, hbm⟩ := T.nv.cls
  obtain ⟨cl, cld, csl, hcell⟩ := T.nv.cell
  have hcl : PySem.W.clsIn K c_NoValue = some { name := nm, bases := bs, mro := .ref c_NoValue :: bm, ns := N, qualname := q, hasDict := true, slotNames := sn, subclasses := sub, abstract := ab, collection := col, hasDel := false } := by unfold PySem.W.clsIn; rw [hC] <;> rfl
  refine ⟨PySem.W.ksFn "__init__" "NoValue.__init__" (defArgs s_nv) (defBody s_nv) (defScope s_nv) .none kV doc pm an (.ref cda) ct nvCell, Binds.all fun us hl => ?_, fun vs H Q E h => ?_, fun A outer s H args us vs Q E hr e0 hb r hsp => ?_⟩
  rotate_left
  · obtain ⟨a, v, rfl, _⟩ := h
    rfl
  · obtain ⟨a, v, rfl, ea, k⟩ := hsp
    cases r with
    | @cons _ ua _ us1 ra rr =>
    cases rr with
    | @cons _ ub _ us2 rb rn =>
    cases rn
    obtain rfl : ua = .ref a := ra
    have KX : K.In s.heap := e0.mod.kin.keeps fun b o e => (e0.bs b o e).1
    have lim : s.heap.NoLimit := e0.mod.nolimit.keeps fun b o e => (e0.bs b o e).1
    refine ks_codeAny_call_defAt (binds := [(("self" : Str), Value.ref a), ("row", ub)]) hr.depth (KX _ _ lk) rfl lim (PySem.W.codeRec_of KX hcd) (congrArg FuncBody.stmts hbd) hb nv_cells.1 (fun y hy => ?_) (fun h1 hns kp => ?_) n6 n7 n5
    · rcases List.mem_cons.mp hy with rfl | hy
      · exact n1
      · rcases List.mem_cons.mp hy with rfl | hy
        · exact n2
        · cases hy
    have I := nv_start (cda := cda) (tk := s.toks + 2) T hr.hd e0 (x := .ref a) (u1 := .ref a) rfl rb hns kp
    generalize hs1 : ({ s with heap := h1, toks := s.toks + 2 } : Shared) = s1 at I
    have hns : s1.heap.Ns s.heap.objs.size (fun y => [(("self" : Str), Value.ref a), ("row", ub)].reverse.lookup y) := by rw [← hs1]; exact hns
    show _root_.PySem.wpAt (model P w) (A.deeper (nvEnv s.heap.objs.size cda)) (.func _ (nvEnv s.heap.objs.size cda)) (execs _ (nvEnv s.heap.objs.size cda)) _ _ s1
    have X1 : K.In s1.heap := I.kIn
    obtain ⟨t1, hx⟩ := exo_at I.hok ea
    have IA : PySem.W.InstAt s1.heap a { cls := .ref c_NoValue, dict := none, data := .fields #[.ref t1, .none, .none, .none, .bool false, .none] } c_NoValue none := ⟨hx, rfl, rfl, trivial⟩
    refine ks_wpAt_mono (Q := fun fl s' => fl = Flow.next ∧ ∃ dx, H dx = none ∧ dx ≠ a ∧ Inv (cxNv P w K mg base A outer s H cda) [] [some (.ref a), some v] (upd (upd H dx (exd dx [("row", v)])) a (exo a c_NoValue (some dx))) s') (E := fun _ _ => False) ?_ (fun fl s' h => ?_) (fun _ _ z => z.elim)
    rotate_left
    · obtain ⟨rfl, dx, d1, d2, J⟩ := h
      exact ⟨.non, _, J.os, J.bare, J.base, J.hok, rfl, k dx d1 d2⟩
    refine ks_wpAt_execs_cons (ks_wpAt_Expr_any (ks_wpAt_MethodCall (ks_wpAt_super_base n3 n4 (by decide) rfl (X1 _ _ lk) rfl rfl rfl (X1 _ _ lkc) rfl hvs ?hfile ?htop ?_)))
    case hfile =>
      rw [hP]
      exact beq_self_eq_true _
    case htop =>
      rw [hP]
      decide +kernel
    have vis : ∀ x, (defScope s_nv).names.lookup x = some .local → L2.Vis (defScope s_nv) x := fun x h => .inl h
    obtain ⟨mb, hb1, hb2⟩ := I.mod.blt
    refine PySem.W.ks_loadName_global n5 n3 (Calls.loadGlobal_builtin (I.mod.glob.keeps I.bk) T.z_super (hb1.keeps I.bk) ((hb2 _ (by decide)).trans (by decide +kernel)) ⟨rfl, ?_⟩)
    refine wpAny_loadName_free n5 n4 rfl ⟨_, X1 _ _ hcell, rfl⟩ ?_
    refine wpAny_loadName_local n5 n1 hns rfl ?_
    obtain ⟨hp, g, d, tk, os⟩ := s1
    refine ks_wpAny_isType_cls (X1 _ _ hC) rfl ⟨rfl, ?_⟩
    refine ks_wpAny_call_super (X1 _ _ hC) rfl hx rfl (fun c e => by cases e) (PySem.W.looks_mroIn X1 T.nv.mro) (fun h2 e2 kp2 => ?_)
    have I2 := I.kept (t' := tk) kp2
    have X2 : K.In h2 := I2.kIn
    have IA2 : PySem.W.InstAt h2 a { cls := .ref c_NoValue, dict := none, data := .fields #[.ref t1, .none, .none, .none, .bool false, .none] } c_NoValue none := ⟨kp2 _ _ hx, rfl, rfl, trivial⟩
    have hsu := T.nv.sup
    unfold PySem.W.ks_superIn at hsu
    rw [hcl] at hsu
    refine PySem.W.kxs_getMethod PySem.W.kxs_ValueError e2 (PySem.W.looks_opaque X2 T.nv.third) (l₀ := .ref c_NoValue :: bm) (PySem.W.looks_clsIn X2 hcl |>.andThen .now) rfl X2 hsu (IA2.type.andThen (PySem.W.looks_subIn X2 T.nv.subV)) (PySem.W.ks_ne X2 IA2 hcl) (by decide) ?_
    have nu : H h2.objs.size = none := I2.hok.fresh (Nat.le_refl _)
    have kp3 : ∀ b o, h2.get? b = some o → (h2.push (PySem.W.kxs_mw "ValueError.__init__" a)).get? b = some o := fun b o e => Heap.get?_push_of_some _ e
    have I3 := I2.kept (t' := tk + 1) kp3
    have hu : (h2.push (PySem.W.kxs_mw "ValueError.__init__" a)).get? h2.objs.size = some (PySem.W.kxs_mw "ValueError.__init__" a) := Heap.get?_push_size _ rfl
    have hx3 := kp3 _ _ (kp2 _ _ hx)
    generalize h2.push (PySem.W.kxs_mw "ValueError.__init__" a) = h3 at I3 hu hx3 ⊢
    refine PySem.W.kxs_callWith (i := "ValueError.__init__") (x := a) rfl ?_
    refine Calls.evalArgs_plain ?_
    refine Calls.spliced_cons ?_
    show wpAny _ _ (eval (.Constant (.str "the head has no value") 0 ⟨85, 25, 85, 48⟩) (nvEnv s.heap.objs.size cda)) _ _ _
    refine Calls.Constant_str ?_
    refine Calls.spliced_nil ⟨hu, ?_⟩
    have hC3 := I3.kIn _ _ hC
    refine wpAny_call (codeAny_of_tree ?_)
    show wpAny _ (A.deeper (nvEnv s.heap.objs.size cda)).in1 (callAny (.ref h2.objs.size) ⟨[_], []⟩) _ _ _
    simp only [callAny]
    refine wpAny_bind (wpAny_load hu ?_)
    simp only [PySem.W.kxs_mw, show (Value.type "method-wrapper" == Value.type "method" || Value.type "method-wrapper" == Value.type "builtin_function_or_method" || Value.type "method-wrapper" == Value.type "method-wrapper") = true by decide, if_true]
    refine PySem.W.KFB.if_so (by decide) (wpAny_bind (PySem.W.check_bound_init F.excBase_ValueError.toExcCallFacts hC3 hx3 rfl (wpAny_bind (wpAny_pure (wpAny_pure ⟨plainId_quiet F.excBase_ValueError.init.plain _, codeAny_builtin F.excBase_ValueError.initEntry ?_⟩)))))
    refine PySem.W.exc_init_tree (cls := .ref c_NoValue) (t0 := t1) (dv := none) (c2 := .none) (c3 := .none) (b4 := .bool false) hx3 (by show 1 ≤ sizeLine; decide) (fun h4 kp4 e4 _ => ?_)
    have J := I3.write (t' := tk + 1 + 1) (x := a) (e := a) (o := exo a c_NoValue none) (by rw [ea]; exact True.intro) (.inl rfl) kp4 ⟨_, e4⟩ (exo_ok e4)
    have eu : upd H a (exo a c_NoValue none) = H := by
      funext b
      by_cases hb : b = a
      · rw [hb, upd_same, ea]
      · rw [upd_ne hb]
    rw [eu] at J
    have ps : PSs (cxNv P w K mg base A outer s H cda) [.Assign [.Attribute (.Name "self" ⟨86, 8, 86, 12⟩) "row" ⟨86, 8, 86, 16⟩] (.Name "row" ⟨86, 19, 86, 22⟩) ⟨86, 8, 86, 22⟩] _ := pss_one (ps_ost (pe_var (i := 0) rfl (vis _ n1)) (pe_var (i := 1) rfl (vis _ n2)))
    refine wpAt_of_wpAny (wpAny_mono (ps.run [] _ _ _ { nx := fun σ H' => σ = [some (.ref a), some v] ∧ ∃ dx, H dx = none ∧ dx ≠ a ∧ H' = upd (upd H dx (exd dx [("row", v)])) a (exo a c_NoValue (some dx)), rt := fun _ _ => False } J ⟨v, rfl, .ref a, rfl, a, c_NoValue, rfl, nv_oex T, T.nv.noR, .inl ⟨ea, fun dx d1 d2 => ⟨rfl, dx, d1, d2, rfl⟩⟩⟩) (fun fl s' h => ?_) fun _ _ z => z)
    cases fl with
    | next =>
      obtain ⟨σ', H', J', rfl, dx, d1, d2, rfl⟩ := h
      exact ⟨rfl, dx, d1, d2, J'⟩
    | ret u =>
      obtain ⟨_, _, _, _, _, z⟩ := h
      exact z.elim
    | brk =>
      obtain ⟨_, _, _, z⟩ := h
      exact z.elim
    | cont =>
      obtain ⟨_, _, _, z⟩ := h
      exact z.elim
  · match us, hl with
    | [_, _], _ => rfl
end
end K81

namespace K81
open PySem PySem.Spec PyProof.Rows L2
/-! # NoValue(row) made -/
theorem upd_del {H : Hp} {a d : Addr} {o1 o2 o3 o4 : HO} (hn : H a = none) (hd : d ≠ a) : upd (del (upd (upd (upd H a o1) d o2) a o3) a) d o4 = upd H d o4 := by
  funext b
  by_cases h1 : b = d
  · rw [h1, upd_same, upd_same]
  · rw [upd_ne h1, upd_ne h1]
    by_cases h2 : b = a
    · rw [h2, del_same, hn]
    · rw [del_ne h2, upd_ne h2, upd_ne h1, upd_ne h2]
theorem pmk_nv {X : Cx} {e : Expr} {te : TE} {p pos : Pos} (hP : X.prog = prg0) (T : Txt X.K X.mg) (hr : Room 2 X.A) (hg : Gl X "NoValue") (he : PE X e te) (hst : starEach [e] X.env = (false, eval e X.env) :: starEach [] X.env := by rfl) (hpl : (backTo pos (starEach [] X.env)).any (·.1) = false := by rfl) :
    L2N.PMk X (.Call (.Name "NoValue" p) [e] [] pos) (fun σ H Q => te σ H fun v H1 => ∃ v', [v] = [v'] ∧ ∀ d, H1 d = none → Q (.ref c_NoValue) (some d) (upd H1 d (.xd [("row", v')]))) := by
  intro pins s σ H Q I h
  obtain ⟨nm, q, N, bs, bm, sn, sub, ab, col, dd, k0, k1, k2, k3, k5, hC, hbm⟩ := T.nv.cls
  obtain ⟨fd, hb, F1⟩ := ok_nv (P := X.prog) (w := X.w) (base := X.base) hP T
  have ha : PA X [e] (tCons te tNil) := pa_cons he pa_nil hst
  refine wpAny_Call_Name_kw (ld_glob I hg T.g_NoValue ?_ (by decide))
  refine PySem.W.callWith_K (h₀ := X.base) I.ok.mod.kin T.nv.kp (thn (ha.run pos pins s σ H (fun vs H1 => ∃ v, vs = [v] ∧ ∀ d, H1 d = none → Q (.ref c_NoValue) (some d) (upd H1 d (.xd [("row", v)]))) I h) fun us s1 ⟨vs, H1, I1, r1, v, ev, q1⟩ => ⟨I1.kIn, ?_⟩) hst hpl
  subst ev
  cases r1 with
  | @cons _ u _ us' ru rn =>
  cases rn
  show wpAny _ _ (call (.ref c_NoValue) [u]) _ _ _
  obtain ⟨hp, g, dr, tk, os⟩ := s1
  have hn : H1 (hp.objs.size + 1) = none := I1.hok.fresh (Nat.le_succ _)
  have kk : ∀ b o, hp.get? b = some o → ((hp.push (PySem.W.kdv_tup [u])).push (PySem.HandSPX.excO c_NoValue hp.objs.size)).get? b = some o := fun b o e => Heap.get?_push_of_some _ (Heap.get?_push_of_some _ e)
  have I2 : Inv X pins σ (upd H1 (hp.objs.size + 1) (exo (hp.objs.size + 1) c_NoValue none)) ⟨(hp.push (PySem.W.kdv_tup [u])).push (PySem.HandSPX.excO c_NoValue hp.objs.size), g, dr, tk, os⟩ :=
    I1.laid (t' := tk) (a := hp.objs.size + 1) (o := exo (hp.objs.size + 1) c_NoValue none) (h' := (hp.push (PySem.W.kdv_tup [u])).push (PySem.HandSPX.excO c_NoValue hp.objs.size)) kk (Nat.le_succ _) (exo_ok (by heap_get))
  have b2 := hb _ [Value.ref (hp.objs.size + 1), u] I2.kIn rfl
  refine wpAny_call (PySem.HandSPX.call_own F.excBase_ValueError (fun Y => PySem.HandSPX.refsVE_contains Y bm hbm) (I1.kIn _ _ hC) (PySem.W.looks_findIn I1.kIn T.nv.init) (fun self => PySem.W.bind_fn I1.kIn self T.nv.tI) (by show 1 ≤ sizeLine; decide)
    (codeAny_mono (F1.run _ X.stack _ (upd H1 (hp.objs.size + 1) (exo (hp.objs.size + 1) c_NoValue none)) ⟨[Value.ref (hp.objs.size + 1), u], []⟩ [Value.ref (hp.objs.size + 1), u] [.ref (hp.objs.size + 1), v]
      (fun y H2 => y = .non ∧ ∃ d, H1 d = none ∧ d ≠ hp.objs.size + 1 ∧ H2 = upd (upd (upd H1 (hp.objs.size + 1) (exo (hp.objs.size + 1) c_NoValue none)) d (exd d [("row", v)])) (hp.objs.size + 1) (exo (hp.objs.size + 1) c_NoValue (some d))) (fun _ _ _ => False)
      (hr.make c_NoValue [u] []) (I2.env0.make c_NoValue [u] []) b2 (.cons rfl (.cons ru .nil)) ⟨_, v, rfl, upd_same, fun dx d1 d2 => ⟨rfl, dx, by rw [upd_ne d2] at d1; exact d1, d2, rfl⟩⟩) fun r s' hq' => ?_))
  cases r with
  | error er => exact False.elim hq'
  | ok fl =>
    cases fl with
    | ret y =>
      obtain ⟨vy, H2, os2, bare2, un2, hok2, rv, ev, d, hd1, hd2, eH⟩ := hq'
      subst ev eH
      obtain ⟨h2, g2, d2, t2, os'⟩ := s'
      obtain ⟨t0, G, J, kG, ge, hoe, na⟩ := mk_end0 (d2 := d2) (t2 := t2) I1 (Nat.le_succ _) kk un2 hok2 os2 bare2 (d := d) (fs := [("row", v)]) upd_same (by rw [upd_ne hd2, upd_same]) hd1
      rw [upd_del hn hd2] at J na
      exact ⟨rv, hp.objs.size + 1, _, _, ⟨G, g2, d2, t2, os'⟩, _, .ref c_NoValue, some d, rfl, J, kG, ge, hoe, ⟨rfl, rfl, fun vs hv => by cases hv; rfl⟩, rfl, rfl, na, rfl, bare2, raises_own T.nv.exC T.nv.tyC, q1 d hd1⟩
    | next => exact False.elim hq'
    | brk => exact False.elim hq'
    | cont => exact False.elim hq'
end K81

namespace K81
open PySem PySem.Spec PyProof.Rows L2
/-! # play of a head without a value -/
section
variable {P : Program} {w : World} {K : PySem.W.Frag} {mg : Str → Option Value} {base : Heap}
def sp_playX (P : Program) (w : World) : Sp := fun vs H Q E => ∃ s x z W ls hs mo R rs val r, vs = [.ref s, x, z] ∧ SAt P w H s W ls hs mo R rs val ∧ At H (rowD r) x ∧ (r, 0) ∈ nodesOf mo rs ∧ val (r, 0) < 0 ∧
  ∀ H' d, Grow No H H' → H' d = none → E (.ref c_NoValue) (some d) (upd H' d (.xd [("row", x)]))
theorem ok_playX (hP : P = prg0) (T : Txt K mg) : FnOk P w K mg base (L2N.CX P w) 7 a_Seeing_play (fdOf K a_Seeing_play) ["self", "row", "rung"] (sp_playX P w) := by
  refine T.F_Seeing_play.ok sc_Seeing_play (fun vs H Q E h => ?_) (fun cdv A outer s H vs Q E hr h => ?_)
  · obtain ⟨s0, x, z, W, ls, hs, mo, R, rs, val, r, rfl, h⟩ := h
    rfl
  · obtain ⟨s0, x, z, W, ls, hs, mo, R, rs, val, r, rfl, S, hx, hra, hneg, k⟩ := h
    have hU := hr.units
    have hu := hu_of hr
    have S0 := S
    obtain ⟨⟨dx, fs, pb, aV, vt, e, f1, f2, f3, f4, f5, f6, f7, f8, B, dV, ht⟩, _, _⟩ := S
    refine ⟨_, (pss_cons (ps_set (i := 3) sc_Seeing_play.nd rfl (Or.inl rfl) (pe_meth (pv 0) T.cl_Seeing T.m_Seeing_told_node (ok_Seeing_told_node T) (hr.mono (by decide)) (bd_Seeing_told_node T) .nil pass0 (pa_cons (pv 1) (pa_cons pe_int pa_nil))))
      (pss_cons (ps_if (pt_cmpR op_lt (pe_getN hU (pe_fld (pv 0) rfl) (pv 3) (fun _ _ => rfl)) pe_int (nomark _)) (pss_one (L2N.ps_raise rfl (L2N.takes_of rfl rfl rfl rfl) (pmk_nv hP T (hr.mono (by decide)) rfl (pv 1)))) pss_nil)
      (pss_cons ps_never (pss_cons ps_never (pss_cons ps_never (pss_one ps_never)))))), ?_⟩
    refine ⟨_, rfl, s0, dx, fs, rfl, e, f4, _, rfl, s0, x, W, ls, hs, mo, R, rs, val, r, 0, rfl, S0, hx, hra, fun H1 v1 g1 c1 => ?_⟩
    obtain ⟨bn, _, rfl, _, _⟩ := id c1.ref
    refine ⟨_, rfl, s0, c_Seeing, dx, fs, _, rfl, g1.oN e, T.cl_Seeing, T.n_Seeing_worths, f2, _, rfl, bn, aV, _, nodeD (r, 0), _, rfl, rfl, dV.growN g1, c1, dep_node _, kvF_get nodeD_inj hra, _, _, rfl, rfl, _, rfl, ?_⟩
    refine iteT' (K81.dT hneg) ?_
    exact ⟨_, rfl, _, rfl, fun d hd => k H1 d g1 hd⟩
end
end K81

namespace K81
open PySem PySem.Spec PyProof.Rows HotX
/-! # Within an except suite: a tuple's walk, its unpacking -/
section
variable {prog : Program} {w : World} {A : Around} {E : Value → Shared → Prop} {s : Shared}
theorem hot_mono {x1 : Addr} {h h' : Heap} (x : HotAt A x1 h) (k : ∀ o, h.get? x1 = some o → h'.get? x1 = some o) : HotAt A x1 h' := by
  obtain ⟨hh, o, vs, h1, d1, c1⟩ := x
  exact ⟨hh, o, vs, k o h1, d1, c1⟩
theorem hot_ne {x1 it t : Addr} {i : Nat} {h : Heap} (x : HotAt A x1 h) (hit : IsTupIter h it t i) : x1 ≠ it := fun z => by
  obtain ⟨_, o, vs, h1, d1, c1⟩ := x
  obtain ⟨o', h2, _, d2⟩ := hit
  rw [z, h2] at h1; cases h1
  rw [d2] at d1; cases d1
  cases c1
/-- the tuple is walked to its end -/
theorem nextT_end {it t x1 : Addr} {i : Nat} {items : Array Value} {Q : Option Value → Shared → Prop} (hot : HotAt A x1 s.heap) (hit : IsTupIter s.heap it t i) (ht : IsTup s.heap t items) (hx : items[i]? = none)
    (hQ : ∀ h', (∀ b o, b ≠ it → s.heap.get? b = some o → h'.get? b = some o) → Q none { s with heap := h' }) : wpAny (model prog w) A (pyNext (.ref it)) Q E s := by
  have hne := hot_ne hot hit
  obtain ⟨hh, o1, vs1, h1, d1, c1⟩ := hot
  obtain ⟨o, ho, hc, hd⟩ := id hit
  obtain ⟨ol, hol, _, nl, hdl⟩ := ht
  unfold pyNext
  refine wpAny_bind (wpAny_attempt (wpAny_callSpecial?_slot (name := Str.ofString "__next__") hit.typeIs slot_tupleiter_next (wpAny_call_entry slot_tupleiter_next hit.typeIs entry_tupleiter_next ?_ (args_tupleiter_next _))))
  show wpAny _ _ (field (Value.ref it) 0 >>= _) _ _ _
  refine wpAny_bind (wpAny_field ho hd (x := Value.ref t) rfl ?_)
  show wpAny _ _ (if (Value.ref t == Value.none) = true then _ else _) _ _ _
  rw [if_neg (show ¬ (Value.ref t == Value.none) = true from Bool.false_ne_true)]
  show wpAny _ _ (field (Value.ref it) 1 >>= _) _ _ _
  refine wpAny_bind (wpAny_field ho hd (x := Value.int i 0) rfl ?_)
  show wpAny _ _ (seqItems? (Value.ref t) >>= _) _ _ _
  refine wpAny_bind (wpAny_seqItems hol hdl ?_)
  simp only [Int.toNat_natCast, hx]
  refine wpAny_bind (wpAny_rule (wpAny_bind (wpAny_setField ho hd (by simp) ?_)))
  show wpAny _ _ (newExc (Value.type "StopIteration") [] >>= _) _ _ _
  refine wpAny_bind ?_
  simp only [newExc, newTuple]
  refine wpAny_bind (wpAny_newObj_type ?_ (by size_fits))
  refine wpAny_bind (m := firstArgMember _ _) (wpAny_of_eq (a := Value.none) (by first | rfl | (simp only [firstArgMember]; rfl)) (wpAny_newObj_type ?_ (by size_fits)))
  have hx1 : (s.heap.update it (Obj.mapFields (·.setIfInBounds 0 Value.none))).get? x1 = some o1 := by rw [Heap.get?_update_other _ _ (Ne.symm hne)]; exact h1
  refine raiseNew_hot ⟨hh, o1, vs1, Heap.get?_push_of_some _ (Heap.get?_push_of_some _ hx1), d1, c1⟩ ?_ (Heap.get?_push_size _ rfl) rfl (by first | (simp; done) | (simp; omega) | (simp only [Array.size_append]; simp; omega)) ?_
  · exact Nat.ne_of_lt (Heap.lt_size (Heap.get?_push_of_some _ hx1))
  refine wpAny_bind (wpAny_isInstance (T := "StopIteration") (b := true) ⟨_, Heap.get?_update_self _ (Heap.get?_push_size _ rfl) rfl, rfl⟩ isSubtype_stop (wpAny_pure (hQ _ fun b u hb e => ?_)))
  have e1 : (s.heap.update it (Obj.mapFields (·.setIfInBounds 0 Value.none))).get? b = some u := by rw [Heap.get?_update_other _ _ (Ne.symm hb)]; exact e
  rw [Heap.get?_update_other _ _ (Nat.ne_of_gt (Heap.lt_size (Heap.get?_push_of_some _ e1)))]
  exact Heap.get?_push_of_some _ (Heap.get?_push_of_some _ e1)

/-- a, b, .. = a tuple, unpacked -/
theorem unpackT {t x1 : Addr} {items : Array Value} {targets : List (Bool × (Value → Sem Unit))} {Q : Unit → Shared → Prop} (hot : HotAt A x1 s.heap) (ht : IsTup s.heap t items) (hn : targets.length = items.size) (hs : targets.findIdx? (·.1) = none)
    (h : ∀ h', (∀ b o, s.heap.get? b = some o → h'.get? b = some o) → wpAny (model prog w) A (assignInOrder (targets.map (·.2)) items.toList) Q E { s with heap := h' }) : wpAny (model prog w) A (unpack (.ref t) targets) Q E s := by
  have hlt : t ≠ s.heap.objs.size := by
    obtain ⟨o, ho, _⟩ := ht
    exact Nat.ne_of_lt (Heap.lt_size ho)
  unfold unpack
  rw [hn, hs]
  refine wpAny_bind (wpAny_holding ?_)
  unfold unpackItems
  refine wpAny_bind ?_
  unfold notIterableAtAll
  refine wpAny_bind (wpAny_specialOf ht.typeIs slot_tuple_iter.lookup (wpAny_pure ?_))
  simp only [Bool.false_eq_true, if_false]
  refine wpAny_bind (wpAny_holding (iter_tuple ht (wpAny_bind (wpAny_holding (draw_tuple hlt items.size 0 _ _ ⟨_, Heap.get?_push_size _ rfl, rfl, rfl⟩ (ht.push _) (by omega) fun h1 hit1 hs1 => ?_)))))
  have hall : List.take items.size (List.drop 0 items.toList) = items.toList := by
    rw [List.drop_zero]
    exact List.take_of_length_le (by simp)
  have kp : ∀ b o, s.heap.get? b = some o → h1.get? b = some o := fun b o e => hs1.extBut b o (Nat.ne_of_lt (Heap.lt_size e)) (Heap.get?_push_of_some _ e)
  have ht1 : IsTup h1 t items := (ht.push _).extBut hs1.extBut hlt
  rw [hall, if_neg (by simp)]
  refine wpAny_bind (wpAny_holding (nextT_end (x1 := x1) (hot_mono hot fun o => kp x1 o) hit1 ht1 (by simp) fun h2 k2 => ?_))
  simp only [Option.isSome_none, Bool.false_eq_true, if_false]
  exact wpAny_pure (h h2 fun b o e => k2 b o (Nat.ne_of_lt (Heap.lt_size e)) (kp b o e))
end
end K81

namespace K81
open PySem PySem.Spec PyProof.Rows L2 HotX L2H
/-! # Within an except suite: targets, a tuple as what is walked, list comprehensions -/
section
variable {X : Cx}
theorem pg_tupH {es : List Expr} {k n : Nat} {t : TGs} {pos : Pos} (hc : HotC X) (h : PGs X es t) (hn : (assignEach es X.env).length = n := by rfl) (hst : (assignEach es X.env).findIdx? (·.1) = none := by rfl) : PG X (.Tuple es k pos) (gTup X.K n t) := by
  refine ⟨fun pins s σ H v u Q I r ⟨a, xs, e1, hq, hl, hw⟩ => ?_⟩
  subst e1; cases r
  obtain ⟨its, rv, ht, hz⟩ := I.tuple hq
  obtain ⟨x1, hot⟩ := hc.at I
  rw [assign_Tuple]
  refine wpAny_bind (wpAny_standAt (unpackT hot ht (by simp [hn, ← hl, rv.length]) hst fun h' kp => ?_))
  exact h.run pins _ σ H xs _ Q (I.kept (t' := s.toks) kp) (by simpa using rv) hw
theorem turnTH {P : Program} {w : World} {K : PySem.W.Frag} {tg : Expr} (a it : Addr) : TurnH P w K tg (Itt K a) [it] it (fun i h => IsTupIter h it a i) where
  mem := List.mem_singleton.mpr rfl
  obj := fun i h st b hb => by
    obtain rfl := List.mem_singleton.mp hb
    obtain ⟨o, e, c, d⟩ := st
    exact ⟨o, e, fun v z => by rw [d] at z; cases z⟩
  keep := fun i h h' ⟨o, e, r⟩ k => ⟨o, k it (List.mem_singleton.mpr rfl) o e, r⟩
  item := by
    intro X hP hw hK hc i pins s σ H E I hf st ⟨xs, x, hq, hx⟩
    subst hP hw hK
    obtain ⟨its, rv, p, hz⟩ := I.tuple hq
    obtain ⟨u, hu, ru⟩ := rv.get hx
    obtain ⟨f0, f1, f2, f3, f4, f5⟩ := hf it (List.mem_singleton.mpr rfl)
    refine next_tuple_item st p (x := u) (by simpa using hu) fun h' st' sb => ?_
    have I1 : Inv X pins σ H { s with heap := h' } := I.turned (t' := s.toks) (fun b o hb e => (sb.2 b hb).trans e) f0 f1 f3 f4 f5
    obtain ⟨o, e, c, d⟩ := id st'
    exact ⟨u, rfl, go_of (s := { s with heap := h' }) e c d (by decide) ⟨x, H, I1, ru, ⟨rfl, fun ys hy => by rw [I.tuple_inj hy hq]; exact hx⟩, st', fun b hb => (hf b hb).1⟩⟩
  done := by
    intro X hP hw hK hc i pins s σ H E I hf st ⟨xs, hq, hx⟩
    subst hP hw hK
    obtain ⟨its, rv, p, hz⟩ := I.tuple hq
    obtain ⟨f0, f1, f2, f3, f4, f5⟩ := hf it (List.mem_singleton.mpr rfl)
    obtain ⟨x1, hot⟩ := hc.at I
    have hl := rv.length
    exact nextT_end hot st p (by simp; omega) fun h' eb => ⟨rfl, I.turned (t' := s.toks) eb f0 f1 f3 f4 f5⟩
  self := fun _ _ _ _ _ st h => wpAny_pyIter_tupleiter st h
theorem pi_tupH {tg l : Expr} {tl : TE} (hl : PE X l tl) : PIH X tg l (iTup X.K tl) := by
  refine ⟨fun pins s σ H R I h => thn (hl.run pins s σ H _ I h) fun v s1 ⟨x, H1, I1, r1, a, e, ⟨xs, hq⟩, q⟩ => ?_⟩
  subst e; cases r1
  obtain ⟨its, rv, p, hz⟩ := I1.tuple hq
  refine iter_tuple p ⟨s1.heap.objs.size, [s1.heap.objs.size], _, _, H1, rfl, I1.kept (t' := s1.toks) fun b o e => Heap.get?_push_of_some _ e, turnTH a _, ⟨_, Heap.get?_push_size _ rfl, rfl, rfl⟩, fun b hb => ?_, q⟩
  obtain rfl := List.mem_singleton.mp hb
  exact I1.fpOk (Nat.le_refl _) (I1.hok.fresh (Nat.le_refl _))
/-- a comprehension's block, p the exception that is handled -/
abbrev blkH (X : Cx) (p : Addr × Obj) (s : Shared) (H : Hp) (scope : Scope) (cenv : Env) (fp : List Addr) : Cx := { X.blk s H scope cenv fp with pn := [p] }
theorem blk_hot {p : Addr × Obj} {s s' : Shared} {σ' : L2.St} {H H' : Hp} {scope : Scope} {cenv : Env} {fp : List Addr} (I : Inv (X.blk s H scope cenv fp) [] σ' H' s') (g : s'.heap.get? p.1 = some p.2) (n : H' p.1 = none) (l : p.1 ≠ cenv.locals) (f : p.1 ∉ frs X.stack) (d : ∀ v, p.2.data ≠ .cell v) :
    Inv (blkH X p s H scope cenv fp) [] σ' H' s' := by
  obtain ⟨ok, os, bare, base, loc, cell, free, freeC, pin, hok, len⟩ := I
  refine ⟨⟨ok.mod, ok.kind, ok.glob, ok.blt, ok.above, ok.inj, ok.has, ok.cab, ok.hd, ok.frames, ok.stk, ok.exf, ok.bs, ok.bsz, ok.noex, ok.exfs, ok.funs, ok.frf⟩, os, bare, base, loc, cell, free, freeC, fun q hq => ?_, hok, len⟩
  obtain rfl : q = p := by simpa using (show q ∈ [p] ++ ([] : List (Addr × Obj)) from hq)
  exact ⟨g, n, l, f, d⟩
theorem hot_blk {p : Addr × Obj} {s : Shared} {H : Hp} {scope : Scope} {cenv : Env} {fp : List Addr} (h : Hot1 X.A p) : HotC (blkH X p s H scope cenv fp) := ⟨p, h, List.mem_singleton.mpr rfl⟩
/-- [elt for tg in iter if ..] within an except suite -/
theorem pe_lcH {elt tg iter : Expr} {ifs : List Expr} {scope : Scope} {own : List (Str × Nat)} {pos : Pos} {wi : TI} {g : TG} {tt : TT} {te : TE} (hc : HotC X) (hi : PIH X tg iter wi) (hN : X.N.Nodup) (ok : BlkOk X.N X.env.scope scope own)
    (hg : ∀ (p : Addr × Obj) (s : Shared) (H : Hp) (C : Addr) (cl : List (Str × Addr)) (fp : List Addr), Hot1 X.A p → PG (blkH X p s H scope (compEnvC scope cl C X.env) fp) tg g)
    (ht : ∀ (p : Addr × Obj) (s : Shared) (H : Hp) (C : Addr) (cl : List (Str × Addr)) (fp : List Addr), Hot1 X.A p → PTs (blkH X p s H scope (compEnvC scope cl C X.env) fp) ifs tt)
    (he : ∀ (p : Addr × Obj) (s : Shared) (H : Hp) (C : Addr) (cl : List (Str × Addr)) (fp : List Addr), Hot1 X.A p → PE (blkH X p s H scope (compEnvC scope cl C X.env) fp) elt te) (hs : ∀ x, foldedSetIterable iter X.env x = pure x := by intro _; rfl) :
    PE X (.ListComp elt [⟨tg, iter, ifs, 0⟩] scope pos) (tLc wi g tt te (own.map (·.2))) := by
  refine ⟨fun pins s σ H Q I h => ?_⟩
  obtain ⟨p, hot, hp⟩ := hc
  have free : ∀ y ∈ scope.names, y.2 = .free → ∃ c, X.env.cells.lookup y.1 = some c := fun y hy e => I.ok.has _ (ok.free y hy e)
  rw [eval_ListComp]
  refine wpAny_comprehension_free (use := none) rfl hs (closure_ok free) ok.kind (fun y hy e => by rw [ok.uniq y hy, e]) (thn (hi.run pins s σ H _ I h) fun xv s1 hx => thn hx fun itv s2 h2 => ?_)
  obtain ⟨it, fp, tn, J, H2, e, I2, T, st2, f2, q⟩ := h2
  subst e
  refine wpAny_newObj_type (newEnv_comp ?_) (by show 0 ≤ sizeLine; decide)
  have hDn : H2 s2.heap.objs.size = none := I2.hok.fresh (Nat.le_refl _)
  obtain ⟨W, ⟨m0, w0⟩, turn⟩ := q s2.heap.objs.size hDn
  have szD : ∀ b ∈ fp, b < s2.heap.objs.size := fun b hb => by
    obtain ⟨o, e, _⟩ := T.obj _ _ st2 b hb
    exact Heap.lt_size e
  generalize hD : s2.heap.objs.size = D at hDn w0 turn szD
  obtain ⟨s3, hs3⟩ : ∃ s3 : Shared, s3 = { s2 with heap := s2.heap.push { cls := .type "list", data := .seq ([] : List Value).toArray } } := ⟨_, rfl⟩
  obtain ⟨H3, hH3⟩ : ∃ H3 : Hp, H3 = upd H2 D (.lst []) := ⟨_, rfl⟩
  have I3 : Inv X pins σ H3 s3 := by
    rw [hs3, hH3]
    refine I2.laid (t' := s2.toks) (fun b o e => Heap.get?_push_of_some _ e) (Nat.le_of_eq hD) ⟨Nat.zero_le _, [], 0, .nil, ?_⟩
    rw [← hD]
    exact Heap.get?_push_size _ rfl
  have f3 : ∀ b ∈ fp, FpOk X pins H3 b ∧ b < s3.heap.objs.size := fun b hb => by
    have lt := szD b hb
    refine ⟨⟨?_, (f2 b hb).2⟩, by rw [hs3, Heap.size_push, hD]; exact Nat.lt_succ_of_lt lt⟩
    rw [hH3, upd_ne (Nat.ne_of_lt lt)]
    exact (f2 b hb).1
  have st3 : tn 0 s3.heap := T.keep _ _ _ st2 fun b _ o e => by rw [hs3]; exact Heap.get?_push_of_some _ e
  rw [← hH3] at w0
  rw [← hs3]
  have P3 := I3.pin p (List.mem_append_left _ hp)
  have I4 := block_start I3 ok hN f3
  obtain ⟨ce, hce⟩ : ∃ ce, ce = compEnvC scope (cellsFrom (s3.heap.objs.size + 1) scope.names (cloFrom X.env.cells scope.names [])) s3.heap.objs.size X.env := ⟨_, rfl⟩
  have pg := hg p s3 H3 s3.heap.objs.size (cellsFrom (s3.heap.objs.size + 1) scope.names (cloFrom X.env.cells scope.names [])) fp hot
  have pt := ht p s3 H3 s3.heap.objs.size (cellsFrom (s3.heap.objs.size + 1) scope.names (cloFrom X.env.cells scope.names [])) fp hot
  have pe := he p s3 H3 s3.heap.objs.size (cellsFrom (s3.heap.objs.size + 1) scope.names (cloFrom X.env.cells scope.names [])) fp hot
  rw [← hce] at I4 pg pt pe
  have cL : ce.locals = s3.heap.objs.size := by rw [hce]; rfl
  show codeAny _ _ (.compStart (.ListComp elt [⟨tg, iter, ifs, 0⟩] scope pos) 0 (.ref it) (.ref D) (compEnvC scope (cellsFrom (s3.heap.objs.size + 1) scope.names (cloFrom X.env.cells scope.names [])) s3.heap.objs.size X.env)) (compPost (model X.prog X.w) X.A X.xe none (EP X pins σ Q) (.ref D) s3.heap.objs.size) { s3 with heap := pushCells (s3.heap.push { cls := .type "dict", data := .dict #[] }) scope.names }
  rw [← hce]
  generalize hs4 : ({ s3 with heap := pushCells (s3.heap.push { cls := .type "dict", data := .dict #[] }) scope.names } : Shared) = s4 at I4 ⊢
  have kp34 : ∀ b o, s3.heap.get? b = some o → s4.heap.get? b = some o := fun b o e => by rw [← hs4]; exact pushCells_keeps _ _ _ _ (Heap.get?_push_of_some _ e)
  have st4 : tn 0 s4.heap := T.keep _ _ _ st3 fun b _ o e => kp34 b o e
  have I4 : Inv (blkH X p s3 H3 scope ce fp) [] (wipe σ (own.map (·.2))) H3 s4 := blk_hot I4 (kp34 _ _ P3.1) P3.2.1 (by rw [cL]; exact Nat.ne_of_lt (Heap.lt_size P3.1)) (fun hm => (List.mem_cons.mp (I3.stkSub p.1 hm)).elim P3.2.2.1 P3.2.2.2.1) P3.2.2.2.2
  have hcB : HotC (blkH X p s3 H3 scope ce fp) := hot_blk hot
  have np : ∀ b ∈ fp, p.1 ≠ b := fun b hb => (f3 b hb).1.2.2.2.2.2 p (List.mem_append_left _ hp)
  have stat : ∀ {σ' : L2.St} {H' : Hp} {s' : Shared}, Inv (blkH X p s3 H3 scope ce fp) [] σ' H' s' → (∀ b ∈ fp, H' b = none) → ∀ b ∈ fp, FpOk (blkH X p s3 H3 scope ce fp) [] H' b := fun {σ' H' s'} I' hn b hb =>
    ⟨hn b hb, (I'.ok.exf b hb).1, I'.ok.exfs b hb, .inl hb, fun x c e => (I'.ok.exf b hb).2 x c e, fun q hq => by
      obtain rfl : q = p := by simpa using (show q ∈ [p] ++ ([] : List (Addr × Obj)) from hq)
      exact np b hb⟩
  have loop : codeAny (model X.prog X.w) X.A (.compLoop (.ListComp elt [⟨tg, iter, ifs, 0⟩] scope pos) 0 (.ref it) (.ref D) ce) (compPost (model X.prog X.w) X.A X.xe none (EP X pins σ Q) (.ref D) s3.heap.objs.size) s4 := by
    have nfp : ∀ b ∈ fp, H3 b = none := fun b hb => (f3 b hb).1.1
    refine compLoop_any (fun n s' => ∃ i H', Inv (blkH X p s3 H3 scope ce fp) [] (wipe σ (own.map (·.2))) H' s' ∧ tn i s'.heap ∧ (∀ b ∈ fp, H' b = none) ∧ W i n H') ?_ m0 ⟨0, H3, I4, st4, nfp, w0⟩
    rintro n s5 ⟨i, H5, I5, st5, n5, w5⟩
    rcases turn i n H5 w5 with ⟨stop, qq⟩ | ⟨go, Nx, hNx, step⟩
    · refine thnF (T.done (blkH X p s3 H3 scope ce fp) rfl rfl rfl hcB i [] s5 _ H5 (fun _ _ => False) I5 (stat I5 n5) st5 stop) fun r s6 ⟨hr, I6⟩ => ?_
      subst hr
      have nC : H5 s3.heap.objs.size = none := by rw [← cL]; exact I6.free
      have I7 : Inv X pins σ H5 s6 := I3.call' (ch := fp) I6.os I6.base I6.hok I6.bare fun b hb => ⟨(f3 b hb).1.2.2.2.1, (f3 b hb).1.2.1, (f3 b hb).1.2.2.2.2.1, (f3 b hb).1.2.2.2.2.2⟩
      obtain ⟨m, hn, _⟩ := I6.loc
      obtain ⟨c0, c1, c2, c3, c4, c5⟩ := I3.fpOk (Nat.le_refl _) nC
      exact ⟨m, by rw [← cL]; exact hn, fun h'' sb => ⟨.ref D, H5, I7.turned (t' := s6.toks) (fun b o hb e => (sb.2 b hb).trans e) c0 c1 c3 c4 c5, rfl, qq⟩⟩
    · refine thnF (T.item (blkH X p s3 H3 scope ce fp) rfl rfl rfl hcB i [] s5 _ H5 (fun _ _ => False) I5 (stat I5 n5) st5 go) fun r s6 ⟨u, hr, h6⟩ => ?_
      subst hr
      refine thnF h6 fun _ s7 ⟨x, H7, I7, r7, y7, st7, n7⟩ => ?_
      refine thnF (pg.run _ s7 _ H7 x u _ (I7.pinned (stat I7 n7) (T.obj _ _ st7)) r7 (step x H7 y7)) fun _ s8 ⟨σ8, H8, I8, hw8, q8⟩ => ?_
      refine thnF (pt.run _ s8 σ8 H8 _ I8 q8) fun b s9 ⟨H9, I9, q9⟩ => ?_
      have fin : ∀ {s' : Shared} {H' : Hp}, Inv (blkH X p s3 H3 scope ce fp) ([] ++ pinsAt fp s7.heap) σ8 H' s' → Nx H' → ∃ m, m < n ∧ ∃ i H', Inv (blkH X p s3 H3 scope ce fp) [] (wipe σ (own.map (·.2))) H' s' ∧ tn i s'.heap ∧ (∀ b ∈ fp, H' b = none) ∧ W i m H' := fun {s' H'} I' nx => by
        obtain ⟨m', hm, w'⟩ := hNx H' nx
        have at_ : ∀ b ∈ fp, ∀ o, s7.heap.get? b = some o → s'.heap.get? b = some o ∧ H' b = none := fun b hb o e => by
          have z := I'.pin (b, o) (List.mem_append_right _ (List.mem_append_right _ (mem_pinsAt hb e)))
          exact ⟨z.1, z.2.1⟩
        refine ⟨m', hm, i + 1, H', (I'.unpinned (pins := [])).weak (by rw [← hw8, wipe_length]) (fun j v e => ?_), T.keep _ _ _ st7 fun b hb o e => (at_ b hb o e).1, fun b hb => ?_, w'⟩
        · rw [← hw8] at e
          exact (wipe_some e).1
        · obtain ⟨o, e, _⟩ := T.obj _ _ st7 b hb
          exact (at_ b hb o e).2
      cases b with
      | false => exact fin I9 q9
      | true =>
        refine thnF (pe.run _ s9 σ8 H9 _ I9 q9) fun z s10 ⟨yv, H10, I10, r10, acc, hD10, hz10, nx⟩ => ?_
        exact app_ok (X := blkH X p s3 H3 scope ce fp) I10 hD10 hz10 r10 fun s11 I11 => fin I11 nx
  exact codeAny_compStart_list loop (T.self X.A 0 _ _ _ st4 loop)
end
end K81

namespace K81
open PySem PySem.Spec PyProof.Rows L2
/-! # The trap, read within an except suite -/
section
variable {P : Program} {w : World} {K : PySem.W.Frag} {mg : Str → Option Value} {base : Heap}
open HotX in
theorem okH_trap (T : Txt K mg) : L2H.FnH P w K mg base CX0 1 a_Seeing_trap (fdOf K a_Seeing_trap) ["self"] (sp_Seeing_trap P w) := by
  obtain ⟨oc, od, dV, kV, doc, pm, an, cdv, ct, osl, efd, lk, hcd, _, _⟩ := T.F_Seeing_trap.ex
  generalize fdOf K a_Seeing_trap = fd at efd lk ⊢
  subst efd
  refine L2H.fn_ofH lk hcd sc_Seeing_trap (fun vs H Q E h => ?_) (fun A outer s H vs Q E p hot hr h => ?_)
  · obtain ⟨s0, W, ls, hs, mo, R, rs, val, rfl, S, k⟩ := h
    rfl
  · obtain ⟨s0, W, ls, hs, mo, R, rs, val, rfl, S, k⟩ := h
    have hc : L2H.HotC (L2H.cxH CX0 P w K mg base N_Seeing_trap "Seeing.trap" (defScope s_Seeing_trap) a_Seeing_trap cdv A outer s H E p) := ⟨p, hot, List.mem_singleton.mpr rfl⟩
    refine ⟨_, (pss_one (ps_ret (pe_callTy call_tupK (by rfl) T.z_tuple (by decide +kernel) (pa_cons (pe_lcH (own := [("row", 1), ("made", 2), ("worth", 3)]) (g := gTup K 3 (gCons (gName 1) (gCons (gName 2) (gCons (gName 3) gNil)))) hc (pi_tupH (pe_fld (pv 0) rfl)) sc_Seeing_trap.nd (blkOk_by (own := [("row", 1), ("made", 2), ("worth", 3)]) (N := N_Seeing_trap) (sc := defScope s_Seeing_trap) (by decide +kernel)) (fun p s H C cl fp hot => (pg_tupH (hot_blk hot) (pgs_cons (pg_name (i := 1) sc_Seeing_trap.nd rfl (Or.inl rfl)) (pgs_cons (pg_name (i := 2) sc_Seeing_trap.nd rfl (Or.inl rfl)) (pgs_cons (pg_name (i := 3) sc_Seeing_trap.nd rfl (Or.inl rfl)) pgs_nil))))) (fun p s H C cl fp hot => pts_one (pt_cmpR op_lt (pv 3) pe_int (nomark _))) (fun p s H C cl fp hot => (pe_tup (pa_cons (pv 1) (pa_cons (pv 2) pa_nil))))) pa_nil)))), ?_⟩
    have cl := S.cl
    obtain ⟨⟨dx, fs, pb, aV, vt, e, f1, f2, f3, f4, f5, f6, f7, f8, B, dV, ht⟩, _, _⟩ := S
    have hl120 := (nok_of B cl).few
    obtain ⟨at', us, rfl, u1, u2⟩ := ht.ref
    refine ⟨_, rfl, s0, c_Seeing, dx, fs, _, rfl, e, T.cl_Seeing, T.n_Seeing_table, f3, at', rfl, ⟨_, SqT.of u1⟩, fun L hL => ?_⟩
    refine lc_pre (walk_tupK (ks := (nodesOf mo rs).map (tabD val))) ((nodesOf mo rs).map (tabD val)) rfl No (fun pre acc _ => ∃ p : List Node, pre = p.map (tabD val) ∧ acc = (p.filter fun v => decide (val v < 0)).map nodeD) hL id (by rw [List.length_map]; exact szL (by omega)) (fun H' g' => g'.at ht) (fun _ _ => ⟨[], rfl, rfl⟩) (fun pre d post acc v H5 H6 Kq N e' _ g0 pd y kq kn => ?_) fun H5 acc _ g5 la pd => ?_
    · obtain ⟨rfl, j, h3, h4⟩ := y
      have e9 := at_mid e' h3
      subst e9
      obtain ⟨p', z, q, ep, rfl, rfl, rfl⟩ := map_mid e'
      obtain ⟨p2, e3, rfl⟩ := pd
      have e3 : p' = p2 := map_inj (fun a b h => by
        unfold tabD at h
        injection h with h
        injection h with h1 h
        injection h with h2 h
        injection h2 with h2
        cases a
        cases b
        have e1 := rowD_inj h1
        have e2 := Int.ofNat.inj h2
        simp only at e1 e2
        rw [e1, e2]) e3
      subst e3
      obtain ⟨bt, ut, rfl, w1, w2⟩ := h4.ref
      cases w2 with
      | @cons _ x1 _ _ y1 z1 =>
      cases z1 with
      | @cons _ x2 _ _ y2 z2 =>
      cases z2 with
      | @cons _ x3 _ _ y3 z3 =>
      cases z3
      cases y2
      cases y3
      refine ⟨bt, _, rfl, SqT.of w1, rfl, _, _, rfl, _, _, rfl, _, _, rfl, rfl, ?_⟩
      refine ⟨rfl, ?_⟩
      refine ⟨_, rfl, _, _, rfl, rfl, _, rfl, ?_⟩
      by_cases hz : val z < 0
      · refine iteT' (K81.dT hz) ?_
        refine ⟨_, rfl, _, rfl, (by decide : 2 ≤ sizeLine), fun t1 ht1 => ?_⟩
        have d1 := tup_new (.cons y1 (.cons (.num (z.2 : Nat)) .nil)) ht1
        exact kq _ _ (nodeD z) (Grow.new ht1) d1 fun _ _ => ⟨p' ++ [z], by rw [List.map_append]; rfl, by rw [List.filter_append, List.map_append]; simp [hz]⟩
      · refine iteF' (K81.dF hz) ?_
        exact kn _ (Grow.refl _) ⟨p' ++ [z], by rw [List.map_append]; rfl, by rw [List.filter_append, List.map_append]; simp [hz]⟩
    obtain ⟨p2, e3, rfl⟩ := pd
    have e3 : nodesOf mo rs = p2 := map_inj (fun a b h => by
      unfold tabD at h
      injection h with h
      injection h with h1 h
      injection h with h2 h
      injection h2 with h2
      cases a
      cases b
      have e1 := rowD_inj h1
      have e2 := Int.ofNat.inj h2
      simp only at e1 e2
      rw [e1, e2]) e3
    subst e3
    exact ⟨L, _, rfl, la, fun H6 v6 g6 a6 => k H6 v6 (g5.trans g6) a6⟩
end
end K81

namespace K81
open PySem PySem.Spec PyProof.Rows L2
/-! # Within an except suite: a property, isinstance of the caught error; a method that may raise, called in a try -/
section
variable {X : Cx} {CX : CXT} {k : Nat} {C p g : Addr} {f m : Str} {fd : FuncData} {ps : List Str} {sp : Sp} {e o : Expr} {es : List Expr} {pos apos : Pos} {ta : TE} {t : TA} {E : L2.St → XK}
theorem in1_hot {k : Nat} {A : Around} (r : L2H.RoomH (k + 1) A) : L2H.RoomH k A.in1 := ⟨by have := r.dp; show A.depth + 3 * k + 5 < _; omega, by have := r.un; show A.units + 1 + 16 * k + 200 < _; omega⟩
theorem pe_propH (he : PE X e ta) (c : Cls X.K C) (hp : PropOf X.K C f p g) (F : L2H.FnH X.prog X.w X.K X.mg X.base CX0 k g fd ps sp) (hr : L2H.RoomH (k + 1) X.A) (hc : L2H.HotC X) (hb : Binds X.K fd ps [])
    (hab : attributeBase e f X.env (eval e X.env) = eval e X.env) : PE X (.Attribute e f pos) (tProp C sp [] (fun _ _ _ => False) ta) := by
  refine ⟨fun pins s σ H Q I h => attr_of hab (thn (he.run pins s σ H _ I h) fun u s1 ⟨x, H1, I1, rx, a, dx, fs, ex, ea, q⟩ => ?_)⟩
  subst ex
  obtain rfl : u = Value.ref a := rx
  obtain ⟨mA, O, _, _, _, _⟩ := ins_get I1.hok ea
  obtain ⟨od, J, _⟩ := O.look
  obtain ⟨rest, hrec⟩ := hp.rec_
  obtain ⟨p1, hot, hm⟩ := hc
  have I2 := I1.tok (s1.toks + 1)
  have hcl : (PySem.W.clsIn X.K C).isSome = true := by
    obtain ⟨cd, hc, _⟩ := PySem.W.any_some c.hd
    rw [hc]
    rfl
  have hl : ([Value.ref a] ++ []).length = ps.length := F.len _ _ _ _ q
  have b1 := hb _ [Value.ref a] I2.kIn hl
  have P1 := I2.pin p1 (List.mem_append_left _ hm)
  have hpin : L2H.PinOk X.stack H1 { s1 with toks := s1.toks + 1 } p1 := ⟨P1.1, P1.2.1, fun hmm => (List.mem_cons.mp (I2.stkSub p1.1 hmm)).elim P1.2.2.1 P1.2.2.2.1, P1.2.2.2.2⟩
  refine PySem.W.get_bind I1.kIn J (PySem.W.plainGet_of (c.get f)).1 (PySem.W.findObj_data hcl hp.at_ hp.get hp.tak) (PySem.W.plainGet_of (c.get f)).2 (wpAny_call (PySem.W.prop_get (s := { s1 with toks := s1.toks + 1 }) I1.kIn hrec ?_))
  refine codeAny_mono (F.run X.A.in1 X.stack { s1 with toks := s1.toks + 1 } H1 ⟨[.ref a], []⟩ [.ref a] [.ref a] Q (fun _ _ _ => False) p1 (in1_hot hr) hot hpin I2.env0.in1 b1 (.cons rfl .nil) q) fun r s' hq => ?_
  cases r with
  | error er => exact False.elim hq
  | ok fl =>
    cases fl with
    | ret u =>
      obtain ⟨v, H', I3, rv, q3⟩ := I2.after hq
      show wpAny _ _ (handedOut u) _ _ _
      rw [PySem.W.handedOut_of (handed_of rv)]
      exact wpAny_pure ⟨v, H', I3, rv, q3⟩
    | next => exact False.elim hq
    | brk => exact False.elim hq
    | cont => exact False.elim hq
/-- o.m(e, ..) that may raise, in a try -/
theorem pe_methA {pl : Sem Bool} (he : PE X o ta) (c : Cls X.K C) (hm : Meth X.K C m g) (F : FnOk X.prog X.w X.K X.mg X.base CX k g fd ps sp) (hr : Room k X.A) (hb : Binds X.K fd ps []) (hx : ∀ σ, PassesAt CX X σ (E σ)) (ha : PA X (e :: es) t)
    (hst : starEach (e :: es) X.env = (false, eval e X.env) :: starEach es X.env := by rfl) (hpl : (backTo pos (starEach es X.env)).any (·.1) = false := by rfl)
    (ht : eval (.Call (.Attribute o m apos) (e :: es) [] pos) X.env = (do
      let ov ← eval o X.env
      standAt apos.atName
      let (f, first) ← holding [ov] (getMethod ov m pl)
      callWith pos f first (backTo pos (starEach (e :: es) X.env)) (backToKw pos (keywordEach [] X.env))) := by rfl) : PE X (.Call (.Attribute o m apos) (e :: es) [] pos) (L2H.tMethH C m sp E ta t) := by
  refine ⟨fun pins s σ H Q I h => PySem.W.methodCall_KW (pl := pl) (thn (he.run pins s σ H _ I h) fun u s1 ⟨x, H1, I1, rx, a, dx, fs, ex, ea, l, q⟩ => ?_) ht⟩
  subst ex
  obtain rfl : u = Value.ref a := rx
  refine getmeth_ok I1 ea c hm l (PySem.W.callWith_K (first := [.ref a]) (h₀ := X.base) I.ok.mod.kin hm.kp (thn (ha.run pos pins s1 σ H1 _ I1 q) fun us s2 ⟨vs, H2, I2, r, q2⟩ => ⟨I2.kIn, ?_⟩) hst hpl)
  exact run_fnS (us := .ref a :: us) (vs := .ref a :: vs) F hr hb (hx σ) I2 (.cons rfl r) q2
end
theorem cls_get {K : PySem.W.Frag} : PySem.W.specialIn K (.builtin "object.__class__") "__get__" = some (some (.builtin "getset_descriptor.__get__")) := by
  show ((PySem.W.typeIn K (.builtin "object.__class__")).bind fun t => PySem.W.findIn K t "__get__") = _
  have e : PySem.W.typeIn K (.builtin "object.__class__") = some (.type "getset_descriptor") := by
    show PySem.W.pureOf (fastBuiltinType "object.__class__") = _
    kernel_rfl
  rw [e]
  show fastLookup "getset_descriptor" "__get__" = _
  kernel_rfl
theorem cls_tak {K : PySem.W.Frag} : PySem.W.takesIn K (.builtin "object.__class__") = some true := by
  have e : PySem.W.specialIn K (.builtin "object.__class__") "__set__" = some (some (.builtin "getset_descriptor.__set__")) := by
    show ((PySem.W.typeIn K (.builtin "object.__class__")).bind fun t => PySem.W.findIn K t "__set__") = _
    have e : PySem.W.typeIn K (.builtin "object.__class__") = some (.type "getset_descriptor") := by
      show PySem.W.pureOf (fastBuiltinType "object.__class__") = _
      kernel_rfl
    rw [e]
    show fastLookup "getset_descriptor" "__set__" = _
    kernel_rfl
  unfold PySem.W.takesIn
  rw [e]
/-- isinstance(caught, c), the caught error NoValue's -/
def rIsX (K : PySem.W.Frag) (a : Addr) (cls : Value) (d : Option Addr) : List V → Hp → VK → Prop := fun xs H Q => ∃ (c : V) (cv : Value) (b : Bool) (dd : Addr) (fs : List (Str × V)), xs = [.ref a, c] ∧ (∀ u, RelV c u → u = cv) ∧ cls = .ref c_NoValue ∧ d = some dd ∧ PySem.W.kitOne K (.ref c_NoValue) cv = some b ∧ H dd = some (.xd fs) ∧ Q (.bl b) H
theorem call_isX {X : Cx} {a : Addr} {cls : Value} {d : Option Addr} {oe : Obj} {pn : List (Addr × Obj)} (T : Txt X.K X.mg) (hz : Zc cls d oe) (hf : ∃ vs, oe.data = .fields vs) : CallR (X.suite a ((a, oe) :: pn)) (.builtin "isinstance") (rIsX X.K a cls d) := by
  intro pins s σ H xs us Q I r h
  obtain ⟨c, cv, b, dd, fs, rfl, hcv, rfl, rfl, e, hd, q⟩ := h
  cases r with
  | cons rx rr =>
  cases rr with
  | cons rt rr =>
  cases rr
  cases rx
  obtain rfl := hcv _ rt
  obtain ⟨hget, _⟩ := I.pin (a, oe) (List.mem_append_left _ List.mem_cons_self)
  obtain ⟨vs, hv⟩ := hf
  have hx : ObjOk X.prog X.w H s.heap dd (.xd fs) := I.hok dd _ hd
  obtain ⟨mA, hns, hr⟩ := hx
  obtain ⟨od, ho, _⟩ := lookIn_ns hns
  have J : PySem.W.InstAt s.heap a oe c_NoValue (some od) := ⟨hget, hz.1, by unfold PySem.W.notCls; rw [hv] <;> rfl, by rw [hz.2]; exact ho⟩
  have hcl : (PySem.W.clsIn X.K c_NoValue).isSome = true := by
    obtain ⟨cd, hc, _⟩ := PySem.W.any_some T.nv.hdC
    rw [hc]
    rfl
  exact PySem.W.kia_one (PySem.W.kitx_exc hcl T.nv.ga T.nv.gg T.nv.exC T.nv.caC cls_get cls_tak T.nv.moC) I.kIn J e (fun z => nomatch z) fun tk => ⟨.bl b, H, I.kept (t' := tk) fun _ _ z => z, rfl, q⟩
theorem hot_suite {X : Cx} {a : Addr} {cls : Value} {d : Option Addr} {oe : Obj} {pn : List (Addr × Obj)} (hz : L2N.Zn cls d oe) (hf : ∃ vs, oe.data = .fields vs) : L2H.HotC (X.suite a ((a, oe) :: pn)) := by
  obtain ⟨vs, hv⟩ := hf
  exact ⟨(a, oe), ⟨rfl, vs, hv, hz.2.2 vs hv⟩, List.mem_cons_self⟩
theorem takes_noneN {X : Cx} : L2N.Takes X (fun _ _ _ _ => False) := fun u s' x => by
  obtain ⟨_, _, _, _, _, _, _, _, _, _, _, _, _, _, _, _, w⟩ := x
  exact w.elim
end K81

namespace K81
open PySem PySem.Spec PyProof.Rows L2
/-! # The law's head without a value -/
section
variable {P : Program} {w : World} {K : PySem.W.Frag} {mg : Str → Option Value} {base : Heap}
abbrev N_no_play : List Str := ["_law_seeing", "_law_row", "caught"]
theorem sc_no_play : FnScope N_no_play ["_law_seeing", "_law_row"] (defScope s_law_no_play) := ⟨rfl, rfl, rfl, by decide +kernel, rfl, by decide +kernel, by decide +kernel⟩
theorem bd_no_play (T : Txt K mg) : Binds K (fdOf K a_law_no_play) ["_law_seeing", "_law_row"] [] := FunD.bindsN T.F_law_no_play fun _ _ _ _ _ _ us hl => match us, hl with | [_, _], _ => rfl
theorem nv_xf (T : Txt K mg) : XfC K c_NoValue := ⟨T.nv.ga, T.nv.gg, T.nv.exC, T.nv.hdC⟩
def sp_law_no_play (P : Program) (w : World) : Sp := fun vs H Q _ => ∃ s x W ls hs mo R rs val r, vs = [.ref s, x] ∧ SAt P w H s W ls hs mo R rs val ∧ At H (rowD r) x ∧ (r, 0) ∈ nodesOf mo rs ∧ val (r, 0) < 0 ∧ ∀ H', Q (.bl true) H'
theorem ok_law_no_play (hP : P = prg0) (T : Txt K mg) : FnOk P w K mg base CX0 8 a_law_no_play (fdOf K a_law_no_play) ["_law_seeing", "_law_row"] (sp_law_no_play P w) := by
  refine ok0 T.F_law_no_play sc_no_play (fun vs H Q E h => ?_) (fun cdv A outer s H vs Q E hr h => ?_)
  · obtain ⟨s0, x, W, ls, hs, mo, R, rs, val, r, rfl, h⟩ := h
    rfl
  · obtain ⟨s0, x, W, ls, hs, mo, R, rs, val, r, rfl, S, hx, hra, hneg, k⟩ := h
    have hU := hr.units
    have hu := hu_of hr
    refine ⟨_, (pss_cons (L2N.ps_try_as (i := 2) (c := .ref c_NoValue) rfl rfl sc_no_play.nd rfl rfl ⟨rfl, by decide, .inl T.g_NoValue⟩ takes_noneN
        (fun W pn xe tk _ => pss_one (ps_expr (pe_methA (E := WE W) (pv 0) T.cl_Seeing T.m_Seeing_play (ok_playX (P := P) (w := w) (base := base) hP T) (hr.mono (by decide)) (bd_Seeing_play T) (fun σ => L2N.passAt tk σ) (pa_cons (pv 1) (pa_cons pe_str pa_nil)))))
        (fun a oe cls d pn hz hf => pss_one (ps_ret (pe_and (pe_cmpR (op_eqK hU) (pe_xf (nv_xf T) T.nv.noR hz.zc hf (pv 2)) (pv 1) (nomark _)) (pe_and (pe_cmpR (op_inK hU) (pe_tup (pa_cons (pv 1) (pa_cons pe_int pa_nil))) (pe_propH (pv 0) T.cl_Seeing T.pr_Seeing_trap (okH_trap (P := P) (w := w) (base := base) T) ⟨(hr.mono (by decide : 2 ≤ 7)).dp, (hr.mono (by decide : 2 ≤ 7)).un⟩ (hot_suite hz hf) (bd_Seeing_trap T) rfl) (by rfl)) (pe_one (pe_callB (call_isX T hz.zc hf) (by rfl) T.z_isinstance (by decide +kernel) (pa_cons (pv 2) (pa_cons (pe_glob (v := .ref c_TouchError) rfl T.g_TouchError rfl) pa_nil)))))))))
      (pss_one (ps_ret pe_bl))), ?_⟩
    obtain ⟨⟨dx, fs, pb, aV, vt, e, f1, f2, f3, f4, f5, f6, f7, f8, B, dV, ht⟩, cl, good⟩ := id S
    refine ⟨_, rfl, s0, dx, fs, rfl, e, f8, _, rfl, ?_⟩
    refine ⟨s0, x, _, W, ls, hs, mo, R, rs, val, r, rfl, S, hx, hra, hneg, fun H1 d g1 hd => ?_⟩
    refine ⟨true, T.nv.te, fun _ a ha => ?_, fun z => Bool.noConfusion z⟩
    have g2 : Grow No H (upd H1 d (.xd [("row", x)])) := g1.trans (Grow.new hd)
    have hd2 : (upd H1 d (.xd [("row", x)])) d = some (.xd [("row", x)]) := upd_same
    generalize upd H1 d (.xd [("row", x)]) = H2 at g2 hd2 ha ⊢
    have S2 := S.hard g2.hard
    refine ⟨_, rfl, rfl, rfl, d, _, x, rfl, hd2, rfl, _, rfl, rowD r, rowD r, g2.at hx, g2.at hx, sm_row _, sm_row _, _, rfl, ?_⟩
    refine iteT' (by simp) ?_
    refine ⟨_, rfl, (by decide : 2 ≤ sizeLine), fun t1 ht1 => ?_⟩
    have d1 := tup_new (.cons (g2.at hx) (.cons (.num (0 : Nat)) .nil)) ht1
    have g3 : Grow No H2 (upd H2 t1 (.tup [x, .int (0 : Nat)])) := Grow.new ht1
    have S3 := S2.hard g3.hard
    refine ⟨_, rfl, s0, dx, fs, rfl, (g2.trans g3).oN e, s0, W, ls, hs, mo, R, rs, val, rfl, S3, fun H4 v4 g4 a4 => ?_⟩
    have hin : nodeD (r, 0) ∈ ((nodesOf mo rs).filter fun v => decide (val v < 0)).map nodeD := List.mem_map.mpr ⟨(r, 0), List.mem_filter.mpr ⟨hra, decide_eq_true hneg⟩, rfl⟩
    have okn : ∀ v : Node, okD (nodeD v) = true := fun v => by
      show (okD (rowD v.1) && (true && true)) = true
      rw [ok_row]
      rfl
    refine ⟨nodeD (r, 0), _, g4.at d1, a4, ⟨Nat.le_trans (dep_node _) (by decide), okn _⟩, okDs_all _ fun k hk => ?_, _, rfl, ?_⟩
    · obtain ⟨v, _, rfl⟩ := List.mem_map.mp hk
      exact okn v
    refine iteT' (decide_eq_true hin) ?_
    refine ⟨_, rfl, .ref c_TouchError, .ref c_TouchError, true, d, _, rfl, fun u h => h, rfl, rfl, T.nv.isT, (g3.trans g4).oN hd2, k _⟩
end
end K81

namespace K81
open PySem PySem.Spec PyProof.Rows L2
/-! # The law -/
section
variable {P : Program} {w : World} {K : PySem.W.Frag} {mg : Str → Option Value} {base : Heap}
theorem Lts.uniq {W : Wd} {a b : List Nat} (h : Lts W a) (h' : Lts W b) : a = b := List.Perm.eq_of_pairwise (fun a b _ _ h1 h2 => Nat.le_antisymm h1 h2) h.2 h'.2 (h.1.trans h'.1.symm)
theorem Closed.goTo_mem {W : Wd} {ls : List Nat} {rs : List Row} (h : Closed W ls rs) : ∀ {us : List Nat} {r : Row}, r ∈ rs → (∀ c ∈ us, c ∈ ls) → goTo W r us ∈ rs
  | [], _, hr, _ => hr
  | c :: us, r, hr, hu => h.goTo_mem (us := us) (h.cl r hr c (hu c (List.mem_cons_self ..))) fun d hd => hu d (List.mem_cons_of_mem _ hd)
/-- the most slips that is drawn -/
def mosts : List (Option Nat) := [some 0, some 1, some 2, some 3, some 4, none]
def moD : Option Nat → D
  | none => .none
  | some m => .num (m : Nat)
theorem mo_at {H : Hp} {mo : Option Nat} {v : V} (h : At H (moD mo) v) : v = moV mo := by
  cases mo with
  | none => cases h; rfl
  | some m => cases h; rfl
theorem lts_lt {W : Wd} {ls : List Nat} (ok : WOk W) (h : Lts W ls) : ∀ c ∈ ls, c < 1114112 := fun c hc => by
  rcases List.mem_cons.mp (h.1.mem_iff.mp hc) with rfl | hc
  · decide
  · obtain ⟨k, hk, rfl⟩ := List.mem_map.mp hc
    exact (by decide : ∀ c ∈ alpha, c < 1114112) _ (ok.calls k hk).al
theorem ok_tx {l : List Nat} (h : ∀ c ∈ l, c < 1114112) : okD (.text (tx l)) = true := by
  show (l.toArray.all fun c => decide (c < 1114112)) = true
  simpa using h
theorem draw_ne {H : Hp} {d c L : Addr} {r : Row} {rs : List Row} (h : Draw H d c) (l : Ls H L (rws (r :: rs))) : d ≠ L := fun z => by
  obtain ⟨cells, i, b, t, e, s, ⟨h1, h2⟩, _⟩ := h
  obtain ⟨vs, h3, a⟩ := l
  rw [z, h3] at h1
  cases h1
  cases a with
  | cons x _ =>
    obtain ⟨q, e1, e2⟩ := row_of x
    cases e1
    rw [h2] at e2
    cases e2
def spLaw (K : PySem.W.Frag) : Sp := fun vs H Q _ => ∃ (a : Addr) (ns : List Int), vs = [.ref a] ∧ SqL K H a (ns.map V.int) ∧ ns.length ≤ 63 ∧ (∀ H', Grow No H H' → SqL K H' a (ns.map V.int)) ∧ ∀ H', Q (.bl true) H'
abbrev N_law : List Str := ["_law_script", "_law_draw_here", "_law_world_here", "_law_letters_here", "_law_moves_here", "_law_rows", "_law_words", "_law_method", "_law_hears_here", "_law_most", "_law_seeing", "_law_row", "_law_other", "_law_told", "_law_limit", "_law_played_here", "_law_called", "_law_rung", "_law_heads_here", "_law_made"]
theorem sc_law : FnScope ["_law_script", "_law_draw_here", "_law_world_here", "_law_letters_here", "_law_moves_here", "_law_rows", "_law_words", "_law_method", "_law_hears_here", "_law_most", "_law_seeing", "_law_row", "_law_other", "_law_told", "_law_limit", "_law_played_here", "_law_called", "_law_rung", "_law_heads_here", "_law_made"] ["_law_script"] (defScope s_law) := ⟨rfl, rfl, rfl, by decide +kernel, rfl, by decide +kernel, by decide +kernel⟩
theorem bd_law (T : Txt K mg) : Binds K (fdOf K a_law) ["_law_script"] [] := FunD.bindsN T.F_law fun _ _ _ _ _ _ us hl => match us, hl with | [_], _ => rfl
theorem ok_law9 (hP : P = prg0) (T : Txt K mg) : FnOk P w K mg base CX0 9 a_law (fdOf K a_law) ["_law_script"] (spLaw K) := by
  refine ok0 T.F_law sc_law (fun vs H Q E h => ?_) (fun cdv A outer s H vs Q E hr h => ?_)
  · obtain ⟨a, ns, rfl, hs0, hn63, hsk, k⟩ := h
    rfl
  · obtain ⟨a, ns, rfl, hs0, hn63, hsk, k⟩ := h
    have hU := hr.units
    have hu := hu_of hr
    refine ⟨_, (pss_cons (ps_set (i := 1) sc_law.nd rfl (Or.inl rfl) (pe_call (ok_law_draw T) (hr.mono (by decide)) (by rfl) T.g_law_draw T.F_law_draw.kp (bd_law_draw T) .nil pass0 (pa_cons (pv 0) pa_nil)))
      (pss_cons (ps_set (i := 2) sc_law.nd rfl (Or.inl rfl) (pe_call (ok_law_world T) (hr.mono (by decide)) (by rfl) T.g_law_world T.F_law_world.kp (bd_law_world T) .nil pass0 (pa_cons (pv 1) (pa_cons pe_int pa_nil))))
      (pss_cons (ps_set (i := 3) sc_law.nd rfl (Or.inl rfl) (pe_call (ok_law_letters T) (hr.mono (by decide)) (by rfl) T.g_law_letters T.F_law_letters.kp (bd_law_letters T) .nil pass0 (pa_cons (pv 2) pa_nil)))
      (pss_cons (ps_set (i := 4) sc_law.nd rfl (Or.inl rfl) (pe_call (ok_law_moves T) (hr.mono (by decide)) (by rfl) T.g_law_moves T.F_law_moves.kp (bd_law_moves T) .nil pass0 (pa_cons (pv 2) pa_nil)))
      (pss_cons (ps_asg (pe_call (ok_law_heads T) (hr.mono (by decide)) (by rfl) T.g_law_heads T.F_law_heads.kp (bd_law_heads T) .nil pass0 (pa_cons (pe_ix ix_tupK (pv 2) pe_int (fun _ _ => rfl)) (pa_cons (pv 4) (pa_cons pe_int pa_nil)))) (pg_tup rfl (pgs_cons (pg_name (i := 5) sc_law.nd rfl (Or.inl rfl)) (pgs_cons (pg_name (i := 6) sc_law.nd rfl (Or.inl rfl)) pgs_nil))))
      (pss_cons (ps_set (i := 7) sc_law.nd rfl (Or.inl rfl) (pe_make T.mk_Method (ok_Method_init T) (hr.mono (by decide)) rfl T.g_Method (bd_Method_init T) .nil pass0 (pa_cons (pe_ix ix_tupK (pv 2) pe_int (fun _ _ => rfl)) (pa_cons (pe_ix ix_tupK (pv 2) pe_int (fun _ _ => rfl)) (pa_cons (pe_ix ix_tupK (pv 2) pe_int (fun _ _ => rfl)) pa_nil)))))
      (pss_cons (ps_set (i := 8) sc_law.nd rfl (Or.inl rfl) (pe_call (ok_law_hears T) (hr.mono (by decide)) (by rfl) T.g_law_hears T.F_law_hears.kp (bd_law_hears T) .nil pass0 (pa_cons (pv 1) (pa_cons (pv 3) pa_nil))))
      (pss_cons (ps_set (i := 9) sc_law.nd rfl (Or.inl rfl) (pe_ix ix_lstK (pe_lst (pa_cons pe_int (pa_cons pe_int (pa_cons pe_int (pa_cons pe_int (pa_cons pe_int (pa_cons pe_non pa_nil))))))) (pe_call (ok_law_pick T) (hr.mono (by decide)) (by rfl) T.g_law_pick T.F_law_pick.kp (bd_law_pick T) .nil pass0 (pa_cons (pv 1) (pa_cons pe_int pa_nil))) (fun _ _ => rfl)))
      (pss_cons (ps_set (i := 10) sc_law.nd rfl (Or.inl rfl) (pe_make T.mk_Seeing (ok_Seeing_init T) (hr.mono (by decide)) rfl T.g_Seeing (bd_Seeing_init T) .nil pass0 (pa_cons (pe_make T.mk_Band (ok_Band_init T) (hr.mono (by decide)) rfl T.g_Band (bd_Band_init T) .nil pass0 (pa_cons (pv 7) (pa_cons (pv 8) (pa_cons (pv 9) pa_nil)))) pa_nil)))
      (pss_cons (ps_set (i := 11) sc_law.nd rfl (Or.inl rfl) (pe_ix ix_lstK (pv 5) (pe_call (ok_law_pick T) (hr.mono (by decide)) (by rfl) T.g_law_pick T.F_law_pick.kp (bd_law_pick T) .nil pass0 (pa_cons (pv 1) (pa_cons (pe_callB call_lenK (by rfl) T.z_len PySem.boot_len (pa_cons (pv 5) pa_nil)) pa_nil))) (fun _ _ => rfl)))
      (pss_cons (ps_for PassesOwn.never rfl (pi_list (pv 5)) (pg_name (i := 12) sc_law.nd rfl (Or.inl rfl)) (pss_cons (ps_set (i := 13) sc_law.nd rfl (Or.inl rfl) (pe_meth (pv 10) T.cl_Seeing T.m_Seeing_value (ok_Seeing_value T) (hr.mono (by decide)) (bd_Seeing_value T) .nil pass0 (pa_cons (pv 12) (pa_cons pe_int pa_nil))))
      (pss_one (ps_if (PW.pt (pw_or (pt_not (pt_val (pe_call (ok_law_is_int T) (hr.mono (by decide)) (by rfl) T.g_law_is_int T.F_law_is_int.kp (bd_law_is_int T) .nil pass0 (pa_cons (pv 13) pa_nil)))) (pw_or (pt_cmpR op_lt (pv 13) (pe_un un_neg pe_int) (nomark _)) (pw_or1 (pt_cmpR op_ne (pe_cmpR op_eq (pv 13) pe_int (nomark _)) (pe_cmpR (op_eqK hU) (pv 12) (pe_ix ix_lstK (pv 5) pe_int (fun _ _ => rfl)) (nomark _)) (nomark _)))))) (pss_one ps_never) pss_nil))))
      (pss_cons (ps_if (pt_cmpR op_eq (pe_meth (pv 10) T.cl_Seeing T.m_Seeing_value (ok_Seeing_value T) (hr.mono (by decide)) (bd_Seeing_value T) .nil pass0 (pa_cons (pv 11) (pa_cons pe_int pa_nil))) (pe_un un_neg pe_int) (nomark _)) (pss_one (ps_ret (pe_call (ok_law_no_play hP T) (hr.mono (by decide)) (by rfl) T.g_law_no_play T.F_law_no_play.kp (bd_no_play T) .nil pass0 (pa_cons (pv 10) (pa_cons (pv 11) pa_nil))))) pss_nil)
      (pss_cons (ps_set (i := 14) sc_law.nd rfl (Or.inl rfl) (pe_meth (pv 10) T.cl_Seeing T.m_Seeing_value (ok_Seeing_value T) (hr.mono (by decide)) (bd_Seeing_value T) .nil pass0 (pa_cons (pv 11) (pa_cons pe_int pa_nil))))
      (pss_cons (ps_set (i := 15) sc_law.nd rfl (Or.inl rfl) (pe_call (ok_law_played T) (hr.mono (by decide)) (by rfl) T.g_law_played T.F_law_played.kp (bd_law_played T) .nil pass0 (pa_cons (pv 1) (pa_cons (pv 10) (pa_cons (pv 4) (pa_cons (pv 8) (pa_cons (pv 9) (pa_cons (pv 11) pa_nil))))))))
      (pss_cons (ps_if (pt_cmpR op_isN (pv 15) pe_non (nomark _)) (pss_one ps_never) pss_nil)
      (pss_cons (ps_asg (pv 15) (pg_tup rfl (pgs_cons (pg_name (i := 16) sc_law.nd rfl (Or.inl rfl)) (pgs_cons (pg_name (i := 17) sc_law.nd rfl (Or.inl rfl)) (pgs_cons (pg_name (i := 18) sc_law.nd rfl (Or.inl rfl)) (pgs_cons (pg_name (i := 19) sc_law.nd rfl (Or.inl rfl)) pgs_nil))))))
      (pss_cons (ps_if (PW.pt (pw_or (pt_cmpR (op_neK hU) (pe_ix ix_lstK (pv 18) (pe_un un_neg pe_int) (fun _ _ => rfl)) (pe_ix ix_lstK (pv 5) pe_int (fun _ _ => rfl)) (nomark _)) (pw_or1 (pt_cmpR op_gt (pe_callB call_len_str (by rfl) T.z_len PySem.boot_len (pa_cons (pv 17) pa_nil)) (pv 14) (nomark _))))) (pss_one ps_never) pss_nil)
      (pss_cons (ps_if (pt_cmpR (op_neK hU) (pe_meth (pv 10) T.cl_Seeing T.m_Seeing_play (ok_Seeing_play T) (hr.mono (by decide)) (bd_Seeing_play T) .nil pass0 (pa_cons (pv 11) (pa_cons (pv 17) pa_nil))) (pe_tup (pa_cons (pv 16) (pa_cons (pe_tup (pa_cons (pe_ix ix_lstK (pv 18) (pe_un un_neg pe_int) (fun _ _ => rfl)) (pa_cons (pv 19) pa_nil))) pa_nil))) (nomark _)) (pss_one ps_never) pss_nil)
      (pss_one (ps_ret (pe_call (ok_law_ringing_fits T) (hr.mono (by decide)) (by rfl) T.g_law_ringing_fits T.F_law_ringing_fits.kp (bd_law_ringing_fits T) .nil pass0 (pa_cons (pv 7) (pa_cons (pe_getN hU (pv 6) (pv 11) (fun _ _ => rfl)) (pa_cons (pv 16) (pa_cons (pv 17) (pa_cons (pv 18) pa_nil)))))))))))))))))))))))))), ?_⟩
    refine ⟨_, rfl, a, ns, rfl, hs0, hn63, hsk, fun H1 d c g1 d1 hd0 => ?_⟩
    refine ⟨_, rfl, d, c, rfl, d1, fun H2 W vw g2 d2 ok aw => ?_⟩
    refine ⟨_, rfl, vw, W, rfl, aw, ok, fun H3 ls g3 lts => ?_⟩
    refine ⟨_, rfl, vw, W, rfl, g3.at aw, ok, fun H4 aM ls2 g4 haM lts2 tM => ?_⟩
    obtain rfl := lts2.uniq lts
    have hn := ok.bells
    have h5 := bells_le hn
    have hl4 := lts.len ok
    have aw4 := (g3.trans g4).at aw
    refine ⟨_, rfl, _, _, 0, _, aw4, rfl, ix30, rfl, fun v1 av1 => ?_⟩
    obtain rfl := av1.int_
    refine ⟨_, rfl, aM, W, ls2, rfl, tM, ok, hl4, fun c h => h, fun H5 t L dw rs ws g5 ht lL dn rw1 => ?_⟩
    refine ⟨t, _, rfl, SqT.of ht, rfl, _, _, rfl, _, _, rfl, rfl, ?_⟩
    have aw5 := g5.at aw4
    refine ⟨_, rfl, _, _, 0, _, aw5, rfl, ix30, rfl, fun v1 av1 => ?_⟩
    obtain rfl := av1.int_
    refine ⟨_, rfl, _, _, 1, _, aw5, rfl, ix31, rfl, fun v2 av2 => ?_⟩
    refine ⟨_, rfl, _, _, 2, _, aw5, rfl, ix32, rfl, fun v3 av3 => ?_⟩
    refine fun pm dxm hpm hdxm hnem => ?_
    have hpm' : (upd H5 dxm (.own pm)) pm = none := by rw [upd_ne (Ne.symm hnem)]; exact hpm
    have g6 : Grow No H5 (upd (upd H5 dxm (.own pm)) pm (.ins c_Method dxm [])) := (Grow.new hdxm).trans (Grow.new hpm')
    refine ⟨pm, dxm, W, v2, v3, rfl, upd_same, ok, g6.at av2, g6.at av3, fun H7 ls3 g7 m7 => ?_⟩
    have g57 : Grow No H5 H7 := g6.loc g7 hpm
    obtain ⟨_, lts3, _⟩ := id m7
    obtain rfl := lts3.uniq lts
    refine ⟨rfl, ?_⟩
    have d7 := d2.growN (g3.trans (g4.trans (g5.trans g57)))
    have hl4' := lts3.len ok
    refine ⟨_, rfl, _, rfl, d, c, ls3, rfl, d7, hl4', lts3.nodup ok, fun H8 vh hs g8 d8 hok ah => ?_⟩
    refine ⟨(by decide : 6 ≤ sizeLine), fun p hp => ?_⟩
    have gp : Grow No H8 (upd H8 p (.lst [.int 0, .int 1, .int 2, .int 3, .int 4, .non])) := Grow.new hp
    have lp : Ls (upd H8 p (.lst [.int 0, .int 1, .int 2, .int 3, .int 4, .non])) p (mosts.map moD) := Ls.new (.cons (.num 0) (.cons (.num 1) (.cons (.num 2) (.cons (.num 3) (.cons (.num 4) (.cons .none .nil)))))) hp
    have np := d8.ne hp
    generalize upd H8 p (.lst [.int 0, .int 1, .int 2, .int 3, .int 4, .non]) = H8' at gp lp
    refine ⟨_, rfl, d, c, 6, rfl, d8.growN gp, by omega, by omega, fun H9 z g9 d9 z0 z1 => ?_⟩
    have hz6 : z.toNat < mosts.length := by show z.toNat < 6; omega
    refine ⟨p, mosts.map moD, z, z.toNat, moD mosts[z.toNat], rfl, lp.keep g9 np, rfl, ⟨by rw [List.length_map]; exact hz6, .inl (by omega)⟩, by rw [List.getElem?_map, List.getElem?_eq_getElem hz6]; rfl, fun vm avm => ?_⟩
    obtain rfl := mo_at avm
    have hmo4 : ∀ m, mosts[z.toNat] = some m → m ≤ 4 := fun m e => (by decide : ∀ mo ∈ mosts, ∀ m ∈ mo, m ≤ 4) _ (List.getElem_mem hz6) m e
    generalize mosts[z.toNat] = mo at hmo4 avm ⊢
    have hdl : ∀ {H' : Hp}, Draw H' d c → ∀ o, H' d = some o → ∃ xs, o = .lst xs := fun {H'} z o eo => by
      obtain ⟨cells, i, b, t, e', s', ⟨h1, h2⟩, h3⟩ := z
      rw [h1] at eo
      cases eo
      exact ⟨_, rfl⟩
    have g79 : Grow (On d) H7 H9 := (g8.then gp).trans g9
    have hd79 : Hard H7 H9 := g79.hardD (hdl d7)
    refine ⟨_, rfl, _, rfl, _, rfl, fun b dxb hb hdxb hneb => ?_⟩
    have gB : Grow No H9 (upd (upd H9 dxb (.own b)) b (.ins c_Band dxb [])) := (Grow.new hdxb).trans (Grow.new (by rw [upd_ne (Ne.symm hneb)]; exact hb))
    refine ⟨b, dxb, pm, W, ls3, vh, hs, mo, rfl, upd_same, (m7.hard hd79).hard gB.hard, gB.at (g9.at (gp.at ah)), hok, hmo4, fun H11 R g11 B => ?_⟩
    have g911 : Grow No H9 H11 := gB.loc g11 hb
    refine ⟨rfl, fun s0 dxs hs' hdxs hnes => ?_⟩
    have gS : Grow No H11 (upd (upd H11 dxs (.own s0)) s0 (.ins c_Seeing dxs [])) := (Grow.new hdxs).trans (Grow.new (by rw [upd_ne (Ne.symm hnes)]; exact hs'))
    refine ⟨s0, dxs, b, W, ls3, hs, mo, R, rfl, upd_same, B.hard gS.hard, fun H12 rs2 val g12 S => ?_⟩
    have g912 : Grow No H9 H12 := g911.trans (gS.loc g12 hs')
    refine ⟨rfl, ?_⟩
    have cl2 := S.cl
    have good := S.good
    have hrsz := rw1.z
    obtain ⟨r0, rt, rfl⟩ : ∃ r0 rt, rs = r0 :: rt := by
      cases rs with
      | nil => cases hrsz
      | cons r0 rt => exact ⟨r0, rt, rfl⟩
    have hz0 : r0 = rnd W.n := Option.some.inj hrsz
    have nL : d ≠ L := draw_ne d7 (lL.growN g57)
    have lL12 := (((lL.growN g57).keep (g8.then gp) nL).keep g9 nL).growN g912
    have d12 := d9.growN g912
    have hrl := rw1.le ok
    have hrp : 0 < (r0 :: rt).length := Nat.succ_pos _
    generalize hrs : r0 :: rt = rs at *
    have hmem : ∀ q ∈ rs, (q, 0) ∈ nodesOf mo rs2 := fun q hq => by
      obtain ⟨i, hi, e⟩ := List.mem_iff_getElem.mp hq
      have e : rs[i]? = some q := by rw [List.getElem?_eq_getElem hi, e]
      obtain ⟨u1, u2, u3⟩ := rw1.go i q (ws[i]'(by rw [← rw1.len]; exact hi)) e (List.getElem?_eq_getElem _)
      refine nodes_mem.mpr ⟨?_, by rw [nums_mem]; cases mo <;> simp⟩
      rw [← u1]
      exact cl2.goTo_mem (List.mem_of_getElem? cl2.z) u3
    refine ⟨_, rfl, _, rfl, _, rfl, .ref L, _, rfl, .inr ⟨L, rfl, lL12⟩, d, c, _, rfl, d12, by omega, by rw [rws_len]; omega, fun H13 z2 g13 d13 z20 z21 => ?_⟩
    rw [rws_len] at z21
    have hz2 : z2.toNat < rs.length := by omega
    have lL13 := lL12.keep g13 nL
    refine ⟨L, rws rs, z2, z2.toNat, rowD rs[z2.toNat], rfl, lL13, rfl, ⟨by rw [rws_len]; exact hz2, .inl (by omega)⟩, by rw [List.getElem?_map, List.getElem?_eq_getElem hz2]; rfl, fun vr avr => ?_⟩
    have hr : rs[z2.toNat] ∈ rs := List.getElem_mem hz2
    generalize rs[z2.toNat] = r at hr avr ⊢
    have hard13 : Hard H12 H13 := g13.hardD (hdl d12)
    have S13 := S.hard hard13
    obtain ⟨dxS, fsS, pbS, aVS, vtS, eS, q1, q2, q3, q4, q5, q6, q7, q8, BS, dVS, htS⟩ := S13.ex
    obtain ⟨vsL, eL, aL⟩ := id lL13
    refine ⟨_, rfl, L, rfl, ⟨_, SqL.of eL⟩, ?_⟩
    have hz1 : rs[0]? = some (rnd W.n) := rw1.z
    refine for_lstK (ks := rws rs) (fun pre σ H' => Grow No H13 H' ∧ ∃ (t1 t2 : Option V), σ = [some (.ref a), some (.ref d), some vw, some (.str (tx ls3)), some (.ref aM), some (.ref L), some (.ref dw), some (.ref pm), some vh, some (moV mo), some (.ref s0), some vr, t1, t2, none, none, none, none, none, none]) ⟨Grow.refl _, none, none, rfl⟩ (fun pre σ H' p => lL13.growN p.1) (fun pre x post y σ H' e q hy => ?_) fun σ H' q => ?_
    · obtain ⟨g, t1, t2, rfl⟩ := q
      have e' : rs.map rowD = pre ++ x :: post := e
      obtain ⟨p', q, q', ep, rfl, rfl, rfl⟩ := map_mid e'
      have hq : q ∈ rs := by rw [ep]; simp
      have hv := hmem q hq
      refine ⟨_, rfl, s0, dxS, fsS, rfl, g.oN eS, q5, _, rfl, s0, y, W, ls3, hs, mo, R, rs2, val, q, 0, rfl, S13.hard g.hard, hy, hv, fun H2 g2' => ?_⟩
      refine ⟨_, rfl, _, rfl, ?_⟩
      refine ⟨_, rfl, ?_⟩
      refine iteF' rfl ?_
      have lo := good.low (q, 0)
      refine ⟨_, rfl, _, rfl, _, _, rfl, rfl, _, rfl, ?_⟩
      refine iteF' (K81.dF (by omega)) ?_
      refine ⟨_, rfl, rfl, _, rfl, _, rfl, L, _, 0, 0, rowD (rnd W.n), rfl, lL13.growN (g.trans g2'), rfl, ⟨by rw [rws_len]; exact hrp, .inl rfl⟩, by rw [List.getElem?_map, hz1]; rfl, fun v0 av0 => ?_⟩
      refine ⟨rowD q, rowD (rnd W.n), g2'.at hy, av0, sm_row _, sm_row _, rfl, _, rfl, ?_⟩
      have hzz : decide (V.int (val (q, 0)) = V.int 0) = decide (rowD q = rowD (rnd W.n)) := by
        rw [Bool.eq_iff_iff, decide_eq_true_iff, decide_eq_true_iff]
        exact ⟨fun z => congrArg rowD ((good.z _ hv).mp (V.int.inj z)), fun z => congrArg V.int ((good.z _ hv).mpr (rowD_inj z))⟩
      rw [hzz]
      refine iteF' (by simp) ?_
      exact ⟨g.trans g2', _, _, rfl⟩
    · obtain ⟨g, t1, t2, rfl⟩ := q
      have e14 := g.oN eS
      have S14 := S13.hard g.hard
      have hvr := hmem r hr
      refine ⟨_, rfl, s0, dxS, fsS, rfl, e14, q5, _, rfl, s0, vr, W, ls3, hs, mo, R, rs2, val, r, 0, rfl, S14, g.at avr, hvr, fun H15 g15 => ?_⟩
      have S15 := S14.hard g15.hard
      have g13' := g.trans g15
      refine ⟨_, rfl, rfl, _, rfl, ?_⟩
      by_cases hneg : val (r, 0) = -1
      · refine iteT' (K81.dT (by rw [hneg])) ?_
        exact ⟨_, rfl, _, rfl, s0, vr, W, ls3, hs, mo, R, rs2, val, r, rfl, S15, g13'.at avr, hvr, by omega, fun H' => k H'⟩
      refine iteF' (K81.dF (fun z => hneg (V.int.inj z))) ?_
      have lo := good.low (r, 0)
      have hi9 := good.high (r, 0)
      refine ⟨_, rfl, s0, dxS, fsS, rfl, g13'.oN eS, q5, _, rfl, s0, vr, W, ls3, hs, mo, R, rs2, val, r, 0, rfl, S15, g13'.at avr, hvr, fun H16 g16 => ?_⟩
      have g13'' := g13'.trans g16
      have S16 := S15.hard g16.hard
      have g716 : Hard H7 H16 := hd79.trans ((g912.hard.trans hard13).trans g13''.hard)
      have d16 := d13.growN g13''
      have tM16 : TD H16 aM ls3 (mvD W) := (tM.hard (g5.trans g57).hard).hard g716
      have g816 : Grow (On d) H8 H16 := (((gp.any.trans g9).then g912).trans g13).then g13''
      refine ⟨_, rfl, _, rfl, _, rfl, _, rfl, _, rfl, _, rfl, d, c, s0, aM, vh, vr, W, ls3, hs, mo, R, rs2, val, r, rfl, d16, S16, tM16, g816.at ah, g13''.at avr, (nodes_mem.mp hvr).1, by omega, fun H17 t2' L2 us qs a' g17 d17 ht17 l17 hplay hzz hlen huq hu hq => ?_⟩
      have S17 := S16.hard (g17.hardD (hdl d16))
      have lL17 := (lL13.growN g13'').keep g17 nL
      have e17 : H17 s0 = some (.ins c_Seeing dxS fsS) := g17.hardD (hdl d16) _ _ (g13''.oN eS) (fun xs z => by cases z)
      refine ⟨_, rfl, rfl, _, rfl, ?_⟩
      refine iteF' (K81.dF (fun z => by cases z)) ?_
      refine ⟨_, rfl, t2', _, rfl, SqT.of ht17, rfl, _, _, rfl, _, _, rfl, _, _, rfl, _, _, rfl, rfl, ?_⟩
      have hget : (rws (hds W r us))[us.length]? = some (rowD (goTo W r us)) := by
        unfold hds
        rw [List.getElem?_map, List.getElem?_append_right (by rw [hdsI_len]; exact Nat.le_refl _), hdsI_len, Nat.sub_self]
        rfl
      have hlenR : (rws (hds W r us)).length = us.length + 1 := by
        unfold hds
        rw [rws_len, List.length_append, List.length_singleton, hdsI_len]
      have hix : IxAt (rws (hds W r us)).length (-1) us.length := ⟨by omega, .inr (by omega)⟩
      refine ⟨_, rfl, _, rfl, L2, _, -1, us.length, rowD (goTo W r us), rfl, l17, rfl, hix, hget, fun v5 av5 => ?_⟩
      refine ⟨_, rfl, L, _, 0, 0, rowD (rnd W.n), rfl, lL17, rfl, ⟨by rw [rws_len]; exact hrp, .inl rfl⟩, by rw [List.getElem?_map, hz1]; rfl, fun v6 av6 => ?_⟩
      refine ⟨rowD (goTo W r us), rowD (rnd W.n), av5, av6, sm_row _, sm_row _, _, rfl, ?_⟩
      refine iteF' (by rw [hzz]; simp) ?_
      refine ⟨_, rfl, tx us, rfl, tx_sz (by omega), _, rfl, _, _, rfl, rfl, _, rfl, ?_⟩
      refine iteF' (K81.dF (by rw [tx_len]; omega)) ?_
      have avr17 := g17.at (g13''.at avr)
      refine ⟨_, rfl, s0, dxS, fsS, rfl, e17, q8, _, rfl, _, rfl, s0, vr, W, ls3, hs, mo, R, rs2, val, r, us, qs, (goTo W r us, a'), rfl, S17, avr17, hvr, by omega, by omega, hplay, fun H18 y18 g18 ay18 => ?_⟩
      refine ⟨_, rfl, _, rfl, _, rfl, L2, _, -1, us.length, rowD (goTo W r us), rfl, l17.growN g18, rfl, hix, hget, fun v7 av7 => ?_⟩
      refine ⟨_, rfl, (by decide : 2 ≤ sizeLine), fun b1 hb1 => ⟨(by decide : 2 ≤ sizeLine), fun b2 hb2 => ?_⟩⟩
      have e1 := tup_new (.cons av7 (.cons (.num (a' : Nat)) .nil)) hb1
      have gb1 : Grow No H18 (upd H18 b1 (.tup [v7, .int (a' : Nat)])) := Grow.new hb1
      have e2 := tup_new (.cons (.text (tx qs)) (.cons e1 .nil)) hb2
      have gb2 : Grow No (upd H18 b1 (.tup [v7, .int (a' : Nat)])) (upd (upd H18 b1 (.tup [v7, .int (a' : Nat)])) b2 (.tup [.str (tx qs), .ref b1])) := Grow.new hb2
      have gb := gb1.trans gb2
      have sm : Sm (.tup [.text (tx qs), nodeD (goTo W r us, a')]) := by
        refine ⟨?_, ?_⟩
        · have := dep_node (goTo W r us, a')
          show max 0 (max (nodeD (goTo W r us, a')).depth 0) + 1 ≤ 60
          omega
        · show (okD (.text (tx qs)) && (okD (nodeD (goTo W r us, a')) && true)) = true
          rw [ok_tx fun c hc => lts_lt ok lts3 c (hq c hc), Bool.true_and, Bool.and_true]
          show (okD (rowD (goTo W r us)) && (true && true)) = true
          rw [ok_row]
          rfl
      refine ⟨_, _, gb.at ay18, e2, sm, sm, _, rfl, ?_⟩
      refine iteF' (by simp [nodeD]) ?_
      have g1719 := g18.trans gb
      obtain ⟨br, rfl, _⟩ := row_of avr
      obtain ⟨i, wd, hri, hwi, hval⟩ := (wordKV_val rw1.len r).1 hr
      obtain ⟨u1, u2, u3⟩ := rw1.go i r wd hri hwi
      have hil : i < rs.length := (List.getElem?_eq_some_iff.mp hri).1
      have dn' : DN P w H5 dw (wordKV rs ws) := dn
      have hd519 : Hard H5 _ := (g57.hard.trans g716).trans ((g17.hardD (hdl d16)).trans g1719.hard)
      refine ⟨_, rfl, _, rfl, _, rfl, br, dw, _, rowD r, _, rfl, rfl, dn'.hard hd519, g1719.at avr17, by rw [depth_row]; decide, hval, ?_⟩
      refine ⟨_, rfl, _, rfl, _, rfl, pm, W, ls3, wd, qs, us, L2, rfl, (m7.hard g716).hard ((g17.hardD (hdl d16)).trans g1719.hard), u3, hq, hu, by omega, by omega, huq, by rw [u1]; exact l17.growN g1719, fun H' _ => k H'⟩
end
end K81

namespace K81
open PySem PySem.Spec PyProof.Rows L2
theorem sqL_grow {K : PySem.W.Frag} {H H' : Hp} {a : Addr} {xs : List V} (g : Grow No H H') (h : SqL K H a xs) : SqL K H' a xs := by
  rcases h with (h | ⟨o, h⟩) | h
  · exact .inl (.inl (g.oN h))
  · exact .inl (.inr ⟨o, g.oN h⟩)
  · exact .inr h
theorem facts {P : Program} (hP : P = prg0) {w : World} {K : PySem.W.Frag} {h : Heap} {mg : Str → Option Value} {f : Addr} (X : K.In h) (G : h.Ns mainGlobals mg) (hfa : mg ("law" : Str) = some (.ref f)) (c : SaysX K) :
    ∃ fd : FuncData, (∀ (s : Shared) (v : Value), BindsTo s fd ⟨[v], []⟩ [("_law_script", v)]) ∧ ∀ base : Heap, K.In base → base.Ns mainGlobals mg → FnOk P w K mg base CX0 40 f fd ["_law_script"] (spLaw K) := by
  have T : Txt K mg := txt_of X G c
  have e := hfa.symm.trans T.g_law
  cases e
  have F := T.F_law
  have b := FunD.bindsA (ps := ["_law_script"]) F fun _ _ _ _ _ _ us hl => match us, hl with | [_], _ => rfl
  exact ⟨fdOf K a_law, fun s v => b s [v] rfl, fun base _ _ => (ok_law9 hP T).mono (by decide)⟩
end K81
open PySem PySem.W PySem.Calls PyProof.Rows
theorem PySem.Challenge.cw_truetouch_k81_whole_plays_are_ringings_holds : PySem.Challenge.rw_truetouch_k81_whole_plays_are_ringings.Holds := by
  w_on; o_law
  refine HandSHeadRun.head_any (r := OpenLaw.row PySem.Challenge.rw_truetouch_k81_whole_plays_are_ringings) (q := view (OpenLaw.row PySem.Challenge.rw_truetouch_k81_whole_plays_are_ringings).prog [96]) (H := K81.hookX) (ob := K81.ob) (M := 10100) (loose := K81.loose) (d := HandSHeadRun.topDef (OpenLaw.row PySem.Challenge.rw_truetouch_k81_whole_plays_are_ringings).prog 96) (kwd := []) K81.ob_eq
    (by kernel_rfl) (fun s => by kernel_rfl) K81.run (by kernel_rfl) (by kernel_rfl) (by kernel_rfl) (by rfl) (by first | assumption | decide +kernel) (by decide +kernel) ⟨rfl, rfl, rfl, rfl, rfl, by decide +kernel⟩ ?hw ?hc
  case hw => w_witness2
  case hc =>
    refine L2.walk_ofE (l := PySem.Challenge.rw_truetouch_k81_whole_plays_are_ringings) (n := 63) (k := 40) (x := "_law_script") (CX := L2.CX0) rfl (by decide) (by kernel_rfl) ⟨rfl, by decide, by decide⟩ ?F (fun _ _ _ _ z => z)
    intro w mg fa h Y G hmg0
    obtain ⟨K, KX, c⟩ := Y
    have hmg : mg ("law" : PySem.Str) = some (.ref fa) := by
      have e : (HandSHeadRun.topDef (OpenLaw.row PySem.Challenge.rw_truetouch_k81_whole_plays_are_ringings).prog 96).name = ("law" : PySem.Str) := by kernel_rfl
      rw [← e]
      exact hmg0
    obtain ⟨fd, hb, hF⟩ := K81.facts (P := (PySem.Challenge.rw_truetouch_k81_whole_plays_are_ringings).prog) rfl (w := w) KX G hmg c
    exact ⟨K, fd, K81.spLaw K, KX, hb, fun H a ns hl _ hS => ⟨a, ns, rfl, hS, hl, fun H' g => K81.sqL_grow g hS, fun _ => rfl⟩, hF⟩

