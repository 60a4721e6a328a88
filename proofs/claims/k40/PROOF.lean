import PyProof.Rows.All
import Wide.All
import OpenK.AllK
import Wide.FinOn
import HandS.ForMost
import HandS.ForExc
import HandS.IsInst
import HandS.ExcIs
import HandS.Defaults
import HandS.ClsMeth
import HandS.Codes
import HandS.Walk
import HandS.TupAny
import HandS.HotCalls
import HandS.Head2
import HandS.HeadEnd
import HandS.HeadHook4
import PyProof.NeKinds
import PySem.Challenge.RW_windchest_k40_whole_two_consoles
set_option Elab.async false
set_option linter.all false
set_option maxRecDepth 100000
set_option maxHeartbeats 0
/-! The text by places, and what the top has written of it (printed by gen_txt.py). -/
namespace WC
open PySem PySem.Spec PyProof.Rows L2
def top (i : Nat) : Stmt := PySem.Challenge.pw_windchest_k40_whole_two_consoles.main.body.getD i (.Pass ⟨0, 0, 0, 0⟩)
abbrev s_is_whole : Stmt := top 15
abbrev s_is_name : Stmt := top 16
abbrev s_set_of : Stmt := top 19
abbrev s_knobs_of_board : Stmt := top 22
abbrev s_is_within : Stmt := top 38
abbrev s_law_drawn : Stmt := top 41
abbrev s_law_draw : Stmt := top 42
abbrev s_law_name : Stmt := top 43
abbrev s_law_organ : Stmt := top 44
abbrev s_law_knobs : Stmt := top 45
abbrev s_law_steps : Stmt := top 46
abbrev s_law_deed : Stmt := top 48
abbrev s_law_names : Stmt := top 49
abbrev s_law_do : Stmt := top 50
abbrev s_law_stood : Stmt := top 51
abbrev s_law : Stmt := top 52
abbrev s_Piston_init : Stmt := inClass (top 10) 0
abbrev s_Every_init : Stmt := inClass (top 10) 0
abbrev s_Every_put : Stmt := inClass (top 11) 0
abbrev s_Part_init : Stmt := inClass (top 12) 0
abbrev s_Part_put : Stmt := inClass (top 12) 1
abbrev s_Console_init : Stmt := inClass (top 23) 0
abbrev s_Console_knob : Stmt := inClass (top 23) 1
abbrev s_Console_pull : Stmt := inClass (top 23) 2
abbrev s_Console_push : Stmt := inClass (top 23) 3
abbrev s_Console_look_at : Stmt := inClass (top 23) 4
abbrev s_Console_store : Stmt := inClass (top 23) 5
abbrev s_Console_press : Stmt := inClass (top 23) 6
abbrev s_Console_cancel : Stmt := inClass (top 23) 7
abbrev s_Console_shoe : Stmt := inClass (top 23) 8
abbrev s_Console_drawn : Stmt := inClass (top 23) 9
abbrev s_Console_knobs : Stmt := inClass (top 23) 10
abbrev s_Console_step : Stmt := inClass (top 23) 11
abbrev s_Organ_init : Stmt := inClass (top 39) 0
abbrev s_Organ_take_row : Stmt := inClass (top 39) 1
abbrev s_Organ_take_board : Stmt := inClass (top 39) 2
abbrev s_Organ_take_rank : Stmt := inClass (top 39) 3
abbrev s_Organ_add_knob : Stmt := inClass (top 39) 4
abbrev s_Organ_many_of : Stmt := inClass (top 39) 5
abbrev s_Organ_take_stop : Stmt := inClass (top 39) 6
abbrev s_Organ_take_line : Stmt := inClass (top 39) 7
abbrev s_Organ_take_coupler : Stmt := inClass (top 39) 8
abbrev s_Organ_take_mute : Stmt := inClass (top 39) 9
abbrev s_Organ_take_step : Stmt := inClass (top 39) 10
abbrev s_Organ_titled : Stmt := inClass (top 39) 11
abbrev s_Organ_knobs : Stmt := inClass (top 39) 15
abbrev s_Organ_board_number : Stmt := inClass (top 39) 22
abbrev s_Organ_knob_number : Stmt := inClass (top 39) 23
abbrev s_Organ_stop : Stmt := inClass (top 39) 24
abbrev s_Organ_coupler : Stmt := inClass (top 39) 25
abbrev s_Organ_mute : Stmt := inClass (top 39) 26
abbrev s_Organ_steps : Stmt := inClass (top 39) 27
/-- where the classes stand -/
abbrev cPiston (K : PySem.W.Frag) : Addr := He.ga K "Piston"
abbrev cEvery (K : PySem.W.Frag) : Addr := He.ga K "Every"
abbrev cPart (K : PySem.W.Frag) : Addr := He.ga K "Part"
abbrev cConsole (K : PySem.W.Frag) : Addr := He.ga K "Console"
abbrev cOrgan (K : PySem.W.Frag) : Addr := He.ga K "Organ"
abbrev xOrganError (K : PySem.W.Frag) : Addr := He.ga K "OrganError"
abbrev xNoKnob (K : PySem.W.Frag) : Addr := He.ga K "NoKnob"
abbrev xNoPiston (K : PySem.W.Frag) : Addr := He.ga K "NoPiston"
abbrev xNoBoard (K : PySem.W.Frag) : Addr := He.ga K "NoBoard"
abbrev xNoStep (K : PySem.W.Frag) : Addr := He.ga K "NoStep"
abbrev FnP (K : PySem.W.Frag) (at_ : PySem.Str × Option PySem.Str) (x q : PySem.Str) (st : Stmt) (dv : List V) (fd : FuncData) : Prop := FunD K x q (defArgs st) (defBody st) (defScope st) dv [] (He.fAd K at_) fd
/-- an own exception class of this program -/
structure ExA (K : PySem.W.Frag) (mg : PySem.Str → Option Value) (x : PySem.Str) : Prop where
  g : mg x = some (.ref (He.ga K x))
  ex : PySem.W.excIn K (He.ga K x) He.veBase "ValueError.__new__" = true
  kp : PySem.W.keepIn K (.ref (He.ga K x)) = true
  sb : PySem.W.subIn K (.ref (He.ga K x)) (.type "BaseException") = some true
  ty : PySem.W.typeIn K (.ref (He.ga K x)) = some (.type "type")
  up : PySem.W.exmOne K (.ref (He.ga K x)) (.ref (He.ga K "OrganError")) = some true
  isx : ExcC K (He.ga K x)
structure Txt (K : PySem.W.Frag) (mg : PySem.Str → Option Value) : Prop where
  n_isinstance : mg "isinstance" = none
  n_int : mg "int" = none
  n_bool : mg "bool" = none
  n_str : mg "str" = none
  n_list : mg "list" = none
  n_tuple : mg "tuple" = none
  n_len : mg "len" = none
  n_all : mg "all" = none
  n_sum : mg "sum" = none
  n_abs : mg "abs" = none
  n_range : mg "range" = none
  n_enumerate : mg "enumerate" = none
  i_MOST : ∃ t, mg "MOST" = some (.int 1200 t)
  i_PISTONS : ∃ t, mg "PISTONS" = some (.int 10 t)
  i_MOST_ROWS : ∃ t, mg "MOST_ROWS" = some (.int 150 t)
  i_MOST_BOARDS : ∃ t, mg "MOST_BOARDS" = some (.int 5 t)
  i_MOST_KEYS : ∃ t, mg "MOST_KEYS" = some (.int 61 t)
  i_MOST_RANKS : ∃ t, mg "MOST_RANKS" = some (.int 12 t)
  i_MOST_PIPES : ∃ t, mg "MOST_PIPES" = some (.int 97 t)
  i_MOST_WIND : ∃ t, mg "MOST_WIND" = some (.int 1000000000 t)
  i_MOST_STOPS : ∃ t, mg "MOST_STOPS" = some (.int 24 t)
  i_MOST_LINES : ∃ t, mg "MOST_LINES" = some (.int 4 t)
  i_MOST_COUPLERS : ∃ t, mg "MOST_COUPLERS" = some (.int 12 t)
  i_MOST_MUTES : ∃ t, mg "MOST_MUTES" = some (.int 5 t)
  i_MOST_STAIRS : ∃ t, mg "MOST_STAIRS" = some (.int 12 t)
  i_FAR : ∃ t, mg "FAR" = some (.int 200 t)
  i_FAR_KEYS : ∃ t, mg "FAR_KEYS" = some (.int 60 t)
  i_LETTERS : ∃ t, mg "LETTERS" = some (.str "abcdefghijklmnopqrstuvwxyz" t)
  g_is_whole : mg "is_whole" = some (.ref (He.fAd K ("is_whole", none)))
  g_is_name : mg "is_name" = some (.ref (He.fAd K ("is_name", none)))
  g_set_of : mg "set_of" = some (.ref (He.fAd K ("set_of", none)))
  g_knobs_of_board : mg "knobs_of_board" = some (.ref (He.fAd K ("knobs_of_board", none)))
  g_is_within : mg "is_within" = some (.ref (He.fAd K ("is_within", none)))
  g_law_drawn : mg "_law_drawn" = some (.ref (He.fAd K ("_law_drawn", none)))
  g_law_draw : mg "_law_draw" = some (.ref (He.fAd K ("_law_draw", none)))
  g_law_name : mg "_law_name" = some (.ref (He.fAd K ("_law_name", none)))
  g_law_organ : mg "_law_organ" = some (.ref (He.fAd K ("_law_organ", none)))
  g_law_knobs : mg "_law_knobs" = some (.ref (He.fAd K ("_law_knobs", none)))
  g_law_steps : mg "_law_steps" = some (.ref (He.fAd K ("_law_steps", none)))
  g_law_deed : mg "_law_deed" = some (.ref (He.fAd K ("_law_deed", none)))
  g_law_names : mg "_law_names" = some (.ref (He.fAd K ("_law_names", none)))
  g_law_do : mg "_law_do" = some (.ref (He.fAd K ("_law_do", none)))
  g_law_stood : mg "_law_stood" = some (.ref (He.fAd K ("_law_stood", none)))
  g_law : mg "law" = some (.ref (He.fAd K ("law", none)))
  g_Piston : mg "Piston" = some (.ref (cPiston K))
  g_Every : mg "Every" = some (.ref (cEvery K))
  g_Part : mg "Part" = some (.ref (cPart K))
  g_Console : mg "Console" = some (.ref (cConsole K))
  g_Organ : mg "Organ" = some (.ref (cOrgan K))
  g_OrganError : mg "OrganError" = some (.ref (xOrganError K))
  cl_Piston : Cls K (cPiston K)
  cl_Every : Cls K (cEvery K)
  cl_Part : Cls K (cPart K)
  cl_Console : Cls K (cConsole K)
  cl_Organ : Cls K (cOrgan K)
  a_Piston_stored : NoAttr K (cPiston K) "stored"
  a_Every_stored : NoAttr K (cEvery K) "stored"
  a_Part_stored : NoAttr K (cPart K) "stored"
  a_Part_whole : NoAttr K (cPart K) "whole"
  a_Console_organ : NoAttr K (cConsole K) "organ"
  a_Console_now : NoAttr K (cConsole K) "now"
  a_Console_memory : NoAttr K (cConsole K) "memory"
  a_Console_foot : NoAttr K (cConsole K) "foot"
  a_Organ_table : NoAttr K (cOrgan K) "table"
  a_Organ_manuals : NoAttr K (cOrgan K) "manuals"
  a_Organ_pipework : NoAttr K (cOrgan K) "pipework"
  a_Organ_draws : NoAttr K (cOrgan K) "draws"
  a_Organ_details : NoAttr K (cOrgan K) "details"
  a_Organ_stairs : NoAttr K (cOrgan K) "stairs"
  a_Organ_titles : NoAttr K (cOrgan K) "titles"
  a_Organ_latest : NoAttr K (cOrgan K) "latest"
  k_Every : Mk K (cEvery K) (He.fAd K ("Every", some "__init__"))
  k_Part : Mk K (cPart K) (He.fAd K ("Part", some "__init__"))
  k_Console : Mk K (cConsole K) (He.fAd K ("Console", some "__init__"))
  k_Organ : Mk K (cOrgan K) (He.fAd K ("Organ", some "__init__"))
  m_Every_put : Meth K (cEvery K) "put" (He.fAd K ("Every", some "put"))
  m_Part_put : Meth K (cPart K) "put" (He.fAd K ("Part", some "put"))
  m_Console_knob : Meth K (cConsole K) "knob" (He.fAd K ("Console", some "knob"))
  m_Console_pull : Meth K (cConsole K) "pull" (He.fAd K ("Console", some "pull"))
  m_Console_push : Meth K (cConsole K) "push" (He.fAd K ("Console", some "push"))
  m_Console_look_at : Meth K (cConsole K) "look_at" (He.fAd K ("Console", some "look_at"))
  m_Console_store : Meth K (cConsole K) "store" (He.fAd K ("Console", some "store"))
  m_Console_press : Meth K (cConsole K) "press" (He.fAd K ("Console", some "press"))
  m_Console_cancel : Meth K (cConsole K) "cancel" (He.fAd K ("Console", some "cancel"))
  m_Console_shoe : Meth K (cConsole K) "shoe" (He.fAd K ("Console", some "shoe"))
  m_Console_drawn : Meth K (cConsole K) "drawn" (He.fAd K ("Console", some "drawn"))
  m_Console_knobs : Meth K (cConsole K) "knobs" (He.fAd K ("Console", some "knobs"))
  m_Console_step : Meth K (cConsole K) "step" (He.fAd K ("Console", some "step"))
  m_Organ_take_row : Meth K (cOrgan K) "take_row" (He.fAd K ("Organ", some "take_row"))
  m_Organ_take_board : Meth K (cOrgan K) "take_board" (He.fAd K ("Organ", some "take_board"))
  m_Organ_take_rank : Meth K (cOrgan K) "take_rank" (He.fAd K ("Organ", some "take_rank"))
  m_Organ_add_knob : Meth K (cOrgan K) "add_knob" (He.fAd K ("Organ", some "add_knob"))
  m_Organ_many_of : Meth K (cOrgan K) "many_of" (He.fAd K ("Organ", some "many_of"))
  m_Organ_take_stop : Meth K (cOrgan K) "take_stop" (He.fAd K ("Organ", some "take_stop"))
  m_Organ_take_line : Meth K (cOrgan K) "take_line" (He.fAd K ("Organ", some "take_line"))
  m_Organ_take_coupler : Meth K (cOrgan K) "take_coupler" (He.fAd K ("Organ", some "take_coupler"))
  m_Organ_take_mute : Meth K (cOrgan K) "take_mute" (He.fAd K ("Organ", some "take_mute"))
  m_Organ_take_step : Meth K (cOrgan K) "take_step" (He.fAd K ("Organ", some "take_step"))
  m_Organ_titled : Meth K (cOrgan K) "titled" (He.fAd K ("Organ", some "titled"))
  m_Organ_knobs : Meth K (cOrgan K) "knobs" (He.fAd K ("Organ", some "knobs"))
  m_Organ_board_number : Meth K (cOrgan K) "board_number" (He.fAd K ("Organ", some "board_number"))
  m_Organ_knob_number : Meth K (cOrgan K) "knob_number" (He.fAd K ("Organ", some "knob_number"))
  m_Organ_stop : Meth K (cOrgan K) "stop" (He.fAd K ("Organ", some "stop"))
  m_Organ_coupler : Meth K (cOrgan K) "coupler" (He.fAd K ("Organ", some "coupler"))
  m_Organ_mute : Meth K (cOrgan K) "mute" (He.fAd K ("Organ", some "mute"))
  m_Organ_steps : Meth K (cOrgan K) "steps" (He.fAd K ("Organ", some "steps"))
  d_is_whole : ∃ fd, FnP K ("is_whole", none) "is_whole" "is_whole" s_is_whole [] fd
  d_is_name : ∃ fd, FnP K ("is_name", none) "is_name" "is_name" s_is_name [] fd
  d_set_of : ∃ fd, FnP K ("set_of", none) "set_of" "set_of" s_set_of [] fd
  d_knobs_of_board : ∃ fd, FnP K ("knobs_of_board", none) "knobs_of_board" "knobs_of_board" s_knobs_of_board [] fd
  d_is_within : ∃ fd, FnP K ("is_within", none) "is_within" "is_within" s_is_within [] fd
  d_law_drawn : ∃ fd, FnP K ("_law_drawn", none) "_law_drawn" "_law_drawn" s_law_drawn [] fd
  d_law_draw : ∃ fd, FnP K ("_law_draw", none) "_law_draw" "_law_draw" s_law_draw [] fd
  d_law_name : ∃ fd, FnP K ("_law_name", none) "_law_name" "_law_name" s_law_name [] fd
  d_law_organ : ∃ fd, FnP K ("_law_organ", none) "_law_organ" "_law_organ" s_law_organ [] fd
  d_law_knobs : ∃ fd, FnP K ("_law_knobs", none) "_law_knobs" "_law_knobs" s_law_knobs [] fd
  d_law_steps : ∃ fd, FnP K ("_law_steps", none) "_law_steps" "_law_steps" s_law_steps [] fd
  d_law_deed : ∃ fd, FnP K ("_law_deed", none) "_law_deed" "_law_deed" s_law_deed [] fd
  d_law_names : ∃ fd, FnP K ("_law_names", none) "_law_names" "_law_names" s_law_names [] fd
  d_law_do : ∃ fd, FnP K ("_law_do", none) "_law_do" "_law_do" s_law_do [] fd
  d_law_stood : ∃ fd, FnP K ("_law_stood", none) "_law_stood" "_law_stood" s_law_stood [] fd
  d_law : ∃ fd, FnP K ("law", none) "law" "law" s_law [] fd
  d_Piston_init : ∃ fd, FnP K ("Piston", some "__init__") "__init__" "Piston.__init__" s_Piston_init [] fd
  d_Every_init : ∃ fd, FnP K ("Every", some "__init__") "__init__" "Piston.__init__" s_Every_init [] fd
  d_Every_put : ∃ fd, FnP K ("Every", some "put") "put" "Every.put" s_Every_put [] fd
  d_Part_init : ∃ fd, FnP K ("Part", some "__init__") "__init__" "Part.__init__" s_Part_init [] fd
  d_Part_put : ∃ fd, FnP K ("Part", some "put") "put" "Part.put" s_Part_put [] fd
  d_Console_init : ∃ fd, FnP K ("Console", some "__init__") "__init__" "Console.__init__" s_Console_init [] fd
  d_Console_knob : ∃ fd, FnP K ("Console", some "knob") "knob" "Console.knob" s_Console_knob [] fd
  d_Console_pull : ∃ fd, FnP K ("Console", some "pull") "pull" "Console.pull" s_Console_pull [] fd
  d_Console_push : ∃ fd, FnP K ("Console", some "push") "push" "Console.push" s_Console_push [] fd
  d_Console_look_at : ∃ fd, FnP K ("Console", some "look_at") "look_at" "Console.look_at" s_Console_look_at [] fd
  d_Console_store : ∃ fd, FnP K ("Console", some "store") "store" "Console.store" s_Console_store [.non] fd
  d_Console_press : ∃ fd, FnP K ("Console", some "press") "press" "Console.press" s_Console_press [] fd
  d_Console_cancel : ∃ fd, FnP K ("Console", some "cancel") "cancel" "Console.cancel" s_Console_cancel [] fd
  d_Console_shoe : ∃ fd, FnP K ("Console", some "shoe") "shoe" "Console.shoe" s_Console_shoe [] fd
  d_Console_drawn : ∃ fd, FnP K ("Console", some "drawn") "drawn" "Console.drawn" s_Console_drawn [] fd
  d_Console_knobs : ∃ fd, FnP K ("Console", some "knobs") "knobs" "Console.knobs" s_Console_knobs [] fd
  d_Console_step : ∃ fd, FnP K ("Console", some "step") "step" "Console.step" s_Console_step [] fd
  d_Organ_init : ∃ fd, FnP K ("Organ", some "__init__") "__init__" "Organ.__init__" s_Organ_init [] fd
  d_Organ_take_row : ∃ fd, FnP K ("Organ", some "take_row") "take_row" "Organ.take_row" s_Organ_take_row [] fd
  d_Organ_take_board : ∃ fd, FnP K ("Organ", some "take_board") "take_board" "Organ.take_board" s_Organ_take_board [] fd
  d_Organ_take_rank : ∃ fd, FnP K ("Organ", some "take_rank") "take_rank" "Organ.take_rank" s_Organ_take_rank [] fd
  d_Organ_add_knob : ∃ fd, FnP K ("Organ", some "add_knob") "add_knob" "Organ.add_knob" s_Organ_add_knob [] fd
  d_Organ_many_of : ∃ fd, FnP K ("Organ", some "many_of") "many_of" "Organ.many_of" s_Organ_many_of [] fd
  d_Organ_take_stop : ∃ fd, FnP K ("Organ", some "take_stop") "take_stop" "Organ.take_stop" s_Organ_take_stop [] fd
  d_Organ_take_line : ∃ fd, FnP K ("Organ", some "take_line") "take_line" "Organ.take_line" s_Organ_take_line [] fd
  d_Organ_take_coupler : ∃ fd, FnP K ("Organ", some "take_coupler") "take_coupler" "Organ.take_coupler" s_Organ_take_coupler [] fd
  d_Organ_take_mute : ∃ fd, FnP K ("Organ", some "take_mute") "take_mute" "Organ.take_mute" s_Organ_take_mute [] fd
  d_Organ_take_step : ∃ fd, FnP K ("Organ", some "take_step") "take_step" "Organ.take_step" s_Organ_take_step [] fd
  d_Organ_titled : ∃ fd, FnP K ("Organ", some "titled") "titled" "Organ.titled" s_Organ_titled [] fd
  d_Organ_knobs : ∃ fd, FnP K ("Organ", some "knobs") "knobs" "Organ.knobs" s_Organ_knobs [] fd
  d_Organ_board_number : ∃ fd, FnP K ("Organ", some "board_number") "board_number" "Organ.board_number" s_Organ_board_number [] fd
  d_Organ_knob_number : ∃ fd, FnP K ("Organ", some "knob_number") "knob_number" "Organ.knob_number" s_Organ_knob_number [] fd
  d_Organ_stop : ∃ fd, FnP K ("Organ", some "stop") "stop" "Organ.stop" s_Organ_stop [] fd
  d_Organ_coupler : ∃ fd, FnP K ("Organ", some "coupler") "coupler" "Organ.coupler" s_Organ_coupler [] fd
  d_Organ_mute : ∃ fd, FnP K ("Organ", some "mute") "mute" "Organ.mute" s_Organ_mute [] fd
  d_Organ_steps : ∃ fd, FnP K ("Organ", some "steps") "steps" "Organ.steps" s_Organ_steps [] fd
  e_NoKnob : ExA K mg "NoKnob"
  e_NoPiston : ExA K mg "NoPiston"
  e_NoBoard : ExA K mg "NoBoard"
  e_NoStep : ExA K mg "NoStep"
  isw : ∀ x ∈ (["NoKnob", "NoPiston", "NoBoard", "NoStep"] : List PySem.Str), ∀ y ∈ (["NoKnob", "NoPiston", "NoBoard", "NoStep"] : List PySem.Str), PySem.W.kitOne K (.ref (He.ga K x)) (.ref (He.ga K y)) = some (decide (x = y))
  rdP : ClX.CRead K (cPiston K) (.type "type")
  viP : ClX.CVal K (cPiston K) (.type "type") "__init__" (.ref (He.fAd K ("Piston", some "__init__"))) (.ref (He.fAd K ("Piston", some "__init__")))
end WC
/-! The mirror: what the program computes, in plain Lean. -/
namespace WC
open PySem PySem.Spec PyProof.Rows L2
abbrev bAnd (x y : Int) : Int := Builtin.bitAnd x y
abbrev bOr (x y : Int) : Int := Builtin.bitOr x y

/-! ### words, sets -/
def letters : List Nat := (PySem.Str.ofString "abcdefghijklmnopqrstuvwxyz").cps.toList
def isName (s : PySem.Str) : Bool := (decide ((1 : Int) ≤ s.length) && decide ((s.length : Int) ≤ 8)) && s.cps.toList.all fun c => decide (c ∈ letters)
/-- is_name of a text or None -/
def nameV : V → Bool
  | .str s => isName s
  | _ => false
def setOf (ns : List Int) : Int := ns.foldl (fun f n => bOr f (1 * 2 ^ n.toNat)) 0

/-! ### rows -/
inductive Row where
  | board (n : PySem.Str) (k : Int)
  | rank (n : PySem.Str) (p w : Int)
  | stop (n b : PySem.Str)
  | line (r : PySem.Str) (s l h : Int)
  | coupler (n f t : PySem.Str) (sh : Int)
  | mute (n b : PySem.Str)
  | step (n : PySem.Str) (ns : List PySem.Str)
def Row.vals : Row → List V
  | .board n k => [.str "board", .str n, .int k]
  | .rank n p w => [.str "rank", .str n, .int p, .int w]
  | .stop n b => [.str "stop", .str n, .str b]
  | .line r s l h => [.str "line", .str r, .int s, .int l, .int h]
  | .coupler n f t sh => [.str "coupler", .str n, .str f, .str t, .int sh]
  | .mute n b => [.str "mute", .str n, .str b]
  | .step n ns => .str "step" :: (n :: ns).map .str
/-- every text of it is short -/
def Row.Sm : Row → Prop
  | .board n _ => n.length ≤ 100
  | .rank n _ _ => n.length ≤ 100
  | .stop n b => n.length ≤ 100 ∧ b.length ≤ 100
  | .line r _ _ _ => r.length ≤ 100
  | .coupler n f t _ => n.length ≤ 100 ∧ f.length ≤ 100 ∧ t.length ≤ 100
  | .mute n b => n.length ≤ 100 ∧ b.length ≤ 100
  | .step n ns => (∀ s ∈ n :: ns, s.length ≤ 100) ∧ ns.length ≤ 100
def Row.word : Row → PySem.Str
  | .board .. => "board"
  | .rank .. => "rank"
  | .stop .. => "stop"
  | .line .. => "line"
  | .coupler .. => "coupler"
  | .mute .. => "mute"
  | .step .. => "step"

/-! ### the organ -/
inductive Det where
  | stop (b : Nat)
  | coup (f t : Nat) (sh : Int)
  | mute (b : Nat)
def Det.word : Det → PySem.Str
  | .stop _ => "stop"
  | .coup .. => "coupler"
  | .mute _ => "mute"
def Det.board : Det → Nat
  | .stop b => b
  | .coup f _ _ => f
  | .mute b => b
def Det.isStop : Det → Bool
  | .stop _ => true
  | _ => false
structure Org where
  manuals : List (PySem.Str × Int) := []
  npipes : Nat := 0
  knobs : List (PySem.Str × Det) := []
  stairs : List Int := []
  tit : PySem.Str → Option (PySem.Str × Nat) := fun _ => none
  ntit : Nat := 0
  ntab : Nat := 0
  latest : Option Nat := none
  nlines : Nat := 0
def Org.titled (o : Org) (w n : PySem.Str) : Option Nat := if isName n = true then (match o.tit n with
  | some (w', i) => if w' = w then some i else none
  | none => none) else none
/-- of a text or None -/
def Org.titledV (o : Org) (w : PySem.Str) : V → Option Nat
  | .str n => o.titled w n
  | _ => none
def optV : Option Nat → V
  | some i => .int (i : Int)
  | none => .non
def Org.many (o : Org) (w : PySem.Str) : Nat := (o.knobs.filter fun k => decide (k.2.word = w)).length
def Org.name (o : Org) (n : PySem.Str) (w : PySem.Str) (i : Nat) : PySem.Str → Option (PySem.Str × Nat) := fun m => if m = n then some (w, i) else o.tit m
def Org.fresh (o : Org) (n : PySem.Str) : Bool := isName n && (o.tit n).isNone
def Org.knob (o : Org) (n : PySem.Str) (d : Det) : Org := { o with tit := o.name n "knob" o.knobs.length, ntit := o.ntit + 1, knobs := o.knobs ++ [(n, d)] }
/-- the numbers of a step's stops, from the left; ns those so far -/
def Org.stepNs (o : Org) : List PySem.Str → List Int → Option (List Int)
  | [], ns => some ns
  | n :: r, ns => match o.titled "knob" n with
    | some i => (match o.knobs[i]? with
      | some (_, d) => if d.isStop = true ∧ (i : Int) ∉ ns then o.stepNs r (ns ++ [(i : Int)]) else none
      | none => none)
    | none => none
/-- one row more, where it is one -/
def Org.take (o : Org) : Row → Option Org
  | .board n k => if o.fresh n = true ∧ (1 ≤ k ∧ k ≤ 61) ∧ o.manuals.length ≠ 5 then
      some { o with latest := none, tit := o.name n "board" o.manuals.length, ntit := o.ntit + 1, manuals := o.manuals ++ [(n, k)] } else none
  | .rank n p w => if o.fresh n = true ∧ (1 ≤ p ∧ p ≤ 97) ∧ (0 ≤ w ∧ w ≤ 1000000000) ∧ o.npipes ≠ 12 then
      some { o with latest := none, tit := o.name n "rank" o.npipes, ntit := o.ntit + 1, npipes := o.npipes + 1 } else none
  | .stop n b => match o.titled "board" b with
    | some i => if o.fresh n = true ∧ o.many "stop" ≠ 24 then some { o.knob n (.stop i) with latest := some o.knobs.length, nlines := 0 } else none
    | none => none
  | .line r s l h => match o.latest, o.titled "rank" r with
    | some i, some _ => (match o.knobs[i]? with
      | some (_, .stop b) => (match o.manuals[b]? with
        | some (_, keys) => if (-200 ≤ s ∧ s ≤ 200) ∧ (0 ≤ h ∧ h ≤ keys - 1) ∧ (0 ≤ l ∧ l ≤ h) ∧ o.nlines < 4 then some { o with nlines := o.nlines + 1 } else none
        | none => none)
      | _ => none)
    | _, _ => none
  | .coupler n f t sh => match o.titled "board" f, o.titled "board" t with
    | some i, some j => if o.fresh n = true ∧ (-60 ≤ sh ∧ sh ≤ 60) ∧ o.many "coupler" ≠ 12 then some { o.knob n (.coup i j sh) with latest := none } else none
    | _, _ => none
  | .mute n b => match o.titled "board" b with
    | some i => if o.fresh n = true ∧ o.many "mute" ≠ 5 then some { o.knob n (.mute i) with latest := none } else none
    | none => none
  | .step n ns => match o.stepNs (n :: ns) [] with
    | some is => if o.stairs.length ≠ 12 then some { o with latest := none, stairs := o.stairs ++ [setOf is] } else none
    | none => none
def Org.takes : Org → List Row → Option Org
  | o, [] => some o
  | o, r :: rs => match o.take r with
    | some o' => Org.takes { o' with ntab := o'.ntab + 1 } rs
    | none => none
/-- the numbers, from i on, of the knobs of a board -/
def knobsFrom (b : Nat) : Nat → List (PySem.Str × Det) → List Int
  | _, [] => []
  | i, k :: ks => if k.2.board = b then (i : Int) :: knobsFrom b (i + 1) ks else knobsFrom b (i + 1) ks
def Org.knobsOf (o : Org) (b : Nat) : Int := setOf (knobsFrom b 0 o.knobs)
/-- the sizes of its lists -/
structure Org.Sz (o : Org) (k : Nat) : Prop where
  man : o.manuals.length ≤ k
  pip : o.npipes ≤ k
  kn : o.knobs.length ≤ k
  st : o.stairs.length ≤ k
  ti : o.ntit ≤ k
  tb : o.ntab ≤ k
/-- what a console may lean on -/
structure Org.Ok (o : Org) : Prop where
  small : o.knobs.length ≤ 200
  inK : ∀ n i, o.tit n = some (("knob" : PySem.Str), i) → i < o.knobs.length

/-! ### consoles -/
inductive Pst where
  | every (k : Int)
  | part (k w : Int)
def Pst.put : Pst → Int → Int
  | .every k, _ => k
  | .part k w, d => bOr (d - bAnd d w) k
structure Con where
  now : Int := 0
  foot : Nat := 0
  mem : Int → Option Pst := fun _ => none
def Con.store (c : Con) (i : Int) (p : Pst) : Con := { c with mem := fun j => if j = i then some p else c.mem j }
/-- a piston's number -/
def pist : V → Option Int
  | .int i => if 0 ≤ i ∧ i < 10 then some i else none
  | _ => none
def stair (o : Org) : V → Option Nat
  | .int i => if 0 ≤ i ∧ i ≤ (o.stairs.length : Int) then some i.toNat else none
  | _ => none
inductive Deed where
  | pull (x : V)
  | push (x : V)
  | store (i : V)
  | storeB (i b : V)
  | press (i : V)
  | shoe (i : V)
  | cancel
def Deed.vals : Deed → List V
  | .pull x => [.str "pull", x]
  | .push x => [.str "push", x]
  | .store i => [.str "store", i]
  | .storeB i b => [.str "store", i, b]
  | .press i => [.str "press", i]
  | .shoe i => [.str "shoe", i]
  | .cancel => [.str "cancel"]
/-- a text or None; a number or a truth -/
def TxV (x : V) : Prop := x = .non ∨ ∃ s : PySem.Str, x = .str s ∧ s.length ≤ 100
def NuV (x : V) : Prop := (∃ i : Int, x = .int i) ∨ ∃ b : Bool, x = .bl b
def Deed.wf : Deed → Prop
  | .pull x => TxV x
  | .push x => TxV x
  | .store i => NuV i
  | .storeB i b => NuV i ∧ TxV b
  | .press i => NuV i
  | .shoe i => NuV i
  | .cancel => True
/-- what is told: a truth, None, or the refusals' names -/
inductive Rf where
  | knob
  | piston
  | board
  | step
  deriving DecidableEq
def Rf.word : Rf → PySem.Str
  | .knob => "knob"
  | .piston => "piston"
  | .board => "board"
  | .step => "step"
inductive Res where
  | bl (b : Bool)
  | non
  | no (x : Rf)
def Con.pull (o : Org) (c : Con) (x : V) : Res × Con := match o.titledV "knob" x with
  | some i => (.bl (decide (bAnd c.now (setOf [(i : Int)]) = 0)), { c with now := bOr c.now (setOf [(i : Int)]) })
  | none => (.no .knob, c)
def Con.push (o : Org) (c : Con) (x : V) : Res × Con := match o.titledV "knob" x with
  | some i => (.bl (!decide (bAnd c.now (setOf [(i : Int)]) = 0)), { c with now := c.now - bAnd c.now (setOf [(i : Int)]) })
  | none => (.no .knob, c)
def Con.keep (o : Org) (c : Con) (i b : V) : Res × Con := match pist i with
  | some i => if b = .non then (.non, c.store i (.every c.now)) else (match o.titledV "board" b with
    | some n => (.non, c.store i (.part (bAnd c.now (o.knobsOf n)) (o.knobsOf n)))
    | none => (.no .board, c))
  | none => (.no .piston, c)
def Con.press (c : Con) (i : V) : Res × Con := match pist i with
  | some i => (match c.mem i with
    | some p => (.non, { c with now := p.put c.now })
    | none => (.no .piston, c))
  | none => (.no .piston, c)
def Con.shoe (o : Org) (c : Con) (i : V) : Res × Con := match stair o i with
  | some k => (.non, { c with foot := k })
  | none => (.no .step, c)
def act (o : Org) (c : Con) : Deed → Res × Con
  | .pull x => c.pull o x
  | .push x => c.push o x
  | .store i => c.keep o i .non
  | .storeB i b => c.keep o i b
  | .press i => c.press i
  | .shoe i => c.shoe o i
  | .cancel => (.non, { c with now := 0, foot := 0 })
def Con.force (o : Org) (c : Con) : Int := (o.stairs.take c.foot).foldl bOr c.now
/-- what stands: drawn, in force, the shoe -/
def Con.stood (o : Org) (c : Con) : List Int := [c.now, c.force o, (c.foot : Int)]
def Res.data : Res → PyData
  | .bl b => .bool b
  | .non => .none
  | .no x => .list [.str x.word]
end WC
/-! Rules of our own, over the hand layer. -/
namespace WC
open PySem PySem.Spec PyProof.Rows L2
/-! ### heaps -/
/-- all that was tracked stands, but what S names -/
def Kp (S : List Addr) (H H' : Hp) : Prop := ∀ b o, H b = some o → b ∉ S → H' b = some o
section
variable {S S' : List Addr} {H H1 H2 H' : Hp} {a b p : Addr} {o u : HO}
theorem Kp.rf : Kp S H H := fun _ _ h _ => h
theorem Kp.tr (x : Kp S H H1) (y : Kp S H1 H2) : Kp S H H2 := fun b o h n => y b o (x b o h n) n
theorem Kp.mo (x : Kp S H H1) (h : ∀ b ∈ S, b ∈ S') : Kp S' H H1 := fun b o e n => x b o e fun z => n (h b z)
theorem Kp.up (hp : p ∈ S) : Kp S H (upd H p o) := fun b u e n => by
  rw [upd_ne (fun z => n (by rw [z]; exact hp))]
  exact e
theorem Kp.nw (hp : H p = none) : Kp S H (upd H p o) := fun b u e _ => by
  rw [upd_ne (ne_of_none e hp)]
  exact e
theorem Kp.sm (x : Kp [] H H1) : Same H H1 := fun b o e => x b o e (by simp)
theorem Same.kp (x : Same H H1) : Kp S H H1 := fun b o e _ => x b o e
theorem Same.nw (hp : H p = none) : Same H (upd H p o) := fun b u e => by
  rw [upd_ne (ne_of_none e hp)]
  exact e
theorem Kp.at (x : Kp S H H1) (e : H b = some o) (n : b ∉ S) : H1 b = some o := x b o e n
/-- what was new ahead is new: a thing that is free behind was free ahead, or is one of S -/
theorem Kp.fr (x : Kp S H H1) (e : H1 p = none) (n : p ∉ S) : H p = none := by
  cases q : H p with
  | none => rfl
  | some o =>
    have z := x p o q n
    rw [e] at z
    cases z
end
/-! ### defs -/
section
variable {P : Program} {w : World} {K : PySem.W.Frag} {mg : PySem.Str → Option Value} {base : Heap} {x qual : PySem.Str} {params : Arguments} {body : List Stmt} {scope : Scope} {dvs : List V} {kws : List (PySem.Str × V)} {f : Addr} {fd : FuncData}
/-- a def that lets nothing out, by its body -/
theorem fnNox {N ps : List PySem.Str} {k : Nat} {sp : Sp} (F : FunD K x qual params body scope dvs kws f fd) (S : FnScope N ps scope) (len : ∀ vs H Q E, sp vs H Q E → vs.length = ps.length)
    (hb : ∀ (cdv : Value) (A : Around) (outer : List Env) (s : Shared) (H : Hp) (vs : List V) (Q : VK) (E : XK), Room k (A.deeper (envOfC qual scope s.heap.objs.size f cdv)) → sp vs H Q E →
      ∃ t, PSs (cxOf CX0 P w K mg base N qual scope f cdv A outer s H E).nox body t ∧ t { nx := fun _ H' => Q .non H', rt := Q } (start N vs) H) : FnOk P w K mg base CX0 (k + 1) f fd ps sp :=
  F.ok S len fun cdv A outer s H vs Q E hr h => by
    obtain ⟨t, h1, h2⟩ := hb cdv A outer s H vs Q E hr h
    exact ⟨t, h1.nox, h2⟩
/-- .. called by its name -/
theorem calOf {ps : List PySem.Str} {k : Nat} {sp : Sp} {nm : PySem.Str} (F : FunD K x qual params body scope [] [] f fd) (G : FnOk P w K mg base CX0 k f fd ps sp) (hm : mg nm = some (.ref f))
    (h : ∀ (kV doc pm : Value) (an : Option Addr) (cdv ct : Value) (us : List Value), us.length = ps.length → bindArgs (PySem.W.fnOf x qual params body scope .none kV doc pm an cdv ct) ⟨us, []⟩ = pure (ps.zip us)) : C8.Cal P w K mg base k nm sp [] :=
  ⟨⟨f, fd, ps, [], G, hm, F.kp, F.bindsN h, .nil⟩⟩
/-- .. a method -/
theorem metOf {ps : List PySem.Str} {k : Nat} {sp : Sp} {C : Addr} {m : PySem.Str} (F : FunD K x qual params body scope [] [] f fd) (G : FnOk P w K mg base CX0 k f fd ps sp) (c : Cls K C) (hm : Meth K C m f)
    (h : ∀ (kV doc pm : Value) (an : Option Addr) (cdv ct : Value) (us : List Value), us.length = ps.length → bindArgs (PySem.W.fnOf x qual params body scope .none kV doc pm an cdv ct) ⟨us, []⟩ = pure (ps.zip us)) : C8.Met P w K mg base k C m sp [] :=
  ⟨⟨f, fd, ps, [], c, hm, G, F.bindsN h, .nil⟩⟩
/-- .. a class -/
theorem makOf {ps : List PySem.Str} {k : Nat} {sp : Sp} {C : Addr} {nm : PySem.Str} (F : FunD K x qual params body scope [] [] f fd) (G : FnOk P w K mg base CX0 k f fd ps sp) (M : Mk K C f) (hm : mg nm = some (.ref C))
    (h : ∀ (kV doc pm : Value) (an : Option Addr) (cdv ct : Value) (us : List Value), us.length = ps.length → bindArgs (PySem.W.fnOf x qual params body scope .none kV doc pm an cdv ct) ⟨us, []⟩ = pure (ps.zip us)) : C8.Mak P w K mg base k nm C sp [] :=
  ⟨⟨f, fd, ps, [], M, G, hm, F.bindsN h, .nil⟩⟩
/-- a method that may raise -/
structure MetX (P : Program) (w : World) (K : PySem.W.Frag) (mg : PySem.Str → Option Value) (base : Heap) (k : Nat) (C : Addr) (m : PySem.Str) (sp : Sp) (dvs : List V) : Prop where
  ex : ∃ (f : Addr) (fd : FuncData) (ps : List PySem.Str) (ds : List Value), Cls K C ∧ Meth K C m f ∧ FnOk P w K mg base (L2.CX P w) k f fd ps sp ∧ Binds K fd ps ds ∧ Vals dvs ds
theorem metXOf {ps : List PySem.Str} {k : Nat} {sp : Sp} {C : Addr} {m : PySem.Str} (F : FunD K x qual params body scope [] [] f fd) (G : FnOk P w K mg base (L2.CX P w) k f fd ps sp) (c : Cls K C) (hm : Meth K C m f)
    (h : ∀ (kV doc pm : Value) (an : Option Addr) (cdv ct : Value) (us : List Value), us.length = ps.length → bindArgs (PySem.W.fnOf x qual params body scope .none kV doc pm an cdv ct) ⟨us, []⟩ = pure (ps.zip us)) : MetX P w K mg base k C m sp [] :=
  ⟨⟨f, fd, ps, [], c, hm, G, F.bindsN h, .nil⟩⟩
end
/-! ### a method that may raise, called: in a def that lets it out, in a try -/
section
variable {X : Cx} {k j : Nat} {f C : Addr} {fd : FuncData} {ps : List PySem.Str} {sp : Sp} {dvs : List V} {ds : List Value} {m : PySem.Str} {pos apos : Pos} {e o : Expr} {es : List Expr} {ta : TE} {t : TA}
theorem pe_mx {E : XK} {pl : Sem Bool} (c : MetX X.prog X.w X.K X.mg X.base k C m sp dvs) (hr : Room j X.A) (hk : k ≤ j) (hx : Passes (L2.CX X.prog X.w) X E) (he : PE X o ta) (ha : PA X (e :: es) t)
    (h1 : starEach (e :: es) X.env = (false, eval e X.env) :: starEach es X.env := by rfl) (h2 : (backTo pos (starEach es X.env)).any (·.1) = false := by rfl)
    (h3 : eval (.Call (.Attribute o m apos) (e :: es) [] pos) X.env = (do
      let ov ← eval o X.env
      standAt apos.atName
      let (f, first) ← holding [ov] (getMethod ov m pl)
      callWith pos f first (backTo pos (starEach (e :: es) X.env)) (backToKw pos (keywordEach [] X.env))) := by rfl) :
    PE X (.Call (.Attribute o m apos) (e :: es) [] pos) (tMeth C m sp dvs E ta t) := by
  obtain ⟨g, fd, ps, ds, cc, hm, F, b, d⟩ := c.ex
  exact pe_meth (pl := pl) he cc hm F (hr.mono hk) b d hx ha h1 h2 h3
/-- the callee runs, its exceptions wished for at these slots -/
theorem run_sl {E : XK} {pins : List (Addr × Obj)} {σ : L2.St} {H : Hp} {s : Shared} {Q : VK} {us : List Value} {vs : List V} (F : FnOk X.prog X.w X.K X.mg X.base (L2.CX X.prog X.w) k f fd ps sp) (hr : Room k X.A) (hb : Binds X.K fd ps ds) (hd : Vals dvs ds)
    (hx : PassesAt (L2.CX X.prog X.w) X σ E) (I : Inv X pins σ H s) (r : Vals vs us) (h : sp (vs ++ dvs) H Q E) : wpAny (model X.prog X.w) X.A (call (.ref f) us) (EP X pins σ Q) X.xe s := by
  have rr : Vals (vs ++ dvs) (us ++ ds) := r.append hd
  have hl : (us ++ ds).length = ps.length := by
    rw [← rr.length]
    exact F.len _ _ _ _ h
  refine wpAny_call (codeAny_mono (F.run X.A X.stack s H ⟨us, []⟩ (us ++ ds) (vs ++ dvs) Q E hr I.env0 (hb s us I.kIn hl) rr h) fun z s' hq => ?_)
  rcases z with z | z
  · exact hx pins H s z s' I hq
  · cases z with
    | ret u => exact I.after hq
    | next => exact hq.elim
    | brk => exact hq.elim
    | cont => exact hq.elim
/-- o.m(e, ..) in a try: what is raised is wished for at the slots -/
def tMethW (C : Addr) (m : PySem.Str) (sp : Sp) (dvs : List V) (E : L2.St → XK) (ta : TE) (t : TA) : TE := fun σ H Q => ta σ H fun x H1 => ∃ a dx fs, x = .ref a ∧ H1 a = some (.ins C dx fs) ∧ fs.lookup m = none ∧ t σ H1 fun vs H2 => sp (x :: (vs ++ dvs)) H2 Q (E σ)
theorem pe_mw {E : L2.St → XK} {pl : Sem Bool} (c : MetX X.prog X.w X.K X.mg X.base k C m sp dvs) (hr : Room j X.A) (hk : k ≤ j) (hx : ∀ σ, PassesAt (L2.CX X.prog X.w) X σ (E σ)) (he : PE X o ta) (ha : PA X (e :: es) t)
    (h1 : starEach (e :: es) X.env = (false, eval e X.env) :: starEach es X.env := by rfl) (h2 : (backTo pos (starEach es X.env)).any (·.1) = false := by rfl)
    (h3 : eval (.Call (.Attribute o m apos) (e :: es) [] pos) X.env = (do
      let ov ← eval o X.env
      standAt apos.atName
      let (f, first) ← holding [ov] (getMethod ov m pl)
      callWith pos f first (backTo pos (starEach (e :: es) X.env)) (backToKw pos (keywordEach [] X.env))) := by rfl) :
    PE X (.Call (.Attribute o m apos) (e :: es) [] pos) (tMethW C m sp dvs E ta t) := by
  obtain ⟨g, fd, ps, ds, cc, hm, F, b, d⟩ := c.ex
  refine ⟨fun pins s σ H Q I h => PySem.W.methodCall_KW (pl := pl) (thn (he.run pins s σ H _ I h) fun u s1 ⟨x, H1, I1, rx, a, dx, fs, ex, ea, l, q⟩ => ?_) h3⟩
  subst ex
  obtain rfl : u = Value.ref a := rx
  refine getmeth_ok I1 ea cc hm l (PySem.W.callWith_K (first := [.ref a]) (h₀ := X.base) I.ok.mod.kin hm.kp (thn (ha.run pos pins s1 σ H1 _ I1 q) fun us s2 ⟨vs, H2, I2, r, q2⟩ => ⟨I2.kIn, ?_⟩) h1 h2)
  exact run_sl (us := .ref a :: us) (vs := .ref a :: vs) F (hr.mono hk) b d (hx σ) I2 (.cons rfl r) q2
/-- C.f(e, ..), f a def of the class at C, read off the class -/
def tClsFn (C : Addr) (sp : Sp) (ta : TE) (t : TA) : TE := fun σ H Q => ta σ H fun x H1 => x = .ref C ∧ t σ H1 fun vs H2 => sp vs H2 Q E0
theorem pe_clsfn {mc : Value} {g : Addr} {pl : Sem Bool} (he : PE X o ta) (r : ClX.CRead X.K C mc) (c : ClX.CVal X.K C mc m (.ref g) (.ref g)) (hk : PySem.W.keepIn X.K (.ref g) = true) (F : FnOk X.prog X.w X.K X.mg X.base CX0 k g fd ps sp) (hr : Room k X.A) (hb : Binds X.K fd ps []) (ha : PA X (e :: es) t)
    (h1 : starEach (e :: es) X.env = (false, eval e X.env) :: starEach es X.env := by rfl) (h2 : (backTo pos (starEach es X.env)).any (·.1) = false := by rfl)
    (h3 : eval (.Call (.Attribute o m apos) (e :: es) [] pos) X.env = (do
      let ov ← eval o X.env
      standAt apos.atName
      let (f, first) ← holding [ov] (getMethod ov m pl)
      callWith pos f first (backTo pos (starEach (e :: es) X.env)) (backToKw pos (keywordEach [] X.env))) := by rfl) :
    PE X (.Call (.Attribute o m apos) (e :: es) [] pos) (tClsFn C sp ta t) := by
  refine ⟨fun pins s σ H Q I h => PySem.W.methodCall_KW (pl := pl) (thn (he.run pins s σ H _ I h) fun u s1 ⟨x, H1, I1, rx, ex, q⟩ => ?_) h3⟩
  subst ex
  obtain rfl : u = Value.ref C := rx
  refine PySem.W.method_cls I1.kIn r.ga (ClX.getcval_ok I1 r c fun s2 I2 => ?_)
  refine PySem.W.callWith_K (first := []) (h₀ := X.base) I.ok.mod.kin hk (thn (ha.run pos pins s2 σ H1 _ I2 q) fun us s3 ⟨vs, H2, I3, rv, q2⟩ => ⟨I3.kIn, ?_⟩) h1 h2
  exact run_fn F hr hb .nil pass0 I3 rv (by rw [List.append_nil]; exact q2)
end
/-! ### texts: a sign some times -/
def repS (z : PySem.Str) (n : Int) : PySem.Str := if n < 1 then PySem.Str.empty else if n = 1 then z else ⟨(List.replicate n.toNat z.cps).foldl (· ++ ·) #[]⟩
theorem foldl_size (z : Array Nat) : ∀ (k : Nat) (a : Array Nat), (List.foldl (fun x1 x2 => x1 ++ x2) a (List.replicate k z)).size = a.size + k * z.size
  | 0, a => by simp
  | k + 1, a => by
    rw [List.replicate_succ, List.foldl_cons, foldl_size z k, Array.size_append, Nat.succ_mul]
    omega
theorem op_mulS {X : Cx} : OpR X (binaryOp .Mult) (fun x y H Q => ∃ (z : PySem.Str) (n : Int), x = .str z ∧ y = .int n ∧ z.length = 1 ∧ 0 ≤ n ∧ n ≤ 1000 ∧ Q (.str (repS z n)) H) := by
  intro pins s σ H x y v u Q I rx ry h
  obtain ⟨z, n, rfl, rfl, hz, h0, h1, q⟩ := h
  obtain ⟨t, rfl⟩ := rx
  obtain ⟨t', rfl⟩ := ry
  have hz0 : (z.length == 0) = false := by rw [hz]; rfl
  refine P.mul_str ?_ (fun _ _ => ?_) (fun _ _ => ?_) ?_
  · have a : decide (n < -(2 ^ 63 : Int)) = false := decide_eq_false (by omega)
    have b : decide (n ≥ 2 ^ 63) = false := decide_eq_false (by omega)
    rw [a, b]
    rfl
  · rw [hz]
    have hn : 1 ≤ n := by omega
    intro hgt
    have hge : (1 : Int) ≤ (2 ^ 63 - 1) / n := by
      refine Int.le_ediv_of_mul_le (by omega) (by omega)
    omega
  · rw [hz]
    refine decide_eq_false ?_
    have hl : (sizeLine : Nat) = 16777216 := sizeLine_eq
    omega
  · rw [hz0]
    by_cases hn : n < 1
    · rw [if_pos hn]
      have e : repS z n = PySem.Str.empty := by
        unfold repS
        rw [if_pos hn]
      refine ⟨by decide, .str (repS z n), H, I.tok _, ⟨s.toks, by rw [e]⟩, q⟩
    · rw [if_neg hn]
      by_cases h2 : n = 1
      · rw [if_pos (by rw [h2]; rfl)]
        have e : repS z n = z := by
          unfold repS
          rw [if_neg hn, if_pos h2]
        exact ⟨.str (repS z n), H, I, ⟨t, by rw [e]⟩, q⟩
      · rw [if_neg (by simp [h2])]
        have e : repS z n = ⟨(List.replicate n.toNat z.cps).foldl (· ++ ·) #[]⟩ := by
          unfold repS
          rw [if_neg hn, if_neg h2]
        refine ⟨?_, .str (repS z n), H, I.tok _, ⟨s.toks, by rw [e]⟩, q⟩
        have hk : (sizeLine : Nat) = 16777216 := sizeLine_eq
        have hc : z.cps.size = 1 := hz
        show (List.foldl (fun x1 x2 => x1 ++ x2) #[] (List.replicate n.toNat z.cps)).size ≤ sizeLine
        rw [foldl_size, hc, hk, Array.size_empty]
        omega
end WC
/-! words, sets: is_whole, is_name, set_of, is_within. -/
namespace WC
open PySem PySem.Spec PyProof.Rows L2
section
variable {P : Program} {w : World} {K : PySem.W.Frag} {mg : PySem.Str → Option Value} {base : Heap}
/-! ### is_whole -/
def flatX : V → Bool
  | .non => true
  | .bl _ => true
  | .int _ => true
  | .str _ => true
  | _ => false
def wholeV : V → Bool
  | .int _ => true
  | _ => false
def isStrV : V → Bool
  | .str _ => true
  | _ => false
theorem sc_is_whole : FnScope ["thing"] ["thing"] (defScope s_is_whole) := ⟨rfl, rfl, rfl, by decide +kernel, rfl, by decide +kernel, by decide +kernel⟩
def spIsWhole : Sp := fun vs H Q _ => ∃ x, vs = [x] ∧ flatX x = true ∧ Q (.bl (wholeV x)) H
theorem ok_is_whole (T : Txt K mg) : C8.Cal P w K mg base 1 "is_whole" spIsWhole [] := by
  obtain ⟨fd, F⟩ := T.d_is_whole
  refine calOf (ps := ["thing"]) F (fnNox F sc_is_whole (fun vs H Q E h => ?_) (fun cdv A outer s H vs Q E hr h => ?_)) T.g_is_whole fun _ _ _ _ _ _ us hl => match us, hl with | [_], _ => rfl
  · obtain ⟨x, rfl, _⟩ := h
    rfl
  · obtain ⟨x, rfl, hx, k⟩ := h
    refine ⟨_, pss_one (ps_ret (pe_and (pe_callB call_isi (by rfl) T.n_isinstance (by decide +kernel) (pa_cons (pv 0) (pa_cons (pe_bltn (v := .ty "int") (u := .type "int") (by rfl) T.n_int (by decide +kernel) rfl) pa_nil)))
      (pe_one (pe_not (pe_callB call_isi (by rfl) T.n_isinstance (by decide +kernel) (pa_cons (pv 0) (pa_cons (pe_bltn (v := .ty "bool") (u := .type "bool") (by rfl) T.n_bool (by decide +kernel) rfl) pa_nil))))))), ?_⟩
    cases x with
    | int i =>
      refine ⟨_, rfl, _, _, _, _, _, rfl, .ty _, .base (.int i), kit_ty (r := true) (by decide +kernel), _, rfl, iteT ?_⟩
      exact ⟨_, rfl, _, _, _, _, _, rfl, .ty _, .base (.int i), kit_ty (r := false) (by decide +kernel), _, rfl, k⟩
    | bl b =>
      refine ⟨_, rfl, _, _, _, _, _, rfl, .ty _, .base (.bl b), kit_ty (r := true) (by decide +kernel), _, rfl, iteT ?_⟩
      exact ⟨_, rfl, _, _, _, _, _, rfl, .ty _, .base (.bl b), kit_ty (r := true) (by decide +kernel), _, rfl, k⟩
    | non => exact ⟨_, rfl, _, _, _, _, _, rfl, .ty _, .base .non, kit_ty (r := false) (by decide +kernel), _, rfl, iteF k⟩
    | str z => exact ⟨_, rfl, _, _, _, _, _, rfl, .ty _, .base (.str z), kit_ty (r := false) (by decide +kernel), _, rfl, iteF k⟩
    | _ => cases hx
/-! ### is_within -/
theorem sc_is_within : FnScope ["thing", "low", "high"] ["thing", "low", "high"] (defScope s_is_within) := ⟨rfl, rfl, rfl, by decide +kernel, rfl, by decide +kernel, by decide +kernel⟩
def spIsWithin : Sp := fun vs H Q _ => ∃ i l h : Int, vs = [.int i, .int l, .int h] ∧ Q (.bl (decide (l ≤ i ∧ i ≤ h))) H
theorem ok_is_within (T : Txt K mg) : C8.Cal P w K mg base 2 "is_within" spIsWithin [] := by
  obtain ⟨fd, F⟩ := T.d_is_within
  refine calOf (ps := ["thing", "low", "high"]) F (fnNox F sc_is_within (fun vs H Q E h => ?_) (fun cdv A outer s H vs Q E hr h => ?_)) T.g_is_within fun _ _ _ _ _ _ us hl => match us, hl with | [_, _, _], _ => rfl
  · obtain ⟨i, l, u, rfl, _⟩ := h
    rfl
  · obtain ⟨i, l, u, rfl, k⟩ := h
    refine ⟨_, pss_one (ps_ret (pe_and (C8.pe_c (ok_is_whole T) hr (by decide) (by rfl) (pa_cons (pv 0) pa_nil)) (pe_one (pe_chain op_le op_le (pv 1) (pv 0) (pv 2))))), ?_⟩
    refine ⟨_, rfl, .int i, rfl, rfl, true, rfl, iteT ?_⟩
    refine ⟨_, rfl, _, rfl, _, _, rfl, rfl, _, rfl, ?_⟩
    by_cases h1 : l ≤ i
    · rw [decide_eq_true h1]
      refine iteT ⟨_, rfl, _, _, rfl, rfl, ?_⟩
      have e : decide (l ≤ i ∧ i ≤ u) = decide (i ≤ u) := decide_eq_decide.mpr ⟨fun z => z.2, fun z => ⟨h1, z⟩⟩
      rw [e] at k
      exact k
    · rw [decide_eq_false h1]
      refine iteF ?_
      have e : decide (l ≤ i ∧ i ≤ u) = false := decide_eq_false fun z => h1 z.1
      rw [e] at k
      exact k
/-! ### set_of -/
theorem sc_set_of : FnScope ["numbers", "found", "number"] ["numbers"] (defScope s_set_of) := ⟨rfl, rfl, rfl, by decide +kernel, rfl, by decide +kernel, by decide +kernel⟩
def spSetOf : Sp := fun vs H Q _ => ∃ (a : Addr) (ns : List Int), vs = [.ref a] ∧ H a = some (.lst (ns.map V.int)) ∧ (∀ n ∈ ns, 0 ≤ n ∧ n < 1200) ∧ Q (.int (setOf ns)) H
theorem get_map {α β : Type} {f : α → β} {l : List α} {i : Nat} {y : β} (h : (l.map f)[i]? = some y) : ∃ x, l[i]? = some x ∧ y = f x := by
  rw [List.getElem?_map] at h
  cases e : l[i]? with
  | none =>
    rw [e] at h
    cases h
  | some x =>
    rw [e] at h
    exact ⟨x, rfl, (Option.some.inj h).symm⟩
theorem take_more {α : Type} {l : List α} {i : Nat} {x : α} (h : l[i]? = some x) : l.take (i + 1) = l.take i ++ [x] := by
  rw [List.take_add_one, h]
  rfl
theorem ok_set_of (T : Txt K mg) : C8.Cal P w K mg base 2 "set_of" spSetOf [] := by
  obtain ⟨fd, F⟩ := T.d_set_of
  obtain ⟨tm, hm⟩ := T.i_MOST
  refine calOf (ps := ["numbers"]) F (fnNox F sc_set_of (fun vs H Q E h => ?_) (fun cdv A outer s H vs Q E hr h => ?_)) T.g_set_of fun _ _ _ _ _ _ us hl => match us, hl with | [_], _ => rfl
  · obtain ⟨a, ns, rfl, _⟩ := h
    rfl
  · obtain ⟨a, ns, rfl, ha, hn, k⟩ := h
    refine ⟨_, pss_cons (ps_if (pt_not (pt_val (pe_callB call_isi (by rfl) T.n_isinstance (by decide +kernel) (pa_cons (pv 0) (pa_cons (pe_bltn (v := .ty "list") (u := .type "list") (by rfl) T.n_list (by decide +kernel) rfl) pa_nil))))) (pss_one ps_never) pss_nil)
      (pss_cons (ps_set (i := 1) sc_set_of.nd rfl (.inl rfl) pe_int)
      (pss_cons (ps_for PassesOwn.never rfl (pi_list (pv 0)) (pg_name (i := 2) sc_set_of.nd rfl (.inl rfl))
        (pss_cons (ps_if (PW.pt (pw_or (pt_not (pt_val (C8.pe_c (ok_is_whole T) hr (by decide) (by rfl) (pa_cons (pv 2) pa_nil))))
            (pw_or1 (pt_not (pt_chain op_le op_lt pe_int (pv 2) (pe_glob (v := .int 1200) (by rfl) hm ⟨_, rfl⟩)))))) (pss_one ps_never) pss_nil)
          (pss_one (ps_set (i := 1) sc_set_of.nd rfl (.inl rfl) (pe_op op_or (pv 1) (pe_op op_shl pe_int (pv 2)))))))
      (pss_one (ps_ret (pv 1))))), ?_⟩
    refine ⟨_, rfl, _, _, _, _, _, rfl, .ty _, .base (.lst ha), kit_ty (r := true) (by decide +kernel), _, rfl, iteF ?_⟩
    refine ⟨_, rfl, a, rfl, ⟨_, SqL.of ha⟩, for_list (K := K) (a := a) (xs := ns.map V.int) (fun i σ H2 => ∃ v : Option V, σ = [some (.ref a), some (.int (setOf (ns.take i))), v] ∧ H2 = H)
      ⟨none, rfl, rfl⟩ (fun i σ H2 _ ⟨_, _, e⟩ => by rw [e]; exact SqL.of ha) ?_ ?_⟩
    · rintro i y σ H2 hi ⟨v, rfl, rfl⟩
      obtain ⟨n, hj, rfl⟩ := get_map hi
      obtain ⟨n0, n1⟩ := hn n (List.mem_of_getElem? hj)
      refine ⟨_, rfl, .int n, rfl, rfl, true, rfl, iteF ?_⟩
      refine ⟨_, rfl, _, _, rfl, rfl, _, rfl, ?_⟩
      rw [decide_eq_true n0]
      refine iteT ⟨_, _, rfl, rfl, _, rfl, ?_⟩
      rw [decide_eq_true n1]
      refine iteF ?_
      refine ⟨_, rfl, _, rfl, _, _, rfl, rfl, ⟨n0, by omega, by decide⟩, _, _, rfl, rfl, ?_⟩
      refine ⟨some (.int n), ?_, rfl⟩
      have e : setOf (ns.take (i + 1)) = bOr (setOf (ns.take i)) (1 * 2 ^ n.toNat) := by
        rw [take_more hj]
        show List.foldl _ 0 (ns.take i ++ [n]) = _
        rw [List.foldl_append]
        rfl
      rw [e]
      rfl
    · rintro σ H2 ⟨v, rfl, rfl⟩
      rw [List.length_map, List.take_length]
      exact ⟨_, rfl, k⟩
end
end WC
/-! words: is_name. -/
namespace WC
open PySem PySem.Spec PyProof.Rows L2
section
variable {P : Program} {w : World} {K : PySem.W.Frag} {mg : PySem.Str → Option Value} {base : Heap}
theorem sc_is_name : FnScope ["thing", "sign"] ["thing"] (defScope s_is_name) := ⟨rfl, rfl, rfl, by decide +kernel, rfl, by decide +kernel, by decide +kernel⟩
def spIsName : Sp := fun vs H Q _ => ∃ x, vs = [x] ∧ TxV x ∧ ∀ H', Same H H' → Q (.bl (nameV x)) H'
theorem small100 {n : Nat} (h : n ≤ 100) : n ≤ sizeLine := Nat.le_trans h (by decide)
theorem all_take_more {l : List Nat} {p : Nat → Bool} {i : Nat} {c : Nat} (h : l[i]? = some c) : (l.take (i + 1)).map p = (l.take i).map p ++ [p c] := by
  rw [take_more h, List.map_append]
  rfl
theorem ok_is_name (T : Txt K mg) : C8.Cal P w K mg base 1 "is_name" spIsName [] := by
  obtain ⟨fd, F⟩ := T.d_is_name
  obtain ⟨tL, hL⟩ := T.i_LETTERS
  have nd := sc_is_name.nd
  refine calOf (ps := ["thing"]) F (fnNox F sc_is_name (fun vs H Q E h => ?_) (fun cdv A outer s H vs Q E hr h => ?_)) T.g_is_name fun _ _ _ _ _ _ us hl => match us, hl with | [_], _ => rfl
  · obtain ⟨x, rfl, _⟩ := h
    rfl
  · obtain ⟨x, rfl, hx, k⟩ := h
    refine ⟨_, pss_cons (ps_if (PW.pt (pw_or (pt_not (pt_val (pe_callB call_isi (by rfl) T.n_isinstance (by decide +kernel) (pa_cons (pv 0) (pa_cons (pe_bltn (v := .ty "str") (u := .type "str") (by rfl) T.n_str (by decide +kernel) rfl) pa_nil)))))
        (pw_or1 (pt_not (pt_chain op_le op_le pe_int (pe_callB call_len_str (by rfl) T.n_len PySem.boot_len (pa_cons (pv 0) pa_nil)) pe_int))))) (pss_one (ps_ret pe_bl)) pss_nil)
      (pss_one (ps_ret (pe_callB (cr_all rfl) (by rfl) T.n_all (by decide +kernel) (pa_cons
        (pe_lc (own := [("sign", 1)]) (g := gName 1) (tt := tYes) rfl nd (pi_str (pv 0)) (blkOk_by (N := ["thing", "sign"]) (sc := defScope s_is_name) (by decide +kernel)) (fun _ _ _ _ _ => pg_name (i := 1) nd rfl (Or.inl rfl)) (fun _ _ _ _ _ => pts_nil)
          (fun _ _ _ _ _ => pe_cmpR op_in_sign (pv 1) (pe_glob (v := .str "abcdefghijklmnopqrstuvwxyz") (by rfl) hL ⟨_, rfl⟩) rfl)) pa_nil)))), ?_⟩
    rcases hx with rfl | ⟨z, rfl, hz⟩
    · refine ⟨_, rfl, _, _, _, _, _, rfl, .ty _, .base .non, kit_ty (r := false) (by decide +kernel), _, rfl, ?_⟩
      exact iteT (iteT (k H (Same.refl H)))
    · refine ⟨_, rfl, _, _, _, _, _, rfl, .ty _, .base (.str z), kit_ty (r := true) (by decide +kernel), _, rfl, iteF ?_⟩
      refine ⟨_, rfl, z, rfl, small100 hz, _, _, rfl, rfl, _, rfl, ?_⟩
      have out : ∀ b : Bool, ((decide ((1 : Int) ≤ z.length) && decide ((z.length : Int) ≤ 8)) = b) → b = false → isName z = false := fun b e e2 => by
        unfold isName
        rw [e, e2]
        rfl
      by_cases h1 : (1 : Int) ≤ z.length
      · rw [decide_eq_true h1]
        refine iteT ⟨_, _, rfl, rfl, _, rfl, ?_⟩
        by_cases h2 : (z.length : Int) ≤ 8
        · rw [decide_eq_true h2]
          refine iteF ?_
          refine ⟨_, rfl, z, rfl, fun D hD => ?_⟩
          refine lc_it (walk_str (z := z)) (fun i H' => H' = upd H D (.lst (((z.cps.toList.take i).map fun c => decide (c ∈ letters)).map V.bl))) rfl (fun _ _ _ _ => trivial) ?_ ?_
          · rintro i x H1 H2 hi rfl ⟨rfl, c, hc, rfl⟩
            have hc' : z.cps.toList[i]? = some c := by rw [Array.getElem?_toList]; exact hc
            refine ⟨rfl, _, rfl, c, _, rfl, rfl, _, upd_same, ?_, ?_⟩
            · rw [List.length_map, List.length_map, List.length_take]
              have : z.cps.size = z.length := rfl
              refine Nat.lt_of_le_of_lt (Nat.min_le_left _ _) (Nat.lt_of_lt_of_le hi (small100 (by rw [this]; exact hz)))
            · rw [upd_upd, all_take_more hc', List.map_append]
              rfl
          · rintro H1 rfl
            refine ⟨D, z.cps.toList.map fun c => decide (c ∈ letters), rfl, SqL.of ?_, ?_⟩
            · rw [upd_same]
              have : z.cps.toList.take z.cps.size = z.cps.toList := by rw [← Array.length_toList]; exact List.take_length
              rw [this]
            · have e : nameV (.str z) = (z.cps.toList.map fun c => decide (c ∈ letters)).all id := by
                show isName z = _
                unfold isName
                rw [decide_eq_true h1, decide_eq_true h2, List.all_map]
                rfl
              rw [← e]
              exact k _ (Same.nw hD)
        · rw [decide_eq_false h2]
          refine iteT ?_
          have e : nameV (.str z) = false := out _ rfl (by rw [decide_eq_false h2, Bool.and_false])
          rw [← e]
          exact k H (Same.refl H)
      · rw [decide_eq_false h1]
        refine iteF ⟨_, rfl, iteT ?_⟩
        have e : nameV (.str z) = false := out _ rfl (by rw [decide_eq_false h1, Bool.false_and])
        rw [← e]
        exact k H (Same.refl H)
end
end WC
/-! The organ's objects in the heap. -/
namespace WC
open PySem PySem.Spec PyProof.Rows L2
/-- where an organ's objects stand: 0 itself, 1 table, 2 manuals, 3 pipework, 4 draws, 5 details, 6 stairs, 7 titles -/
structure OA where
  dx : Addr
  at_ : Nat → Addr
  inj : ∀ i j, i < 8 → j < 8 → at_ i = at_ j → i = j
theorem OA.ne (A : OA) (i j : Nat) (h : i < 8 ∧ j < 8 ∧ i ≠ j := by decide) : A.at_ i ≠ A.at_ j := fun e => h.2.2 (A.inj i j h.1 h.2.1 e)
/-- not one of them -/
def OA.out (A : OA) (l : Addr) : Prop := ∀ i, i < 8 → l ≠ A.at_ i
def oflds (A : OA) (l : V) : List (PySem.Str × V) := [("table", .ref (A.at_ 1)), ("manuals", .ref (A.at_ 2)), ("pipework", .ref (A.at_ 3)), ("draws", .ref (A.at_ 4)), ("details", .ref (A.at_ 5)), ("stairs", .ref (A.at_ 6)), ("titles", .ref (A.at_ 7)), ("latest", l)]
section
variable (A : OA) (l v : V)
theorem of_table : (oflds A l).lookup ("table" : PySem.Str) = some (.ref (A.at_ 1)) := by kernel_rfl
theorem of_manuals : (oflds A l).lookup ("manuals" : PySem.Str) = some (.ref (A.at_ 2)) := by kernel_rfl
theorem of_pipework : (oflds A l).lookup ("pipework" : PySem.Str) = some (.ref (A.at_ 3)) := by kernel_rfl
theorem of_draws : (oflds A l).lookup ("draws" : PySem.Str) = some (.ref (A.at_ 4)) := by kernel_rfl
theorem of_details : (oflds A l).lookup ("details" : PySem.Str) = some (.ref (A.at_ 5)) := by kernel_rfl
theorem of_stairs : (oflds A l).lookup ("stairs" : PySem.Str) = some (.ref (A.at_ 6)) := by kernel_rfl
theorem of_titles : (oflds A l).lookup ("titles" : PySem.Str) = some (.ref (A.at_ 7)) := by kernel_rfl
theorem of_latest : (oflds A l).lookup ("latest" : PySem.Str) = some l := by kernel_rfl
theorem of_set : putF "latest" v (oflds A l) = oflds A v := by kernel_rfl
theorem of_len : (oflds A l).length = 8 := rfl
theorem of_no (m : PySem.Str) (h : (["table", "manuals", "pipework", "draws", "details", "stairs", "titles", "latest"] : List PySem.Str).contains m = false) : (oflds A l).lookup m = none := by
  unfold oflds
  simp only [List.contains_cons, Bool.or_eq_false_iff, beq_eq_false_iff_ne] at h
  obtain ⟨h1, h2, h3, h4, h5, h6, h7, h8, _⟩ := h
  have e : ∀ {x : PySem.Str} {v : V} {r : List (PySem.Str × V)}, m ≠ x → ((x, v) :: r).lookup m = r.lookup m := fun {x v r} n => by
    have z : (m == x) = false := beq_eq_false_iff_ne.mpr n
    rw [List.lookup_cons, z]
  rw [e h1, e h2, e h3, e h4, e h5, e h6, e h7, e h8]
  rfl
end
/-- all that is tracked stands, but what is at p; that is no tuple -/
structure But (p : Addr) (H H' : Hp) : Prop where
  kp : ∀ b o, H b = some o → b ≠ p → H' b = some o
  nt : ∀ xs, H p ≠ some (.tup xs)
section
variable {p q : Addr} {H H' : Hp} {o u : HO}
theorem But.up (h : ∀ xs, H p ≠ some (.tup xs)) : But p H (upd H p o) := ⟨fun b u e n => by rw [upd_ne n]; exact e, h⟩
theorem But.nw (h : H p = none) : But p H (upd H p o) := But.up fun xs z => by rw [h] at z; cases z
theorem But.tup (k : But p H H') {t : Addr} {xs : List V} (e : H t = some (.tup xs)) : H' t = some (.tup xs) := k.kp t _ e fun z => k.nt xs (by rw [← z]; exact e)
end
/-! ### the parts -/
def ManAt (H : Hp) (q : Addr) (ms : List (PySem.Str × Int)) : Prop := ∃ ts : List Addr, H q = some (.lst (ts.map V.ref)) ∧ Paired (fun t b => H t = some (.tup [.str b.1, .int b.2])) ts ms
def LenAt (H : Hp) (q : Addr) (n : Nat) : Prop := ∃ xs, H q = some (.lst xs) ∧ xs.length = n
def DrAt (H : Hp) (q : Addr) (ks : List (PySem.Str × Det)) : Prop := ∃ ts : List Addr, H q = some (.lst (ts.map V.ref)) ∧ Paired (fun t k => H t = some (.tup [.str k.2.word, .str k.1])) ts ks
def DetAt (H : Hp) (A : OA) (v : V) : Det → Prop
  | .stop b => ∃ t l ls, v = .ref t ∧ H t = some (.tup [.int (b : Int), .ref l]) ∧ A.out l ∧ H l = some (.lst ls)
  | .coup f g sh => ∃ t, v = .ref t ∧ H t = some (.tup [.int (f : Int), .int (g : Int), .int sh])
  | .mute b => v = .int (b : Int)
def DeAt (H : Hp) (A : OA) (q : Addr) (ks : List (PySem.Str × Det)) : Prop := ∃ vs : List V, H q = some (.lst vs) ∧ Paired (fun v k => DetAt H A v k.2) vs ks
def TiAt (H : Hp) (v : Option V) : Option (PySem.Str × Nat) → Prop
  | some (w, i) => ∃ t, v = some (.ref t) ∧ H t = some (.tup [.str w, .int (i : Int)])
  | none => v = none
def TitAt (H : Hp) (q : Addr) (n : Nat) (tit : PySem.Str → Option (PySem.Str × Nat)) : Prop := ∃ kvs : List (Key × V), H q = some (.dK kvs) ∧ kvs.length ≤ n ∧ ∀ x, TiAt H (valV kvs (Sum.inr x : Key)) (tit x)
/-- the lines of the latest stop -/
def LnsAt (H : Hp) (n : Nat) (v : V) : Prop := ∃ (t l : Addr) (b : Int) (ls : List V), v = .ref t ∧ H t = some (.tup [.int b, .ref l]) ∧ H l = some (.lst ls) ∧ ls.length = n
def LaAt (H : Hp) (q : Addr) (la : Option Nat) (n : Nat) : Prop := ∀ i, la = some i → ∃ vs : List V, H q = some (.lst vs) ∧ ∀ v, vs[i]? = some v → LnsAt H n v
section
variable {p q : Addr} {H H' : Hp} {A : OA}
theorem _root_.PySem.Paired.imp {α β : Type} {F G : α → β → Prop} {xs : List α} {ys : List β} (h : Paired F xs ys) (f : ∀ a b, F a b → G a b) : Paired G xs ys := Paired.mapP h f
theorem ManAt.but {ms} (x : ManAt H q ms) (k : But p H H') (n : q ≠ p) : ManAt H' q ms := by
  obtain ⟨ts, e, h⟩ := x
  exact ⟨ts, k.kp _ _ e n, h.imp fun t b z => k.tup z⟩
theorem LenAt.but {m} (x : LenAt H q m) (k : But p H H') (n : q ≠ p) : LenAt H' q m := by
  obtain ⟨xs, e, h⟩ := x
  exact ⟨xs, k.kp _ _ e n, h⟩
theorem DrAt.but {ks} (x : DrAt H q ks) (k : But p H H') (n : q ≠ p) : DrAt H' q ks := by
  obtain ⟨ts, e, h⟩ := x
  exact ⟨ts, k.kp _ _ e n, h.imp fun t b z => k.tup z⟩
theorem DetAt.but {v : V} {d : Det} (x : DetAt H A v d) (k : But p H H') (hl : ∀ l ls, A.out l → H l = some (.lst ls) → l ≠ p) : DetAt H' A v d := by
  cases d with
  | stop b =>
    obtain ⟨t, l, ls, rfl, h1, h2, h3⟩ := x
    exact ⟨t, l, ls, rfl, k.tup h1, h2, k.kp _ _ h3 (hl l ls h2 h3)⟩
  | coup f g sh =>
    obtain ⟨t, rfl, h1⟩ := x
    exact ⟨t, rfl, k.tup h1⟩
  | mute b => exact x
theorem DeAt.but {ks} (x : DeAt H A q ks) (k : But p H H') (n : q ≠ p) (hl : ∀ l ls, A.out l → H l = some (.lst ls) → l ≠ p) : DeAt H' A q ks := by
  obtain ⟨vs, e, h⟩ := x
  exact ⟨vs, k.kp _ _ e n, h.imp fun v b z => z.but k hl⟩
theorem TiAt.but {v : Option V} {r} (x : TiAt H v r) (k : But p H H') : TiAt H' v r := by
  cases r with
  | none => exact x
  | some r =>
    obtain ⟨w, i⟩ := r
    obtain ⟨t, e, h⟩ := x
    exact ⟨t, e, k.tup h⟩
theorem TitAt.but {n tit} (x : TitAt H q n tit) (k : But p H H') (ne : q ≠ p) : TitAt H' q n tit := by
  obtain ⟨kvs, e, hl, h⟩ := x
  exact ⟨kvs, k.kp _ _ e ne, hl, fun z => (h z).but k⟩
theorem LaAt.but {la n} (x : LaAt H q la n) (k : But p H H') (ne : q ≠ p) (hl : ∀ i vs t l b ls, la = some i → H q = some (.lst vs) → vs[i]? = some (.ref t) → H t = some (.tup [.int b, .ref l]) → H l = some (.lst ls) → l ≠ p) : LaAt H' q la n := fun i hi => by
  obtain ⟨vs, h1, h⟩ := x i hi
  refine ⟨vs, k.kp _ _ h1 ne, fun v hv => ?_⟩
  obtain ⟨t, l, b, ls, rfl, h3, h4, h5⟩ := h v hv
  exact ⟨t, l, b, ls, rfl, k.tup h3, k.kp _ _ h4 (hl i vs t l b ls hi h1 hv h3 h4), h5⟩
end
/-- the organ's objects; ds: the details' rows (behind draws by one within add_knob) -/
structure OrgG (K : PySem.W.Frag) (H : Hp) (A : OA) (o : Org) (ds : List (PySem.Str × Det)) : Prop where
  ob : H (A.at_ 0) = some (.ins (cOrgan K) A.dx (oflds A (optV o.latest)))
  tb : LenAt H (A.at_ 1) o.ntab
  ma : ManAt H (A.at_ 2) o.manuals
  pi : LenAt H (A.at_ 3) o.npipes
  dr : DrAt H (A.at_ 4) o.knobs
  de : DeAt H A (A.at_ 5) ds
  st : H (A.at_ 6) = some (.lst (o.stairs.map V.int))
  ti : TitAt H (A.at_ 7) o.ntit o.tit
  la : LaAt H (A.at_ 5) o.latest o.nlines
abbrev OrgAt (K : PySem.W.Frag) (H : Hp) (A : OA) (o : Org) : Prop := OrgG K H A o o.knobs
section
variable {K : PySem.W.Frag} {H H' : Hp} {A : OA} {o : Org} {ds : List (PySem.Str × Det)} {p : Addr}
theorem _root_.PySem.Paired.getL {α β : Type} {F : α → β → Prop} : ∀ {xs : List α} {ys : List β}, Paired F xs ys → ∀ {i : Nat} {x : α}, xs[i]? = some x → ∃ y, ys[i]? = some y ∧ F x y
  | _, _, .nil, i, x, e => by simp at e
  | _, _, .cons r t, 0, x, e => by
    simp at e
    subst e
    exact ⟨_, rfl, r⟩
  | _, _, .cons r t, i + 1, x, e => by
    obtain ⟨y, h1, h2⟩ := PySem.Paired.getL t (i := i) (x := x) (by simpa using e)
    exact ⟨y, by simpa using h1, h2⟩
theorem _root_.PySem.Paired.getR {α β : Type} {F : α → β → Prop} : ∀ {xs : List α} {ys : List β}, Paired F xs ys → ∀ {i : Nat} {y : β}, ys[i]? = some y → ∃ x, xs[i]? = some x ∧ F x y
  | _, _, .nil, i, x, e => by simp at e
  | _, _, .cons r t, 0, x, e => by
    simp at e
    subst e
    exact ⟨_, rfl, r⟩
  | _, _, .cons r t, i + 1, x, e => by
    obtain ⟨y, h1, h2⟩ := PySem.Paired.getR t (i := i) (y := x) (by simpa using e)
    exact ⟨y, by simpa using h1, h2⟩
/-- the latest stop's lines are no part of the organ -/
theorem OrgG.lout (x : OrgG K H A o ds) {i : Nat} {vs : List V} {t l : Addr} {b : Int} (h1 : H (A.at_ 5) = some (.lst vs)) (h2 : vs[i]? = some (.ref t)) (h3 : H t = some (.tup [.int b, .ref l])) : A.out l := by
  obtain ⟨ws, e, h⟩ := x.de
  rw [h1] at e
  cases e
  obtain ⟨k, _, d⟩ := h.getL h2
  obtain ⟨n, d'⟩ := k
  cases d' with
  | stop b =>
    obtain ⟨t', l', ls, e1, e2, e3, _⟩ := d
    cases e1
    rw [h3] at e2
    cases e2
    exact e3
  | coup f g sh =>
    obtain ⟨t', e1, e2⟩ := d
    cases e1
    rw [h3] at e2
    cases e2
  | mute b =>
    have d2 : V.ref t = V.int (b : Int) := d
    cases d2
/-- something else is changed, or is new: it is none of the organ's lists, no tuple, no list of lines -/
theorem OrgG.off (x : OrgG K H A o ds) (k : But p H H') (hp : A.out p) (hl : ∀ ls, H p ≠ some (.lst ls)) : OrgG K H' A o ds := by
  have ne : ∀ i, i < 8 → A.at_ i ≠ p := fun i hi e => hp i hi e.symm
  refine ⟨k.kp _ _ x.ob (ne 0 (by decide)), x.tb.but k (ne 1 (by decide)), x.ma.but k (ne 2 (by decide)), x.pi.but k (ne 3 (by decide)), x.dr.but k (ne 4 (by decide)), x.de.but k (ne 5 (by decide)) fun l ls _ e z => hl ls (by rw [← z]; exact e),
    k.kp _ _ x.st (ne 6 (by decide)), x.ti.but k (ne 7 (by decide)), x.la.but k (ne 5 (by decide)) fun i vs t l b ls _ _ _ _ e z => hl ls (by rw [← z]; exact e)⟩
theorem OrgG.outNew (x : OrgG K H A o ds) (h : H p = none) : A.out p := fun i hi e => by
  have z : ∃ u, H (A.at_ i) = some u := by
    match i, hi with
    | 0, _ => exact ⟨_, x.ob⟩
    | 1, _ => obtain ⟨_, e, _⟩ := x.tb; exact ⟨_, e⟩
    | 2, _ => obtain ⟨_, e, _⟩ := x.ma; exact ⟨_, e⟩
    | 3, _ => obtain ⟨_, e, _⟩ := x.pi; exact ⟨_, e⟩
    | 4, _ => obtain ⟨_, e, _⟩ := x.dr; exact ⟨_, e⟩
    | 5, _ => obtain ⟨_, e, _⟩ := x.de; exact ⟨_, e⟩
    | 6, _ => exact ⟨_, x.st⟩
    | 7, _ => obtain ⟨_, e, _⟩ := x.ti; exact ⟨_, e⟩
  obtain ⟨u, z⟩ := z
  rw [← e, h] at z
  cases z
theorem OrgG.new {u : HO} (x : OrgG K H A o ds) (h : H p = none) : OrgG K (upd H p u) A o ds :=
  x.off (But.nw h) (x.outNew h) fun ls z => by rw [h] at z; cases z
/-- nothing that was tracked is changed -/
theorem OrgG.same (x : OrgG K H A o ds) (k : Same H H') : OrgG K H' A o ds := by
  have e : ∀ p, H p = none → OrgG K H A o ds → OrgG K H' A o ds := fun p hp y => y.off ⟨fun b o e _ => k b o e, fun xs z => by rw [hp] at z; cases z⟩ (y.outNew hp) fun ls z => by rw [hp] at z; cases z
  have t : ∀ {t xs}, H t = some (.tup xs) → H' t = some (.tup xs) := fun {t xs} z => k _ _ z
  obtain ⟨ts, m1, m2⟩ := x.ma
  obtain ⟨ts4, d1, d2⟩ := x.dr
  obtain ⟨vs, e1, e2⟩ := x.de
  obtain ⟨kvs, t1, t2, t3⟩ := x.ti
  obtain ⟨xs, b1, b2⟩ := x.tb
  obtain ⟨ys, p1, p2⟩ := x.pi
  refine ⟨k _ _ x.ob, ⟨xs, k _ _ b1, b2⟩, ⟨ts, k _ _ m1, m2.imp fun a b z => k _ _ z⟩, ⟨ys, k _ _ p1, p2⟩, ⟨ts4, k _ _ d1, d2.imp fun a b z => k _ _ z⟩, ⟨vs, k _ _ e1, e2.imp fun v d z => ?_⟩, k _ _ x.st, ⟨kvs, k _ _ t1, t2, fun y => ?_⟩, fun i hi => ?_⟩
  · obtain ⟨n, d⟩ := d
    cases d with
    | stop b =>
      obtain ⟨t, l, ls, h0, h1, h2, h3⟩ := z
      exact ⟨t, l, ls, h0, k _ _ h1, h2, k _ _ h3⟩
    | coup f g sh =>
      obtain ⟨t, h0, h1⟩ := z
      exact ⟨t, h0, k _ _ h1⟩
    | mute b => exact z
  · have q := t3 y
    cases e : o.tit y with
    | none => rw [e] at q; exact q
    | some r =>
      rw [e] at q
      obtain ⟨t, q1, q2⟩ := q
      exact ⟨t, q1, k _ _ q2⟩
  · obtain ⟨vs, h1, h⟩ := x.la i hi
    refine ⟨vs, k _ _ h1, fun v hv => ?_⟩
    obtain ⟨t, l, b, ls, h2, h3, h4, h5⟩ := h v hv
    exact ⟨t, l, b, ls, h2, k _ _ h3, k _ _ h4, h5⟩
end
end WC
/-! The organ's objects changed, one by one. -/
namespace WC
open PySem PySem.Spec PyProof.Rows L2
section
variable {K : PySem.W.Frag} {H : Hp} {A : OA} {o : Org} {ds : List (PySem.Str × Det)}
theorem OrgG.notTup (x : OrgG K H A o ds) (j : Nat) (hj : j < 8) : ∀ xs, H (A.at_ j) ≠ some (.tup xs) := fun xs z => by
  match j, hj with
  | 0, _ => rw [x.ob] at z; cases z
  | 1, _ => obtain ⟨_, e, _⟩ := x.tb; rw [e] at z; cases z
  | 2, _ => obtain ⟨_, e, _⟩ := x.ma; rw [e] at z; cases z
  | 3, _ => obtain ⟨_, e, _⟩ := x.pi; rw [e] at z; cases z
  | 4, _ => obtain ⟨_, e, _⟩ := x.dr; rw [e] at z; cases z
  | 5, _ => obtain ⟨_, e, _⟩ := x.de; rw [e] at z; cases z
  | 6, _ => rw [x.st] at z; cases z
  | 7, _ => obtain ⟨_, e, _⟩ := x.ti; rw [e] at z; cases z
theorem OrgG.but (x : OrgG K H A o ds) (j : Nat) (hj : j < 8) (u : HO) : But (A.at_ j) H (upd H (A.at_ j) u) := But.up (x.notTup j hj)
theorem OrgG.laBut (x : OrgG K H A o ds) (j : Nat) (hj : j < 8) (ne : A.at_ 5 ≠ A.at_ j) (u : HO) : LaAt (upd H (A.at_ j) u) (A.at_ 5) o.latest o.nlines :=
  x.la.but (x.but j hj u) ne fun i vs t l b ls _ h1 h2 h3 _ => x.lout h1 h2 h3 j hj
theorem OrgG.deBut (x : OrgG K H A o ds) (j : Nat) (hj : j < 8) (ne : A.at_ 5 ≠ A.at_ j) (u : HO) : DeAt (upd H (A.at_ j) u) A (A.at_ 5) ds :=
  x.de.but (x.but j hj u) ne fun l ls h _ => h j hj
/-- the table -/
theorem OrgG.sTab (x : OrgG K H A o ds) {xs : List V} (v : V) (e : H (A.at_ 1) = some (.lst xs)) : OrgG K (upd H (A.at_ 1) (.lst (xs ++ [v]))) A { o with ntab := o.ntab + 1 } ds := by
  have k := x.but 1 (by decide) (.lst (xs ++ [v]))
  refine ⟨k.kp _ _ x.ob (A.ne 0 1), ⟨_, upd_same, ?_⟩, x.ma.but k (A.ne 2 1), x.pi.but k (A.ne 3 1), x.dr.but k (A.ne 4 1), x.deBut 1 (by decide) (A.ne 5 1) _, k.kp _ _ x.st (A.ne 6 1), x.ti.but k (A.ne 7 1), x.laBut 1 (by decide) (A.ne 5 1) _⟩
  obtain ⟨ys, e1, e2⟩ := x.tb
  rw [e] at e1
  cases e1
  rw [List.length_append, e2]
  rfl
/-- the boards -/
theorem OrgG.sMan (x : OrgG K H A o ds) {xs : List V} {t : Addr} {b : PySem.Str × Int} (e : H (A.at_ 2) = some (.lst xs)) (ht : H t = some (.tup [.str b.1, .int b.2])) : OrgG K (upd H (A.at_ 2) (.lst (xs ++ [.ref t]))) A { o with manuals := o.manuals ++ [b] } ds := by
  have k := x.but 2 (by decide) (.lst (xs ++ [.ref t]))
  refine ⟨k.kp _ _ x.ob (A.ne 0 2), x.tb.but k (A.ne 1 2), ?_, x.pi.but k (A.ne 3 2), x.dr.but k (A.ne 4 2), x.deBut 2 (by decide) (A.ne 5 2) _, k.kp _ _ x.st (A.ne 6 2), x.ti.but k (A.ne 7 2), x.laBut 2 (by decide) (A.ne 5 2) _⟩
  obtain ⟨ts, e1, e2⟩ := x.ma
  rw [e] at e1
  cases e1
  refine ⟨ts ++ [t], ?_, (e2.imp fun a b z => k.tup z).snoc (k.tup ht)⟩
  rw [upd_same, List.map_append]
  rfl
/-- the ranks -/
theorem OrgG.sPip (x : OrgG K H A o ds) {xs : List V} (v : V) (e : H (A.at_ 3) = some (.lst xs)) : OrgG K (upd H (A.at_ 3) (.lst (xs ++ [v]))) A { o with npipes := o.npipes + 1 } ds := by
  have k := x.but 3 (by decide) (.lst (xs ++ [v]))
  refine ⟨k.kp _ _ x.ob (A.ne 0 3), x.tb.but k (A.ne 1 3), x.ma.but k (A.ne 2 3), ⟨_, upd_same, ?_⟩, x.dr.but k (A.ne 4 3), x.deBut 3 (by decide) (A.ne 5 3) _, k.kp _ _ x.st (A.ne 6 3), x.ti.but k (A.ne 7 3), x.laBut 3 (by decide) (A.ne 5 3) _⟩
  obtain ⟨ys, e1, e2⟩ := x.pi
  rw [e] at e1
  cases e1
  rw [List.length_append, e2]
  rfl
/-- draws -/
theorem OrgG.sDr (x : OrgG K H A o ds) {xs : List V} {t : Addr} {n : PySem.Str} {d : Det} (e : H (A.at_ 4) = some (.lst xs)) (ht : H t = some (.tup [.str d.word, .str n])) : OrgG K (upd H (A.at_ 4) (.lst (xs ++ [.ref t]))) A { o with knobs := o.knobs ++ [(n, d)] } ds := by
  have k := x.but 4 (by decide) (.lst (xs ++ [.ref t]))
  refine ⟨k.kp _ _ x.ob (A.ne 0 4), x.tb.but k (A.ne 1 4), x.ma.but k (A.ne 2 4), x.pi.but k (A.ne 3 4), ?_, x.deBut 4 (by decide) (A.ne 5 4) _, k.kp _ _ x.st (A.ne 6 4), x.ti.but k (A.ne 7 4), x.laBut 4 (by decide) (A.ne 5 4) _⟩
  obtain ⟨ts, e1, e2⟩ := x.dr
  rw [e] at e1
  cases e1
  refine ⟨ts ++ [t], ?_, PySem.Paired.snoc (e2.imp fun a b z => k.tup z) (a := t) (b := (n, d)) (k.tup ht)⟩
  rw [upd_same, List.map_append]
  rfl
/-- details -/
theorem OrgG.sDe (x : OrgG K H A o ds) {xs : List V} {v : V} {n : PySem.Str} {d : Det} (e : H (A.at_ 5) = some (.lst xs)) (hv : DetAt H A v d) (hw : o.latest = some xs.length → LnsAt H o.nlines v) : OrgG K (upd H (A.at_ 5) (.lst (xs ++ [v]))) A o (ds ++ [(n, d)]) := by
  have k := x.but 5 (by decide) (.lst (xs ++ [v]))
  refine ⟨k.kp _ _ x.ob (A.ne 0 5), x.tb.but k (A.ne 1 5), x.ma.but k (A.ne 2 5), x.pi.but k (A.ne 3 5), x.dr.but k (A.ne 4 5), ?_, k.kp _ _ x.st (A.ne 6 5), x.ti.but k (A.ne 7 5), fun i hi => ?_⟩
  · obtain ⟨vs, e1, e2⟩ := x.de
    rw [e] at e1
    cases e1
    have f : ∀ {v : V} {d : Det}, DetAt H A v d → DetAt (upd H (A.at_ 5) (.lst (xs ++ [v]))) A v d := fun {v d} z => z.but (x.but 5 (by decide) _) fun l ls h _ => h 5 (by decide)
    refine ⟨xs ++ [v], upd_same, PySem.Paired.snoc (e2.imp fun a b z => z.but k fun l ls h _ => h 5 (by decide)) (a := v) (b := (n, d)) (hv.but k fun l ls h _ => h 5 (by decide))⟩
  · obtain ⟨vs, h1, h⟩ := x.la i hi
    rw [e] at h1
    cases h1
    refine ⟨xs ++ [v], upd_same, fun v2 hv2 => ?_⟩
    by_cases hi2 : i < xs.length
    · rw [List.getElem?_append_left hi2] at hv2
      obtain ⟨t, l, b, ls, rfl, h3, h4, h5⟩ := h v2 hv2
      exact ⟨t, l, b, ls, rfl, k.tup h3, k.kp _ _ h4 (x.lout e hv2 h3 5 (by decide)), h5⟩
    · have hi3 : i = xs.length := by
        have := (List.getElem?_eq_some_iff.mp hv2).1
        rw [List.length_append] at this
        simp only [List.length_cons, List.length_nil] at this
        omega
      subst hi3
      rw [List.getElem?_append_right (Nat.le_refl _), Nat.sub_self] at hv2
      have e3 : v = v2 := Option.some.inj hv2
      subst e3
      obtain ⟨t, l, b, ls, rfl, h3, h4, h5⟩ := hw hi
      refine ⟨t, l, b, ls, rfl, k.tup h3, k.kp _ _ h4 ?_, h5⟩
      cases d with
      | stop c =>
        obtain ⟨t', l', ls', q1, q2, q3, _⟩ := hv
        cases q1
        rw [h3] at q2
        cases q2
        exact q3 5 (by decide)
      | coup f g sh =>
        obtain ⟨t', q1, q2⟩ := hv
        cases q1
        rw [h3] at q2
        cases q2
      | mute c =>
        have q : V.ref t = V.int (c : Int) := hv
        cases q
/-- the steps -/
theorem OrgG.sSt (x : OrgG K H A o ds) (i : Int) : OrgG K (upd H (A.at_ 6) (.lst (o.stairs.map V.int ++ [.int i]))) A { o with stairs := o.stairs ++ [i] } ds := by
  have k := x.but 6 (by decide) (.lst (o.stairs.map V.int ++ [.int i]))
  refine ⟨k.kp _ _ x.ob (A.ne 0 6), x.tb.but k (A.ne 1 6), x.ma.but k (A.ne 2 6), x.pi.but k (A.ne 3 6), x.dr.but k (A.ne 4 6), x.deBut 6 (by decide) (A.ne 5 6) _, ?_, x.ti.but k (A.ne 7 6), x.laBut 6 (by decide) (A.ne 5 6) _⟩
  rw [upd_same, List.map_append]
  rfl
theorem putK_len1 {kvs : List (Key × V)} {k : Key} {v : V} : (putK kvs k v).length ≤ kvs.length + 1 := by
  unfold putK
  split
  · rw [List.length_map]
    exact Nat.le_succ _
  · rw [List.length_append]
    exact Nat.le_refl _
/-- a name -/
theorem OrgG.sTi (x : OrgG K H A o ds) {kvs : List (Key × V)} {t : Addr} {n w : PySem.Str} {i : Nat} (e : H (A.at_ 7) = some (.dK kvs)) (ht : H t = some (.tup [.str w, .int (i : Int)])) :
    OrgG K (upd H (A.at_ 7) (.dK (putK kvs (Sum.inr n : Key) (.ref t)))) A { o with tit := o.name n w i, ntit := o.ntit + 1 } ds := by
  have k := x.but 7 (by decide) (.dK (putK kvs (Sum.inr n : Key) (.ref t)))
  refine ⟨k.kp _ _ x.ob (A.ne 0 7), x.tb.but k (A.ne 1 7), x.ma.but k (A.ne 2 7), x.pi.but k (A.ne 3 7), x.dr.but k (A.ne 4 7), x.deBut 7 (by decide) (A.ne 5 7) _, k.kp _ _ x.st (A.ne 6 7), ?_, x.laBut 7 (by decide) (A.ne 5 7) _⟩
  obtain ⟨kvs', e1, e2, e3⟩ := x.ti
  rw [e] at e1
  cases e1
  refine ⟨_, upd_same, Nat.le_trans putK_len1 (Nat.succ_le_succ e2), fun z => ?_⟩
  rw [valV_put]
  show TiAt _ _ (if z = n then some (w, i) else o.tit z)
  by_cases h : z = n
  · rw [if_pos h, if_pos (by rw [h])]
    exact ⟨t, rfl, k.tup ht⟩
  · rw [if_neg h, if_neg (fun q => h (Sum.inr.inj q))]
    exact (e3 z).but k
/-- latest -/
theorem OrgG.sLa (x : OrgG K H A o ds) {fs : List (PySem.Str × V)} {la : Option Nat} {n : Nat} (e : fs = oflds A (optV la)) (h : LaAt H (A.at_ 5) la n) : OrgG K (upd H (A.at_ 0) (.ins (cOrgan K) A.dx fs)) A { o with latest := la, nlines := n } ds := by
  have k := x.but 0 (by decide) (.ins (cOrgan K) A.dx fs)
  refine ⟨?_, x.tb.but k (A.ne 1 0), x.ma.but k (A.ne 2 0), x.pi.but k (A.ne 3 0), x.dr.but k (A.ne 4 0), x.deBut 0 (by decide) (A.ne 5 0) _, k.kp _ _ x.st (A.ne 6 0), x.ti.but k (A.ne 7 0), h.but k (A.ne 5 0) fun i vs t l b ls _ h1 h2 h3 _ => x.lout h1 h2 h3 0 (by decide)⟩
  rw [upd_same, e]
theorem OrgG.sLaN (x : OrgG K H A o ds) {fs : List (PySem.Str × V)} (e : fs = oflds A .non) : OrgG K (upd H (A.at_ 0) (.ins (cOrgan K) A.dx fs)) A { o with latest := none } ds :=
  x.sLa (la := none) (n := o.nlines) e fun i hi => by cases hi
/-- one line more of the latest stop -/
theorem OrgG.sLine (x : OrgG K H A o ds) {i : Nat} {vs ls : List V} {t l : Addr} {b : Int} (v : V) (hi : o.latest = some i) (h1 : H (A.at_ 5) = some (.lst vs)) (h2 : vs[i]? = some (.ref t)) (h3 : H t = some (.tup [.int b, .ref l])) (h4 : H l = some (.lst ls)) :
    OrgG K (upd H l (.lst (ls ++ [v]))) A { o with nlines := o.nlines + 1 } ds := by
  have hl := x.lout h1 h2 h3
  have k : But l H (upd H l (.lst (ls ++ [v]))) := But.up fun xs z => by rw [h4] at z; cases z
  have ne : ∀ j, j < 8 → A.at_ j ≠ l := fun j hj e => hl j hj e.symm
  refine ⟨k.kp _ _ x.ob (ne 0 (by decide)), x.tb.but k (ne 1 (by decide)), x.ma.but k (ne 2 (by decide)), x.pi.but k (ne 3 (by decide)), x.dr.but k (ne 4 (by decide)), ?_, k.kp _ _ x.st (ne 6 (by decide)), x.ti.but k (ne 7 (by decide)), fun j hj => ?_⟩
  · obtain ⟨ws, e1, e2⟩ := x.de
    refine ⟨ws, k.kp _ _ e1 (ne 5 (by decide)), e2.imp fun u d z => ?_⟩
    obtain ⟨n, d⟩ := d
    cases d with
    | stop c =>
      obtain ⟨t', l', ls', q1, q2, q3, q4⟩ := z
      by_cases hq : l' = l
      · subst hq
        exact ⟨t', l', _, q1, k.tup q2, q3, upd_same⟩
      · exact ⟨t', l', ls', q1, k.tup q2, q3, k.kp _ _ q4 hq⟩
    | coup f g sh =>
      obtain ⟨t', q1, q2⟩ := z
      exact ⟨t', q1, k.tup q2⟩
    | mute c => exact z
  · have hj' : o.latest = some j := hj
    rw [hi] at hj'
    cases hj'
    refine ⟨vs, k.kp _ _ h1 (ne 5 (by decide)), fun v2 hv2 => ?_⟩
    rw [h2] at hv2
    cases hv2
    obtain ⟨vs', q1, q⟩ := x.la i hi
    rw [h1] at q1
    cases q1
    obtain ⟨t', l', b', ls', q2, q3, q4, q5⟩ := q _ h2
    cases q2
    rw [h3] at q3
    cases q3
    rw [h4] at q4
    cases q4
    refine ⟨t, l, b, _, rfl, k.tup h3, upd_same, ?_⟩
    rw [List.length_append, q5]
    rfl
end
end WC
/-! The organ's readers: titled, board_number, knob_number, knobs, steps, stop, coupler, mute, many_of. -/
namespace WC
open PySem PySem.Spec PyProof.Rows L2
section
variable {P : Program} {w : World} {K : PySem.W.Frag} {mg : PySem.Str → Option Value} {base : Heap}
theorem sc_titled : FnScope ["self", "word", "name"] ["self", "word", "name"] (defScope s_Organ_titled) := ⟨rfl, rfl, rfl, by decide +kernel, rfl, by decide +kernel, by decide +kernel⟩
def spTitled (K : PySem.W.Frag) : Sp := fun vs H Q _ => ∃ (A : OA) (o : Org) (ds : List (PySem.Str × Det)) (wd : PySem.Str) (x : V), vs = [.ref (A.at_ 0), .str wd, x] ∧ OrgG K H A o ds ∧ TxV x ∧ ∀ H', Same H H' → Q (optV (o.titledV wd x)) H'
theorem ok_titled (T : Txt K mg) : C8.Met P w K mg base 2 (cOrgan K) "titled" (spTitled K) [] := by
  obtain ⟨fd, F⟩ := T.d_Organ_titled
  refine metOf (ps := ["self", "word", "name"]) F (fnNox F sc_titled (fun vs H Q E h => ?_) (fun cdv A outer s H vs Q E hr h => ?_)) T.cl_Organ T.m_Organ_titled fun _ _ _ _ _ _ us hl => match us, hl with | [_, _, _], _ => rfl
  · obtain ⟨A, o, ds, wd, x, rfl, _⟩ := h
    rfl
  · obtain ⟨A, o, ds, wd, x, rfl, G, hx, k⟩ := h
    have hu := hu_of hr
    refine ⟨_, pss_cons (ps_if (PW.pt (pw_or (pt_not (pt_val (C8.pe_c (ok_is_name T) hr (by decide) (by rfl) (pa_cons (pv 2) pa_nil))))
        (pw_or (pt_cmp (pc_dnotin hu (pv 2) (pe_fld (pv 0) rfl)))
        (pw_or1 (pt_cmpR op_ne (pe_ix ix_tup (pe_dget hu (pe_fld (pv 0) rfl) (pv 2) (fun _ _ => rfl)) pe_int (fun _ _ => rfl)) (pv 1) (nomark _)))))) (pss_one (ps_ret pe_non)) pss_nil)
      (pss_one (ps_ret (pe_ix ix_tup (pe_dget hu (pe_fld (pv 0) rfl) (pv 2) (fun _ _ => rfl)) pe_int (fun _ _ => rfl)))), ?_⟩
    refine ⟨_, rfl, x, rfl, hx, fun H1 s1 => ⟨_, rfl, ?_⟩⟩
    have G1 := G.same s1
    rcases hx with rfl | ⟨n, rfl, hn⟩
    · exact iteT (iteT (k H1 s1))
    · have fin : isName n = false → o.titledV wd (.str n) = none := fun e => by
        show (if isName n = true then _ else none) = none
        rw [if_neg (by rw [e]; exact Bool.false_ne_true)]
      cases hv : isName n with
      | false =>
        have e : nameV (.str n) = false := hv
        rw [e]
        have k1 := k H1 s1
        rw [fin hv] at k1
        exact iteT (iteT k1)
      | true =>
        have e : nameV (.str n) = true := hv
        rw [e]
        refine iteF ?_
        obtain ⟨kvs, t1, t2, t3⟩ := G1.ti
        have tn := t3 n
        refine ⟨_, rfl, _, rfl, _, cOrgan K, A.dx, _, _, rfl, G1.ob, T.cl_Organ, T.a_Organ_titles, of_titles _ _, _, _, rfl, DGet.k (k := Sum.inr n) t1, _, rfl, ?_⟩
        have et : o.titledV wd (.str n) = (match o.tit n with | some (w', i) => if w' = wd then some i else none | none => none) := by
          show (if isName n = true then _ else none) = _
          exact if_pos hv
        cases ht : o.tit n with
        | none =>
          rw [ht] at tn et
          have tn' : valV kvs (Sum.inr n : Key) = none := tn
          rw [tn']
          have k1 := k H1 s1
          rw [et] at k1
          exact iteT (iteT k1)
        | some r =>
          obtain ⟨w', i⟩ := r
          rw [ht] at tn et
          obtain ⟨t, tv, tt⟩ := tn
          rw [tv]
          refine iteF ?_
          have g : DGet H1 (A.at_ 7) (.str n) (some (.ref t)) := by
            rw [← tv]
            exact DGet.k (k := Sum.inr n) t1
          refine ⟨_, rfl, _, cOrgan K, A.dx, _, _, rfl, G1.ob, T.cl_Organ, T.a_Organ_titles, of_titles _ _, _, rfl, _, _, rfl, g, t, _, _, _, rfl, rfl, SqT.of tt, rfl, _, rfl, rfl, _, rfl, ?_⟩
          have k1 := k H1 s1
          rw [et] at k1
          by_cases hw : w' = wd
          · have e2 : decide (V.str w' = V.str wd) = true := decide_eq_true (by rw [hw])
            rw [e2]
            refine iteF ?_
            refine ⟨_, rfl, _, cOrgan K, A.dx, _, _, rfl, G1.ob, T.cl_Organ, T.a_Organ_titles, of_titles _ _, _, rfl, _, _, rfl, g, t, _, _, _, rfl, rfl, SqT.of tt, rfl, ?_⟩
            have k2 : Q (optV (if w' = wd then some i else none)) H1 := k1
            rw [if_pos hw] at k2
            exact k2
          · have e2 : decide (V.str w' = V.str wd) = false := decide_eq_false fun z => hw (by cases z; rfl)
            rw [e2]
            refine iteT ?_
            have k2 : Q (optV (if w' = wd then some i else none)) H1 := k1
            rw [if_neg hw] at k2
            exact k2
end
end WC
/-! The organ's further readers. -/
namespace WC
open PySem PySem.Spec PyProof.Rows L2
section
variable {P : Program} {w : World} {K : PySem.W.Frag} {mg : PySem.Str → Option Value} {base : Heap}
/-! ### board_number, knob_number -/
theorem sc_board_number : FnScope ["self", "name"] ["self", "name"] (defScope s_Organ_board_number) := ⟨rfl, rfl, rfl, by decide +kernel, rfl, by decide +kernel, by decide +kernel⟩
theorem sc_knob_number : FnScope ["self", "name"] ["self", "name"] (defScope s_Organ_knob_number) := ⟨rfl, rfl, rfl, by decide +kernel, rfl, by decide +kernel, by decide +kernel⟩
def spNumber (K : PySem.W.Frag) (wd : PySem.Str) : Sp := fun vs H Q _ => ∃ (A : OA) (o : Org) (ds : List (PySem.Str × Det)) (x : V), vs = [.ref (A.at_ 0), x] ∧ OrgG K H A o ds ∧ TxV x ∧ ∀ H', Same H H' → Q (optV (o.titledV wd x)) H'
theorem ok_board_number (T : Txt K mg) : C8.Met P w K mg base 3 (cOrgan K) "board_number" (spNumber K "board") [] := by
  obtain ⟨fd, F⟩ := T.d_Organ_board_number
  refine metOf (ps := ["self", "name"]) F (fnNox F sc_board_number (fun vs H Q E h => ?_) (fun cdv A outer s H vs Q E hr h => ?_)) T.cl_Organ T.m_Organ_board_number fun _ _ _ _ _ _ us hl => match us, hl with | [_, _], _ => rfl
  · obtain ⟨A, o, ds, x, rfl, _⟩ := h
    rfl
  · obtain ⟨A, o, ds, x, rfl, G, hx, k⟩ := h
    refine ⟨_, pss_one (ps_ret (C8.pe_mt (ok_titled T) hr (by decide) (pv 0) (pa_cons pe_str (pa_cons (pv 1) pa_nil)))), ?_⟩
    exact ⟨_, rfl, A.at_ 0, A.dx, _, rfl, G.ob, of_no _ _ _ (by decide +kernel), _, rfl, A, o, ds, "board", x, rfl, G, hx, k⟩
theorem ok_knob_number (T : Txt K mg) : C8.Met P w K mg base 3 (cOrgan K) "knob_number" (spNumber K "knob") [] := by
  obtain ⟨fd, F⟩ := T.d_Organ_knob_number
  refine metOf (ps := ["self", "name"]) F (fnNox F sc_knob_number (fun vs H Q E h => ?_) (fun cdv A outer s H vs Q E hr h => ?_)) T.cl_Organ T.m_Organ_knob_number fun _ _ _ _ _ _ us hl => match us, hl with | [_, _], _ => rfl
  · obtain ⟨A, o, ds, x, rfl, _⟩ := h
    rfl
  · obtain ⟨A, o, ds, x, rfl, G, hx, k⟩ := h
    refine ⟨_, pss_one (ps_ret (C8.pe_mt (ok_titled T) hr (by decide) (pv 0) (pa_cons pe_str (pa_cons (pv 1) pa_nil)))), ?_⟩
    exact ⟨_, rfl, A.at_ 0, A.dx, _, rfl, G.ob, of_no _ _ _ (by decide +kernel), _, rfl, A, o, ds, "knob", x, rfl, G, hx, k⟩
/-! ### knobs, steps: new lists -/
theorem sc_oknobs : FnScope ["self"] ["self"] (defScope s_Organ_knobs) := ⟨rfl, rfl, rfl, by decide +kernel, rfl, by decide +kernel, by decide +kernel⟩
theorem sc_osteps : FnScope ["self"] ["self"] (defScope s_Organ_steps) := ⟨rfl, rfl, rfl, by decide +kernel, rfl, by decide +kernel, by decide +kernel⟩
def spCopy (K : PySem.W.Frag) (j : Nat) : Sp := fun vs H Q _ => ∃ (A : OA) (o : Org) (xs : List V), vs = [.ref (A.at_ 0)] ∧ OrgAt K H A o ∧ H (A.at_ j) = some (.lst xs) ∧ ∀ l, H l = none → Q (.ref l) (upd H l (.lst xs))
theorem ok_oknobs (T : Txt K mg) : C8.Met P w K mg base 1 (cOrgan K) "knobs" (spCopy K 4) [] := by
  obtain ⟨fd, F⟩ := T.d_Organ_knobs
  refine metOf (ps := ["self"]) F (fnNox F sc_oknobs (fun vs H Q E h => ?_) (fun cdv A outer s H vs Q E hr h => ?_)) T.cl_Organ T.m_Organ_knobs fun _ _ _ _ _ _ us hl => match us, hl with | [_], _ => rfl
  · obtain ⟨A, o, xs, rfl, _⟩ := h
    rfl
  · obtain ⟨A, o, xs, rfl, G, hx, k⟩ := h
    refine ⟨_, pss_one (ps_ret (pe_callTy call_list_of (by rfl) T.n_list (by decide +kernel) (pa_cons (pe_fld (pv 0) rfl) pa_nil))), ?_⟩
    exact ⟨_, rfl, _, cOrgan K, A.dx, _, _, rfl, G.ob, T.cl_Organ, T.a_Organ_draws, of_draws _ _, _, xs, rfl, .inl (SqL.of hx), k⟩
theorem ok_osteps (T : Txt K mg) : C8.Met P w K mg base 1 (cOrgan K) "steps" (spCopy K 6) [] := by
  obtain ⟨fd, F⟩ := T.d_Organ_steps
  refine metOf (ps := ["self"]) F (fnNox F sc_osteps (fun vs H Q E h => ?_) (fun cdv A outer s H vs Q E hr h => ?_)) T.cl_Organ T.m_Organ_steps fun _ _ _ _ _ _ us hl => match us, hl with | [_], _ => rfl
  · obtain ⟨A, o, xs, rfl, _⟩ := h
    rfl
  · obtain ⟨A, o, xs, rfl, G, hx, k⟩ := h
    refine ⟨_, pss_one (ps_ret (pe_callTy call_list_of (by rfl) T.n_list (by decide +kernel) (pa_cons (pe_fld (pv 0) rfl) pa_nil))), ?_⟩
    exact ⟨_, rfl, _, cOrgan K, A.dx, _, _, rfl, G.ob, T.cl_Organ, T.a_Organ_stairs, of_stairs _ _, _, xs, rfl, .inl (SqL.of hx), k⟩
/-! ### stop, coupler, mute -/
theorem atNat {xs : List V} {i : Nat} {v : V} (h : xs[i]? = some v) : atI xs (i : Int) = some v := by
  have hi := (List.getElem?_eq_some_iff.mp h).1
  unfold atI ixN
  rw [if_pos (Int.natCast_nonneg i), if_pos (by omega)]
  exact h
theorem sc_stop : FnScope ["self", "knob", "board", "lines"] ["self", "knob"] (defScope s_Organ_stop) := ⟨rfl, rfl, rfl, by decide +kernel, rfl, by decide +kernel, by decide +kernel⟩
def spStop (K : PySem.W.Frag) : Sp := fun vs H Q _ => ∃ (A : OA) (o : Org) (i : Nat) (n : PySem.Str) (b : Nat), vs = [.ref (A.at_ 0), .int (i : Int)] ∧ OrgAt K H A o ∧ o.knobs[i]? = some (n, .stop b) ∧
  ∀ (H' : Hp) (t l : Addr), Same H H' → H' t = some (.tup [.int (b : Int), .ref l]) → Q (.ref t) H'
theorem ok_stop (T : Txt K mg) : C8.Met P w K mg base 1 (cOrgan K) "stop" (spStop K) [] := by
  obtain ⟨fd, F⟩ := T.d_Organ_stop
  have nd := sc_stop.nd
  refine metOf (ps := ["self", "knob"]) F (fnNox F sc_stop (fun vs H Q E h => ?_) (fun cdv A outer s H vs Q E hr h => ?_)) T.cl_Organ T.m_Organ_stop fun _ _ _ _ _ _ us hl => match us, hl with | [_, _], _ => rfl
  · obtain ⟨A, o, i, n, b, rfl, _⟩ := h
    rfl
  · obtain ⟨A, o, i, n, b, rfl, G, hi, k⟩ := h
    refine ⟨_, pss_cons (ps_asg (pe_ix ix_list (pe_fld (pv 0) rfl) (pv 1) (fun _ _ => rfl)) (pg_tup rfl (pgs_cons (pg_name (i := 2) nd rfl (.inl rfl)) (pgs_cons (pg_name (i := 3) nd rfl (.inl rfl)) pgs_nil))))
      (pss_one (ps_ret (pe_tup (pa_cons (pv 2) (pa_cons (pe_callTy call_list_of (by rfl) T.n_list (by decide +kernel) (pa_cons (pv 3) pa_nil)) pa_nil))))), ?_⟩
    obtain ⟨vs, e1, e2⟩ := G.de
    obtain ⟨v, hv, d⟩ := e2.getR hi
    obtain ⟨t, l, ls, rfl, h1, h2, h3⟩ := d
    refine ⟨_, rfl, _, cOrgan K, A.dx, _, _, rfl, G.ob, T.cl_Organ, T.a_Organ_details, of_details _ _, _, rfl, _, vs, _, _, rfl, rfl, SqL.of e1, atNat hv, ?_⟩
    refine ⟨t, _, rfl, SqT.of h1, rfl, _, _, rfl, _, _, rfl, rfl, ?_⟩
    refine ⟨_, rfl, _, rfl, l, ls, rfl, .inl (SqL.of h3), fun q hq => ⟨by show 2 ≤ sizeLine; decide, fun r hr2 => ?_⟩⟩
    exact k _ r q ((Same.nw hq).trans (Same.nw hr2)) upd_same
theorem sc_coupler : FnScope ["self", "knob"] ["self", "knob"] (defScope s_Organ_coupler) := ⟨rfl, rfl, rfl, by decide +kernel, rfl, by decide +kernel, by decide +kernel⟩
theorem sc_mute : FnScope ["self", "knob"] ["self", "knob"] (defScope s_Organ_mute) := ⟨rfl, rfl, rfl, by decide +kernel, rfl, by decide +kernel, by decide +kernel⟩
def spDet (K : PySem.W.Frag) : Sp := fun vs H Q _ => ∃ (A : OA) (o : Org) (i : Nat) (n : PySem.Str) (d : Det), vs = [.ref (A.at_ 0), .int (i : Int)] ∧ OrgAt K H A o ∧ o.knobs[i]? = some (n, d) ∧ ∀ v, DetAt H A v d → Q v H
theorem ok_coupler (T : Txt K mg) : C8.Met P w K mg base 1 (cOrgan K) "coupler" (spDet K) [] := by
  obtain ⟨fd, F⟩ := T.d_Organ_coupler
  refine metOf (ps := ["self", "knob"]) F (fnNox F sc_coupler (fun vs H Q E h => ?_) (fun cdv A outer s H vs Q E hr h => ?_)) T.cl_Organ T.m_Organ_coupler fun _ _ _ _ _ _ us hl => match us, hl with | [_, _], _ => rfl
  · obtain ⟨A, o, i, n, d, rfl, _⟩ := h
    rfl
  · obtain ⟨A, o, i, n, d, rfl, G, hi, k⟩ := h
    refine ⟨_, pss_one (ps_ret (pe_ix ix_list (pe_fld (pv 0) rfl) (pv 1) (fun _ _ => rfl))), ?_⟩
    obtain ⟨vs, e1, e2⟩ := G.de
    obtain ⟨v, hv, d⟩ := e2.getR hi
    exact ⟨_, rfl, _, cOrgan K, A.dx, _, _, rfl, G.ob, T.cl_Organ, T.a_Organ_details, of_details _ _, _, rfl, _, vs, _, _, rfl, rfl, SqL.of e1, atNat hv, k _ d⟩
theorem ok_mute (T : Txt K mg) : C8.Met P w K mg base 1 (cOrgan K) "mute" (spDet K) [] := by
  obtain ⟨fd, F⟩ := T.d_Organ_mute
  refine metOf (ps := ["self", "knob"]) F (fnNox F sc_mute (fun vs H Q E h => ?_) (fun cdv A outer s H vs Q E hr h => ?_)) T.cl_Organ T.m_Organ_mute fun _ _ _ _ _ _ us hl => match us, hl with | [_, _], _ => rfl
  · obtain ⟨A, o, i, n, d, rfl, _⟩ := h
    rfl
  · obtain ⟨A, o, i, n, d, rfl, G, hi, k⟩ := h
    refine ⟨_, pss_one (ps_ret (pe_ix ix_list (pe_fld (pv 0) rfl) (pv 1) (fun _ _ => rfl))), ?_⟩
    obtain ⟨vs, e1, e2⟩ := G.de
    obtain ⟨v, hv, d⟩ := e2.getR hi
    exact ⟨_, rfl, _, cOrgan K, A.dx, _, _, rfl, G.ob, T.cl_Organ, T.a_Organ_details, of_details _ _, _, rfl, _, vs, _, _, rfl, rfl, SqL.of e1, atNat hv, k _ d⟩
/-! ### many_of -/
theorem sc_many_of : FnScope ["self", "word", "knob"] ["self", "word"] (defScope s_Organ_many_of) := ⟨rfl, rfl, rfl, by decide +kernel, rfl, by decide +kernel, by decide +kernel⟩
def spMany (K : PySem.W.Frag) : Sp := fun vs H Q _ => ∃ (A : OA) (o : Org) (ds : List (PySem.Str × Det)) (wd : PySem.Str), vs = [.ref (A.at_ 0), .str wd] ∧ OrgG K H A o ds ∧ o.knobs.length ≤ 1000 ∧ ∀ H', Same H H' → Q (.int (o.many wd : Int)) H'
theorem filt_more {α : Type} {p : α → Bool} {l : List α} {i : Nat} {x : α} (h : l[i]? = some x) : (l.take (i + 1)).filter p = (l.take i).filter p ++ (if p x = true then [x] else []) := by
  rw [take_more h, List.filter_append]
  congr 1
  cases e : p x with
  | true => rw [List.filter_cons_of_pos e] ; rfl
  | false => rw [List.filter_cons_of_neg (by rw [e]; exact Bool.false_ne_true)] ; rfl
theorem ok_many_of (T : Txt K mg) : C8.Met P w K mg base 1 (cOrgan K) "many_of" (spMany K) [] := by
  obtain ⟨fd, F⟩ := T.d_Organ_many_of
  have nd := sc_many_of.nd
  refine metOf (ps := ["self", "word"]) F (fnNox F sc_many_of (fun vs H Q E h => ?_) (fun cdv A outer s H vs Q E hr h => ?_)) T.cl_Organ T.m_Organ_many_of fun _ _ _ _ _ _ us hl => match us, hl with | [_, _], _ => rfl
  · obtain ⟨A, o, ds, wd, rfl, _⟩ := h
    rfl
  · obtain ⟨A, o, ds, wd, rfl, G, hz, k⟩ := h
    refine ⟨_, pss_one (ps_ret (pe_callB call_len_seq (by rfl) T.n_len PySem.boot_len (pa_cons
      (pe_lc (own := [("knob", 2)]) (g := gName 2) (tt := tTest (tOp rEq (tOp (rIxT K) (tVar 2) (tC (.int 0))) (tVar 1))) (te := tVar 2) rfl nd (pi_list (pe_fld (pv 0) rfl)) (blkOk_by (N := ["self", "word", "knob"]) (sc := defScope s_Organ_many_of) (by decide +kernel)) (fun _ _ _ _ _ => pg_name (i := 2) nd rfl (Or.inl rfl))
        (fun _ _ _ _ _ => pts_one (pt_cmpR op_eq (pe_ix ix_tup (pv 2) pe_int (fun _ _ => rfl)) (pv 1) (nomark _)))
        (fun _ _ _ _ _ => pv 2)) pa_nil))), ?_⟩
    obtain ⟨ts, e1, e2⟩ := G.dr
    have ht : ts.length = o.knobs.length := Paired.length e2
    refine ⟨_, rfl, _, cOrgan K, A.dx, _, _, rfl, G.ob, T.cl_Organ, T.a_Organ_draws, of_draws _ _, _, rfl, ⟨_, SqL.of e1⟩, fun D hD => ?_⟩
    have nD : A.at_ 4 ≠ D := ne_of_none e1 hD
    refine lc_list (K := K) (a := A.at_ 4) (xs := ts.map V.ref) (fun i H' => ∃ acc : List V, H' = upd H D (.lst acc) ∧ acc.length = ((o.knobs.take i).filter fun k => decide (k.2.word = wd)).length) ⟨[], rfl, rfl⟩
      (fun i H' _ ⟨acc, e, _⟩ => by rw [e]; exact SqL.of (by rw [upd_ne nD]; exact e1)) ?_ ?_
    · rintro i x H1 hi ⟨acc, rfl, hl⟩
      obtain ⟨t, hi2, rfl⟩ := get_map hi
      obtain ⟨kk, hk, htup⟩ := e2.getL hi2
      have hi3 : i < o.knobs.length := (List.getElem?_eq_some_iff.mp hk).1
      have htup' : (upd H D (.lst acc)) t = some (.tup [.str kk.2.word, .str kk.1]) := by
        rw [upd_ne (ne_of_none htup hD)]
        exact htup
      refine ⟨rfl, _, rfl, t, _, _, _, rfl, rfl, SqT.of htup', rfl, _, rfl, rfl, _, rfl, ?_⟩
      have fm := filt_more (p := fun k : PySem.Str × Det => decide (k.2.word = wd)) hk
      by_cases hw : kk.2.word = wd
      · have e : decide (V.str kk.2.word = V.str wd) = true := decide_eq_true (by rw [hw])
        rw [e]
        refine iteT ⟨_, rfl, acc, upd_same, ?_, acc ++ [.ref t], upd_upd, ?_⟩
        · rw [hl]
          refine Nat.lt_of_le_of_lt (List.length_filter_le _ _) ?_
          rw [List.length_take]
          exact Nat.lt_of_le_of_lt (Nat.min_le_right _ _) (small1000 hz)
        · rw [fm, if_pos (decide_eq_true hw), List.length_append, List.length_append, hl]
          rfl
      · have e : decide (V.str kk.2.word = V.str wd) = false := decide_eq_false fun z => hw (by cases z; rfl)
        rw [e]
        refine iteF ⟨acc, rfl, ?_⟩
        rw [fm, if_neg (by simp [hw]), List.append_nil]
        exact hl
    · rintro H1 ⟨acc, rfl, hl⟩
      rw [List.length_map, ht, List.take_length] at hl
      refine ⟨D, acc, rfl, .inl (SqL.of upd_same), ?_⟩
      rw [hl]
      exact k _ (Same.nw hD)
end
end WC
/-! The organ being made: what stood ahead stands; take_board, take_rank, add_knob. -/
namespace WC
open PySem PySem.Spec PyProof.Rows L2
/-- the list of the latest stop's lines is one of F -/
def LnF (F : Addr → Prop) (H : Hp) (v : V) : Prop := ∃ (t l : Addr) (b : Int), v = .ref t ∧ H t = some (.tup [.int b, .ref l]) ∧ F l
def LnAt (F : Addr → Prop) (H : Hp) (q : Addr) (la : Option Nat) : Prop := ∀ i, la = some i → ∃ vs : List V, H q = some (.lst vs) ∧ ∀ v, vs[i]? = some v → LnF F H v
structure OrgF (K : PySem.W.Frag) (H0 H : Hp) (A : OA) (o : Org) (ds : List (PySem.Str × Det)) : Prop where
  g : OrgG K H A o ds
  fr : Same H0 H
  nw : ∀ i, i < 8 → H0 (A.at_ i) = none
  ln : LnAt (fun l => H0 l = none) H (A.at_ 5) o.latest
section
variable {K : PySem.W.Frag} {H0 H H' : Hp} {A : OA} {o o' : Org} {ds ds' : List (PySem.Str × Det)} {p : Addr} {u : HO}
theorem LnAt.but {F : Addr → Prop} {q : Addr} {la : Option Nat} (x : LnAt F H q la) (k : But p H H') (ne : q ≠ p) : LnAt F H' q la := fun i hi => by
  obtain ⟨vs, h1, h⟩ := x i hi
  refine ⟨vs, k.kp _ _ h1 ne, fun v hv => ?_⟩
  obtain ⟨t, l, b, h2, h3, h4⟩ := h v hv
  exact ⟨t, l, b, h2, k.tup h3, h4⟩
theorem sameUp (s : Same H0 H) (h : H0 p = none) : Same H0 (upd H p u) := fun b o e => by
  rw [upd_ne (ne_of_none e h)]
  exact s b o e
theorem OrgF.at (x : OrgF K H0 H A o ds) (j : Nat) (hj : j < 8) (h5 : j ≠ 5) (g : OrgG K (upd H (A.at_ j) u) A o' ds') (e : o'.latest = o.latest) : OrgF K H0 (upd H (A.at_ j) u) A o' ds' :=
  ⟨g, sameUp x.fr (x.nw j hj), x.nw, by rw [e]; exact x.ln.but (x.g.but j hj u) (A.ne 5 j ⟨by decide, hj, fun z => h5 z.symm⟩)⟩
theorem OrgF.atLa (x : OrgF K H0 H A o ds) (g : OrgG K (upd H (A.at_ 0) u) A o' ds') (h : LnAt (fun l => H0 l = none) H (A.at_ 5) o'.latest) : OrgF K H0 (upd H (A.at_ 0) u) A o' ds' :=
  ⟨g, sameUp x.fr (x.nw 0 (by decide)), x.nw, h.but (x.g.but 0 (by decide) u) (A.ne 5 0)⟩
theorem OrgF.new (x : OrgF K H0 H A o ds) (h : H p = none) : OrgF K H0 (upd H p u) A o ds :=
  ⟨x.g.new h, x.fr.trans (Same.nw h), x.nw, x.ln.but (But.nw h) fun z => x.g.outNew h 5 (by decide) z.symm⟩
theorem OrgF.same (x : OrgF K H0 H A o ds) (s : Same H H') : OrgF K H0 H' A o ds :=
  ⟨x.g.same s, x.fr.trans s, x.nw, fun i hi => by
    obtain ⟨vs, h1, h⟩ := x.ln i hi
    refine ⟨vs, s _ _ h1, fun v hv => ?_⟩
    obtain ⟨t, l, b, h2, h3, h4⟩ := h v hv
    exact ⟨t, l, b, h2, s _ _ h3, h4⟩⟩
/-- a row stands at t -/
def RowAt (H : Hp) (t : Addr) (r : Row) : Prop := H t = some (.tup r.vals)
/-- a row is taken -/
def spTk (K : PySem.W.Frag) (ok : Row → Prop) : Sp := fun vs H Q _ => ∃ (H0 : Hp) (A : OA) (o o' : Org) (t : Addr) (r : Row), vs = [.ref (A.at_ 0), .ref t] ∧ ok r ∧ OrgF K H0 H A o o.knobs ∧ RowAt H t r ∧ r.Sm ∧ o.Sz 500 ∧ o.take r = some o' ∧ ∀ H', OrgF K H0 H' A o' o'.knobs → Q (.bl true) H'
/-- the row's own word stands ahead in take_row: latest is None then -/
def spTkN (K : PySem.W.Frag) (ok : Row → Prop) : Sp := fun vs H Q _ => ∃ (H0 : Hp) (A : OA) (o o' : Org) (t : Addr) (r : Row), vs = [.ref (A.at_ 0), .ref t] ∧ ok r ∧ OrgF K H0 H A o o.knobs ∧ o.latest = none ∧ RowAt H t r ∧ r.Sm ∧ o.Sz 500 ∧ o.take r = some o' ∧ ∀ H', OrgF K H0 H' A o' o'.knobs → Q (.bl true) H'
end
section
variable {P : Program} {w : World} {K : PySem.W.Frag} {mg : PySem.Str → Option Value} {base : Heap}
theorem lt_line {n : Nat} (h : n ≤ 500) : n < sizeLine := Nat.lt_of_le_of_lt h (by decide)
def isBoard : Row → Prop
  | .board .. => True
  | _ => False
def isRank : Row → Prop
  | .rank .. => True
  | _ => False
theorem sc_take_board : FnScope ["self", "row"] ["self", "row"] (defScope s_Organ_take_board) := ⟨rfl, rfl, rfl, by decide +kernel, rfl, by decide +kernel, by decide +kernel⟩
theorem ok_take_board (T : Txt K mg) : C8.Met P w K mg base 3 (cOrgan K) "take_board" (spTkN K isBoard) [] := by
  obtain ⟨fd, F⟩ := T.d_Organ_take_board
  obtain ⟨t1, g1⟩ := T.i_MOST_KEYS
  obtain ⟨t2, g2⟩ := T.i_MOST_BOARDS
  refine metOf (ps := ["self", "row"]) F (fnNox F sc_take_board (fun vs H Q E h => ?_) (fun cdv Ar outer s H vs Q E hr h => ?_)) T.cl_Organ T.m_Organ_take_board fun _ _ _ _ _ _ us hl => match us, hl with | [_, _], _ => rfl
  · obtain ⟨H0, A, o, o', t, r, rfl, _⟩ := h
    rfl
  · obtain ⟨H0, A, o, o', t, r, rfl, hk, G, hla, hrow, sm, sz, htk, k⟩ := h
    have hu := hu_of hr
    refine ⟨_, pss_cons (ps_if (PW.pt (pw_or (pt_cmpR op_ne (pe_callB call_len_seq (by rfl) T.n_len PySem.boot_len (pa_cons (pv 1) pa_nil)) pe_int (nomark _))
        (pw_or (pt_not (pt_val (C8.pe_c (ok_is_within T) hr (by decide) (by rfl) (pa_cons (pe_ix ix_tup (pv 1) pe_int (fun _ _ => rfl)) (pa_cons pe_int (pa_cons (pe_glob (v := .int 61) (by rfl) g1 ⟨_, rfl⟩) pa_nil))))))
        (pw_or1 (pt_cmpR op_eq (pe_callB call_len_seq (by rfl) T.n_len PySem.boot_len (pa_cons (pe_fld (pv 0) rfl) pa_nil)) (pe_glob (v := .int 5) (by rfl) g2 ⟨_, rfl⟩) (nomark _)))))) (pss_one ps_never) pss_nil)
      (pss_cons (ps_dput hu (pe_fld (pv 0) rfl) (pe_ix ix_tup (pv 1) pe_int (fun _ _ => rfl)) (pe_tup (pa_cons pe_str (pa_cons (pe_callB call_len_seq (by rfl) T.n_len PySem.boot_len (pa_cons (pe_fld (pv 0) rfl) pa_nil)) pa_nil))) rfl)
      (pss_cons (ps_expr (pe_bm PySem.F.plainAttrs_list PySem.F.slot_list_append PySem.F.type_list_append mt_append (pe_fld (pv 0) rfl) (pa_cons (pe_tup (pa_cons (pe_ix ix_tup (pv 1) pe_int (fun _ _ => rfl)) (pa_cons (pe_ix ix_tup (pv 1) pe_int (fun _ _ => rfl)) pa_nil))) pa_nil)))
      (pss_one (ps_ret pe_bl)))), ?_⟩
    cases r with
    | board n kk =>
      have ht : (if o.fresh n = true ∧ (1 ≤ kk ∧ kk ≤ 61) ∧ o.manuals.length ≠ 5 then some { o with latest := none, tit := o.name n "board" o.manuals.length, ntit := o.ntit + 1, manuals := o.manuals ++ [(n, kk)] } else none) = some o' := htk
      by_cases c : o.fresh n = true ∧ (1 ≤ kk ∧ kk ≤ 61) ∧ o.manuals.length ≠ 5
      · rw [if_pos c] at ht
        obtain ⟨c1, c2, c3⟩ := c
        obtain rfl := Option.some.inj ht
        have hrow : H t = some (.tup [.str "board", .str n, .int kk]) := hrow
        obtain ⟨ts, m1, m2⟩ := G.g.ma
        have ml : ((ts.map V.ref).length : Int) = (o.manuals.length : Int) := by rw [List.length_map, Paired.length m2]
        refine ⟨_, rfl, t, _, rfl, .inr (SqT.of hrow), rfl, _, rfl, iteNS rfl ?_⟩
        refine ⟨_, rfl, t, _, _, _, rfl, rfl, SqT.of hrow, rfl, _, _, _, rfl, _, rfl, ?_⟩
        rw [decide_eq_true c2]
        refine iteF ⟨_, rfl, _, cOrgan K, A.dx, _, _, rfl, G.g.ob, T.cl_Organ, T.a_Organ_manuals, of_manuals _ _, _, _, rfl, .inl (SqL.of m1), rfl, _, rfl, ?_⟩
        have e5 : decide (V.int ((ts.map V.ref).length : Int) = V.int 5) = false := decide_eq_false fun z => by
          have z2 : ((ts.map V.ref).length : Int) = 5 := by injection z
          rw [ml] at z2
          exact c3 (by omega)
        rw [e5]
        refine iteF ?_
        -- self.titles[row[1]] = ('board', len(self.manuals))
        refine ⟨_, rfl, _, cOrgan K, A.dx, _, _, rfl, G.g.ob, T.cl_Organ, T.a_Organ_manuals, of_manuals _ _, _, _, rfl, .inl (SqL.of m1), by show 2 ≤ sizeLine; decide, fun q hq => ?_⟩
        have G1 : OrgF K H0 (upd H q (.tup [.str "board", .int (o.manuals.length : Int)])) A o o.knobs := G.new hq
        obtain ⟨kvs, y1, y2, y3⟩ := G1.g.ti
        have nq : t ≠ q := ne_of_none hrow hq
        rw [ml]
        refine ⟨_, rfl, _, cOrgan K, A.dx, _, _, rfl, G1.g.ob, T.cl_Organ, T.a_Organ_titles, of_titles _ _, _, rfl, t, _, _, _, rfl, rfl, SqT.of (by rw [upd_ne nq]; exact hrow), rfl, _, _, rfl, DPut.k (k := Sum.inr n) y1 (Nat.lt_of_le_of_lt y2 (lt_line sz.ti)), ?_⟩
        have G2 := G1.at 7 (by decide) (by decide) (G1.g.sTi (n := n) (w := "board") (i := o.manuals.length) y1 upd_same) rfl
        obtain ⟨ts2, n1, n2⟩ := G2.g.ma
        have h7 : A.at_ 7 ≠ t := fun z => by
          rw [z, upd_ne nq, hrow] at y1
          cases y1
        have hrow2 : (upd (upd H q (.tup [.str "board", .int (o.manuals.length : Int)])) (A.at_ 7) (.dK (putK kvs (Sum.inr n : Key) (.ref q)))) t = some (.tup [.str "board", .str n, .int kk]) := by
          rw [upd_ne h7.symm, upd_ne nq]
          exact hrow
        refine ⟨_, rfl, _, cOrgan K, A.dx, _, _, rfl, G2.g.ob, T.cl_Organ, T.a_Organ_manuals, of_manuals _ _, .inl ⟨rfl, _, SqL.of n1⟩, ?_⟩
        refine ⟨_, rfl, t, _, _, _, rfl, rfl, SqT.of hrow2, rfl, _, rfl, t, _, _, _, rfl, rfl, SqT.of hrow2, rfl, by show 2 ≤ sizeLine; decide, fun q2 hq2 => ?_⟩
        have G3 := G2.new (u := .tup [.str n, .int kk]) hq2
        have n1' := (G2.g.new (u := .tup [.str n, .int kk]) hq2).ma
        have e2 : (upd (upd (upd H q (.tup [.str "board", .int (o.manuals.length : Int)])) (A.at_ 7) (.dK (putK kvs (Sum.inr n : Key) (.ref q)))) q2 (.tup [.str n, .int kk])) (A.at_ 2) = some (.lst (ts2.map V.ref)) := by
          rw [upd_ne (ne_of_none n1 hq2)]
          exact n1
        refine ⟨_, _, _, rfl, rfl, e2, ?_, ?_⟩
        · rw [List.length_map, Paired.length n2]
          exact lt_line sz.man
        · refine k _ ?_
          have G4 := G3.at 2 (by decide) (by decide) (G3.g.sMan (t := q2) (b := (n, kk)) e2 upd_same) rfl
          have e3 : ({ { o with tit := o.name n "board" o.manuals.length, ntit := o.ntit + 1 } with manuals := o.manuals ++ [(n, kk)] } : Org) = { o with latest := none, tit := o.name n "board" o.manuals.length, ntit := o.ntit + 1, manuals := o.manuals ++ [(n, kk)] } := by
            rw [← hla]
          rw [← e3]
          exact G4
      · rw [if_neg c] at ht
        cases ht
    | _ => cases hk
end
end WC
/-! take_rank, add_knob. -/
namespace WC
open PySem PySem.Spec PyProof.Rows L2
section
variable {K : PySem.W.Frag} {H0 H H' : Hp} {A : OA} {o o' : Org} {ds ds' : List (PySem.Str × Det)} {p : Addr} {u : HO}
theorem OrgF.sDe (x : OrgF K H0 H A o ds) {xs : List V} {v : V} {n : PySem.Str} {d : Det} (e : H (A.at_ 5) = some (.lst xs)) (hv : DetAt H A v d) (hw : o.latest = some xs.length → LnsAt H o.nlines v ∧ LnF (fun l => H0 l = none) H v) :
    OrgF K H0 (upd H (A.at_ 5) (.lst (xs ++ [v]))) A o (ds ++ [(n, d)]) := by
  have k := x.g.but 5 (by decide) (.lst (xs ++ [v]))
  refine ⟨x.g.sDe e hv fun z => (hw z).1, sameUp x.fr (x.nw 5 (by decide)), x.nw, fun i hi => ⟨xs ++ [v], upd_same, fun v2 hv2 => ?_⟩⟩
  obtain ⟨vs, h1, h⟩ := x.ln i hi
  rw [e] at h1
  cases h1
  by_cases hi2 : i < xs.length
  · rw [List.getElem?_append_left hi2] at hv2
    obtain ⟨t, l, b, rfl, h3, h4⟩ := h v2 hv2
    exact ⟨t, l, b, rfl, k.tup h3, h4⟩
  · have hi3 : i = xs.length := by
      have := (List.getElem?_eq_some_iff.mp hv2).1
      rw [List.length_append] at this
      simp only [List.length_cons, List.length_nil] at this
      omega
    subst hi3
    rw [List.getElem?_append_right (Nat.le_refl _), Nat.sub_self] at hv2
    have e3 : v = v2 := Option.some.inj hv2
    subst e3
    obtain ⟨t, l, b, rfl, h3, h4⟩ := (hw hi).2
    exact ⟨t, l, b, rfl, k.tup h3, h4⟩
end
section
variable {P : Program} {w : World} {K : PySem.W.Frag} {mg : PySem.Str → Option Value} {base : Heap}
theorem sc_take_rank : FnScope ["self", "row"] ["self", "row"] (defScope s_Organ_take_rank) := ⟨rfl, rfl, rfl, by decide +kernel, rfl, by decide +kernel, by decide +kernel⟩
theorem ok_take_rank (T : Txt K mg) : C8.Met P w K mg base 3 (cOrgan K) "take_rank" (spTkN K isRank) [] := by
  obtain ⟨fd, F⟩ := T.d_Organ_take_rank
  obtain ⟨t1, g1⟩ := T.i_MOST_PIPES
  obtain ⟨t2, g2⟩ := T.i_MOST_WIND
  obtain ⟨t3, g3⟩ := T.i_MOST_RANKS
  refine metOf (ps := ["self", "row"]) F (fnNox F sc_take_rank (fun vs H Q E h => ?_) (fun cdv Ar outer s H vs Q E hr h => ?_)) T.cl_Organ T.m_Organ_take_rank fun _ _ _ _ _ _ us hl => match us, hl with | [_, _], _ => rfl
  · obtain ⟨H0, A, o, o', t, r, rfl, _⟩ := h
    rfl
  · obtain ⟨H0, A, o, o', t, r, rfl, hk, G, hla, hrow, sm, sz, htk, k⟩ := h
    have hu := hu_of hr
    refine ⟨_, pss_cons (ps_if (PW.pt (pw_or (pt_cmpR op_ne (pe_callB call_len_seq (by rfl) T.n_len PySem.boot_len (pa_cons (pv 1) pa_nil)) pe_int (nomark _))
        (pw_or (pt_not (pt_val (C8.pe_c (ok_is_within T) hr (by decide) (by rfl) (pa_cons (pe_ix ix_tup (pv 1) pe_int (fun _ _ => rfl)) (pa_cons pe_int (pa_cons (pe_glob (v := .int 97) (by rfl) g1 ⟨_, rfl⟩) pa_nil))))))
        (pw_or1 (pt_not (pt_val (C8.pe_c (ok_is_within T) hr (by decide) (by rfl) (pa_cons (pe_ix ix_tup (pv 1) pe_int (fun _ _ => rfl)) (pa_cons pe_int (pa_cons (pe_glob (v := .int 1000000000) (by rfl) g2 ⟨_, rfl⟩) pa_nil)))))))))) (pss_one ps_never) pss_nil)
      (pss_cons (ps_if (pt_cmpR op_eq (pe_callB call_len_seq (by rfl) T.n_len PySem.boot_len (pa_cons (pe_fld (pv 0) rfl) pa_nil)) (pe_glob (v := .int 12) (by rfl) g3 ⟨_, rfl⟩) (nomark _)) (pss_one ps_never) pss_nil)
      (pss_cons (ps_dput hu (pe_fld (pv 0) rfl) (pe_ix ix_tup (pv 1) pe_int (fun _ _ => rfl)) (pe_tup (pa_cons pe_str (pa_cons (pe_callB call_len_seq (by rfl) T.n_len PySem.boot_len (pa_cons (pe_fld (pv 0) rfl) pa_nil)) pa_nil))) rfl)
      (pss_cons (ps_expr (pe_bm PySem.F.plainAttrs_list PySem.F.slot_list_append PySem.F.type_list_append mt_append (pe_fld (pv 0) rfl) (pa_cons (pe_tup (pa_cons (pe_ix ix_tup (pv 1) pe_int (fun _ _ => rfl)) (pa_cons (pe_ix ix_tup (pv 1) pe_int (fun _ _ => rfl)) (pa_cons (pe_ix ix_tup (pv 1) pe_int (fun _ _ => rfl)) pa_nil)))) pa_nil)))
      (pss_one (ps_ret pe_bl))))), ?_⟩
    cases r with
    | rank n pp ww =>
      have ht : (if o.fresh n = true ∧ (1 ≤ pp ∧ pp ≤ 97) ∧ (0 ≤ ww ∧ ww ≤ 1000000000) ∧ o.npipes ≠ 12 then some { o with latest := none, tit := o.name n "rank" o.npipes, ntit := o.ntit + 1, npipes := o.npipes + 1 } else none) = some o' := htk
      by_cases c : o.fresh n = true ∧ (1 ≤ pp ∧ pp ≤ 97) ∧ (0 ≤ ww ∧ ww ≤ 1000000000) ∧ o.npipes ≠ 12
      · rw [if_pos c] at ht
        obtain ⟨c1, c2, c3, c4⟩ := c
        obtain rfl := Option.some.inj ht
        have hrow : H t = some (.tup [.str "rank", .str n, .int pp, .int ww]) := hrow
        obtain ⟨xs, m1, m2⟩ := G.g.pi
        have ml : (xs.length : Int) = (o.npipes : Int) := by rw [m2]
        refine ⟨_, rfl, t, _, rfl, .inr (SqT.of hrow), rfl, _, rfl, iteNS rfl ?_⟩
        refine ⟨_, rfl, t, _, _, _, rfl, rfl, SqT.of hrow, rfl, _, _, _, rfl, _, rfl, ?_⟩
        rw [decide_eq_true c2]
        refine iteF ⟨_, rfl, t, _, _, _, rfl, rfl, SqT.of hrow, rfl, _, _, _, rfl, _, rfl, ?_⟩
        rw [decide_eq_true c3]
        refine iteF ⟨_, rfl, _, cOrgan K, A.dx, _, _, rfl, G.g.ob, T.cl_Organ, T.a_Organ_pipework, of_pipework _ _, _, _, rfl, .inl (SqL.of m1), rfl, _, rfl, ?_⟩
        have e5 : decide (V.int (xs.length : Int) = V.int 12) = false := decide_eq_false fun z => by
          have z2 : (xs.length : Int) = 12 := by injection z
          rw [ml] at z2
          exact c4 (by omega)
        rw [e5]
        refine iteF ?_
        refine ⟨_, rfl, _, cOrgan K, A.dx, _, _, rfl, G.g.ob, T.cl_Organ, T.a_Organ_pipework, of_pipework _ _, _, _, rfl, .inl (SqL.of m1), by show 2 ≤ sizeLine; decide, fun q hq => ?_⟩
        have G1 : OrgF K H0 (upd H q (.tup [.str "rank", .int (o.npipes : Int)])) A o o.knobs := G.new hq
        obtain ⟨kvs, y1, y2, y3⟩ := G1.g.ti
        have nq : t ≠ q := ne_of_none hrow hq
        rw [ml]
        refine ⟨_, rfl, _, cOrgan K, A.dx, _, _, rfl, G1.g.ob, T.cl_Organ, T.a_Organ_titles, of_titles _ _, _, rfl, t, _, _, _, rfl, rfl, SqT.of (by rw [upd_ne nq]; exact hrow), rfl, _, _, rfl, DPut.k (k := Sum.inr n) y1 (Nat.lt_of_le_of_lt y2 (lt_line sz.ti)), ?_⟩
        have G2 := G1.at 7 (by decide) (by decide) (G1.g.sTi (n := n) (w := "rank") (i := o.npipes) y1 upd_same) rfl
        obtain ⟨ys, n1, n2⟩ := G2.g.pi
        have h7 : A.at_ 7 ≠ t := fun z => by
          rw [z, upd_ne nq, hrow] at y1
          cases y1
        have hrow2 : (upd (upd H q (.tup [.str "rank", .int (o.npipes : Int)])) (A.at_ 7) (.dK (putK kvs (Sum.inr n : Key) (.ref q)))) t = some (.tup [.str "rank", .str n, .int pp, .int ww]) := by
          rw [upd_ne h7.symm, upd_ne nq]
          exact hrow
        refine ⟨_, rfl, _, cOrgan K, A.dx, _, _, rfl, G2.g.ob, T.cl_Organ, T.a_Organ_pipework, of_pipework _ _, .inl ⟨rfl, _, SqL.of n1⟩, ?_⟩
        refine ⟨_, rfl, t, _, _, _, rfl, rfl, SqT.of hrow2, rfl, _, rfl, t, _, _, _, rfl, rfl, SqT.of hrow2, rfl, _, rfl, t, _, _, _, rfl, rfl, SqT.of hrow2, rfl, by show 3 ≤ sizeLine; decide, fun q2 hq2 => ?_⟩
        have G3 := G2.new (u := .tup [.str n, .int pp, .int ww]) hq2
        have e2 : (upd (upd (upd H q (.tup [.str "rank", .int (o.npipes : Int)])) (A.at_ 7) (.dK (putK kvs (Sum.inr n : Key) (.ref q)))) q2 (.tup [.str n, .int pp, .int ww])) (A.at_ 3) = some (.lst ys) := by
          rw [upd_ne (ne_of_none n1 hq2)]
          exact n1
        refine ⟨_, _, _, rfl, rfl, e2, ?_, ?_⟩
        · rw [n2]
          exact lt_line sz.pip
        · refine k _ ?_
          have G4 := G3.at 3 (by decide) (by decide) (G3.g.sPip (.ref q2) e2) rfl
          have e3 : ({ { o with tit := o.name n "rank" o.npipes, ntit := o.ntit + 1 } with npipes := o.npipes + 1 } : Org) = { o with latest := none, tit := o.name n "rank" o.npipes, ntit := o.ntit + 1, npipes := o.npipes + 1 } := by
            rw [← hla]
          rw [← e3]
          exact G4
      · rw [if_neg c] at ht
        cases ht
    | _ => cases hk
/-! ### add_knob -/
theorem sc_add_knob : FnScope ["self", "word", "name", "detail"] ["self", "word", "name", "detail"] (defScope s_Organ_add_knob) := ⟨rfl, rfl, rfl, by decide +kernel, rfl, by decide +kernel, by decide +kernel⟩
def spAdd (K : PySem.W.Frag) : Sp := fun vs H Q _ => ∃ (H0 : Hp) (A : OA) (o : Org) (n : PySem.Str) (d : Det) (v : V), vs = [.ref (A.at_ 0), .str d.word, .str n, v] ∧ OrgF K H0 H A o o.knobs ∧ DetAt H A v d ∧
  (o.latest = some o.knobs.length → LnsAt H o.nlines v ∧ LnF (fun l => H0 l = none) H v) ∧ o.Sz 500 ∧ ∀ H', OrgF K H0 H' A (o.knob n d) (o.knobs ++ [(n, d)]) → Q .non H'
theorem ok_add_knob (T : Txt K mg) : C8.Met P w K mg base 1 (cOrgan K) "add_knob" (spAdd K) [] := by
  obtain ⟨fd, F⟩ := T.d_Organ_add_knob
  refine metOf (ps := ["self", "word", "name", "detail"]) F (fnNox F sc_add_knob (fun vs H Q E h => ?_) (fun cdv Ar outer s H vs Q E hr h => ?_)) T.cl_Organ T.m_Organ_add_knob fun _ _ _ _ _ _ us hl => match us, hl with | [_, _, _, _], _ => rfl
  · obtain ⟨H0, A, o, n, d, v, rfl, _⟩ := h
    rfl
  · obtain ⟨H0, A, o, n, d, v, rfl, G, hd, hw, sz, k⟩ := h
    have hu := hu_of hr
    refine ⟨_, pss_cons (ps_dput hu (pe_fld (pv 0) rfl) (pv 2) (pe_tup (pa_cons pe_str (pa_cons (pe_callB call_len_seq (by rfl) T.n_len PySem.boot_len (pa_cons (pe_fld (pv 0) rfl) pa_nil)) pa_nil))) rfl)
      (pss_cons (ps_expr (pe_bm PySem.F.plainAttrs_list PySem.F.slot_list_append PySem.F.type_list_append mt_append (pe_fld (pv 0) rfl) (pa_cons (pe_tup (pa_cons (pv 1) (pa_cons (pv 2) pa_nil))) pa_nil)))
      (pss_one (ps_expr (pe_bm PySem.F.plainAttrs_list PySem.F.slot_list_append PySem.F.type_list_append mt_append (pe_fld (pv 0) rfl) (pa_cons (pv 3) pa_nil))))), ?_⟩
    obtain ⟨ts, d1, d2⟩ := G.g.dr
    have ml : ((ts.map V.ref).length : Int) = (o.knobs.length : Int) := by rw [List.length_map, Paired.length d2]
    refine ⟨_, rfl, _, cOrgan K, A.dx, _, _, rfl, G.g.ob, T.cl_Organ, T.a_Organ_draws, of_draws _ _, _, _, rfl, .inl (SqL.of d1), by show 2 ≤ sizeLine; decide, fun q hq => ?_⟩
    rw [ml]
    have G1 : OrgF K H0 (upd H q (.tup [.str "knob", .int (o.knobs.length : Int)])) A o o.knobs := G.new hq
    obtain ⟨kvs, y1, y2, y3⟩ := G1.g.ti
    refine ⟨_, rfl, _, cOrgan K, A.dx, _, _, rfl, G1.g.ob, T.cl_Organ, T.a_Organ_titles, of_titles _ _, _, rfl, _, _, rfl, DPut.k (k := Sum.inr n) y1 (Nat.lt_of_le_of_lt y2 (lt_line sz.ti)), ?_⟩
    have G2 := G1.at 7 (by decide) (by decide) (G1.g.sTi (n := n) (w := "knob") (i := o.knobs.length) y1 upd_same) rfl
    obtain ⟨ts2, n1, n2⟩ := G2.g.dr
    refine ⟨_, rfl, _, cOrgan K, A.dx, _, _, rfl, G2.g.ob, T.cl_Organ, T.a_Organ_draws, of_draws _ _, .inl ⟨rfl, _, SqL.of n1⟩, ?_⟩
    refine ⟨_, rfl, _, rfl, by show 2 ≤ sizeLine; decide, fun q2 hq2 => ?_⟩
    have G3 := G2.new (u := .tup [.str d.word, .str n]) hq2
    have e2 : (upd (upd (upd H q (.tup [.str "knob", .int (o.knobs.length : Int)])) (A.at_ 7) (.dK (putK kvs (Sum.inr n : Key) (.ref q)))) q2 (.tup [.str d.word, .str n])) (A.at_ 4) = some (.lst (ts2.map V.ref)) := by
      rw [upd_ne (ne_of_none n1 hq2)]
      exact n1
    refine ⟨_, _, _, rfl, rfl, e2, ?_, ?_⟩
    · rw [List.length_map, Paired.length n2]
      exact lt_line sz.kn
    · have G4 := G3.at 4 (by decide) (by decide) (G3.g.sDr (t := q2) (n := n) (d := d) e2 upd_same) rfl
      obtain ⟨vs, e3, e4⟩ := G4.g.de
      refine ⟨_, rfl, _, cOrgan K, A.dx, _, _, rfl, G4.g.ob, T.cl_Organ, T.a_Organ_details, of_details _ _, .inl ⟨rfl, _, SqL.of e3⟩, ?_⟩
      have vl : vs.length = o.knobs.length := Paired.length e4
      refine ⟨_, rfl, _, _, _, rfl, rfl, e3, by rw [vl]; exact lt_line sz.kn, ?_⟩
      refine k _ ?_
      -- the detail still stands
      have hd1 : DetAt _ A v d := hd.but (But.nw (o := .tup [.str "knob", .int (o.knobs.length : Int)]) hq) fun l ls _ e => ne_of_none e hq
      have hd2 := hd1.but (G1.g.but 7 (by decide) (.dK (putK kvs (Sum.inr n : Key) (.ref q)))) fun l ls h _ => h 7 (by decide)
      have hd3 := hd2.but (But.nw (o := .tup [.str d.word, .str n]) hq2) fun l ls _ e => ne_of_none e hq2
      have hd4 := hd3.but (G3.g.but 4 (by decide) (.lst (ts2.map V.ref ++ [.ref q2]))) fun l ls h _ => h 4 (by decide)
      refine G4.sDe (n := n) e3 hd4 fun z => ?_
      rw [vl] at z
      obtain ⟨⟨t, l, b, ls, rfl, z3, z4, z5⟩, ⟨t', l', b', z6, z7, z8⟩⟩ := hw z
      cases z6
      rw [z3] at z7
      cases z7
      -- the list of lines is none of the organ's
      have ho : A.out l := by
        cases d with
        | stop c =>
          obtain ⟨t', l', ls', q1, q2, q3, _⟩ := hd
          cases q1
          rw [z3] at q2
          cases q2
          exact q3
        | coup f g sh =>
          obtain ⟨t', q1, q2⟩ := hd
          cases q1
          rw [z3] at q2
          cases q2
        | mute c =>
          have q : V.ref t = V.int (c : Int) := hd
          cases q
      have a1 := (G1.g.but 7 (by decide) (.dK (putK kvs (Sum.inr n : Key) (.ref q)))).tup ((But.nw (o := .tup [.str "knob", .int (o.knobs.length : Int)]) hq).tup z3)
      have a2 := (G3.g.but 4 (by decide) (.lst (ts2.map V.ref ++ [.ref q2]))).tup ((But.nw (o := .tup [.str d.word, .str n]) hq2).tup a1)
      refine ⟨⟨t, l, b, ls, rfl, a2, ?_, z5⟩, ⟨t, l, b, rfl, a2, z8⟩⟩
      have b1 : (upd H q (.tup [.str "knob", .int (o.knobs.length : Int)])) l = some (.lst ls) := by
        rw [upd_ne (ne_of_none z4 hq)]
        exact z4
      have b2 : (upd (upd H q (.tup [.str "knob", .int (o.knobs.length : Int)])) (A.at_ 7) (.dK (putK kvs (Sum.inr n : Key) (.ref q)))) l = some (.lst ls) := by
        rw [upd_ne (ho 7 (by decide))]
        exact b1
      rw [upd_ne (ho 4 (by decide)), upd_ne (ne_of_none b2 hq2)]
      exact b2
end
end WC
/-! take_stop, take_coupler, take_mute. -/
namespace WC
open PySem PySem.Spec PyProof.Rows L2
section
variable {P : Program} {w : World} {K : PySem.W.Frag} {mg : PySem.Str → Option Value} {base : Heap}
def isStopR : Row → Prop
  | .stop .. => True
  | _ => False
def isCoup : Row → Prop
  | .coupler .. => True
  | _ => False
def isMute : Row → Prop
  | .mute .. => True
  | _ => False
theorem txS {s : PySem.Str} (h : s.length ≤ 100) : TxV (.str s) := .inr ⟨s, rfl, h⟩
theorem ne_int {i : Nat} {j : Nat} (h : i ≠ j) : decide (V.int (i : Int) = V.int (j : Int)) = false := decide_eq_false fun z => by
  have z2 : (i : Int) = (j : Int) := by injection z
  exact h (by omega)
theorem vals_len {k : Nat} {l : List V} (h : l.length = k) : V.int (l.length : Int) = V.int (k : Int) := by rw [h]
theorem sc_take_stop : FnScope ["self", "row"] ["self", "row"] (defScope s_Organ_take_stop) := ⟨rfl, rfl, rfl, by decide +kernel, rfl, by decide +kernel, by decide +kernel⟩
theorem ok_take_stop (T : Txt K mg) : C8.Met P w K mg base 4 (cOrgan K) "take_stop" (spTkN K isStopR) [] := by
  obtain ⟨fd, F⟩ := T.d_Organ_take_stop
  obtain ⟨t1, g1⟩ := T.i_MOST_STOPS
  refine metOf (ps := ["self", "row"]) F (fnNox F sc_take_stop (fun vs H Q E h => ?_) (fun cdv Ar outer s H vs Q E hr h => ?_)) T.cl_Organ T.m_Organ_take_stop fun _ _ _ _ _ _ us hl => match us, hl with | [_, _], _ => rfl
  · obtain ⟨H0, A, o, o', t, r, rfl, _⟩ := h
    rfl
  · obtain ⟨H0, A, o, o', t, r, rfl, hk, G, hla, hrow, sm, sz, htk, k⟩ := h
    have hu := hu_of hr
    refine ⟨_, pss_cons (ps_if (PW.pt (pw_or (pt_cmpR op_ne (pe_callB call_len_seq (by rfl) T.n_len PySem.boot_len (pa_cons (pv 1) pa_nil)) pe_int (nomark _))
        (pw_or (pt_cmp (pc_isN (C8.pe_mt (ok_board_number T) hr (by decide) (pv 0) (pa_cons (pe_ix ix_tup (pv 1) pe_int (fun _ _ => rfl)) pa_nil))))
        (pw_or1 (pt_cmpR op_eq (C8.pe_mt (ok_many_of T) hr (by decide) (pv 0) (pa_cons pe_str pa_nil)) (pe_glob (v := .int 24) (by rfl) g1 ⟨_, rfl⟩) (nomark _)))))) (pss_one ps_never) pss_nil)
      (pss_cons (ps_fld (pv 0) (pe_callB call_len_seq (by rfl) T.n_len PySem.boot_len (pa_cons (pe_fld (pv 0) rfl) pa_nil)) rfl)
      (pss_cons (ps_expr (C8.pe_mt (ok_add_knob T) hr (by decide) (pv 0) (pa_cons pe_str (pa_cons (pe_ix ix_tup (pv 1) pe_int (fun _ _ => rfl)) (pa_cons
        (pe_tup (pa_cons (C8.pe_mt (ok_board_number T) hr (by decide) (pv 0) (pa_cons (pe_ix ix_tup (pv 1) pe_int (fun _ _ => rfl)) pa_nil)) (pa_cons (pe_lst pa_nil) pa_nil))) pa_nil)))))
      (pss_one (ps_ret pe_bl)))), ?_⟩
    cases r with
    | stop n b =>
      obtain ⟨sm1, sm2⟩ := sm
      have ht : (match o.titled "board" b with | some i => if o.fresh n = true ∧ o.many "stop" ≠ 24 then some { o.knob n (.stop i) with latest := some o.knobs.length, nlines := 0 } else none | none => none) = some o' := htk
      cases hb : o.titled "board" b with
      | none =>
        rw [hb] at ht
        cases ht
      | some i =>
        rw [hb] at ht
        have ht : (if o.fresh n = true ∧ o.many "stop" ≠ 24 then some { o.knob n (.stop i) with latest := some o.knobs.length, nlines := 0 } else none) = some o' := ht
        by_cases c : o.fresh n = true ∧ o.many "stop" ≠ 24
        · rw [if_pos c] at ht
          obtain ⟨c1, c2⟩ := c
          obtain rfl := Option.some.inj ht
          have hrow : H t = some (.tup [.str "stop", .str n, .str b]) := hrow
          have hbV : ∀ o2 : Org, o2.tit = o.tit → o2.titledV "board" (.str b) = some i := fun o2 e => by
            show (if isName b = true then _ else none) = _
            rw [e]
            exact hb
          refine ⟨_, rfl, t, _, rfl, .inr (SqT.of hrow), rfl, _, rfl, iteNS rfl ?_⟩
          refine ⟨_, rfl, A.at_ 0, A.dx, _, rfl, G.g.ob, of_no _ _ _ (by decide +kernel), _, rfl, t, _, _, _, rfl, rfl, SqT.of hrow, rfl, A, o, o.knobs, .str b, rfl, G.g, txS sm2, fun H1 s1 => ⟨_, rfl, ?_⟩⟩
          rw [hbV o rfl]
          refine iteF ?_
          have G1 := G.same s1
          refine ⟨_, rfl, A.at_ 0, A.dx, _, rfl, G1.g.ob, of_no _ _ _ (by decide +kernel), A, o, o.knobs, "stop", rfl, G1.g, Nat.le_trans sz.kn (by decide), fun H2 s2 => ?_⟩
          have G2 := G1.same s2
          refine ⟨rfl, _, rfl, ?_⟩
          rw [show decide (V.int (o.many "stop" : Int) = V.int 24) = false from ne_int (j := 24) c2]
          refine iteF ?_
          have hrow2 : H2 t = some (.tup [.str "stop", .str n, .str b]) := s2 _ _ (s1 _ _ hrow)
          -- self.latest = len(self.draws)
          obtain ⟨ts, d1, d2⟩ := G2.g.dr
          have ml : ((ts.map V.ref).length : Int) = (o.knobs.length : Int) := by rw [List.length_map, Paired.length d2]
          refine ⟨_, rfl, _, cOrgan K, A.dx, _, _, rfl, G2.g.ob, T.cl_Organ, T.a_Organ_draws, of_draws _ _, _, _, rfl, .inl (SqL.of d1), _, rfl, A.at_ 0, cOrgan K, A.dx, _, rfl, G2.g.ob, T.cl_Organ, T.a_Organ_latest, by rw [of_len]; decide, ?_⟩
          rw [ml, of_set]
          obtain ⟨vs, e1, e2⟩ := G2.g.de
          have vl : vs.length = o.knobs.length := Paired.length e2
          have none1 : vs[o.knobs.length]? = none := by rw [← vl]; exact List.getElem?_eq_none (Nat.le_refl _)
          have la1 : LaAt H2 (A.at_ 5) (some o.knobs.length) 0 := fun j hj => ⟨vs, e1, fun v hv => by
            cases hj
            rw [none1] at hv
            cases hv⟩
          have ln1 : LnAt (fun l => H0 l = none) H2 (A.at_ 5) (some o.knobs.length) := fun j hj => ⟨vs, e1, fun v hv => by
            cases hj
            rw [none1] at hv
            cases hv⟩
          have G3 := G2.atLa (G2.g.sLa (la := some o.knobs.length) (n := 0) (fs := oflds A (.int (o.knobs.length : Int))) rfl la1) ln1
          have h0 : A.at_ 0 ≠ t := ne_of G2.g.ob hrow2 (by intro z; cases z)
          have hrow3 : (upd H2 (A.at_ 0) (.ins (cOrgan K) A.dx (oflds A (.int (o.knobs.length : Int))))) t = some (.tup [.str "stop", .str n, .str b]) := by
            rw [upd_ne h0.symm]
            exact hrow2
          refine ⟨_, rfl, A.at_ 0, A.dx, _, rfl, G3.g.ob, of_no _ _ _ (by decide +kernel), ?_⟩
          refine ⟨_, rfl, t, _, _, _, rfl, rfl, SqT.of hrow3, rfl, ?_⟩
          refine ⟨_, rfl, A.at_ 0, A.dx, _, rfl, G3.g.ob, of_no _ _ _ (by decide +kernel), _, rfl, t, _, _, _, rfl, rfl, SqT.of hrow3, rfl, A, _, _, .str b, rfl, G3.g, txS sm2, fun H4 s4 => ?_⟩
          have G4 := G3.same s4
          rw [hbV { o with latest := some o.knobs.length, nlines := 0 } rfl]
          refine ⟨by decide, fun l hl => ⟨by show 2 ≤ sizeLine; decide, fun q hq => ?_⟩⟩
          have G5 := G4.new (u := .lst []) hl
          have G6 := G5.new (u := .tup [.int (i : Int), .ref l]) hq
          have nlq : l ≠ q := ne_of_none (o := .lst []) upd_same hq
          have hl6 : (upd (upd H4 l (.lst [])) q (.tup [.int (i : Int), .ref l])) l = some (.lst []) := by
            rw [upd_ne nlq]
            exact upd_same
          refine ⟨H0, A, { o with latest := some o.knobs.length, nlines := 0 }, n, .stop i, .ref q, rfl, G6, ⟨q, l, [], rfl, upd_same, G4.g.outNew hl, hl6⟩, fun _ => ⟨⟨q, l, _, [], rfl, upd_same, hl6, rfl⟩, ⟨q, l, _, rfl, upd_same, Same.free G4.fr hl⟩⟩, ⟨sz.man, sz.pip, sz.kn, sz.st, sz.ti, sz.tb⟩, fun H7 G7 => ?_⟩
          exact k H7 G7
        · rw [if_neg c] at ht
          cases ht
    | _ => cases hk
theorem sc_take_coupler : FnScope ["self", "row"] ["self", "row"] (defScope s_Organ_take_coupler) := ⟨rfl, rfl, rfl, by decide +kernel, rfl, by decide +kernel, by decide +kernel⟩
theorem ok_take_coupler (T : Txt K mg) : C8.Met P w K mg base 4 (cOrgan K) "take_coupler" (spTkN K isCoup) [] := by
  obtain ⟨fd, F⟩ := T.d_Organ_take_coupler
  obtain ⟨t1, g1⟩ := T.i_FAR_KEYS
  obtain ⟨t2, g2⟩ := T.i_MOST_COUPLERS
  refine metOf (ps := ["self", "row"]) F (fnNox F sc_take_coupler (fun vs H Q E h => ?_) (fun cdv Ar outer s H vs Q E hr h => ?_)) T.cl_Organ T.m_Organ_take_coupler fun _ _ _ _ _ _ us hl => match us, hl with | [_, _], _ => rfl
  · obtain ⟨H0, A, o, o', t, r, rfl, _⟩ := h
    rfl
  · obtain ⟨H0, A, o, o', t, r, rfl, hk, G, hla, hrow, sm, sz, htk, k⟩ := h
    have hu := hu_of hr
    refine ⟨_, pss_cons (ps_if (PW.pt (pw_or (pt_cmpR op_ne (pe_callB call_len_seq (by rfl) T.n_len PySem.boot_len (pa_cons (pv 1) pa_nil)) pe_int (nomark _))
        (pw_or (pt_cmp (pc_isN (C8.pe_mt (ok_board_number T) hr (by decide) (pv 0) (pa_cons (pe_ix ix_tup (pv 1) pe_int (fun _ _ => rfl)) pa_nil))))
        (pw_or1 (pt_cmp (pc_isN (C8.pe_mt (ok_board_number T) hr (by decide) (pv 0) (pa_cons (pe_ix ix_tup (pv 1) pe_int (fun _ _ => rfl)) pa_nil)))))))) (pss_one ps_never) pss_nil)
      (pss_cons (ps_if (PW.pt (pw_or (pt_not (pt_val (C8.pe_c (ok_is_within T) hr (by decide) (by rfl) (pa_cons (pe_ix ix_tup (pv 1) pe_int (fun _ _ => rfl)) (pa_cons (pe_op op_sub pe_int (pe_glob (v := .int 60) (by rfl) g1 ⟨_, rfl⟩)) (pa_cons (pe_glob (v := .int 60) (by rfl) g1 ⟨_, rfl⟩) pa_nil))))))
        (pw_or1 (pt_cmpR op_eq (C8.pe_mt (ok_many_of T) hr (by decide) (pv 0) (pa_cons pe_str pa_nil)) (pe_glob (v := .int 12) (by rfl) g2 ⟨_, rfl⟩) (nomark _))))) (pss_one ps_never) pss_nil)
      (pss_cons (ps_expr (C8.pe_mt (ok_add_knob T) hr (by decide) (pv 0) (pa_cons pe_str (pa_cons (pe_ix ix_tup (pv 1) pe_int (fun _ _ => rfl)) (pa_cons
        (pe_tup (pa_cons (C8.pe_mt (ok_board_number T) hr (by decide) (pv 0) (pa_cons (pe_ix ix_tup (pv 1) pe_int (fun _ _ => rfl)) pa_nil)) (pa_cons (C8.pe_mt (ok_board_number T) hr (by decide) (pv 0) (pa_cons (pe_ix ix_tup (pv 1) pe_int (fun _ _ => rfl)) pa_nil)) (pa_cons (pe_ix ix_tup (pv 1) pe_int (fun _ _ => rfl)) pa_nil)))) pa_nil)))))
      (pss_one (ps_ret pe_bl)))), ?_⟩
    cases r with
    | coupler n f g sh =>
      obtain ⟨sm1, sm2, sm3⟩ := sm
      have ht : (match o.titled "board" f, o.titled "board" g with
        | some i, some j => if o.fresh n = true ∧ (-60 ≤ sh ∧ sh ≤ 60) ∧ o.many "coupler" ≠ 12 then some { o.knob n (.coup i j sh) with latest := none } else none
        | _, _ => none) = some o' := htk
      cases hf : o.titled "board" f with
      | none =>
        rw [hf] at ht
        cases ht
      | some i =>
        cases hg : o.titled "board" g with
        | none =>
          rw [hf, hg] at ht
          cases ht
        | some j =>
          rw [hf, hg] at ht
          have ht : (if o.fresh n = true ∧ (-60 ≤ sh ∧ sh ≤ 60) ∧ o.many "coupler" ≠ 12 then some { o.knob n (.coup i j sh) with latest := none } else none) = some o' := ht
          by_cases c : o.fresh n = true ∧ (-60 ≤ sh ∧ sh ≤ 60) ∧ o.many "coupler" ≠ 12
          · rw [if_pos c] at ht
            obtain ⟨c1, c2, c3⟩ := c
            obtain rfl := Option.some.inj ht
            have hrow : H t = some (.tup [.str "coupler", .str n, .str f, .str g, .int sh]) := hrow
            have hfV : o.titledV "board" (.str f) = some i := hf
            have hgV : o.titledV "board" (.str g) = some j := hg
            refine ⟨_, rfl, t, _, rfl, .inr (SqT.of hrow), rfl, _, rfl, iteNS rfl ?_⟩
            refine ⟨_, rfl, A.at_ 0, A.dx, _, rfl, G.g.ob, of_no _ _ _ (by decide +kernel), _, rfl, t, _, _, _, rfl, rfl, SqT.of hrow, rfl, A, o, o.knobs, .str f, rfl, G.g, txS sm2, fun H1 s1 => ⟨_, rfl, ?_⟩⟩
            rw [hfV]
            refine iteF ?_
            have G1 := G.same s1
            have hrow1 := s1 _ _ hrow
            refine ⟨_, rfl, A.at_ 0, A.dx, _, rfl, G1.g.ob, of_no _ _ _ (by decide +kernel), _, rfl, t, _, _, _, rfl, rfl, SqT.of hrow1, rfl, A, o, o.knobs, .str g, rfl, G1.g, txS sm3, fun H2 s2 => ⟨_, rfl, ?_⟩⟩
            rw [hgV]
            refine iteF ?_
            have G2 := G1.same s2
            have hrow2 := s2 _ _ hrow1
            refine ⟨_, rfl, t, _, _, _, rfl, rfl, SqT.of hrow2, rfl, _, _, rfl, rfl, _, _, _, rfl, _, rfl, ?_⟩
            rw [show decide ((0 - 60 : Int) ≤ sh ∧ sh ≤ 60) = true from decide_eq_true (by omega)]
            refine iteF ?_
            refine ⟨_, rfl, A.at_ 0, A.dx, _, rfl, G2.g.ob, of_no _ _ _ (by decide +kernel), A, o, o.knobs, "coupler", rfl, G2.g, Nat.le_trans sz.kn (by decide), fun H3 s3 => ?_⟩
            have G3 := G2.same s3
            have hrow3 := s3 _ _ hrow2
            refine ⟨rfl, _, rfl, ?_⟩
            rw [show decide (V.int (o.many "coupler" : Int) = V.int 12) = false from ne_int (j := 12) c3]
            refine iteF ?_
            refine ⟨_, rfl, A.at_ 0, A.dx, _, rfl, G3.g.ob, of_no _ _ _ (by decide +kernel), ?_⟩
            refine ⟨_, rfl, t, _, _, _, rfl, rfl, SqT.of hrow3, rfl, ?_⟩
            refine ⟨_, rfl, A.at_ 0, A.dx, _, rfl, G3.g.ob, of_no _ _ _ (by decide +kernel), _, rfl, t, _, _, _, rfl, rfl, SqT.of hrow3, rfl, A, o, o.knobs, .str f, rfl, G3.g, txS sm2, fun H4 s4 => ?_⟩
            have G4 := G3.same s4
            have hrow4 := s4 _ _ hrow3
            rw [hfV]
            refine ⟨_, rfl, A.at_ 0, A.dx, _, rfl, G4.g.ob, of_no _ _ _ (by decide +kernel), _, rfl, t, _, _, _, rfl, rfl, SqT.of hrow4, rfl, A, o, o.knobs, .str g, rfl, G4.g, txS sm3, fun H5 s5 => ?_⟩
            have G5 := G4.same s5
            have hrow5 := s5 _ _ hrow4
            rw [hgV]
            refine ⟨_, rfl, t, _, _, _, rfl, rfl, SqT.of hrow5, rfl, by show 3 ≤ sizeLine; decide, fun q hq => ?_⟩
            have G6 := G5.new (u := .tup [.int (i : Int), .int (j : Int), .int sh]) hq
            refine ⟨H0, A, o, n, .coup i j sh, .ref q, rfl, G6, ⟨q, rfl, upd_same⟩, fun z => (by rw [hla] at z; cases z), sz, fun H7 G7 => ?_⟩
            have e3 : o.knob n (.coup i j sh) = { o.knob n (.coup i j sh) with latest := none } := by
              rw [← hla]
              rfl
            have k7 := k H7
            rw [← e3] at k7
            exact k7 G7
          · rw [if_neg c] at ht
            cases ht
    | _ => cases hk
theorem sc_take_mute : FnScope ["self", "row"] ["self", "row"] (defScope s_Organ_take_mute) := ⟨rfl, rfl, rfl, by decide +kernel, rfl, by decide +kernel, by decide +kernel⟩
theorem ok_take_mute (T : Txt K mg) : C8.Met P w K mg base 4 (cOrgan K) "take_mute" (spTkN K isMute) [] := by
  obtain ⟨fd, F⟩ := T.d_Organ_take_mute
  obtain ⟨t2, g2⟩ := T.i_MOST_MUTES
  refine metOf (ps := ["self", "row"]) F (fnNox F sc_take_mute (fun vs H Q E h => ?_) (fun cdv Ar outer s H vs Q E hr h => ?_)) T.cl_Organ T.m_Organ_take_mute fun _ _ _ _ _ _ us hl => match us, hl with | [_, _], _ => rfl
  · obtain ⟨H0, A, o, o', t, r, rfl, _⟩ := h
    rfl
  · obtain ⟨H0, A, o, o', t, r, rfl, hk, G, hla, hrow, sm, sz, htk, k⟩ := h
    have hu := hu_of hr
    refine ⟨_, pss_cons (ps_if (PW.pt (pw_or (pt_cmpR op_ne (pe_callB call_len_seq (by rfl) T.n_len PySem.boot_len (pa_cons (pv 1) pa_nil)) pe_int (nomark _))
        (pw_or (pt_cmp (pc_isN (C8.pe_mt (ok_board_number T) hr (by decide) (pv 0) (pa_cons (pe_ix ix_tup (pv 1) pe_int (fun _ _ => rfl)) pa_nil))))
        (pw_or1 (pt_cmpR op_eq (C8.pe_mt (ok_many_of T) hr (by decide) (pv 0) (pa_cons pe_str pa_nil)) (pe_glob (v := .int 5) (by rfl) g2 ⟨_, rfl⟩) (nomark _)))))) (pss_one ps_never) pss_nil)
      (pss_cons (ps_expr (C8.pe_mt (ok_add_knob T) hr (by decide) (pv 0) (pa_cons pe_str (pa_cons (pe_ix ix_tup (pv 1) pe_int (fun _ _ => rfl)) (pa_cons
        (C8.pe_mt (ok_board_number T) hr (by decide) (pv 0) (pa_cons (pe_ix ix_tup (pv 1) pe_int (fun _ _ => rfl)) pa_nil)) pa_nil)))))
      (pss_one (ps_ret pe_bl))), ?_⟩
    cases r with
    | mute n b =>
      obtain ⟨sm1, sm2⟩ := sm
      have ht : (match o.titled "board" b with | some i => if o.fresh n = true ∧ o.many "mute" ≠ 5 then some { o.knob n (.mute i) with latest := none } else none | none => none) = some o' := htk
      cases hb : o.titled "board" b with
      | none =>
        rw [hb] at ht
        cases ht
      | some i =>
        rw [hb] at ht
        have ht : (if o.fresh n = true ∧ o.many "mute" ≠ 5 then some { o.knob n (.mute i) with latest := none } else none) = some o' := ht
        by_cases c : o.fresh n = true ∧ o.many "mute" ≠ 5
        · rw [if_pos c] at ht
          obtain ⟨c1, c2⟩ := c
          obtain rfl := Option.some.inj ht
          have hrow : H t = some (.tup [.str "mute", .str n, .str b]) := hrow
          have hbV : o.titledV "board" (.str b) = some i := hb
          refine ⟨_, rfl, t, _, rfl, .inr (SqT.of hrow), rfl, _, rfl, iteNS rfl ?_⟩
          refine ⟨_, rfl, A.at_ 0, A.dx, _, rfl, G.g.ob, of_no _ _ _ (by decide +kernel), _, rfl, t, _, _, _, rfl, rfl, SqT.of hrow, rfl, A, o, o.knobs, .str b, rfl, G.g, txS sm2, fun H1 s1 => ⟨_, rfl, ?_⟩⟩
          rw [hbV]
          refine iteF ?_
          have G1 := G.same s1
          refine ⟨_, rfl, A.at_ 0, A.dx, _, rfl, G1.g.ob, of_no _ _ _ (by decide +kernel), A, o, o.knobs, "mute", rfl, G1.g, Nat.le_trans sz.kn (by decide), fun H2 s2 => ?_⟩
          have G2 := G1.same s2
          refine ⟨rfl, _, rfl, ?_⟩
          rw [show decide (V.int (o.many "mute" : Int) = V.int 5) = false from ne_int (j := 5) c2]
          refine iteF ?_
          have hrow2 := s2 _ _ (s1 _ _ hrow)
          refine ⟨_, rfl, A.at_ 0, A.dx, _, rfl, G2.g.ob, of_no _ _ _ (by decide +kernel), ?_⟩
          refine ⟨_, rfl, t, _, _, _, rfl, rfl, SqT.of hrow2, rfl, ?_⟩
          refine ⟨_, rfl, A.at_ 0, A.dx, _, rfl, G2.g.ob, of_no _ _ _ (by decide +kernel), _, rfl, t, _, _, _, rfl, rfl, SqT.of hrow2, rfl, A, o, o.knobs, .str b, rfl, G2.g, txS sm2, fun H3 s3 => ?_⟩
          have G3 := G2.same s3
          rw [hbV]
          refine ⟨H0, A, o, n, .mute i, .int (i : Int), rfl, G3, rfl, fun z => (by rw [hla] at z; cases z), sz, fun H7 G7 => ?_⟩
          have e3 : o.knob n (.mute i) = { o.knob n (.mute i) with latest := none } := by
            rw [← hla]
            rfl
          have k7 := k H7
          rw [← e3] at k7
          exact k7 G7
        · rw [if_neg c] at ht
          cases ht
    | _ => cases hk
end
end WC
/-! take_line, take_step. -/
namespace WC
open PySem PySem.Spec PyProof.Rows L2
section
variable {P : Program} {w : World} {K : PySem.W.Frag} {mg : PySem.Str → Option Value} {base : Heap}
def isLine : Row → Prop
  | .line .. => True
  | _ => False
def isStep : Row → Prop
  | .step .. => True
  | _ => False
theorem sc_take_line : FnScope ["self", "row", "board", "lines", "keys"] ["self", "row"] (defScope s_Organ_take_line) := ⟨rfl, rfl, rfl, by decide +kernel, rfl, by decide +kernel, by decide +kernel⟩
theorem OrgF.line {H0 H : Hp} {A : OA} {o : Org} {ds : List (PySem.Str × Det)} (x : OrgF K H0 H A o ds) {i : Nat} {vs ls : List V} {t l : Addr} {b : Int} (v : V) (hi : o.latest = some i) (h1 : H (A.at_ 5) = some (.lst vs)) (h2 : vs[i]? = some (.ref t)) (h3 : H t = some (.tup [.int b, .ref l])) (h4 : H l = some (.lst ls)) :
    OrgF K H0 (upd H l (.lst (ls ++ [v]))) A { o with nlines := o.nlines + 1 } ds := by
  have k : But l H (upd H l (.lst (ls ++ [v]))) := But.up fun xs z => by rw [h4] at z; cases z
  have hl := x.g.lout h1 h2 h3
  obtain ⟨vs', q1, q⟩ := x.ln i hi
  rw [h1] at q1
  cases q1
  obtain ⟨t', l', b', q2, q3, q4⟩ := q _ h2
  cases q2
  rw [h3] at q3
  cases q3
  exact ⟨x.g.sLine v hi h1 h2 h3 h4, sameUp x.fr q4, x.nw, x.ln.but k fun e => hl 5 (by decide) e.symm⟩
theorem ok_take_line (T : Txt K mg) : C8.Met P w K mg base 3 (cOrgan K) "take_line" (spTk K isLine) [] := by
  obtain ⟨fd, F⟩ := T.d_Organ_take_line
  obtain ⟨t1, g1⟩ := T.i_FAR
  obtain ⟨t2, g2⟩ := T.i_MOST_LINES
  have nd := sc_take_line.nd
  refine metOf (ps := ["self", "row"]) F (fnNox F sc_take_line (fun vs H Q E h => ?_) (fun cdv Ar outer s H vs Q E hr h => ?_)) T.cl_Organ T.m_Organ_take_line fun _ _ _ _ _ _ us hl => match us, hl with | [_, _], _ => rfl
  · obtain ⟨H0, A, o, o', t, r, rfl, _⟩ := h
    rfl
  · obtain ⟨H0, A, o, o', t, r, rfl, hk, G, hrow, sm, sz, htk, k⟩ := h
    have hu := hu_of hr
    refine ⟨_, pss_cons (ps_if (PW.pt (pw_or (pt_cmpR op_ne (pe_callB call_len_seq (by rfl) T.n_len PySem.boot_len (pa_cons (pv 1) pa_nil)) pe_int (nomark _))
        (pw_or (pt_cmp (pc_isN (pe_fld (pv 0) rfl)))
        (pw_or1 (pt_cmp (pc_isN (C8.pe_mt (ok_titled T) hr (by decide) (pv 0) (pa_cons pe_str (pa_cons (pe_ix ix_tup (pv 1) pe_int (fun _ _ => rfl)) pa_nil))))))))) (pss_one ps_never) pss_nil)
      (pss_cons (ps_asg (pe_ix ix_list (pe_fld (pv 0) rfl) (pe_fld (pv 0) rfl) (fun _ _ => rfl)) (pg_tup rfl (pgs_cons (pg_name (i := 2) nd rfl (.inl rfl)) (pgs_cons (pg_name (i := 3) nd rfl (.inl rfl)) pgs_nil))))
      (pss_cons (ps_set (i := 4) nd rfl (.inl rfl) (pe_ix ix_tup (pe_ix ix_list (pe_fld (pv 0) rfl) (pv 2) (fun _ _ => rfl)) pe_int (fun _ _ => rfl)))
      (pss_cons (ps_if (PW.pt (pw_or (pt_not (pt_val (C8.pe_c (ok_is_within T) hr (by decide) (by rfl) (pa_cons (pe_ix ix_tup (pv 1) pe_int (fun _ _ => rfl)) (pa_cons (pe_op op_sub pe_int (pe_glob (v := .int 200) (by rfl) g1 ⟨_, rfl⟩)) (pa_cons (pe_glob (v := .int 200) (by rfl) g1 ⟨_, rfl⟩) pa_nil))))))
        (pw_or1 (pt_not (pt_val (C8.pe_c (ok_is_within T) hr (by decide) (by rfl) (pa_cons (pe_ix ix_tup (pv 1) pe_int (fun _ _ => rfl)) (pa_cons pe_int (pa_cons (pe_op op_sub (pv 4) pe_int) pa_nil))))))))) (pss_one ps_never) pss_nil)
      (pss_cons (ps_if (PW.pt (pw_or (pt_not (pt_val (C8.pe_c (ok_is_within T) hr (by decide) (by rfl) (pa_cons (pe_ix ix_tup (pv 1) pe_int (fun _ _ => rfl)) (pa_cons pe_int (pa_cons (pe_ix ix_tup (pv 1) pe_int (fun _ _ => rfl)) pa_nil))))))
        (pw_or1 (pt_cmpR op_eq (pe_callB call_len_seq (by rfl) T.n_len PySem.boot_len (pa_cons (pv 3) pa_nil)) (pe_glob (v := .int 4) (by rfl) g2 ⟨_, rfl⟩) (nomark _))))) (pss_one ps_never) pss_nil)
      (pss_cons (ps_expr (pe_bm PySem.F.plainAttrs_list PySem.F.slot_list_append PySem.F.type_list_append mt_append (pv 3) (pa_cons (pe_tup (pa_cons (C8.pe_mt (ok_titled T) hr (by decide) (pv 0) (pa_cons pe_str (pa_cons (pe_ix ix_tup (pv 1) pe_int (fun _ _ => rfl)) pa_nil)))
        (pa_cons (pe_ix ix_tup (pv 1) pe_int (fun _ _ => rfl)) (pa_cons (pe_ix ix_tup (pv 1) pe_int (fun _ _ => rfl)) (pa_cons (pe_ix ix_tup (pv 1) pe_int (fun _ _ => rfl)) pa_nil))))) pa_nil)))
      (pss_one (ps_ret pe_bl))))))), ?_⟩
    cases r with
    | line rn sf lo hi =>
      have sm : rn.length ≤ 100 := sm
      have hrow : H t = some (.tup [.str "line", .str rn, .int sf, .int lo, .int hi]) := hrow
      have ht : (match o.latest, o.titled "rank" rn with
        | some i, some _ => (match o.knobs[i]? with
          | some (_, .stop b) => (match o.manuals[b]? with
            | some (_, keys) => if (-200 ≤ sf ∧ sf ≤ 200) ∧ (0 ≤ hi ∧ hi ≤ keys - 1) ∧ (0 ≤ lo ∧ lo ≤ hi) ∧ o.nlines < 4 then some { o with nlines := o.nlines + 1 } else none
            | none => none)
          | _ => none)
        | _, _ => none) = some o' := htk
      cases hla : o.latest with
      | none =>
        rw [hla] at ht
        cases ht
      | some i =>
        cases hti : o.titled "rank" rn with
        | none =>
          rw [hla, hti] at ht
          cases ht
        | some ri =>
          rw [hla, hti] at ht
          have ht : (match o.knobs[i]? with
            | some (_, .stop b) => (match o.manuals[b]? with
              | some (_, keys) => if (-200 ≤ sf ∧ sf ≤ 200) ∧ (0 ≤ hi ∧ hi ≤ keys - 1) ∧ (0 ≤ lo ∧ lo ≤ hi) ∧ o.nlines < 4 then some { o with latest := some i, nlines := o.nlines + 1 } else none
              | none => none)
            | _ => none) = some o' := ht
          cases hkn : o.knobs[i]? with
          | none =>
            rw [hkn] at ht
            cases ht
          | some kn =>
            obtain ⟨kname, kd⟩ := kn
            cases kd with
            | coup f g sh =>
              rw [hkn] at ht
              cases ht
            | mute b =>
              rw [hkn] at ht
              cases ht
            | stop b =>
              rw [hkn] at ht
              have ht : (match o.manuals[b]? with
                | some (_, keys) => if (-200 ≤ sf ∧ sf ≤ 200) ∧ (0 ≤ hi ∧ hi ≤ keys - 1) ∧ (0 ≤ lo ∧ lo ≤ hi) ∧ o.nlines < 4 then some { o with latest := some i, nlines := o.nlines + 1 } else none
                | none => none) = some o' := ht
              cases hm : o.manuals[b]? with
              | none =>
                rw [hm] at ht
                cases ht
              | some mm =>
                obtain ⟨mn, keys⟩ := mm
                rw [hm] at ht
                have ht : (if (-200 ≤ sf ∧ sf ≤ 200) ∧ (0 ≤ hi ∧ hi ≤ keys - 1) ∧ (0 ≤ lo ∧ lo ≤ hi) ∧ o.nlines < 4 then some { o with latest := some i, nlines := o.nlines + 1 } else none) = some o' := ht
                have ho : ({ o with latest := some i, nlines := o.nlines + 1 } : Org) = { o with nlines := o.nlines + 1 } := by rw [← hla]
                rw [ho] at ht
                by_cases c : (-200 ≤ sf ∧ sf ≤ 200) ∧ (0 ≤ hi ∧ hi ≤ keys - 1) ∧ (0 ≤ lo ∧ lo ≤ hi) ∧ o.nlines < 4
                · rw [if_pos c] at ht
                  obtain ⟨c1, c2, c3, c4⟩ := c
                  obtain rfl := Option.some.inj ht
                  have htV : o.titledV "rank" (.str rn) = some ri := hti
                  have ob : H (A.at_ 0) = some (.ins (cOrgan K) A.dx (oflds A (.int (i : Int)))) := by
                    have z := G.g.ob
                    rw [hla] at z
                    exact z
                  refine ⟨_, rfl, t, _, rfl, .inr (SqT.of hrow), rfl, _, rfl, iteNS rfl ?_⟩
                  refine ⟨_, rfl, _, cOrgan K, A.dx, _, _, rfl, ob, T.cl_Organ, T.a_Organ_latest, of_latest _ _, _, rfl, iteF ?_⟩
                  refine ⟨_, rfl, A.at_ 0, A.dx, _, rfl, ob, of_no _ _ _ (by decide +kernel), _, rfl, t, _, _, _, rfl, rfl, SqT.of hrow, rfl, A, o, o.knobs, "rank", .str rn, rfl, G.g, txS sm, fun H1 s1 => ⟨_, rfl, ?_⟩⟩
                  rw [htV]
                  refine iteF ?_
                  have G1 := G.same s1
                  have hrow1 := s1 _ _ hrow
                  have ob1 := s1 _ _ ob
                  obtain ⟨vs, e1, e2⟩ := G1.g.de
                  obtain ⟨v, hv, dv⟩ := e2.getR hkn
                  obtain ⟨dt, l, ls, rfl, h1, h2, h3⟩ := dv
                  -- board, lines = self.details[self.latest]
                  refine ⟨_, rfl, _, cOrgan K, A.dx, _, _, rfl, ob1, T.cl_Organ, T.a_Organ_details, of_details _ _, _, rfl, _, cOrgan K, A.dx, _, _, rfl, ob1, T.cl_Organ, T.a_Organ_latest, of_latest _ _, _, vs, _, _, rfl, rfl, SqL.of e1, atNat hv, ?_⟩
                  refine ⟨dt, _, rfl, SqT.of h1, rfl, _, _, rfl, _, _, rfl, rfl, ?_⟩
                  -- keys = self.manuals[board][1]
                  obtain ⟨ts, m1, m2⟩ := G1.g.ma
                  obtain ⟨mt, hmt, htup⟩ := m2.getR hm
                  have hmt2 : (ts.map V.ref)[b]? = some (.ref mt) := by rw [List.getElem?_map, hmt]; rfl
                  refine ⟨_, rfl, _, cOrgan K, A.dx, _, _, rfl, ob1, T.cl_Organ, T.a_Organ_manuals, of_manuals _ _, _, rfl, _, _, _, _, rfl, rfl, SqL.of m1, atNat hmt2, mt, _, _, _, rfl, rfl, SqT.of htup, rfl, ?_⟩
                  -- the numbers
                  refine ⟨_, rfl, t, _, _, _, rfl, rfl, SqT.of hrow1, rfl, _, _, rfl, rfl, _, _, _, rfl, _, rfl, ?_⟩
                  rw [show decide ((0 - 200 : Int) ≤ sf ∧ sf ≤ 200) = true from decide_eq_true (by omega)]
                  refine iteF ⟨_, rfl, t, _, _, _, rfl, rfl, SqT.of hrow1, rfl, _, rfl, _, _, rfl, rfl, _, _, _, rfl, _, rfl, ?_⟩
                  rw [decide_eq_true c2]
                  refine iteF ⟨_, rfl, t, _, _, _, rfl, rfl, SqT.of hrow1, rfl, _, rfl, t, _, _, _, rfl, rfl, SqT.of hrow1, rfl, _, _, _, rfl, _, rfl, ?_⟩
                  rw [decide_eq_true c3]
                  have nl : ls.length = o.nlines := by
                    obtain ⟨vs', q1, q⟩ := G1.g.la i hla
                    rw [e1] at q1
                    cases q1
                    obtain ⟨t', l', b', ls', q2, q3, q4, q5⟩ := q _ hv
                    cases q2
                    rw [h1] at q3
                    cases q3
                    rw [h3] at q4
                    cases q4
                    exact q5
                  refine iteF ⟨_, rfl, l, _, rfl, .inl (SqL.of h3), rfl, _, rfl, ?_⟩
                  rw [show decide (V.int (ls.length : Int) = V.int 4) = false from ne_int (j := 4) (by omega)]
                  refine iteF ?_
                  -- lines.append(..)
                  refine ⟨_, rfl, .inl ⟨rfl, _, SqL.of h3⟩, ?_⟩
                  refine ⟨_, rfl, A.at_ 0, A.dx, _, rfl, ob1, of_no _ _ _ (by decide +kernel), _, rfl, t, _, _, _, rfl, rfl, SqT.of hrow1, rfl, A, o, o.knobs, "rank", .str rn, rfl, G1.g, txS sm, fun H2 s2 => ?_⟩
                  have G2 := G1.same s2
                  have hrow2 := s2 _ _ hrow1
                  rw [htV]
                  refine ⟨_, rfl, t, _, _, _, rfl, rfl, SqT.of hrow2, rfl, _, rfl, t, _, _, _, rfl, rfl, SqT.of hrow2, rfl, _, rfl, t, _, _, _, rfl, rfl, SqT.of hrow2, rfl, by show 4 ≤ sizeLine; decide, fun q hq => ?_⟩
                  have G3 := G2.new (u := .tup [.int (ri : Int), .int sf, .int lo, .int hi]) hq
                  have s3 := (Same.nw (o := .tup [.int (ri : Int), .int sf, .int lo, .int hi]) hq)
                  refine ⟨l, ls, .ref q, rfl, rfl, s3 _ _ (s2 _ _ h3), by rw [nl]; exact Nat.lt_trans c4 (by decide), ?_⟩
                  exact k _ (G3.line (.ref q) hla (s3 _ _ (s2 _ _ e1)) hv (s3 _ _ (s2 _ _ h1)) (s3 _ _ (s2 _ _ h3)))
                · rw [if_neg c] at ht
                  cases ht
    | _ => cases hk
end
end WC
/-! take_step. -/
namespace WC
open PySem PySem.Spec PyProof.Rows L2
section
variable {P : Program} {w : World} {K : PySem.W.Frag} {mg : PySem.Str → Option Value} {base : Heap}
theorem sc_take_step : FnScope ["self", "row", "numbers", "name", "number"] ["self", "row"] (defScope s_Organ_take_step) := ⟨rfl, rfl, rfl, by decide +kernel, rfl, by decide +kernel, by decide +kernel⟩
theorem cut1 (x : V) (xs : List V) : cutV (x :: xs) (some 1) none = xs := by
  have e1 : HT.sIx (x :: xs).length 0 (some 1) = 1 := by
    unfold HT.sIx
    simp
  have e2 : HT.sIx (x :: xs).length (x :: xs).length none = (x :: xs).length := rfl
  unfold cutV
  rw [e1, e2]
  simp
theorem notWhole1 (x : V) (xs : List V) : ¬ (HT.sIx (x :: xs).length 0 (some 1) = 0 ∧ HT.sIx (x :: xs).length (x :: xs).length none = (x :: xs).length) := fun z => by
  have e1 : HT.sIx (x :: xs).length 0 (some 1) = 1 := by
    unfold HT.sIx
    simp
  rw [e1] at z
  exact absurd z.1 (by decide)
theorem flatInts (is : List Int) : (is.map V.int).all flatV = true := by
  rw [List.all_map, List.all_eq_true]
  intro x _
  rfl
theorem notInV {i : Int} {is : List Int} (h : i ∉ is) : inV (.int i) (is.map V.int) = false := by
  unfold inV
  rw [List.any_map, List.any_eq_false]
  intro x hx z
  have z2 : (x == i) = true := z
  rw [beq_iff_eq] at z2
  exact h (z2 ▸ hx)
theorem stepNs_cons {o : Org} {n : PySem.Str} {r : List PySem.Str} {ns fin : List Int} (h : o.stepNs (n :: r) ns = some fin) :
    ∃ (i : Nat) (m : PySem.Str) (d : Det), o.titled "knob" n = some i ∧ o.knobs[i]? = some (m, d) ∧ d.isStop = true ∧ (i : Int) ∉ ns ∧ o.stepNs r (ns ++ [(i : Int)]) = some fin := by
  have h : (match o.titled "knob" n with
    | some i => (match o.knobs[i]? with
      | some (_, d) => if d.isStop = true ∧ (i : Int) ∉ ns then o.stepNs r (ns ++ [(i : Int)]) else none
      | none => none)
    | none => none) = some fin := h
  cases e : o.titled "knob" n with
  | none =>
    rw [e] at h
    cases h
  | some i =>
    rw [e] at h
    have h : (match o.knobs[i]? with
      | some (_, d) => if d.isStop = true ∧ (i : Int) ∉ ns then o.stepNs r (ns ++ [(i : Int)]) else none
      | none => none) = some fin := h
    cases e2 : o.knobs[i]? with
    | none =>
      rw [e2] at h
      cases h
    | some k =>
      obtain ⟨m, d⟩ := k
      rw [e2] at h
      have h : (if d.isStop = true ∧ (i : Int) ∉ ns then o.stepNs r (ns ++ [(i : Int)]) else none) = some fin := h
      by_cases c : d.isStop = true ∧ (i : Int) ∉ ns
      · rw [if_pos c] at h
        exact ⟨i, m, d, rfl, e2, c.1, c.2, h⟩
      · rw [if_neg c] at h
        cases h
theorem ok_take_step (T : Txt K mg) : C8.Met P w K mg base 4 (cOrgan K) "take_step" (spTkN K isStep) [] := by
  obtain ⟨fd, F⟩ := T.d_Organ_take_step
  obtain ⟨t1, g1⟩ := T.i_MOST_STAIRS
  have nd := sc_take_step.nd
  refine metOf (ps := ["self", "row"]) F (fnNox F sc_take_step (fun vs H Q E h => ?_) (fun cdv Ar outer s H vs Q E hr h => ?_)) T.cl_Organ T.m_Organ_take_step fun _ _ _ _ _ _ us hl => match us, hl with | [_, _], _ => rfl
  · obtain ⟨H0, A, o, o', t, r, rfl, _⟩ := h
    rfl
  · obtain ⟨H0, A, o, o', t, r, rfl, hk, G, hla, hrow, sm, sz, htk, k⟩ := h
    have hu := hu_of hr
    refine ⟨_, pss_cons (ps_set (i := 2) nd rfl (.inl rfl) (pe_lst pa_nil))
      (pss_cons (ps_for PassesOwn.never rfl (pi_tup (pe_slice sl_tup (pv 1) (po_some pe_int) po_none)) (pg_name (i := 3) nd rfl (.inl rfl))
        (pss_cons (ps_set (i := 4) nd rfl (.inl rfl) (C8.pe_mt (ok_knob_number T) hr (by decide) (pv 0) (pa_cons (pv 3) pa_nil)))
        (pss_cons (ps_if (PW.pt (pw_or (pt_cmp (pc_isN (pv 4)))
            (pw_or (pt_cmpR op_ne (pe_ix ix_tup (pe_ix ix_list (pe_fld (pv 0) rfl) (pv 4) (fun _ _ => rfl)) pe_int (fun _ _ => rfl)) pe_str (nomark _))
            (pw_or1 (pt_cmpR op_in_seq (pv 4) (pv 2) rfl))))) (pss_one ps_never) pss_nil)
        (pss_one (ps_expr (pe_bm PySem.F.plainAttrs_list PySem.F.slot_list_append PySem.F.type_list_append mt_append (pv 2) (pa_cons (pv 4) pa_nil)))))))
      (pss_cons (ps_if (pt_cmpR op_eq (pe_callB call_len_seq (by rfl) T.n_len PySem.boot_len (pa_cons (pe_fld (pv 0) rfl) pa_nil)) (pe_glob (v := .int 12) (by rfl) g1 ⟨_, rfl⟩) (nomark _)) (pss_one ps_never) pss_nil)
      (pss_cons (ps_expr (pe_bm PySem.F.plainAttrs_list PySem.F.slot_list_append PySem.F.type_list_append mt_append (pe_fld (pv 0) rfl) (pa_cons (C8.pe_c (ok_set_of T) hr (by decide) (by rfl) (pa_cons (pv 2) pa_nil)) pa_nil)))
      (pss_one (ps_ret pe_bl))))), ?_⟩
    cases r with
    | step n0 ns0 =>
      obtain ⟨sm1, sm2⟩ := sm
      have hrow : H t = some (.tup (.str "step" :: (n0 :: ns0).map V.str)) := hrow
      obtain ⟨names, hnames⟩ : ∃ names, names = n0 :: ns0 := ⟨_, rfl⟩
      rw [← hnames] at hrow sm1
      have hlen : names.length ≤ 101 := by rw [hnames, List.length_cons]; omega
      have ht : (match o.stepNs (n0 :: ns0) [] with
        | some is => if o.stairs.length ≠ 12 then some { o with latest := none, stairs := o.stairs ++ [setOf is] } else none
        | none => none) = some o' := htk
      rw [← hnames] at ht
      cases hst : o.stepNs names [] with
      | none =>
        rw [hst] at ht
        cases ht
      | some fin =>
        rw [hst] at ht
        have ht : (if o.stairs.length ≠ 12 then some { o with latest := none, stairs := o.stairs ++ [setOf fin] } else none) = some o' := ht
        by_cases c : o.stairs.length ≠ 12
        · rw [if_pos c] at ht
          obtain rfl := Option.some.inj ht
          refine ⟨by decide, fun N hN => ?_⟩
          have nt : t ≠ N := ne_of_none hrow hN
          refine ⟨_, rfl, _, rfl, t, _, rfl, SqT.of (by rw [upd_ne nt]; exact hrow), notWhole1 _ _, fun p hp => ?_⟩
          rw [cut1]
          have np : N ≠ p := ne_of_none (o := .lst []) upd_same hp
          refine ⟨p, rfl, ⟨_, SqT.of upd_same⟩, for_tup (K := K) (a := p) (xs := names.map V.str) (fun i σ H2 => ∃ (x y : Option V) (is : List Int), σ = [some (.ref (A.at_ 0)), some (.ref t), some (.ref N), x, y] ∧
              Same H H2 ∧ H2 p = some (.tup (names.map V.str)) ∧ H2 N = some (.lst (is.map V.int)) ∧ o.stepNs (names.drop i) is = some fin ∧ (∀ j ∈ is, 0 ≤ j ∧ j < 1200) ∧ is.length = i)
            ⟨none, none, [], rfl, fun b u e => (by rw [upd_ne (ne_of_none (show (upd H N (.lst [])) b = some u by rw [upd_ne (ne_of_none e hN)]; exact e) hp), upd_ne (ne_of_none e hN)]; exact e), upd_same, (by rw [upd_ne np]; exact upd_same), hst, (fun _ z => by cases z), rfl⟩
            (fun i σ H2 _ ⟨_, _, _, _, _, e, _⟩ => SqT.of e) ?_ ?_⟩
          · rintro i y σ H2 hi ⟨x1, y1, is, rfl, s2, e2, e3, e4, e5, e6⟩
            obtain ⟨nm, hj, rfl⟩ := get_map hi
            have hd : names.drop i = nm :: names.drop (i + 1) := by
              obtain ⟨hlt, he⟩ := List.getElem?_eq_some_iff.mp hj
              rw [← he]
              exact List.drop_eq_getElem_cons hlt
            rw [hd] at e4
            obtain ⟨j, m, d, a1, a2, a3, a4, a5⟩ := stepNs_cons e4
            have jb : j < o.knobs.length := (List.getElem?_eq_some_iff.mp a2).1
            have G2 := G.same s2
            refine ⟨_, rfl, A.at_ 0, A.dx, _, rfl, G2.g.ob, of_no _ _ _ (by decide +kernel), _, rfl, A, o, o.knobs, .str nm, rfl, G2.g, txS (sm1 _ (List.mem_of_getElem? hj)), fun H3 s3 => ?_⟩
            have a1V : o.titledV "knob" (.str nm) = some j := a1
            rw [a1V]
            have G3 := G2.same s3
            refine ⟨_, rfl, _, rfl, iteF ?_⟩
            obtain ⟨ts, d1, d2⟩ := G3.g.dr
            obtain ⟨td, hd1, hd2⟩ := d2.getR a2
            have hd3 : (ts.map V.ref)[j]? = some (.ref td) := by rw [List.getElem?_map, hd1]; rfl
            refine ⟨_, rfl, _, cOrgan K, A.dx, _, _, rfl, G3.g.ob, T.cl_Organ, T.a_Organ_draws, of_draws _ _, _, rfl, _, _, _, _, rfl, rfl, SqL.of d1, atNat hd3, td, _, _, _, rfl, rfl, SqT.of hd2, rfl, rfl, _, rfl, ?_⟩
            have ew : d.word = "stop" := by
              cases d with
              | stop _ => rfl
              | coup _ _ _ => cases a3
              | mute _ => cases a3
            rw [show decide (V.str d.word = V.str "stop") = true from decide_eq_true (by rw [ew])]
            refine iteF ?_
            refine ⟨_, rfl, _, rfl, N, _, rfl, .inl (SqL.of (s3 _ _ e3)), rfl, flatInts is, ?_⟩
            rw [if_neg Bool.false_ne_true, show inV (optV (some j)) (is.map V.int) = false from notInV a4]
            refine ⟨_, rfl, iteF ?_⟩
            refine ⟨_, rfl, .inl ⟨rfl, _, SqL.of (s3 _ _ e3)⟩, ?_⟩
            refine ⟨_, rfl, _, _, _, rfl, rfl, s3 _ _ e3, ?_, ?_⟩
            · rw [List.length_map, e6]
              exact lt_line (Nat.le_trans (Nat.le_of_lt (List.getElem?_eq_some_iff.mp hj).1) (Nat.le_trans hlen (by decide)))
            · refine ⟨_, _, is ++ [(j : Int)], rfl, ?_, ?_, ?_, a5, ?_, ?_⟩
              · exact fun b u e => by
                  rw [upd_ne (ne_of_none e hN)]
                  exact s3 _ _ (s2 _ _ e)
              · rw [upd_ne np.symm]
                exact s3 _ _ e2
              · rw [upd_same, List.map_append]
                rfl
              · intro q hq
                rcases List.mem_append.mp hq with hq | hq
                · exact e5 q hq
                · rw [List.mem_singleton] at hq
                  have := sz.kn
                  omega
              · rw [List.length_append, e6]
                rfl
          · rintro σ H2 ⟨x1, y1, is, rfl, s2, e2, e3, e4, e5, e6⟩
            rw [List.length_map, List.drop_length] at e4
            have e4' : some is = some fin := e4
            obtain rfl := Option.some.inj e4'
            have G2 := G.same s2
            refine ⟨_, rfl, _, cOrgan K, A.dx, _, _, rfl, G2.g.ob, T.cl_Organ, T.a_Organ_stairs, of_stairs _ _, _, _, rfl, .inl (SqL.of G2.g.st), rfl, _, rfl, ?_⟩
            rw [show decide (V.int ((o.stairs.map V.int).length : Int) = V.int 12) = false from ne_int (j := 12) (by rw [List.length_map]; exact c)]
            refine iteF ?_
            refine ⟨_, rfl, _, cOrgan K, A.dx, _, _, rfl, G2.g.ob, T.cl_Organ, T.a_Organ_stairs, of_stairs _ _, .inl ⟨rfl, _, SqL.of G2.g.st⟩, ?_⟩
            refine ⟨_, rfl, N, is, rfl, e3, e5, ?_⟩
            refine ⟨_, _, _, rfl, rfl, G2.g.st, by rw [List.length_map]; exact lt_line sz.st, ?_⟩
            refine k _ ?_
            have G4 := G2.at 6 (by decide) (by decide) (G2.g.sSt (setOf is)) rfl
            have e9 : ({ o with stairs := o.stairs ++ [setOf is] } : Org) = { o with latest := none, stairs := o.stairs ++ [setOf is] } := by
              rw [← hla]
            rw [← e9]
            exact G4
        · rw [if_neg c] at ht
          cases ht
    | _ => cases hk
end
end WC
/-! take_row. -/
namespace WC
open PySem PySem.Spec PyProof.Rows L2
def Row.name : Row → PySem.Str
  | .board n _ => n
  | .rank n _ _ => n
  | .stop n _ => n
  | .line r _ _ _ => r
  | .coupler n _ _ _ => n
  | .mute n _ => n
  | .step n _ => n
def Row.rest : Row → List V
  | .board _ k => [.int k]
  | .rank _ p w => [.int p, .int w]
  | .stop _ b => [.str b]
  | .line _ s l h => [.int s, .int l, .int h]
  | .coupler _ f t sh => [.str f, .str t, .int sh]
  | .mute _ b => [.str b]
  | .step _ ns => ns.map .str
theorem Row.vals_eq (r : Row) : r.vals = .str r.word :: .str r.name :: r.rest := by cases r <;> rfl
theorem Row.smName {r : Row} (h : r.Sm) : r.name.length ≤ 100 := by
  cases r with
  | board => exact h
  | rank => exact h
  | stop => exact h.1
  | line => exact h
  | coupler => exact h.1
  | mute => exact h.1
  | step n ns => exact h.1 n List.mem_cons_self
theorem stepNs_la (o : Org) : ∀ (l : List PySem.Str) (ns : List Int), ({ o with latest := none } : Org).stepNs l ns = o.stepNs l ns
  | [], _ => rfl
  | n :: r, ns => by
    show (match o.titled "knob" n with
      | some i => (match o.knobs[i]? with
        | some (_, d) => if d.isStop = true ∧ (i : Int) ∉ ns then ({ o with latest := none } : Org).stepNs r (ns ++ [(i : Int)]) else none
        | none => none)
      | none => none) = (match o.titled "knob" n with
      | some i => (match o.knobs[i]? with
        | some (_, d) => if d.isStop = true ∧ (i : Int) ∉ ns then o.stepNs r (ns ++ [(i : Int)]) else none
        | none => none)
      | none => none)
    cases o.titled "knob" n with
    | none => rfl
    | some i =>
      show (match o.knobs[i]? with
        | some (_, d) => if d.isStop = true ∧ (i : Int) ∉ ns then ({ o with latest := none } : Org).stepNs r (ns ++ [(i : Int)]) else none
        | none => none) = (match o.knobs[i]? with
        | some (_, d) => if d.isStop = true ∧ (i : Int) ∉ ns then o.stepNs r (ns ++ [(i : Int)]) else none
        | none => none)
      rw [stepNs_la o r]
theorem take_la {o : Org} {r : Row} (h : ¬ isLine r) : ({ o with latest := none } : Org).take r = o.take r := by
  cases r with
  | line => exact absurd trivial h
  | step n ns =>
    show (match ({ o with latest := none } : Org).stepNs (n :: ns) [] with
      | some is => if o.stairs.length ≠ 12 then some { o with latest := none, stairs := o.stairs ++ [setOf is] } else none
      | none => none) = _
    rw [stepNs_la]
    rfl
  | _ => rfl
theorem fresh_of {o o' : Org} {r : Row} (h1 : ¬ isLine r) (h2 : ¬ isStep r) (h : o.take r = some o') : o.fresh r.name = true := by
  cases r with
  | line => exact absurd trivial h1
  | step => exact absurd trivial h2
  | board n k =>
    have ht : (if o.fresh n = true ∧ (1 ≤ k ∧ k ≤ 61) ∧ o.manuals.length ≠ 5 then some _ else none) = some o' := h
    by_cases c : o.fresh n = true ∧ (1 ≤ k ∧ k ≤ 61) ∧ o.manuals.length ≠ 5
    · exact c.1
    · rw [if_neg c] at ht; cases ht
  | rank n pp ww =>
    have ht : (if o.fresh n = true ∧ (1 ≤ pp ∧ pp ≤ 97) ∧ (0 ≤ ww ∧ ww ≤ 1000000000) ∧ o.npipes ≠ 12 then some _ else none) = some o' := h
    by_cases c : o.fresh n = true ∧ (1 ≤ pp ∧ pp ≤ 97) ∧ (0 ≤ ww ∧ ww ≤ 1000000000) ∧ o.npipes ≠ 12
    · exact c.1
    · rw [if_neg c] at ht; cases ht
  | stop n b =>
    have ht : (match o.titled "board" b with | some i => if o.fresh n = true ∧ o.many "stop" ≠ 24 then some { o.knob n (.stop i) with latest := some o.knobs.length, nlines := 0 } else none | none => none) = some o' := h
    cases hb : o.titled "board" b with
    | none => rw [hb] at ht; cases ht
    | some i =>
      rw [hb] at ht
      have ht : (if o.fresh n = true ∧ o.many "stop" ≠ 24 then some _ else none) = some o' := ht
      by_cases c : o.fresh n = true ∧ o.many "stop" ≠ 24
      · exact c.1
      · rw [if_neg c] at ht; cases ht
  | mute n b =>
    have ht : (match o.titled "board" b with | some i => if o.fresh n = true ∧ o.many "mute" ≠ 5 then some { o.knob n (.mute i) with latest := none } else none | none => none) = some o' := h
    cases hb : o.titled "board" b with
    | none => rw [hb] at ht; cases ht
    | some i =>
      rw [hb] at ht
      have ht : (if o.fresh n = true ∧ o.many "mute" ≠ 5 then some _ else none) = some o' := ht
      by_cases c : o.fresh n = true ∧ o.many "mute" ≠ 5
      · exact c.1
      · rw [if_neg c] at ht; cases ht
  | coupler n f g sh =>
    have ht : (match o.titled "board" f, o.titled "board" g with
      | some i, some j => if o.fresh n = true ∧ (-60 ≤ sh ∧ sh ≤ 60) ∧ o.many "coupler" ≠ 12 then some { o.knob n (.coup i j sh) with latest := none } else none
      | _, _ => none) = some o' := h
    cases hf : o.titled "board" f with
    | none => rw [hf] at ht; cases ht
    | some i =>
      cases hg : o.titled "board" g with
      | none => rw [hf, hg] at ht; cases ht
      | some j =>
        rw [hf, hg] at ht
        have ht : (if o.fresh n = true ∧ (-60 ≤ sh ∧ sh ≤ 60) ∧ o.many "coupler" ≠ 12 then some _ else none) = some o' := ht
        by_cases c : o.fresh n = true ∧ (-60 ≤ sh ∧ sh ≤ 60) ∧ o.many "coupler" ≠ 12
        · exact c.1
        · rw [if_neg c] at ht; cases ht
theorem fresh_iff {o : Org} {n : PySem.Str} (h : o.fresh n = true) : isName n = true ∧ o.tit n = none := by
  unfold Org.fresh at h
  rw [Bool.and_eq_true] at h
  refine ⟨h.1, ?_⟩
  cases e : o.tit n with
  | none => rfl
  | some x => rw [e] at h; exact absurd h.2 Bool.false_ne_true
theorem strF {a b : PySem.Str} (h : a ≠ b) : decide (V.str a = V.str b) = false := decide_eq_false fun z => h (by injection z)
theorem strT (a : PySem.Str) : decide (V.str a = V.str a) = true := decide_eq_true rfl
section
variable {P : Program} {w : World} {K : PySem.W.Frag} {mg : PySem.Str → Option Value} {base : Heap}
theorem sc_take_row : FnScope ["self", "row"] ["self", "row"] (defScope s_Organ_take_row) := ⟨rfl, rfl, rfl, by decide +kernel, rfl, by decide +kernel, by decide +kernel⟩
theorem ok_take_row (T : Txt K mg) : C8.Met P w K mg base 5 (cOrgan K) "take_row" (spTk K fun _ => True) [] := by
  obtain ⟨fd, F⟩ := T.d_Organ_take_row
  refine metOf (ps := ["self", "row"]) F (fnNox F sc_take_row (fun vs H Q E h => ?_) (fun cdv Ar outer s H vs Q E hr h => ?_)) T.cl_Organ T.m_Organ_take_row fun _ _ _ _ _ _ us hl => match us, hl with | [_, _], _ => rfl
  · obtain ⟨H0, A, o, o', t, r, rfl, _⟩ := h
    rfl
  · obtain ⟨H0, A, o, o', t, r, rfl, _, G, hrow, sm, sz, htk, k⟩ := h
    have hu := hu_of hr
    refine ⟨_, pss_cons (ps_if (PW.pt (pw_or (pt_not (pt_val (pe_callB call_isi (by rfl) T.n_isinstance (by decide +kernel) (pa_cons (pv 1) (pa_cons (pe_bltn (v := .ty "tuple") (u := .type "tuple") (by rfl) T.n_tuple (by decide +kernel) rfl) pa_nil)))))
        (pw_or (pt_cmpR op_lt (pe_callB call_len_seq (by rfl) T.n_len PySem.boot_len (pa_cons (pv 1) pa_nil)) pe_int (nomark _))
        (pw_or1 (pt_not (pt_val (pe_callB call_isi (by rfl) T.n_isinstance (by decide +kernel) (pa_cons (pe_ix ix_tup (pv 1) pe_int (fun _ _ => rfl)) (pa_cons (pe_bltn (v := .ty "str") (u := .type "str") (by rfl) T.n_str (by decide +kernel) rfl) pa_nil))))))))) (pss_one ps_never) pss_nil)
      (pss_cons (ps_if (pt_cmpR op_eq (pe_ix ix_tup (pv 1) pe_int (fun _ _ => rfl)) pe_str (nomark _)) (pss_one (ps_ret (C8.pe_mt (ok_take_line T) hr (by decide) (pv 0) (pa_cons (pv 1) pa_nil)))) pss_nil)
      (pss_cons (ps_fld (pv 0) pe_non rfl)
      (pss_cons (ps_if (pt_cmpR op_eq (pe_ix ix_tup (pv 1) pe_int (fun _ _ => rfl)) pe_str (nomark _)) (pss_one (ps_ret (C8.pe_mt (ok_take_step T) hr (by decide) (pv 0) (pa_cons (pv 1) pa_nil)))) pss_nil)
      (pss_cons (ps_if (PW.pt (pw_or (pt_not (pt_val (C8.pe_c (ok_is_name T) hr (by decide) (by rfl) (pa_cons (pe_ix ix_tup (pv 1) pe_int (fun _ _ => rfl)) pa_nil))))
          (pw_or1 (pt_cmp (pc_din hu (pe_ix ix_tup (pv 1) pe_int (fun _ _ => rfl)) (pe_fld (pv 0) rfl)))))) (pss_one ps_never) pss_nil)
      (pss_cons (ps_if (pt_cmpR op_eq (pe_ix ix_tup (pv 1) pe_int (fun _ _ => rfl)) pe_str (nomark _)) (pss_one (ps_ret (C8.pe_mt (ok_take_board T) hr (by decide) (pv 0) (pa_cons (pv 1) pa_nil)))) pss_nil)
      (pss_cons (ps_if (pt_cmpR op_eq (pe_ix ix_tup (pv 1) pe_int (fun _ _ => rfl)) pe_str (nomark _)) (pss_one (ps_ret (C8.pe_mt (ok_take_rank T) hr (by decide) (pv 0) (pa_cons (pv 1) pa_nil)))) pss_nil)
      (pss_cons (ps_if (pt_cmpR op_eq (pe_ix ix_tup (pv 1) pe_int (fun _ _ => rfl)) pe_str (nomark _)) (pss_one (ps_ret (C8.pe_mt (ok_take_stop T) hr (by decide) (pv 0) (pa_cons (pv 1) pa_nil)))) pss_nil)
      (pss_cons (ps_if (pt_cmpR op_eq (pe_ix ix_tup (pv 1) pe_int (fun _ _ => rfl)) pe_str (nomark _)) (pss_one (ps_ret (C8.pe_mt (ok_take_coupler T) hr (by decide) (pv 0) (pa_cons (pv 1) pa_nil)))) pss_nil)
      (pss_one (ps_ret (pe_and (pe_cmpR op_eq (pe_ix ix_tup (pv 1) pe_int (fun _ _ => rfl)) pe_str (nomark _)) (pe_one (C8.pe_mt (ok_take_mute T) hr (by decide) (pv 0) (pa_cons (pv 1) pa_nil)))))))))))))), ?_⟩
    have hrw : H t = some (.tup (.str r.word :: .str r.name :: r.rest)) := by rw [← r.vals_eq]; exact hrow
    have at0 : ∀ (a b : V) (l : List V), atI (a :: b :: l) 0 = some a := fun a b l => atNat (i := 0) rfl
    have at1 : ∀ (a b : V) (l : List V), atI (a :: b :: l) 1 = some b := fun a b l => atNat (i := 1) rfl
    refine ⟨_, rfl, _, _, _, _, _, rfl, .ty _, .base (.tup hrw), kit_ty (r := true) (by decide +kernel), _, rfl, iteF ?_⟩
    refine ⟨_, rfl, t, _, rfl, .inr (SqT.of hrw), _, _, rfl, rfl, _, rfl, ?_⟩
    rw [show decide (((V.str r.word :: V.str r.name :: r.rest).length : Int) < 2) = false from decide_eq_false (by rw [List.length_cons, List.length_cons]; omega)]
    refine iteF ⟨_, rfl, t, _, _, _, rfl, rfl, SqT.of hrw, at0 _ _ _, _, _, _, _, _, rfl, .ty _, .base (.str _), kit_ty (r := true) (by decide +kernel), _, rfl, iteF ?_⟩
    refine ⟨_, rfl, t, _, _, _, rfl, rfl, SqT.of hrw, at0 _ _ _, rfl, _, rfl, ?_⟩
    by_cases hl : isLine r
    · have e : r.word = "line" := by cases r <;> first | rfl | exact absurd hl id
      rw [e, strT]
      refine iteT ?_
      exact ⟨_, rfl, A.at_ 0, A.dx, _, rfl, G.g.ob, of_no _ _ _ (by decide +kernel), _, rfl, H0, A, o, o', t, r, rfl, hl, G, hrow, sm, sz, htk, k⟩
    · have e : r.word ≠ "line" := by cases r <;> first | exact absurd trivial hl | (simp only [Row.word]; decide +kernel)
      rw [strF e]
      refine iteF ?_
      rw [← take_la hl] at htk
      refine ⟨_, rfl, A.at_ 0, cOrgan K, A.dx, _, rfl, G.g.ob, T.cl_Organ, T.a_Organ_latest, by rw [of_len]; decide, ?_⟩
      rw [of_set]
      have G1 := G.atLa (G.g.sLaN (fs := oflds A .non) rfl) (fun i hi => by cases hi)
      have h0 : t ≠ A.at_ 0 := ne_of hrw G.g.ob (by intro z; cases z)
      have hrow1 : RowAt (upd H (A.at_ 0) (.ins (cOrgan K) A.dx (oflds A .non))) t r := by
        show (upd H (A.at_ 0) _) t = _
        rw [upd_ne h0]
        exact hrow
      have sz1 : ({ o with latest := none } : Org).Sz 500 := ⟨sz.man, sz.pip, sz.kn, sz.st, sz.ti, sz.tb⟩
      generalize upd H (A.at_ 0) (.ins (cOrgan K) A.dx (oflds A .non)) = H1 at G1 hrow1
      have fin : ∀ (ok : Row → Prop) (H2 : Hp), ok r → Same H1 H2 → spTkN K ok [.ref (A.at_ 0), .ref t] H2 Q E := fun ok H2 z s2 => ⟨H0, A, _, o', t, r, rfl, z, G1.same s2, rfl, s2 _ _ hrow1, sm, sz1, htk, k⟩
      have hrw1 : H1 t = some (.tup (.str r.word :: .str r.name :: r.rest)) := by rw [← r.vals_eq]; exact hrow1
      refine ⟨_, rfl, t, _, _, _, rfl, rfl, SqT.of hrw1, at0 _ _ _, rfl, _, rfl, ?_⟩
      by_cases hs : isStep r
      · have e : r.word = "step" := by cases r <;> first | rfl | exact absurd hs id
        rw [e, strT]
        exact iteT ⟨_, rfl, A.at_ 0, A.dx, _, rfl, G1.g.ob, of_no _ _ _ (by decide +kernel), _, rfl, fin _ _ hs (Same.refl _)⟩
      · have e : r.word ≠ "step" := by cases r <;> first | exact absurd trivial hs | (simp only [Row.word]; decide +kernel)
        rw [strF e]
        have fr := fresh_iff (fresh_of hl hs htk)
        refine iteF ⟨_, rfl, t, _, _, _, rfl, rfl, SqT.of hrw1, at1 _ _ _, .str r.name, rfl, txS (Row.smName sm), fun H2 s2 => ⟨_, rfl, ?_⟩⟩
        rw [show nameV (.str r.name) = true from fr.1]
        have hrw2 := s2 _ _ hrw1
        have G2 := G1.same s2
        obtain ⟨kvs, t1, t2, t3⟩ := G2.g.ti
        have tn := t3 r.name
        rw [fr.2] at tn
        have tn' : valV kvs (Sum.inr r.name : Key) = none := tn
        refine iteF ⟨_, rfl, t, _, _, _, rfl, rfl, SqT.of hrw2, at1 _ _ _, _, rfl, _, cOrgan K, A.dx, _, _, rfl, G2.g.ob, T.cl_Organ, T.a_Organ_titles, of_titles _ _, _, _, rfl, DGet.k (k := Sum.inr r.name) t1, ?_⟩
        rw [tn']
        refine ⟨_, rfl, iteF ?_⟩
        cases r with
        | line => exact absurd trivial hl
        | step => exact absurd trivial hs
        | board n kk =>
          refine ⟨_, rfl, t, _, _, _, rfl, rfl, SqT.of hrw2, at0 _ _ _, rfl, _, rfl, ?_⟩
          rw [show decide (V.str (Row.board n kk).word = V.str "board") = true from decide_eq_true rfl]
          exact iteT ⟨_, rfl, A.at_ 0, A.dx, _, rfl, G2.g.ob, of_no _ _ _ (by decide +kernel), _, rfl, fin _ _ trivial s2⟩
        | rank n pp ww =>
          refine ⟨_, rfl, t, _, _, _, rfl, rfl, SqT.of hrw2, at0 _ _ _, rfl, _, rfl, ?_⟩
          rw [strF (show (Row.rank n pp ww).word ≠ "board" by simp only [Row.word]; decide +kernel)]
          refine iteF ⟨_, rfl, t, _, _, _, rfl, rfl, SqT.of hrw2, at0 _ _ _, rfl, _, rfl, ?_⟩
          rw [show decide (V.str (Row.rank n pp ww).word = V.str "rank") = true from decide_eq_true rfl]
          exact iteT ⟨_, rfl, A.at_ 0, A.dx, _, rfl, G2.g.ob, of_no _ _ _ (by decide +kernel), _, rfl, fin _ _ trivial s2⟩
        | stop n b =>
          refine ⟨_, rfl, t, _, _, _, rfl, rfl, SqT.of hrw2, at0 _ _ _, rfl, _, rfl, ?_⟩
          rw [strF (show (Row.stop n b).word ≠ "board" by simp only [Row.word]; decide +kernel)]
          refine iteF ⟨_, rfl, t, _, _, _, rfl, rfl, SqT.of hrw2, at0 _ _ _, rfl, _, rfl, ?_⟩
          rw [strF (show (Row.stop n b).word ≠ "rank" by simp only [Row.word]; decide +kernel)]
          refine iteF ⟨_, rfl, t, _, _, _, rfl, rfl, SqT.of hrw2, at0 _ _ _, rfl, _, rfl, ?_⟩
          rw [show decide (V.str (Row.stop n b).word = V.str "stop") = true from decide_eq_true rfl]
          exact iteT ⟨_, rfl, A.at_ 0, A.dx, _, rfl, G2.g.ob, of_no _ _ _ (by decide +kernel), _, rfl, fin _ _ trivial s2⟩
        | coupler n f g sh =>
          refine ⟨_, rfl, t, _, _, _, rfl, rfl, SqT.of hrw2, at0 _ _ _, rfl, _, rfl, ?_⟩
          rw [strF (show (Row.coupler n f g sh).word ≠ "board" by simp only [Row.word]; decide +kernel)]
          refine iteF ⟨_, rfl, t, _, _, _, rfl, rfl, SqT.of hrw2, at0 _ _ _, rfl, _, rfl, ?_⟩
          rw [strF (show (Row.coupler n f g sh).word ≠ "rank" by simp only [Row.word]; decide +kernel)]
          refine iteF ⟨_, rfl, t, _, _, _, rfl, rfl, SqT.of hrw2, at0 _ _ _, rfl, _, rfl, ?_⟩
          rw [strF (show (Row.coupler n f g sh).word ≠ "stop" by simp only [Row.word]; decide +kernel)]
          refine iteF ⟨_, rfl, t, _, _, _, rfl, rfl, SqT.of hrw2, at0 _ _ _, rfl, _, rfl, ?_⟩
          rw [show decide (V.str (Row.coupler n f g sh).word = V.str "coupler") = true from decide_eq_true rfl]
          exact iteT ⟨_, rfl, A.at_ 0, A.dx, _, rfl, G2.g.ob, of_no _ _ _ (by decide +kernel), _, rfl, fin _ _ trivial s2⟩
        | mute n b =>
          refine ⟨_, rfl, t, _, _, _, rfl, rfl, SqT.of hrw2, at0 _ _ _, rfl, _, rfl, ?_⟩
          rw [strF (show (Row.mute n b).word ≠ "board" by simp only [Row.word]; decide +kernel)]
          refine iteF ⟨_, rfl, t, _, _, _, rfl, rfl, SqT.of hrw2, at0 _ _ _, rfl, _, rfl, ?_⟩
          rw [strF (show (Row.mute n b).word ≠ "rank" by simp only [Row.word]; decide +kernel)]
          refine iteF ⟨_, rfl, t, _, _, _, rfl, rfl, SqT.of hrw2, at0 _ _ _, rfl, _, rfl, ?_⟩
          rw [strF (show (Row.mute n b).word ≠ "stop" by simp only [Row.word]; decide +kernel)]
          refine iteF ⟨_, rfl, t, _, _, _, rfl, rfl, SqT.of hrw2, at0 _ _ _, rfl, _, rfl, ?_⟩
          rw [strF (show (Row.mute n b).word ≠ "coupler" by simp only [Row.word]; decide +kernel)]
          refine iteF ⟨_, rfl, t, _, _, _, rfl, rfl, SqT.of hrw2, at0 _ _ _, rfl, _, rfl, ?_⟩
          rw [show decide (V.str (Row.mute n b).word = V.str "mute") = true from decide_eq_true rfl]
          exact iteT ⟨_, rfl, A.at_ 0, A.dx, _, rfl, G2.g.ob, of_no _ _ _ (by decide +kernel), _, rfl, fin _ _ trivial s2⟩
end
end WC
/-! Organ(rows). -/
namespace WC
open PySem PySem.Spec PyProof.Rows L2
/-! ### a list compared with [] -/
section
variable {X : Cx}
def rNil (K : PySem.W.Frag) (neg : Bool) : R2 := fun x y H Q => ∃ a b xs, x = .ref a ∧ y = .ref b ∧ SqL K H a xs ∧ SqL K H b [] ∧ Q (.bl (xs.isEmpty != neg)) H
theorem op_eqNil (hu : X.A.units < cLine) : OpR X (compareOp .Eq) (rNil X.K false) := by
  intro pins s σ H x y v u Q I rx ry h
  obtain ⟨a, b, xs, rfl, rfl, ha, hb, q⟩ := h
  cases rx
  cases ry
  obtain ⟨us, r1, p1, _⟩ := I.list ha
  obtain ⟨ws, r2, p2, _⟩ := I.list hb
  cases r2
  cases r1 with
  | nil => exact SeqAt.eq_listAt (e := fun _ => true) p1.isList p2.isList rfl hu (fun j h1 h2 => absurd h1 (Nat.not_lt_zero j)) ⟨.bl true, H, I, rfl, q⟩
  | cons r rr => exact SeqAt.eq_list_lengthsAt p1.isList p2.isList (by simp) hu ⟨.bl false, H, I, rfl, q⟩
theorem op_neNil (hu : X.A.units < cLine) : OpR X (compareOp .NotEq) (rNil X.K true) := by
  intro pins s σ H x y v u Q I rx ry h
  obtain ⟨a, b, xs, rfl, rfl, ha, hb, q⟩ := h
  cases rx
  cases ry
  obtain ⟨us, r1, p1, _⟩ := I.list ha
  obtain ⟨ws, r2, p2, _⟩ := I.list hb
  cases r2
  cases r1 with
  | nil => exact SeqAt.RcNeAt.lists (e := fun _ => true) p1.isList p2.isList rfl hu (fun j h1 h2 => absurd h1 (Nat.not_lt_zero j)) _ _ _ _ ⟨.bl false, H, I, rfl, q⟩
  | cons r rr => exact SeqAt.RcNeAt.lists_lengths p1.isList p2.isList (by simp) hu _ _ _ _ ⟨.bl true, H, I, rfl, q⟩
end
/-! ### sizes -/
theorem take_sz {o o' : Org} {r : Row} {k : Nat} (s : o.Sz k) (h : o.take r = some o') : ({ o' with ntab := o'.ntab + 1 } : Org).Sz (k + 1) := by
  have L : ∀ {n : Nat}, n ≤ k → n ≤ k + 1 := fun h => Nat.le_succ_of_le h
  have up : ({ o with ntab := o.ntab + 1 } : Org).Sz (k + 1) := ⟨L s.man, L s.pip, L s.kn, L s.st, L s.ti, Nat.succ_le_succ s.tb⟩
  have kn : ∀ n d, ({ o.knob n d with ntab := o.ntab + 1 } : Org).Sz (k + 1) := fun n d => ⟨L s.man, L s.pip, (by show (o.knobs ++ [(n, d)]).length ≤ _; rw [List.length_append]; exact Nat.succ_le_succ s.kn), L s.st, Nat.succ_le_succ s.ti, Nat.succ_le_succ s.tb⟩
  cases r with
  | board n kk =>
    have ht : (if o.fresh n = true ∧ (1 ≤ kk ∧ kk ≤ 61) ∧ o.manuals.length ≠ 5 then some { o with latest := none, tit := o.name n "board" o.manuals.length, ntit := o.ntit + 1, manuals := o.manuals ++ [(n, kk)] } else none) = some o' := h
    by_cases c : o.fresh n = true ∧ (1 ≤ kk ∧ kk ≤ 61) ∧ o.manuals.length ≠ 5
    · rw [if_pos c] at ht
      obtain rfl := Option.some.inj ht
      exact ⟨(by show (o.manuals ++ [(n, kk)]).length ≤ _; rw [List.length_append]; exact Nat.succ_le_succ s.man), L s.pip, L s.kn, L s.st, Nat.succ_le_succ s.ti, Nat.succ_le_succ s.tb⟩
    · rw [if_neg c] at ht; cases ht
  | rank n pp ww =>
    have ht : (if o.fresh n = true ∧ (1 ≤ pp ∧ pp ≤ 97) ∧ (0 ≤ ww ∧ ww ≤ 1000000000) ∧ o.npipes ≠ 12 then some { o with latest := none, tit := o.name n "rank" o.npipes, ntit := o.ntit + 1, npipes := o.npipes + 1 } else none) = some o' := h
    by_cases c : o.fresh n = true ∧ (1 ≤ pp ∧ pp ≤ 97) ∧ (0 ≤ ww ∧ ww ≤ 1000000000) ∧ o.npipes ≠ 12
    · rw [if_pos c] at ht
      obtain rfl := Option.some.inj ht
      exact ⟨L s.man, Nat.succ_le_succ s.pip, L s.kn, L s.st, Nat.succ_le_succ s.ti, Nat.succ_le_succ s.tb⟩
    · rw [if_neg c] at ht; cases ht
  | stop n b =>
    have ht : (match o.titled "board" b with | some i => if o.fresh n = true ∧ o.many "stop" ≠ 24 then some { o.knob n (.stop i) with latest := some o.knobs.length, nlines := 0 } else none | none => none) = some o' := h
    cases hb : o.titled "board" b with
    | none => rw [hb] at ht; cases ht
    | some i =>
      rw [hb] at ht
      have ht : (if o.fresh n = true ∧ o.many "stop" ≠ 24 then some { o.knob n (.stop i) with latest := some o.knobs.length, nlines := 0 } else none) = some o' := ht
      by_cases c : o.fresh n = true ∧ o.many "stop" ≠ 24
      · rw [if_pos c] at ht
        obtain rfl := Option.some.inj ht
        have z := kn n (.stop i)
        exact ⟨z.man, z.pip, z.kn, z.st, z.ti, z.tb⟩
      · rw [if_neg c] at ht; cases ht
  | mute n b =>
    have ht : (match o.titled "board" b with | some i => if o.fresh n = true ∧ o.many "mute" ≠ 5 then some { o.knob n (.mute i) with latest := none } else none | none => none) = some o' := h
    cases hb : o.titled "board" b with
    | none => rw [hb] at ht; cases ht
    | some i =>
      rw [hb] at ht
      have ht : (if o.fresh n = true ∧ o.many "mute" ≠ 5 then some { o.knob n (.mute i) with latest := none } else none) = some o' := ht
      by_cases c : o.fresh n = true ∧ o.many "mute" ≠ 5
      · rw [if_pos c] at ht
        obtain rfl := Option.some.inj ht
        have z := kn n (.mute i)
        exact ⟨z.man, z.pip, z.kn, z.st, z.ti, z.tb⟩
      · rw [if_neg c] at ht; cases ht
  | coupler n f g sh =>
    have ht : (match o.titled "board" f, o.titled "board" g with
      | some i, some j => if o.fresh n = true ∧ (-60 ≤ sh ∧ sh ≤ 60) ∧ o.many "coupler" ≠ 12 then some { o.knob n (.coup i j sh) with latest := none } else none
      | _, _ => none) = some o' := h
    cases hf : o.titled "board" f with
    | none => rw [hf] at ht; cases ht
    | some i =>
      cases hg : o.titled "board" g with
      | none => rw [hf, hg] at ht; cases ht
      | some j =>
        rw [hf, hg] at ht
        have ht : (if o.fresh n = true ∧ (-60 ≤ sh ∧ sh ≤ 60) ∧ o.many "coupler" ≠ 12 then some { o.knob n (.coup i j sh) with latest := none } else none) = some o' := ht
        by_cases c : o.fresh n = true ∧ (-60 ≤ sh ∧ sh ≤ 60) ∧ o.many "coupler" ≠ 12
        · rw [if_pos c] at ht
          obtain rfl := Option.some.inj ht
          have z := kn n (.coup i j sh)
          exact ⟨z.man, z.pip, z.kn, z.st, z.ti, z.tb⟩
        · rw [if_neg c] at ht; cases ht
  | step n ns =>
    have ht : (match o.stepNs (n :: ns) [] with
      | some is => if o.stairs.length ≠ 12 then some { o with latest := none, stairs := o.stairs ++ [setOf is] } else none
      | none => none) = some o' := h
    cases hs : o.stepNs (n :: ns) [] with
    | none => rw [hs] at ht; cases ht
    | some is =>
      rw [hs] at ht
      have ht : (if o.stairs.length ≠ 12 then some { o with latest := none, stairs := o.stairs ++ [setOf is] } else none) = some o' := ht
      by_cases c : o.stairs.length ≠ 12
      · rw [if_pos c] at ht
        obtain rfl := Option.some.inj ht
        exact ⟨L s.man, L s.pip, L s.kn, (by show (o.stairs ++ [setOf is]).length ≤ _; rw [List.length_append]; exact Nat.succ_le_succ s.st), L s.ti, Nat.succ_le_succ s.tb⟩
      · rw [if_neg c] at ht; cases ht
  | line rn sf l h2 =>
    have ht : (match o.latest, o.titled "rank" rn with
      | some i, some _ => (match o.knobs[i]? with
        | some (_, .stop b) => (match o.manuals[b]? with
          | some (_, keys) => if (-200 ≤ sf ∧ sf ≤ 200) ∧ (0 ≤ h2 ∧ h2 ≤ keys - 1) ∧ (0 ≤ l ∧ l ≤ h2) ∧ o.nlines < 4 then some { o with nlines := o.nlines + 1 } else none
          | none => none)
        | _ => none)
      | _, _ => none) = some o' := h
    have e : o' = { o with nlines := o.nlines + 1 } := by
      split at ht
      · split at ht
        · split at ht
          · split at ht
            · exact (Option.some.inj ht).symm
            · cases ht
          · cases ht
        · cases ht
      · cases ht
    subst e
    exact ⟨up.man, up.pip, up.kn, up.st, up.ti, up.tb⟩
/-! ### an organ being laid -/
/-- x is an instance with fs; ls the lists laid for it -/
structure Laid (K : PySem.W.Frag) (H0 H : Hp) (x dx : Addr) (fs : List (PySem.Str × V)) (ls : List (Addr × HO)) : Prop where
  ob : H x = some (.ins (cOrgan K) dx fs)
  l : ∀ p ∈ ls, H p.1 = some p.2
  nd : (x :: ls.map Prod.fst).Nodup
  fr : Same H0 H
  nx : H0 x = none
  nl : ∀ p ∈ ls, H0 p.1 = none
section
variable {K : PySem.W.Frag} {H0 H : Hp} {x dx l : Addr} {fs fs' : List (PySem.Str × V)} {ls : List (Addr × HO)} {o : HO}
theorem Laid.lay (h : Laid K H0 H x dx fs ls) (n : H l = none) : Laid K H0 (upd H l o) x dx fs ((l, o) :: ls) := by
  have nx : x ≠ l := ne_of_none h.ob n
  refine ⟨by rw [upd_ne nx]; exact h.ob, fun p hp => ?_, ?_, h.fr.trans (Same.nw n), h.nx, fun p hp => ?_⟩
  · rcases List.mem_cons.mp hp with rfl | hp
    · exact upd_same
    · rw [upd_ne (ne_of_none (h.l p hp) n)]
      exact h.l p hp
  · have nd := h.nd
    rw [List.nodup_cons] at nd
    rw [List.map_cons, List.nodup_cons, List.nodup_cons]
    refine ⟨fun z => ?_, fun z => ?_, nd.2⟩
    · rcases List.mem_cons.mp z with z | z
      · exact nx z
      · exact nd.1 z
    · obtain ⟨p, hp, e⟩ := List.mem_map.mp z
      have z2 := h.l p hp
      rw [e] at z2
      have e2 : (l, o).1 = l := rfl
      rw [n] at z2
      cases z2
  · rcases List.mem_cons.mp hp with rfl | hp
    · exact Same.free h.fr n
    · exact h.nl p hp
theorem Laid.put (h : Laid K H0 H x dx fs ls) : Laid K H0 (upd H x (.ins (cOrgan K) dx fs')) x dx fs' ls := by
  have nd := h.nd
  rw [List.nodup_cons] at nd
  refine ⟨upd_same, fun p hp => ?_, h.nd, sameUp h.fr h.nx, h.nx, h.nl⟩
  rw [upd_ne (fun z => nd.1 (List.mem_map.mpr ⟨p, hp, z⟩))]
  exact h.l p hp
end
end WC
/-! Organ.__init__. -/
namespace WC
open PySem PySem.Spec PyProof.Rows L2
section
variable {P : Program} {w : World} {K : PySem.W.Frag} {mg : PySem.Str → Option Value} {base : Heap}
theorem sc_Organ_init : FnScope ["self", "rows", "number", "row"] ["self", "rows"] (defScope s_Organ_init) := ⟨rfl, rfl, rfl, by decide +kernel, rfl, by decide +kernel, by decide +kernel⟩
/-- the rows of a list -/
def RowsAt (H : Hp) (a : Addr) (rs : List Row) : Prop := ∃ ts : List Addr, H a = some (.lst (ts.map V.ref)) ∧ Paired (RowAt H) ts rs
theorem RowsAt.same {H H' : Hp} {a : Addr} {rs : List Row} (h : RowsAt H a rs) (s : Same H H') : RowsAt H' a rs := by
  obtain ⟨ts, h1, h2⟩ := h
  exact ⟨ts, s _ _ h1, h2.imp fun t r z => s _ _ z⟩
/-- rows that make an organ -/
structure Good (rs : List Row) (o : Org) : Prop where
  sm : ∀ r ∈ rs, r.Sm
  l1 : 1 ≤ rs.length
  l2 : rs.length ≤ 150
  tk : Org.takes {} rs = some o
  mn : o.manuals ≠ []
def spOrgan (K : PySem.W.Frag) : Sp := fun vs H Q _ => ∃ (H0 : Hp) (x dx a : Addr) (rs : List Row) (o : Org), vs = [.ref x, .ref a] ∧ H x = some (.ins (cOrgan K) dx []) ∧ Same H0 H ∧ H0 x = none ∧ RowsAt H0 a rs ∧ Good rs o ∧
  ∀ (A : OA) H', A.at_ 0 = x → OrgF K H0 H' A o o.knobs → Q .non H'
theorem takes_cons {o f : Org} {r : Row} {rs : List Row} (h : Org.takes o (r :: rs) = some f) : ∃ o', o.take r = some o' ∧ Org.takes { o' with ntab := o'.ntab + 1 } rs = some f := by
  have h : (match o.take r with | some o' => Org.takes { o' with ntab := o'.ntab + 1 } rs | none => none) = some f := h
  cases e : o.take r with
  | none => rw [e] at h; cases h
  | some o' => rw [e] at h; exact ⟨o', rfl, h⟩
theorem ok_Organ (T : Txt K mg) : C8.Mak P w K mg base 6 "Organ" (cOrgan K) (spOrgan K) [] := by
  obtain ⟨fd, F⟩ := T.d_Organ_init
  obtain ⟨t1, g1⟩ := T.i_MOST_ROWS
  have nd := sc_Organ_init.nd
  refine makOf (ps := ["self", "rows"]) F (fnNox F sc_Organ_init (fun vs H Q E h => ?_) (fun cdv Ar outer s H vs Q E hr h => ?_)) T.k_Organ T.g_Organ fun _ _ _ _ _ _ us hl => match us, hl with | [_, _], _ => rfl
  · obtain ⟨H0, x, dx, a, rs, o, rfl, _⟩ := h
    rfl
  · obtain ⟨H0, x, dx, a, rs, o, rfl, hx, s0, nx, ⟨ts, hts, hrs⟩, gd, k⟩ := h
    have hu := hu_of hr
    refine ⟨_, pss_cons (ps_fld (pv 0) (pe_lst pa_nil) rfl)
      (pss_cons (ps_fld (pv 0) (pe_lst pa_nil) rfl)
      (pss_cons (ps_fld (pv 0) (pe_lst pa_nil) rfl)
      (pss_cons (ps_fld (pv 0) (pe_lst pa_nil) rfl)
      (pss_cons (ps_fld (pv 0) (pe_lst pa_nil) rfl)
      (pss_cons (ps_fld (pv 0) (pe_lst pa_nil) rfl)
      (pss_cons (ps_fld (pv 0) pe_dnewK rfl)
      (pss_cons (ps_fld (pv 0) pe_non rfl)
      (pss_cons (ps_if (PW.pt (pw_or (pt_not (pt_val (pe_callB call_isi (by rfl) T.n_isinstance (by decide +kernel) (pa_cons (pv 1) (pa_cons (pe_bltn (v := .ty "list") (u := .type "list") (by rfl) T.n_list (by decide +kernel) rfl) pa_nil)))))
        (pw_or1 (pt_not (pt_chain op_le op_le pe_int (pe_callB call_len_seq (by rfl) T.n_len PySem.boot_len (pa_cons (pv 1) pa_nil)) (pe_glob (v := .int 150) (by rfl) g1 ⟨_, rfl⟩)))))) (pss_one ps_never) pss_nil)
      (pss_cons (ps_for PassesOwn.never rfl (pi_enum (by rfl) T.n_enumerate (pa_cons (pv 1) pa_nil)) (pg_tup rfl (pgs_cons (pg_name (i := 2) nd rfl (.inl rfl)) (pgs_cons (pg_name (i := 3) nd rfl (.inl rfl)) pgs_nil)))
        (pss_cons (ps_if (pt_not (pt_val (C8.pe_mt (ok_take_row T) hr (by decide) (pv 0) (pa_cons (pv 3) pa_nil)))) (pss_one ps_never) pss_nil)
        (pss_one (ps_expr (pe_bm PySem.F.plainAttrs_list PySem.F.slot_list_append PySem.F.type_list_append mt_append (pe_fld (pv 0) rfl) (pa_cons (pv 3) pa_nil))))))
      (pss_one (ps_if (pt_cmpR (op_eqNil (Nat.lt_of_succ_lt hu)) (pe_fld (pv 0) rfl) (pe_lst pa_nil) (nomark _)) (pss_one ps_never) pss_nil))))))))))), ?_⟩
    have L0 : Laid K H0 H x dx [] [] := ⟨hx, (fun _ z => by cases z), List.nodup_cons.mpr ⟨(fun z => by cases z), List.nodup_nil⟩, s0, nx, fun _ z => by cases z⟩
    refine ⟨by decide, fun l1 n1 => ⟨_, rfl, x, cOrgan K, dx, _, rfl, (L0.lay n1).ob, T.cl_Organ, T.a_Organ_table, of_decide_eq_true (by kernel_rfl), ?_⟩⟩
    have L1 := (L0.lay (o := .lst []) n1).put (fs' := putF "table" (.ref l1) [])
    refine ⟨by decide, fun l2 n2 => ⟨_, rfl, x, cOrgan K, dx, _, rfl, (L1.lay n2).ob, T.cl_Organ, T.a_Organ_manuals, of_decide_eq_true (by kernel_rfl), ?_⟩⟩
    have L2 := (L1.lay (o := .lst []) n2).put (fs' := putF "manuals" (.ref l2) (putF "table" (.ref l1) []))
    refine ⟨by decide, fun l3 n3 => ⟨_, rfl, x, cOrgan K, dx, _, rfl, (L2.lay n3).ob, T.cl_Organ, T.a_Organ_pipework, of_decide_eq_true (by kernel_rfl), ?_⟩⟩
    have L3 := (L2.lay (o := .lst []) n3).put (fs' := putF "pipework" (.ref l3) (putF "manuals" (.ref l2) (putF "table" (.ref l1) [])))
    refine ⟨by decide, fun l4 n4 => ⟨_, rfl, x, cOrgan K, dx, _, rfl, (L3.lay n4).ob, T.cl_Organ, T.a_Organ_draws, of_decide_eq_true (by kernel_rfl), ?_⟩⟩
    have L4 := (L3.lay (o := .lst []) n4).put (fs' := putF "draws" (.ref l4) (putF "pipework" (.ref l3) (putF "manuals" (.ref l2) (putF "table" (.ref l1) []))))
    refine ⟨by decide, fun l5 n5 => ⟨_, rfl, x, cOrgan K, dx, _, rfl, (L4.lay n5).ob, T.cl_Organ, T.a_Organ_details, of_decide_eq_true (by kernel_rfl), ?_⟩⟩
    have L5 := (L4.lay (o := .lst []) n5).put (fs' := putF "details" (.ref l5) (putF "draws" (.ref l4) (putF "pipework" (.ref l3) (putF "manuals" (.ref l2) (putF "table" (.ref l1) [])))))
    refine ⟨by decide, fun l6 n6 => ⟨_, rfl, x, cOrgan K, dx, _, rfl, (L5.lay n6).ob, T.cl_Organ, T.a_Organ_stairs, of_decide_eq_true (by kernel_rfl), ?_⟩⟩
    have L6 := (L5.lay (o := .lst []) n6).put (fs' := putF "stairs" (.ref l6) (putF "details" (.ref l5) (putF "draws" (.ref l4) (putF "pipework" (.ref l3) (putF "manuals" (.ref l2) (putF "table" (.ref l1) []))))))
    refine fun l7 n7 => ⟨_, rfl, x, cOrgan K, dx, _, rfl, (L6.lay n7).ob, T.cl_Organ, T.a_Organ_titles, of_decide_eq_true (by kernel_rfl), ?_⟩
    have L7 := (L6.lay (o := .dK []) n7).put (fs' := putF "titles" (.ref l7) (putF "stairs" (.ref l6) (putF "details" (.ref l5) (putF "draws" (.ref l4) (putF "pipework" (.ref l3) (putF "manuals" (.ref l2) (putF "table" (.ref l1) [])))))))
    refine ⟨_, rfl, x, cOrgan K, dx, _, rfl, L7.ob, T.cl_Organ, T.a_Organ_latest, of_decide_eq_true (by kernel_rfl), ?_⟩
    have L8 := L7.put (fs' := putF "latest" .non (putF "titles" (.ref l7) (putF "stairs" (.ref l6) (putF "details" (.ref l5) (putF "draws" (.ref l4) (putF "pipework" (.ref l3) (putF "manuals" (.ref l2) (putF "table" (.ref l1) []))))))))
    clear L0 L1 L2 L3 L4 L5 L6 L7
    generalize upd _ x (.ins (cOrgan K) dx (putF "latest" .non _)) = H8 at L8 ⊢
    have nd8 : [x, l7, l6, l5, l4, l3, l2, l1].Nodup := L8.nd
    obtain ⟨A, hA⟩ : ∃ A : OA, A.dx = dx ∧ A.at_ = fun i => ([x, l1, l2, l3, l4, l5, l6, l7][i]?).getD x := by
      refine ⟨⟨dx, fun i => ([x, l1, l2, l3, l4, l5, l6, l7][i]?).getD x, fun i j hi hj e => ?_⟩, rfl, rfl⟩
      have nd9 : [x, l1, l2, l3, l4, l5, l6, l7].Nodup := by
        refine List.Perm.nodup ?_ nd8
        have p : List.Perm (x :: [l7, l6, l5, l4, l3, l2, l1]) (x :: [l7, l6, l5, l4, l3, l2, l1].reverse) := List.Perm.cons x (List.reverse_perm _).symm
        exact p
      have e : ([x, l1, l2, l3, l4, l5, l6, l7][i]?).getD x = ([x, l1, l2, l3, l4, l5, l6, l7][j]?).getD x := e
      rw [List.getElem?_eq_getElem hi, List.getElem?_eq_getElem hj] at e
      exact (List.getElem_inj nd9).mp e
    obtain ⟨hdx, hat⟩ := hA
    have b0 : A.at_ 0 = x := by rw [hat]; rfl
    have b1 : A.at_ 1 = l1 := by rw [hat]; rfl
    have b2 : A.at_ 2 = l2 := by rw [hat]; rfl
    have b3 : A.at_ 3 = l3 := by rw [hat]; rfl
    have b4 : A.at_ 4 = l4 := by rw [hat]; rfl
    have b5 : A.at_ 5 = l5 := by rw [hat]; rfl
    have b6 : A.at_ 6 = l6 := by rw [hat]; rfl
    have b7 : A.at_ 7 = l7 := by rw [hat]; rfl
    have ef : putF "latest" V.non (putF "titles" (.ref l7) (putF "stairs" (.ref l6) (putF "details" (.ref l5) (putF "draws" (.ref l4) (putF "pipework" (.ref l3) (putF "manuals" (.ref l2) (putF "table" (.ref l1) []))))))) = oflds A .non := by
      unfold oflds
      rw [b1, b2, b3, b4, b5, b6, b7]
      kernel_rfl
    have G : OrgF K H0 H8 A {} [] := by
      refine ⟨⟨?_, ⟨[], ?_, rfl⟩, ⟨[], ?_, .nil⟩, ⟨[], ?_, rfl⟩, ⟨[], ?_, .nil⟩, ⟨[], ?_, .nil⟩, ?_, ⟨[], ?_, Nat.le_refl _, fun _ => rfl⟩, fun i hi => by cases hi⟩, L8.fr, fun i hi => ?_, fun i hi => by cases hi⟩
      · rw [b0, hdx, L8.ob, ef]
        rfl
      · rw [b1]; exact L8.l (l1, .lst []) (by simp)
      · rw [b2]; exact L8.l (l2, .lst []) (by simp)
      · rw [b3]; exact L8.l (l3, .lst []) (by simp)
      · rw [b4]; exact L8.l (l4, .lst []) (by simp)
      · rw [b5]; exact L8.l (l5, .lst []) (by simp)
      · rw [b6]; exact L8.l (l6, .lst []) (by simp)
      · rw [b7]; exact L8.l (l7, .dK []) (by simp)
      · match i, hi with
        | 0, _ => rw [b0]; exact L8.nx
        | 1, _ => rw [b1]; exact L8.nl (l1, .lst []) (by simp)
        | 2, _ => rw [b2]; exact L8.nl (l2, .lst []) (by simp)
        | 3, _ => rw [b3]; exact L8.nl (l3, .lst []) (by simp)
        | 4, _ => rw [b4]; exact L8.nl (l4, .lst []) (by simp)
        | 5, _ => rw [b5]; exact L8.nl (l5, .lst []) (by simp)
        | 6, _ => rw [b6]; exact L8.nl (l6, .lst []) (by simp)
        | 7, _ => rw [b7]; exact L8.nl (l7, .dK []) (by simp)
    clear L8 ef
    rw [← b0]
    have tl : (ts.map V.ref).length = rs.length := by rw [List.length_map, Paired.length hrs]
    have c1 := gd.l1
    have c2 := gd.l2
    have ha8 := G.fr _ _ hts
    refine ⟨_, rfl, _, _, _, _, _, rfl, .ty _, .base (.lst ha8), kit_ty (r := true) (by decide +kernel), _, rfl, iteF ?_⟩
    refine ⟨_, rfl, a, _, rfl, .inl (SqL.of ha8), _, _, rfl, rfl, _, rfl, ?_⟩
    rw [show decide ((1 : Int) ≤ (ts.map V.ref).length) = true from decide_eq_true (by rw [tl]; omega)]
    refine iteT ⟨_, _, rfl, rfl, _, rfl, ?_⟩
    rw [show decide (((ts.map V.ref).length : Int) ≤ 150) = true from decide_eq_true (by rw [tl]; omega)]
    refine iteF ?_
    refine ⟨_, rfl, a, _, rfl, SqL.of ha8, for_it (walk_enum (xs := ts.map V.ref)) (fun i σ H2 => ∃ (v u : Option V) (oi : Org), σ = [some (.ref (A.at_ 0)), some (.ref a), v, u] ∧ OrgF K H0 H2 A oi oi.knobs ∧ oi.Sz i ∧ Org.takes oi (rs.drop i) = some o)
      ⟨none, none, {}, rfl, G, ⟨Nat.zero_le _, Nat.zero_le _, Nat.zero_le _, Nat.zero_le _, Nat.zero_le _, Nat.zero_le _⟩, gd.tk⟩
      (fun i σ H2 _ ⟨_, _, _, _, g, _⟩ => SqL.of (g.fr _ _ hts)) ?_ ?_⟩
    · rintro i y σ H2 H3 hi ⟨v, u, oi, rfl, G2, sz, tk⟩ ⟨tt, y1, y2, rfl, hT, rfl, q1, q2⟩
      cases q1
      obtain ⟨tr, hj, rfl⟩ := get_map q2
      obtain ⟨r, hr2, hrow⟩ := hrs.getL hj
      have hd : rs.drop i = r :: rs.drop (i + 1) := by
        obtain ⟨hlt, he⟩ := List.getElem?_eq_some_iff.mp hr2
        rw [← he]
        exact List.drop_eq_getElem_cons hlt
      rw [hd] at tk
      obtain ⟨o2, k1, k2⟩ := takes_cons tk
      have G3 := G2.new (u := .tup [.int (i : Int), .ref tr]) hT
      have hi2 : i < rs.length := by rw [← tl]; exact hi
      have sz5 : oi.Sz 500 := ⟨Nat.le_trans sz.man (by omega), Nat.le_trans sz.pip (by omega), Nat.le_trans sz.kn (by omega), Nat.le_trans sz.st (by omega), Nat.le_trans sz.ti (by omega), Nat.le_trans sz.tb (by omega)⟩
      refine ⟨tt, _, rfl, SqT.of upd_same, rfl, _, _, rfl, _, _, rfl, rfl, ?_⟩
      refine ⟨_, rfl, A.at_ 0, A.dx, _, rfl, G3.g.ob, of_no _ _ _ (by decide +kernel), _, rfl, H0, A, oi, o2, tr, r, rfl, trivial, G3, G3.fr _ _ hrow, gd.sm r (List.mem_of_getElem? hr2), sz5, k1, fun H4 G4 => ⟨_, rfl, iteF ?_⟩⟩
      obtain ⟨xs, e1, e2⟩ := G4.g.tb
      refine ⟨_, rfl, _, cOrgan K, A.dx, _, _, rfl, G4.g.ob, T.cl_Organ, T.a_Organ_table, of_table _ _, .inl ⟨rfl, _, SqL.of e1⟩, ?_⟩
      refine ⟨_, rfl, _, _, _, rfl, rfl, e1, ?_, ?_⟩
      · rw [e2]
        have := (take_sz sz k1).tb
        have z : o2.ntab + 1 ≤ i + 1 := this
        exact lt_line (by omega)
      · exact ⟨_, _, _, rfl, G4.at 1 (by decide) (by decide) (G4.g.sTab (.ref tr) e1) rfl, take_sz sz k1, k2⟩
    · rintro σ H2 ⟨v, u, oi, rfl, G2, sz, tk⟩
      rw [tl, List.drop_length] at tk
      have tk : some oi = some o := tk
      obtain rfl := Option.some.inj tk
      obtain ⟨ts2, m1, m2⟩ := G2.g.ma
      refine ⟨_, rfl, _, cOrgan K, A.dx, _, _, rfl, G2.g.ob, T.cl_Organ, T.a_Organ_manuals, of_manuals _ _, by decide, fun l hl => ?_⟩
      have G3 := G2.new (u := .lst []) hl
      refine ⟨_, _, _, rfl, rfl, SqL.of (by rw [upd_ne (ne_of_none m1 hl)]; exact m1), SqL.of upd_same, _, rfl, ?_⟩
      have e : (ts2.map V.ref).isEmpty = false := by
        have ne : ts2 ≠ [] := fun z => by
          rw [z] at m2
          have := Paired.length m2
          exact gd.mn (List.eq_nil_of_length_eq_zero this.symm)
        cases ts2 with
        | nil => exact absurd rfl ne
        | cons => rfl
      rw [e]
      exact iteF (k A _ b0 G3)
end
end WC
/-! knobs_of_board, the pistons. -/
namespace WC
open PySem PySem.Spec PyProof.Rows L2
theorem knobsFrom_snoc (b : Nat) (k : PySem.Str × Det) : ∀ (i : Nat) (l : List (PySem.Str × Det)), knobsFrom b i (l ++ [k]) = knobsFrom b i l ++ (if k.2.board = b then [((i + l.length : Nat) : Int)] else [])
  | i, [] => by
    show (if k.2.board = b then (i : Int) :: knobsFrom b (i + 1) [] else knobsFrom b (i + 1) []) = [] ++ _
    by_cases c : k.2.board = b
    · rw [if_pos c, if_pos c]; rfl
    · rw [if_neg c, if_neg c]; rfl
  | i, q :: l => by
    have ih := knobsFrom_snoc b k (i + 1) l
    show (if q.2.board = b then (i : Int) :: knobsFrom b (i + 1) (l ++ [k]) else knobsFrom b (i + 1) (l ++ [k])) = (if q.2.board = b then (i : Int) :: knobsFrom b (i + 1) l else knobsFrom b (i + 1) l) ++ _
    rw [ih, show i + 1 + l.length = i + (q :: l).length by rw [List.length_cons]; omega]
    by_cases c : q.2.board = b
    · rw [if_pos c, if_pos c]; rfl
    · rw [if_neg c, if_neg c]
theorem knobsFrom_lt (b : Nat) : ∀ (i : Nat) (l : List (PySem.Str × Det)) (n : Int), n ∈ knobsFrom b i l → (i : Int) ≤ n ∧ n < ((i + l.length : Nat) : Int)
  | i, [], n, h => by cases h
  | i, q :: l, n, h => by
    have ih := knobsFrom_lt b (i + 1) l n
    have h : n ∈ (if q.2.board = b then (i : Int) :: knobsFrom b (i + 1) l else knobsFrom b (i + 1) l) := h
    by_cases c : q.2.board = b
    · rw [if_pos c] at h
      rcases List.mem_cons.mp h with rfl | h
      · rw [List.length_cons]
        omega
      · have := ih h
        rw [List.length_cons]
        omega
    · rw [if_neg c] at h
      have := ih h
      rw [List.length_cons]
      omega
theorem knobsFrom_len (b : Nat) : ∀ (i : Nat) (l : List (PySem.Str × Det)), (knobsFrom b i l).length ≤ l.length
  | i, [] => Nat.le_refl _
  | i, q :: l => by
    have ih := knobsFrom_len b (i + 1) l
    show (if q.2.board = b then (i : Int) :: knobsFrom b (i + 1) l else knobsFrom b (i + 1) l).length ≤ _
    by_cases c : q.2.board = b
    · rw [if_pos c, List.length_cons, List.length_cons]; omega
    · rw [if_neg c, List.length_cons]; omega
section
variable {P : Program} {w : World} {K : PySem.W.Frag} {mg : PySem.Str → Option Value} {base : Heap}
theorem sc_knobs_of_board : FnScope ["organ", "board", "found", "knob", "row"] ["organ", "board"] (defScope s_knobs_of_board) := ⟨rfl, rfl, rfl, by decide +kernel, rfl, by decide +kernel, by decide +kernel⟩
def spKoB (K : PySem.W.Frag) : Sp := fun vs H Q _ => ∃ (A : OA) (o : Org) (b : Nat), vs = [.ref (A.at_ 0), .int (b : Int)] ∧ OrgAt K H A o ∧ o.knobs.length ≤ 200 ∧ ∀ H', Same H H' → Q (.int (o.knobsOf b)) H'
theorem ok_knobs_of_board (T : Txt K mg) : C8.Cal P w K mg base 3 "knobs_of_board" (spKoB K) [] := by
  obtain ⟨fd, F⟩ := T.d_knobs_of_board
  have nd := sc_knobs_of_board.nd
  refine calOf (ps := ["organ", "board"]) F (fnNox F sc_knobs_of_board (fun vs H Q E h => ?_) (fun cdv Ar outer s H vs Q E hr h => ?_)) T.g_knobs_of_board fun _ _ _ _ _ _ us hl => match us, hl with | [_, _], _ => rfl
  · obtain ⟨A, o, b, rfl, _⟩ := h
    rfl
  · obtain ⟨A, o, b, rfl, G, hz, k⟩ := h
    have hu := hu_of hr
    refine ⟨_, pss_cons (ps_set (i := 2) nd rfl (.inl rfl) (pe_lst pa_nil))
      (pss_cons (ps_for PassesOwn.never rfl (pi_enum (by rfl) T.n_enumerate (pa_cons (C8.pe_mt0 (ok_oknobs T) hr (by decide) (pv 0)) pa_nil)) (pg_tup rfl (pgs_cons (pg_name (i := 3) nd rfl (.inl rfl)) (pgs_cons (pg_name (i := 4) nd rfl (.inl rfl)) pgs_nil)))
        (pss_one (ps_if (PW.pt (pw_and (pt_cmpR op_eq (pe_ix ix_tup (pv 4) pe_int (fun _ _ => rfl)) pe_str (nomark _)) (pw_and1 (pt_cmpR op_eq (pe_ix ix_tup (C8.pe_mt (ok_stop T) hr (by decide) (pv 0) (pa_cons (pv 3) pa_nil)) pe_int (fun _ _ => rfl)) (pv 1) (nomark _)))))
            (pss_one (ps_expr (pe_bm PySem.F.plainAttrs_list PySem.F.slot_list_append PySem.F.type_list_append mt_append (pv 2) (pa_cons (pv 3) pa_nil))))
          (pss_one (ps_if (PW.pt (pw_and (pt_cmpR op_eq (pe_ix ix_tup (pv 4) pe_int (fun _ _ => rfl)) pe_str (nomark _)) (pw_and1 (pt_cmpR op_eq (pe_ix ix_tup (C8.pe_mt (ok_coupler T) hr (by decide) (pv 0) (pa_cons (pv 3) pa_nil)) pe_int (fun _ _ => rfl)) (pv 1) (nomark _)))))
            (pss_one (ps_expr (pe_bm PySem.F.plainAttrs_list PySem.F.slot_list_append PySem.F.type_list_append mt_append (pv 2) (pa_cons (pv 3) pa_nil))))
          (pss_one (ps_if (PW.pt (pw_and (pt_cmpR op_eq (pe_ix ix_tup (pv 4) pe_int (fun _ _ => rfl)) pe_str (nomark _)) (pw_and1 (pt_cmpR op_eq (C8.pe_mt (ok_mute T) hr (by decide) (pv 0) (pa_cons (pv 3) pa_nil)) (pv 1) (nomark _)))))
            (pss_one (ps_expr (pe_bm PySem.F.plainAttrs_list PySem.F.slot_list_append PySem.F.type_list_append mt_append (pv 2) (pa_cons (pv 3) pa_nil))))
            pss_nil)))))))
      (pss_one (ps_ret (C8.pe_c (ok_set_of T) hr (by decide) (by rfl) (pa_cons (pv 2) pa_nil))))), ?_⟩
    refine ⟨by decide, fun N hN => ?_⟩
    have G1 : OrgAt K (upd H N (.lst [])) A o := G.new hN
    obtain ⟨ts, d1, d2⟩ := G.dr
    have d1' : (upd H N (.lst [])) (A.at_ 4) = some (.lst (ts.map V.ref)) := by rw [upd_ne (ne_of_none d1 hN)]; exact d1
    have tl : (ts.map V.ref).length = o.knobs.length := by rw [List.length_map, Paired.length d2]
    refine ⟨_, rfl, A.at_ 0, A.dx, _, rfl, G1.ob, of_no _ _ _ (by decide +kernel), A, o, _, rfl, G1, d1', fun l hl => ?_⟩
    have nl : N ≠ l := ne_of_none (o := .lst []) upd_same hl
    refine ⟨l, _, rfl, SqL.of upd_same, for_it (walk_enum (xs := ts.map V.ref)) (fun i σ H2 => ∃ (v u : Option V), σ = [some (.ref (A.at_ 0)), some (.int (b : Int)), some (.ref N), v, u] ∧ Same H H2 ∧ H2 l = some (.lst (ts.map V.ref)) ∧ H2 N = some (.lst ((knobsFrom b 0 (o.knobs.take i)).map V.int)))
      ⟨none, none, rfl, (fun c u e => by rw [upd_ne (ne_of_none (show (upd H N (.lst [])) c = some u by rw [upd_ne (ne_of_none e hN)]; exact e) hl), upd_ne (ne_of_none e hN)]; exact e), upd_same, by rw [upd_ne nl]; exact upd_same⟩
      (fun i σ H2 _ ⟨_, _, _, _, e, _⟩ => SqL.of e) ?_ ?_⟩
    · rintro i y σ H2 H3 hi ⟨v, u, rfl, s2, el, eN⟩ ⟨tt, y1, y2, rfl, hT, rfl, q1, q2⟩
      cases q1
      obtain ⟨td, hj, rfl⟩ := get_map q2
      obtain ⟨⟨kn, kd⟩, hk, hrow⟩ := d2.getL hj
      have hi2 : i < o.knobs.length := by rw [← tl]; exact hi
      have s3 : Same H (upd H2 tt (.tup [.int (i : Int), .ref td])) := s2.trans (Same.nw hT)
      have nTl : l ≠ tt := ne_of_none el hT
      have nTN : N ≠ tt := ne_of_none eN hT
      have el3 : (upd H2 tt (.tup [.int (i : Int), .ref td])) l = some (.lst (ts.map V.ref)) := by rw [upd_ne nTl]; exact el
      have eN3 : (upd H2 tt (.tup [.int (i : Int), .ref td])) N = some (.lst ((knobsFrom b 0 (o.knobs.take i)).map V.int)) := by rw [upd_ne nTN]; exact eN
      refine ⟨tt, _, rfl, SqT.of upd_same, rfl, _, _, rfl, _, _, rfl, rfl, ?_⟩
      clear nTl nTN el eN s2
      generalize upd H2 tt (.tup [.int (i : Int), .ref td]) = H3 at s3 el3 eN3
      have hrow3 := s3 _ _ hrow
      have tm : knobsFrom b 0 (o.knobs.take (i + 1)) = knobsFrom b 0 (o.knobs.take i) ++ (if kd.board = b then [(i : Int)] else []) := by
        rw [take_more hk, knobsFrom_snoc, List.length_take, Nat.min_eq_left (Nat.le_of_lt hi2), Nat.zero_add]
      have yes : kd.board = b → ∀ H4, Same H3 H4 → ∃ (v u : Option V), ([some (V.ref (A.at_ 0)), some (.int (b : Int)), some (.ref N), some (.int (i : Int)), some (.ref td)] : L2.St) = [some (.ref (A.at_ 0)), some (.int (b : Int)), some (.ref N), v, u] ∧ Same H (upd H4 N (.lst ((knobsFrom b 0 (o.knobs.take i)).map V.int ++ [.int (i : Int)]))) ∧ (upd H4 N (.lst ((knobsFrom b 0 (o.knobs.take i)).map V.int ++ [.int (i : Int)]))) l = some (.lst (ts.map V.ref)) ∧ (upd H4 N (.lst ((knobsFrom b 0 (o.knobs.take i)).map V.int ++ [.int (i : Int)]))) N = some (.lst ((knobsFrom b 0 (o.knobs.take (i + 1))).map V.int)) := fun c H4 s4 => by
        refine ⟨_, _, rfl, fun c u e => ?_, ?_, ?_⟩
        · rw [upd_ne (ne_of_none e hN)]
          exact s4 _ _ (s3 _ _ e)
        · rw [upd_ne nl.symm]
          exact s4 _ _ el3
        · rw [upd_same, tm, if_pos c, List.map_append]
          rfl
      have no : kd.board ≠ b → ∀ H4, Same H3 H4 → ∃ (v u : Option V), ([some (V.ref (A.at_ 0)), some (.int (b : Int)), some (.ref N), some (.int (i : Int)), some (.ref td)] : L2.St) = [some (.ref (A.at_ 0)), some (.int (b : Int)), some (.ref N), v, u] ∧ Same H H4 ∧ H4 l = some (.lst (ts.map V.ref)) ∧ H4 N = some (.lst ((knobsFrom b 0 (o.knobs.take (i + 1))).map V.int)) := fun c H4 s4 => by
        refine ⟨_, _, rfl, s3.trans s4, s4 _ _ el3, ?_⟩
        rw [tm, if_neg c, List.append_nil]
        exact s4 _ _ eN3
      have len : ((knobsFrom b 0 (o.knobs.take i)).map V.int).length < sizeLine := by
        rw [List.length_map]
        have := knobsFrom_len b 0 (o.knobs.take i)
        rw [List.length_take] at this
        exact lt_line (by omega)
      have G3 := G.same s3
      have iB : ∀ c : Nat, c = b → decide (V.int (c : Int) = V.int (b : Int)) = true := fun c e => decide_eq_true (by rw [e])
      cases kd with
      | stop c =>
        refine ⟨_, rfl, td, _, _, _, rfl, rfl, SqT.of hrow3, rfl, rfl, _, rfl, ?_⟩
        rw [show decide (V.str (Det.stop c).word = V.str "stop") = true from decide_eq_true rfl]
        refine iteT ⟨_, rfl, A.at_ 0, A.dx, _, rfl, G3.ob, of_no _ _ _ (by decide +kernel), _, rfl, A, o, i, kn, c, rfl, G3, hk, fun H4 t4 l4 s4 e4 => ?_⟩
        refine ⟨t4, _, _, _, rfl, rfl, SqT.of e4, rfl, _, rfl, rfl, _, rfl, ?_⟩
        by_cases cb : c = b
        · rw [iB c cb]
          refine iteT ⟨_, rfl, .inl ⟨rfl, _, SqL.of (s4 _ _ eN3)⟩, _, rfl, _, _, _, rfl, rfl, s4 _ _ eN3, len, yes cb H4 s4⟩
        · rw [ne_int cb]
          refine iteF ⟨_, rfl, td, _, _, _, rfl, rfl, SqT.of (s4 _ _ hrow3), rfl, rfl, _, rfl, ?_⟩
          rw [strF (show (Det.stop c).word ≠ "coupler" by simp only [Det.word]; decide +kernel)]
          refine iteF (iteF ⟨_, rfl, td, _, _, _, rfl, rfl, SqT.of (s4 _ _ hrow3), rfl, rfl, _, rfl, ?_⟩)
          rw [strF (show (Det.stop c).word ≠ "mute" by simp only [Det.word]; decide +kernel)]
          exact iteF (iteF (no cb H4 s4))
      | coup f g sh =>
        refine ⟨_, rfl, td, _, _, _, rfl, rfl, SqT.of hrow3, rfl, rfl, _, rfl, ?_⟩
        rw [strF (show (Det.coup f g sh).word ≠ "stop" by simp only [Det.word]; decide +kernel)]
        refine iteF (iteF ⟨_, rfl, td, _, _, _, rfl, rfl, SqT.of hrow3, rfl, rfl, _, rfl, ?_⟩)
        rw [show decide (V.str (Det.coup f g sh).word = V.str "coupler") = true from decide_eq_true rfl]
        refine iteT ⟨_, rfl, A.at_ 0, A.dx, _, rfl, G3.ob, of_no _ _ _ (by decide +kernel), _, rfl, A, o, i, kn, .coup f g sh, rfl, G3, hk, fun v4 dv => ?_⟩
        obtain ⟨t4, rfl, e4⟩ := dv
        refine ⟨t4, _, _, _, rfl, rfl, SqT.of e4, rfl, _, rfl, rfl, _, rfl, ?_⟩
        by_cases cb : f = b
        · rw [iB f cb]
          refine iteT ⟨_, rfl, .inl ⟨rfl, _, SqL.of eN3⟩, _, rfl, _, _, _, rfl, rfl, eN3, len, yes cb _ (Same.refl _)⟩
        · rw [ne_int cb]
          refine iteF ⟨_, rfl, td, _, _, _, rfl, rfl, SqT.of hrow3, rfl, rfl, _, rfl, ?_⟩
          rw [strF (show (Det.coup f g sh).word ≠ "mute" by simp only [Det.word]; decide +kernel)]
          exact iteF (iteF (no cb _ (Same.refl _)))
      | mute c =>
        refine ⟨_, rfl, td, _, _, _, rfl, rfl, SqT.of hrow3, rfl, rfl, _, rfl, ?_⟩
        rw [strF (show (Det.mute c).word ≠ "stop" by simp only [Det.word]; decide +kernel)]
        refine iteF (iteF ⟨_, rfl, td, _, _, _, rfl, rfl, SqT.of hrow3, rfl, rfl, _, rfl, ?_⟩)
        rw [strF (show (Det.mute c).word ≠ "coupler" by simp only [Det.word]; decide +kernel)]
        refine iteF (iteF ⟨_, rfl, td, _, _, _, rfl, rfl, SqT.of hrow3, rfl, rfl, _, rfl, ?_⟩)
        rw [show decide (V.str (Det.mute c).word = V.str "mute") = true from decide_eq_true rfl]
        refine iteT ⟨_, rfl, A.at_ 0, A.dx, _, rfl, G3.ob, of_no _ _ _ (by decide +kernel), _, rfl, A, o, i, kn, .mute c, rfl, G3, hk, fun v4 dv => ?_⟩
        obtain rfl : v4 = V.int (c : Int) := dv
        refine ⟨_, rfl, rfl, _, rfl, ?_⟩
        by_cases cb : c = b
        · rw [iB c cb]
          refine iteT ⟨_, rfl, .inl ⟨rfl, _, SqL.of eN3⟩, _, rfl, _, _, _, rfl, rfl, eN3, len, yes cb _ (Same.refl _)⟩
        · rw [ne_int cb]
          exact iteF (no cb _ (Same.refl _))
    · rintro σ H2 ⟨v, u, rfl, s2, el, eN⟩
      rw [tl, List.take_length] at eN
      refine ⟨_, rfl, N, _, rfl, eN, fun n hn => ?_, k H2 s2⟩
      have := knobsFrom_lt b 0 o.knobs n hn
      omega
end
end WC
/-! Pistons. -/
namespace WC
open PySem PySem.Spec PyProof.Rows L2
section
variable {P : Program} {w : World} {K : PySem.W.Frag} {mg : PySem.Str → Option Value} {base : Heap}
abbrev fEvery (k : Int) : List (PySem.Str × V) := [("stored", .int k)]
abbrev fPart (k w : Int) : List (PySem.Str × V) := [("stored", .int k), ("whole", .int w)]
theorem sc_Piston_init : FnScope ["self", "knobs"] ["self", "knobs"] (defScope s_Piston_init) := ⟨rfl, rfl, rfl, by decide +kernel, rfl, by decide +kernel, by decide +kernel⟩
def spPin (K : PySem.W.Frag) (C : Addr) : Sp := fun vs H Q _ => ∃ (x dx : Addr) (k : Int), vs = [.ref x, .int k] ∧ H x = some (.ins C dx []) ∧ Q .non (upd H x (.ins C dx (fEvery k)))
theorem ok_Every (T : Txt K mg) : C8.Mak P w K mg base 1 "Every" (cEvery K) (spPin K (cEvery K)) [] := by
  obtain ⟨fd, F⟩ := T.d_Every_init
  refine makOf (ps := ["self", "knobs"]) F (fnNox F sc_Piston_init (fun vs H Q E h => ?_) (fun cdv Ar outer s H vs Q E hr h => ?_)) T.k_Every T.g_Every fun _ _ _ _ _ _ us hl => match us, hl with | [_, _], _ => rfl
  · obtain ⟨x, dx, k, rfl, _⟩ := h
    rfl
  · obtain ⟨x, dx, k, rfl, hx, q⟩ := h
    refine ⟨_, pss_one (ps_fld (pv 0) (pv 1) rfl), ?_⟩
    exact ⟨_, rfl, _, rfl, x, cEvery K, dx, _, rfl, hx, T.cl_Every, T.a_Every_stored, by decide, q⟩
theorem fn_Pin (T : Txt K mg) : ∃ fd, FnP K ("Piston", some "__init__") "__init__" "Piston.__init__" s_Piston_init [] fd ∧ FnOk P w K mg base CX0 1 (He.fAd K ("Piston", some "__init__")) fd ["self", "knobs"] (spPin K (cPart K)) := by
  obtain ⟨fd, F⟩ := T.d_Piston_init
  refine ⟨fd, F, fnNox F sc_Piston_init (fun vs H Q E h => ?_) (fun cdv Ar outer s H vs Q E hr h => ?_)⟩
  · obtain ⟨x, dx, k, rfl, _⟩ := h
    rfl
  · obtain ⟨x, dx, k, rfl, hx, q⟩ := h
    refine ⟨_, pss_one (ps_fld (pv 0) (pv 1) rfl), ?_⟩
    exact ⟨_, rfl, _, rfl, x, cPart K, dx, _, rfl, hx, T.cl_Part, T.a_Part_stored, by decide, q⟩
theorem sc_Part_init : FnScope ["self", "knobs", "whole"] ["self", "knobs", "whole"] (defScope s_Part_init) := ⟨rfl, rfl, rfl, by decide +kernel, rfl, by decide +kernel, by decide +kernel⟩
def spPart (K : PySem.W.Frag) : Sp := fun vs H Q _ => ∃ (x dx : Addr) (k w : Int), vs = [.ref x, .int k, .int w] ∧ H x = some (.ins (cPart K) dx []) ∧ Q .non (upd H x (.ins (cPart K) dx (fPart k w)))
theorem ok_Part (T : Txt K mg) : C8.Mak P w K mg base 2 "Part" (cPart K) (spPart K) [] := by
  obtain ⟨fd, F⟩ := T.d_Part_init
  obtain ⟨fd2, F2, G2⟩ := fn_Pin (P := P) (w := w) (base := base) T
  refine makOf (ps := ["self", "knobs", "whole"]) F (fnNox F sc_Part_init (fun vs H Q E h => ?_) (fun cdv Ar outer s H vs Q E hr h => ?_)) T.k_Part T.g_Part fun _ _ _ _ _ _ us hl => match us, hl with | [_, _, _], _ => rfl
  · obtain ⟨x, dx, k, w, rfl, _⟩ := h
    rfl
  · obtain ⟨x, dx, k, ww, rfl, hx, q⟩ := h
    refine ⟨_, pss_cons (ps_expr (pe_clsfn (pe_glob (v := .ref (cPiston K)) (by rfl) T.g_Piston rfl) T.rdP T.viP F2.kp G2 hr (F2.bindsN fun _ _ _ _ _ _ us hl => match us, hl with | [_, _], _ => rfl) (pa_cons (pv 0) (pa_cons (pv 1) pa_nil))))
      (pss_one (ps_fld (pv 0) (pv 2) rfl)), ?_⟩
    refine ⟨rfl, _, rfl, _, rfl, x, dx, k, rfl, hx, ?_⟩
    refine ⟨_, rfl, _, rfl, x, cPart K, dx, _, rfl, upd_same, T.cl_Part, T.a_Part_whole, (by show 1 < 1000; decide), ?_⟩
    rw [upd_upd]
    exact q
theorem sc_Every_put : FnScope ["self", "drawn"] ["self", "drawn"] (defScope s_Every_put) := ⟨rfl, rfl, rfl, by decide +kernel, rfl, by decide +kernel, by decide +kernel⟩
theorem sc_Part_put : FnScope ["self", "drawn"] ["self", "drawn"] (defScope s_Part_put) := ⟨rfl, rfl, rfl, by decide +kernel, rfl, by decide +kernel, by decide +kernel⟩
def spPutE (K : PySem.W.Frag) : Sp := fun vs H Q _ => ∃ (p dx : Addr) (k d : Int), vs = [.ref p, .int d] ∧ H p = some (.ins (cEvery K) dx (fEvery k)) ∧ Q (.int k) H
def spPutP (K : PySem.W.Frag) : Sp := fun vs H Q _ => ∃ (p dx : Addr) (k w d : Int), vs = [.ref p, .int d] ∧ H p = some (.ins (cPart K) dx (fPart k w)) ∧ Q (.int (bOr (d - bAnd d w) k)) H
theorem ok_putE (T : Txt K mg) : C8.Met P w K mg base 1 (cEvery K) "put" (spPutE K) [] := by
  obtain ⟨fd, F⟩ := T.d_Every_put
  refine metOf (ps := ["self", "drawn"]) F (fnNox F sc_Every_put (fun vs H Q E h => ?_) (fun cdv Ar outer s H vs Q E hr h => ?_)) T.cl_Every T.m_Every_put fun _ _ _ _ _ _ us hl => match us, hl with | [_, _], _ => rfl
  · obtain ⟨p, dx, k, d, rfl, _⟩ := h
    rfl
  · obtain ⟨p, dx, k, d, rfl, hp, q⟩ := h
    refine ⟨_, pss_one (ps_ret (pe_fld (pv 0) rfl)), ?_⟩
    exact ⟨_, rfl, p, cEvery K, dx, _, _, rfl, hp, T.cl_Every, T.a_Every_stored, (by kernel_rfl), q⟩
theorem ok_putP (T : Txt K mg) : C8.Met P w K mg base 1 (cPart K) "put" (spPutP K) [] := by
  obtain ⟨fd, F⟩ := T.d_Part_put
  refine metOf (ps := ["self", "drawn"]) F (fnNox F sc_Part_put (fun vs H Q E h => ?_) (fun cdv Ar outer s H vs Q E hr h => ?_)) T.cl_Part T.m_Part_put fun _ _ _ _ _ _ us hl => match us, hl with | [_, _], _ => rfl
  · obtain ⟨p, dx, k, ww, d, rfl, _⟩ := h
    rfl
  · obtain ⟨p, dx, k, ww, d, rfl, hp, q⟩ := h
    refine ⟨_, pss_one (ps_ret (pe_op op_or (pe_op op_sub (pv 1) (pe_op op_and (pv 1) (pe_fld (pv 0) rfl))) (pe_fld (pv 0) rfl))), ?_⟩
    refine ⟨_, rfl, _, rfl, _, rfl, p, cPart K, dx, _, _, rfl, hp, T.cl_Part, T.a_Part_whole, (by kernel_rfl), _, _, rfl, rfl, _, _, rfl, rfl, _, rfl, p, cPart K, dx, _, _, rfl, hp, T.cl_Part, T.a_Part_stored, (by kernel_rfl), _, _, rfl, rfl, q⟩
end
end WC
/-! The console: its objects, __init__, look_at, knob, pull, push, cancel, shoe, drawn, knobs, step. -/
namespace WC
open PySem PySem.Spec PyProof.Rows L2
def Rf.at (K : PySem.W.Frag) : Rf → Addr
  | .knob => xNoKnob K
  | .piston => xNoPiston K
  | .board => xNoBoard K
  | .step => xNoStep K
/-- what is told comes back, or is raised -/
def ans (K : PySem.W.Frag) (r : Res) (Q : VK) (E : XK) (H : Hp) : Prop := match r with
  | .bl b => Q (.bl b) H
  | .non => Q .non H
  | .no x => E (.ref (x.at K)) none H
def PstAt (K : PySem.W.Frag) (H : Hp) (v : Option V) : Option Pst → Prop
  | some (.every k) => ∃ p dx, v = some (.ref p) ∧ H p = some (.ins (cEvery K) dx (fEvery k))
  | some (.part k w) => ∃ p dx, v = some (.ref p) ∧ H p = some (.ins (cPart K) dx (fPart k w))
  | none => v = none
def cflds (A : OA) (m : Addr) (n f : Int) : List (PySem.Str × V) := [("organ", .ref (A.at_ 0)), ("now", .int n), ("memory", .ref m), ("foot", .int f)]
structure ConAt (K : PySem.W.Frag) (H : Hp) (A : OA) (c dx m : Addr) (q : Con) (n : Nat) : Prop where
  ob : H c = some (.ins (cConsole K) dx (cflds A m q.now q.foot))
  oc : A.out c
  om : A.out m
  me : ∃ kvs, H m = some (.dK kvs) ∧ kvs.length ≤ n ∧ ∀ i, PstAt K H (valV kvs (Sum.inl i : Key)) (q.mem i)
section
variable (A : OA) (m : Addr) (n f : Int)
theorem cf_organ : (cflds A m n f).lookup ("organ" : PySem.Str) = some (.ref (A.at_ 0)) := by kernel_rfl
theorem cf_now : (cflds A m n f).lookup ("now" : PySem.Str) = some (.int n) := by kernel_rfl
theorem cf_memory : (cflds A m n f).lookup ("memory" : PySem.Str) = some (.ref m) := by kernel_rfl
theorem cf_foot : (cflds A m n f).lookup ("foot" : PySem.Str) = some (.int f) := by kernel_rfl
theorem cf_sNow (i : Int) : putF "now" (.int i) (cflds A m n f) = cflds A m i f := by kernel_rfl
theorem cf_sFoot (i : Int) : putF "foot" (.int i) (cflds A m n f) = cflds A m n i := by kernel_rfl
theorem cf_no (z : PySem.Str) (h : (["organ", "now", "memory", "foot"] : List PySem.Str).contains z = false) : (cflds A m n f).lookup z = none := by
  unfold cflds
  simp only [List.contains_cons, Bool.or_eq_false_iff, beq_eq_false_iff_ne] at h
  obtain ⟨h1, h2, h3, h4, _⟩ := h
  have e : ∀ {x : PySem.Str} {v : V} {r : List (PySem.Str × V)}, z ≠ x → ((x, v) :: r).lookup z = r.lookup z := fun {x v r} n => by
    have q : (z == x) = false := beq_eq_false_iff_ne.mpr n
    rw [List.lookup_cons, q]
  rw [e h1, e h2, e h3, e h4]
  rfl
end
/-- how many fields an instance has -/
def nF : HO → Nat
  | .ins _ _ fs => fs.length
  | _ => 77
section
variable {K : PySem.W.Frag} {H H' : Hp} {A : OA} {c dx m c' dx' m' p : Addr} {q q' : Con} {n n' : Nat} {o : Org} {ds : List (PySem.Str × Det)}
theorem ne_nF {a b : Addr} {x y : HO} (h : H a = some x) (h' : H b = some y) (d : nF x ≠ nF y) : a ≠ b := ne_of h h' fun e => d (by rw [e])
theorem ConAt.cm (x : ConAt K H A c dx m q n) : c ≠ m := by
  obtain ⟨kvs, e, _⟩ := x.me
  exact ne_nF x.ob e (by show 4 ≠ 77; decide)
theorem PstAt.imp {v : Option V} {r : Option Pst} (x : PstAt K H v r) (h : ∀ p C dx fs, H p = some (.ins C dx fs) → fs.length ≤ 2 → H' p = some (.ins C dx fs)) : PstAt K H' v r := by
  cases r with
  | none => exact x
  | some r =>
    cases r with
    | every k =>
      obtain ⟨p, dx, e, z⟩ := x
      exact ⟨p, dx, e, h _ _ _ _ z (by show 1 ≤ 2; decide)⟩
    | part k w =>
      obtain ⟨p, dx, e, z⟩ := x
      exact ⟨p, dx, e, h _ _ _ _ z (by show 2 ≤ 2; decide)⟩
theorem ConAt.same (x : ConAt K H A c dx m q n) (s : Same H H') : ConAt K H' A c dx m q n := by
  obtain ⟨kvs, e, hl, h⟩ := x.me
  exact ⟨s _ _ x.ob, x.oc, x.om, kvs, s _ _ e, hl, fun i => (h i).imp fun p C dx fs z _ => s _ _ z⟩
/-- another console is changed -/
theorem ConAt.kp (x : ConAt K H A c dx m q n) {A' : OA} (y : ConAt K H A' c' dx' m' q' n') (hc : c ≠ c') (hm : m ≠ m') (k : Kp [c', m'] H H') : ConAt K H' A c dx m q n := by
  obtain ⟨kvs, e, hl, h⟩ := x.me
  obtain ⟨kvs', e', _⟩ := y.me
  refine ⟨k.at x.ob ?_, x.oc, x.om, kvs, k.at e ?_, hl, fun i => (h i).imp fun p C dx fs z l => k.at z ?_⟩
  · have z : c ≠ m' := ne_nF x.ob e' (by show 4 ≠ 77; decide)
    simp [hc, z]
  · have z : m ≠ c' := ne_nF e y.ob (by show 77 ≠ 4; decide)
    simp [hm, z]
  · have z1 : p ≠ c' := ne_nF z y.ob (by show fs.length ≠ 4; omega)
    have z2 : p ≠ m' := ne_nF z e' (by show fs.length ≠ 77; omega)
    simp [z1, z2]
theorem ConAt.set (x : ConAt K H A c dx m q n) (i j : Int) (hj : j = ((k : Nat) : Int)) : ConAt K (upd H c (.ins (cConsole K) dx (cflds A m i j))) A c dx m { q with now := i, foot := k } n := by
  obtain ⟨kvs, e, hl, h⟩ := x.me
  subst hj
  refine ⟨upd_same, x.oc, x.om, kvs, (by rw [upd_ne x.cm.symm]; exact e), hl, fun i => (h i).imp fun p C dx fs z l => ?_⟩
  rw [upd_ne (ne_nF z x.ob (by show fs.length ≠ 4; omega))]
  exact z
theorem ConAt.put (x : ConAt K H A c dx m q n) {kvs : List (Key × V)} {i : Int} {p : Addr} {st : Pst} (e : H m = some (.dK kvs)) (hp : PstAt K H (some (.ref p)) (some st)) : ConAt K (upd H m (.dK (putK kvs (Sum.inl i : Key) (.ref p)))) A c dx m (q.store i st) (n + 1) := by
  obtain ⟨kvs', e', hl, h⟩ := x.me
  rw [e] at e'
  cases e'
  have im : ∀ p C dx fs, H p = some (.ins C dx fs) → fs.length ≤ 2 → (upd H m (.dK (putK kvs (Sum.inl i : Key) (.ref p)))) p = some (.ins C dx fs) := fun p C dx fs z l => by
    rw [upd_ne (ne_nF z e (by show fs.length ≠ 77; omega))]
    exact z
  refine ⟨(by rw [upd_ne x.cm]; exact x.ob), x.oc, x.om, _, upd_same, Nat.le_trans putK_len1 (Nat.succ_le_succ hl), fun j => ?_⟩
  rw [valV_put]
  show PstAt K _ _ (if j = i then some st else q.mem j)
  have im2 : ∀ p2 C dx fs, H p2 = some (.ins C dx fs) → fs.length ≤ 2 → (upd H m (.dK (putK kvs (Sum.inl i : Key) (.ref p)))) p2 = some (.ins C dx fs) := fun p2 C dx fs z l => by
    rw [upd_ne (ne_nF z e (by show fs.length ≠ 77; omega))]
    exact z
  by_cases hj : j = i
  · rw [if_pos hj, if_pos (by rw [hj])]
    exact hp.imp im2
  · rw [if_neg hj, if_neg (fun q => hj (Sum.inl.inj q))]
    exact (h j).imp im2
/-- an organ stands while its consoles are changed -/
theorem OrgG.kpC (x : OrgG K H A o ds) {A' : OA} (y : ConAt K H A' c dx m q n) (hc : A.out c) (hm : A.out m) (k : Kp [c, m] H H') : OrgG K H' A o ds := by
  obtain ⟨kvs, e, _⟩ := y.me
  have z : OrgG K (fun b => if b = m then H m else H' b) A o ds := x.off (p := c) ⟨fun b u e n => by
      show (if b = m then H m else H' b) = _
      by_cases hb : b = m
      · rw [if_pos hb, ← hb]
        exact e
      · rw [if_neg hb]
        exact k b u e (by simp [n, hb]), fun xs w => by rw [y.ob] at w; cases w⟩ hc fun ls w => by rw [y.ob] at w; cases w
  refine z.off (p := m) ⟨fun b u e n => ?_, fun xs w => ?_⟩ hm fun ls w => ?_
  · have e : (if b = m then H m else H' b) = some u := e
    rw [if_neg n] at e
    exact e
  · have w : (if m = m then H m else H' m) = some (.tup xs) := w
    rw [if_pos rfl] at w
    rw [w] at e
    cases e
  · have w : (if m = m then H m else H' m) = some (.lst ls) := w
    rw [if_pos rfl] at w
    rw [w] at e
    cases e
theorem OrgG.kpC1 (x : OrgG K H A o ds) (y : ConAt K H A c dx m q n) (k : Kp [c, m] H H') : OrgG K H' A o ds := x.kpC y y.oc y.om k
end
section
variable {P : Program} {w : World} {K : PySem.W.Frag} {mg : PySem.Str → Option Value} {base : Heap}
/-! ### Console(organ) -/
theorem sc_Console_init : FnScope ["self", "organ"] ["self", "organ"] (defScope s_Console_init) := ⟨rfl, rfl, rfl, by decide +kernel, rfl, by decide +kernel, by decide +kernel⟩
def spCon (K : PySem.W.Frag) : Sp := fun vs H Q _ => ∃ (H0 : Hp) (A : OA) (o : Org) (x dx : Addr), vs = [.ref x, .ref (A.at_ 0)] ∧ H x = some (.ins (cConsole K) dx []) ∧ Same H0 H ∧ H0 x = none ∧ OrgAt K H0 A o ∧
  ∀ m H', ConAt K H' A x dx m {} 0 → Same H0 H' → H0 m = none → Q .non H'
theorem ok_Console (T : Txt K mg) : C8.Mak P w K mg base 1 "Console" (cConsole K) (spCon K) [] := by
  obtain ⟨fd, F⟩ := T.d_Console_init
  refine makOf (ps := ["self", "organ"]) F (fnNox F sc_Console_init (fun vs H Q E h => ?_) (fun cdv Ar outer s H vs Q E hr h => ?_)) T.k_Console T.g_Console fun _ _ _ _ _ _ us hl => match us, hl with | [_, _], _ => rfl
  · obtain ⟨H0, A, o, x, dx, rfl, _⟩ := h
    rfl
  · obtain ⟨H0, A, o, x, dx, rfl, hx, s0, nx, G, k⟩ := h
    refine ⟨_, pss_cons (ps_fld (pv 0) (pv 1) rfl) (pss_cons (ps_fld (pv 0) pe_int rfl) (pss_cons (ps_fld (pv 0) pe_dnewK rfl) (pss_one (ps_fld (pv 0) pe_int rfl)))), ?_⟩
    refine ⟨_, rfl, _, rfl, x, cConsole K, dx, _, rfl, hx, T.cl_Console, T.a_Console_organ, by decide, ?_⟩
    refine ⟨_, rfl, x, cConsole K, dx, _, rfl, upd_same, T.cl_Console, T.a_Console_now, of_decide_eq_true (by kernel_rfl), fun m hm => ?_⟩
    have hm' : H m = none := by
      have z : m ≠ x := fun z => by rw [z, upd_same] at hm; cases hm
      rw [upd_ne z, upd_ne z] at hm
      exact hm
    have mx : m ≠ x := (ne_of_none hx hm').symm
    refine ⟨_, rfl, x, cConsole K, dx, _, rfl, (by rw [upd_ne mx.symm]; exact upd_same), T.cl_Console, T.a_Console_memory, of_decide_eq_true (by kernel_rfl), ?_⟩
    refine ⟨_, rfl, x, cConsole K, dx, _, rfl, upd_same, T.cl_Console, T.a_Console_foot, of_decide_eq_true (by kernel_rfl), ?_⟩
    refine k m _ ⟨?_, G.outNew nx, G.outNew (Same.free s0 hm'), [], ?_, Nat.le_refl _, fun i => rfl⟩ (fun b u e => ?_) (Same.free s0 hm')
    · rw [upd_same]
      have e : putF "foot" (V.int 0) (putF "memory" (.ref m) (putF "now" (.int 0) (putF "organ" (.ref (A.at_ 0)) []))) = cflds A m 0 0 := by kernel_rfl
      rw [e]
      rfl
    · rw [upd_ne mx, upd_ne mx]
      exact upd_same
    · have bx : b ≠ x := ne_of_none e nx
      have bm : b ≠ m := ne_of_none (s0 _ _ e) hm'
      rw [upd_ne bx, upd_ne bx, upd_ne bm, upd_ne bx, upd_ne bx]
      exact s0 _ _ e
/-! ### look_at, knob -/
theorem sc_look_at : FnScope ["self", "piston"] ["self", "piston"] (defScope s_Console_look_at) := ⟨rfl, rfl, rfl, by decide +kernel, rfl, by decide +kernel, by decide +kernel⟩
def spLook (K : PySem.W.Frag) : Sp := fun vs H Q E => ∃ (c : Addr) (x : V), vs = [.ref c, x] ∧ NuV x ∧ (∀ i, pist x = some i → Q .non H) ∧ (pist x = none → E (.ref (xNoPiston K)) none H)
theorem ok_look_at (T : Txt K mg) : MetX P w K mg base 2 (cConsole K) "look_at" (spLook K) [] := by
  obtain ⟨fd, F⟩ := T.d_Console_look_at
  obtain ⟨t1, g1⟩ := T.i_PISTONS
  have e := T.e_NoPiston
  refine metXOf (ps := ["self", "piston"]) F (F.ok sc_look_at (fun vs H Q E h => ?_) (fun cdv Ar outer s H vs Q E hr h => ?_)) T.cl_Console T.m_Console_look_at fun _ _ _ _ _ _ us hl => match us, hl with | [_, _], _ => rfl
  · obtain ⟨c, x, rfl, _⟩ := h
    rfl
  · obtain ⟨c, x, rfl, hx, k1, k2⟩ := h
    refine ⟨_, pss_one (ps_if (PW.pt (pw_or (pt_not (pt_val (C8.pe_c (ok_is_whole T) hr (by decide) (by rfl) (pa_cons (pv 1) pa_nil))))
        (pw_or1 (pt_not (pt_chain op_le op_lt pe_int (pv 1) (pe_glob (v := .int 10) (by rfl) g1 ⟨_, rfl⟩))))))
      (pss_one (ps_raise rfl (takes_of rfl rfl rfl rfl) (pmk_own PySem.F.excBase_ValueError e.ex e.g e.kp (raises_own e.sb e.ty) rfl))) pss_nil), ?_⟩
    rcases hx with ⟨i, rfl⟩ | ⟨b, rfl⟩
    · refine ⟨_, rfl, .int i, rfl, rfl, true, rfl, iteF ⟨_, rfl, _, _, rfl, rfl, _, rfl, ?_⟩⟩
      by_cases h0 : 0 ≤ i
      · rw [decide_eq_true h0]
        refine iteT ⟨_, _, rfl, rfl, _, rfl, ?_⟩
        by_cases h1 : i < 10
        · rw [decide_eq_true h1]
          exact iteF (k1 i (by show (if 0 ≤ i ∧ i < 10 then some i else none) = some i; rw [if_pos ⟨h0, h1⟩]))
        · rw [decide_eq_false h1]
          exact iteT (k2 (by show (if 0 ≤ i ∧ i < 10 then some i else none) = none; rw [if_neg fun z => h1 z.2]))
      · rw [decide_eq_false h0]
        exact iteF ⟨_, rfl, iteT (k2 (by show (if 0 ≤ i ∧ i < 10 then some i else none) = none; rw [if_neg fun z => h0 z.1]))⟩
    · exact ⟨_, rfl, .bl b, rfl, rfl, false, rfl, iteT (iteT (k2 rfl))⟩
end
end WC
/-! knob, pull, push, cancel, shoe, drawn, step, knobs. -/
namespace WC
open PySem PySem.Spec PyProof.Rows L2
theorem titledV_tit {o : Org} {wd : PySem.Str} {x : V} {i : Nat} (h : o.titledV wd x = some i) : ∃ n, x = .str n ∧ o.tit n = some (wd, i) := by
  cases x with
  | str n =>
    refine ⟨n, rfl, ?_⟩
    have h : (if isName n = true then (match o.tit n with
      | some (w', i) => if w' = wd then some i else none
      | none => none) else none) = some i := h
    by_cases c : isName n = true
    · rw [if_pos c] at h
      cases e : o.tit n with
      | none => rw [e] at h; cases h
      | some r =>
        obtain ⟨w', j⟩ := r
        rw [e] at h
        have h : (if w' = wd then some j else none) = some i := h
        by_cases d : w' = wd
        · rw [if_pos d] at h
          cases h
          rw [d]
        · rw [if_neg d] at h
          cases h
    · rw [if_neg c] at h
      cases h
  | _ => cases h
section
variable {K : PySem.W.Frag} {H H' : Hp} {A : OA} {c dx m : Addr} {q : Con} {n k : Nat}
theorem ConAt.mono (x : ConAt K H A c dx m q n) (h : n ≤ k) : ConAt K H A c dx m q k := by
  obtain ⟨kvs, e, hl, z⟩ := x.me
  exact ⟨x.ob, x.oc, x.om, kvs, e, Nat.le_trans hl h, z⟩
theorem ConAt.up (x : ConAt K H A c dx m q n) : ConAt K H A c dx m q (n + 1) := x.mono (Nat.le_succ n)
theorem kpC {o : HO} : Kp [c, m] H (upd H c o) := Kp.up (by simp)
theorem kpM {o : HO} : Kp [c, m] H (upd H m o) := Kp.up (by simp)
end
section
variable {P : Program} {w : World} {K : PySem.W.Frag} {mg : PySem.Str → Option Value} {base : Heap}
/-- a console's method with one argument -/
def spD1 (K : PySem.W.Frag) (W : V → Prop) (f : Org → Con → V → Res × Con) : Sp := fun vs H Q E => ∃ (A : OA) (o : Org) (c dx m : Addr) (q : Con) (n : Nat) (x : V), vs = [.ref c, x] ∧ W x ∧ OrgAt K H A o ∧ o.Ok ∧ ConAt K H A c dx m q n ∧ n ≤ 500 ∧
  ∀ H', ConAt K H' A c dx m (f o q x).2 (n + 1) → Kp [c, m] H H' → ans K (f o q x).1 Q E H'
theorem sc_Console_knob : FnScope ["self", "name", "number"] ["self", "name"] (defScope s_Console_knob) := ⟨rfl, rfl, rfl, by decide +kernel, rfl, by decide +kernel, by decide +kernel⟩
def spKnob (K : PySem.W.Frag) : Sp := fun vs H Q E => ∃ (A : OA) (o : Org) (c dx m : Addr) (q : Con) (n : Nat) (x : V), vs = [.ref c, x] ∧ TxV x ∧ OrgAt K H A o ∧ o.Ok ∧ ConAt K H A c dx m q n ∧
  (∀ i, o.titledV "knob" x = some i → ∀ H', Same H H' → Q (.int (setOf [(i : Int)])) H') ∧ (o.titledV "knob" x = none → ∀ H', Same H H' → E (.ref (xNoKnob K)) none H')
theorem ok_knob (T : Txt K mg) : MetX P w K mg base 4 (cConsole K) "knob" (spKnob K) [] := by
  obtain ⟨fd, F⟩ := T.d_Console_knob
  have e := T.e_NoKnob
  have nd := sc_Console_knob.nd
  refine metXOf (ps := ["self", "name"]) F (F.ok sc_Console_knob (fun vs H Q E h => ?_) (fun cdv Ar outer s H vs Q E hr h => ?_)) T.cl_Console T.m_Console_knob fun _ _ _ _ _ _ us hl => match us, hl with | [_, _], _ => rfl
  · obtain ⟨A, o, c, dx, m, q, n, x, rfl, _⟩ := h
    rfl
  · obtain ⟨A, o, c, dx, m, q, n, x, rfl, hx, G, ok, C, k1, k2⟩ := h
    refine ⟨_, pss_cons (ps_set (i := 2) nd rfl (.inl rfl) (C8.pe_mt (ok_knob_number T) hr (by decide) (pe_fld (pv 0) rfl) (pa_cons (pv 1) pa_nil)))
      (pss_cons (ps_if (pt_cmp (pc_isN (pv 2))) (pss_one (ps_raise rfl (takes_of rfl rfl rfl rfl) (pmk_own PySem.F.excBase_ValueError e.ex e.g e.kp (raises_own e.sb e.ty) rfl))) pss_nil)
      (pss_one (ps_ret (C8.pe_c (ok_set_of T) hr (by decide) (by rfl) (pa_cons (pe_lst (pa_cons (pv 2) pa_nil)) pa_nil))))), ?_⟩
    refine ⟨_, rfl, c, cConsole K, dx, _, _, rfl, C.ob, T.cl_Console, T.a_Console_organ, cf_organ _ _ _ _, A.at_ 0, A.dx, _, rfl, G.ob, of_no _ _ _ (by decide +kernel), _, rfl, A, o, o.knobs, x, rfl, G, hx, fun H1 s1 => ⟨_, rfl, ?_⟩⟩
    cases ht : o.titledV "knob" x with
    | none => exact ⟨_, rfl, iteT (k2 ht H1 s1)⟩
    | some i =>
      obtain ⟨nm, _, hn⟩ := titledV_tit ht
      have b1 := ok.inK nm i hn
      have b2 := ok.small
      refine ⟨_, rfl, iteF ⟨_, rfl, (by show 1 ≤ sizeLine; decide), fun l hl => ⟨l, [(i : Int)], rfl, upd_same, fun z hz => ?_, k1 i ht _ (s1.trans (Same.nw hl))⟩⟩⟩
      rw [List.mem_singleton] at hz
      omega
theorem sc_pull : FnScope ["self", "name", "one", "changed"] ["self", "name"] (defScope s_Console_pull) := ⟨rfl, rfl, rfl, by decide +kernel, rfl, by decide +kernel, by decide +kernel⟩
theorem sc_push : FnScope ["self", "name", "one", "changed"] ["self", "name"] (defScope s_Console_push) := ⟨rfl, rfl, rfl, by decide +kernel, rfl, by decide +kernel, by decide +kernel⟩
theorem intE (a b : Int) : decide (V.int a = V.int b) = decide (a = b) := decide_eq_decide.mpr ⟨fun z => by injection z, fun z => by rw [z]⟩
theorem ok_pull (T : Txt K mg) : MetX P w K mg base 5 (cConsole K) "pull" (spD1 K TxV fun o q x => q.pull o x) [] := by
  obtain ⟨fd, F⟩ := T.d_Console_pull
  have nd := sc_pull.nd
  refine metXOf (ps := ["self", "name"]) F (F.ok sc_pull (fun vs H Q E h => ?_) (fun cdv Ar outer s H vs Q E hr h => ?_)) T.cl_Console T.m_Console_pull fun _ _ _ _ _ _ us hl => match us, hl with | [_, _], _ => rfl
  · obtain ⟨A, o, c, dx, m, q, n, x, rfl, _⟩ := h
    rfl
  · obtain ⟨A, o, c, dx, m, q, n, x, rfl, hx, G, ok, C, hn, k⟩ := h
    refine ⟨_, pss_cons (ps_set (i := 2) nd rfl (.inl rfl) (pe_mx (ok_knob T) hr (by decide) (passes_call (takes_of rfl rfl rfl rfl) fun _ _ _ _ h => h) (pv 0) (pa_cons (pv 1) pa_nil)))
      (pss_cons (ps_set (i := 3) nd rfl (.inl rfl) (pe_cmpR op_eq (pe_op op_and (pe_fld (pv 0) rfl) (pv 2)) pe_int (nomark _)))
      (pss_cons (ps_fld (pv 0) (pe_op op_or (pe_fld (pv 0) rfl) (pv 2)) rfl)
      (pss_one (ps_ret (pv 3))))), ?_⟩
    refine ⟨_, rfl, c, dx, _, rfl, C.ob, cf_no _ _ _ _ _ (by decide +kernel), _, rfl, A, o, c, dx, m, q, n, x, rfl, hx, G, ok, C, fun i hi H1 s1 => ?_, fun hi H1 s1 => ?_⟩
    · have C1 := C.same s1
      have k : ∀ H', ConAt K H' A c dx m (q.pull o _).2 (n + 1) → Kp [c, m] H H' → ans K (q.pull o _).1 Q E H' := k
      unfold Con.pull at k
      rw [hi] at k
      refine ⟨_, rfl, c, cConsole K, dx, _, _, rfl, C1.ob, T.cl_Console, T.a_Console_now, cf_now _ _ _ _, _, rfl, _, _, rfl, rfl, rfl, ?_⟩
      rw [intE]
      refine ⟨_, rfl, c, cConsole K, dx, _, _, rfl, C1.ob, T.cl_Console, T.a_Console_now, cf_now _ _ _ _, _, rfl, _, _, rfl, rfl, _, rfl, c, cConsole K, dx, _, rfl, C1.ob, T.cl_Console, T.a_Console_now, (by show 4 < 1000; decide), ?_⟩
      rw [cf_sNow]
      exact ⟨_, rfl, k _ (C1.set _ _ rfl).up ((Same.kp (S := [c, m]) s1).tr kpC)⟩
    · have k : ∀ H', ConAt K H' A c dx m (q.pull o _).2 (n + 1) → Kp [c, m] H H' → ans K (q.pull o _).1 Q E H' := k
      unfold Con.pull at k
      rw [hi] at k
      exact k H1 (C.same s1).up (Same.kp s1)
theorem ok_push (T : Txt K mg) : MetX P w K mg base 5 (cConsole K) "push" (spD1 K TxV fun o q x => q.push o x) [] := by
  obtain ⟨fd, F⟩ := T.d_Console_push
  have nd := sc_push.nd
  refine metXOf (ps := ["self", "name"]) F (F.ok sc_push (fun vs H Q E h => ?_) (fun cdv Ar outer s H vs Q E hr h => ?_)) T.cl_Console T.m_Console_push fun _ _ _ _ _ _ us hl => match us, hl with | [_, _], _ => rfl
  · obtain ⟨A, o, c, dx, m, q, n, x, rfl, _⟩ := h
    rfl
  · obtain ⟨A, o, c, dx, m, q, n, x, rfl, hx, G, ok, C, hn, k⟩ := h
    refine ⟨_, pss_cons (ps_set (i := 2) nd rfl (.inl rfl) (pe_mx (ok_knob T) hr (by decide) (passes_call (takes_of rfl rfl rfl rfl) fun _ _ _ _ h => h) (pv 0) (pa_cons (pv 1) pa_nil)))
      (pss_cons (ps_set (i := 3) nd rfl (.inl rfl) (pe_cmpR op_ne (pe_op op_and (pe_fld (pv 0) rfl) (pv 2)) pe_int (nomark _)))
      (pss_cons (ps_fld (pv 0) (pe_op op_sub (pe_fld (pv 0) rfl) (pe_op op_and (pe_fld (pv 0) rfl) (pv 2))) rfl)
      (pss_one (ps_ret (pv 3))))), ?_⟩
    refine ⟨_, rfl, c, dx, _, rfl, C.ob, cf_no _ _ _ _ _ (by decide +kernel), _, rfl, A, o, c, dx, m, q, n, x, rfl, hx, G, ok, C, fun i hi H1 s1 => ?_, fun hi H1 s1 => ?_⟩
    · have C1 := C.same s1
      have k : ∀ H', ConAt K H' A c dx m (q.push o _).2 (n + 1) → Kp [c, m] H H' → ans K (q.push o _).1 Q E H' := k
      unfold Con.push at k
      rw [hi] at k
      refine ⟨_, rfl, c, cConsole K, dx, _, _, rfl, C1.ob, T.cl_Console, T.a_Console_now, cf_now _ _ _ _, _, rfl, _, _, rfl, rfl, rfl, ?_⟩
      rw [intE]
      refine ⟨_, rfl, c, cConsole K, dx, _, _, rfl, C1.ob, T.cl_Console, T.a_Console_now, cf_now _ _ _ _, _, rfl, c, cConsole K, dx, _, _, rfl, C1.ob, T.cl_Console, T.a_Console_now, cf_now _ _ _ _, _, rfl, _, _, rfl, rfl, _, _, rfl, rfl, _, rfl, c, cConsole K, dx, _, rfl, C1.ob, T.cl_Console, T.a_Console_now, (by show 4 < 1000; decide), ?_⟩
      rw [cf_sNow]
      exact ⟨_, rfl, k _ (C1.set _ _ rfl).up ((Same.kp (S := [c, m]) s1).tr kpC)⟩
    · have k : ∀ H', ConAt K H' A c dx m (q.push o _).2 (n + 1) → Kp [c, m] H H' → ans K (q.push o _).1 Q E H' := k
      unfold Con.push at k
      rw [hi] at k
      exact k H1 (C.same s1).up (Same.kp s1)
/-! ### cancel, shoe -/
theorem sc_cancel : FnScope ["self"] ["self"] (defScope s_Console_cancel) := ⟨rfl, rfl, rfl, by decide +kernel, rfl, by decide +kernel, by decide +kernel⟩
def spCancel (K : PySem.W.Frag) : Sp := fun vs H Q _ => ∃ (A : OA) (c dx m : Addr) (q : Con) (n : Nat), vs = [.ref c] ∧ ConAt K H A c dx m q n ∧ ∀ H', ConAt K H' A c dx m { q with now := 0, foot := 0 } (n + 1) → Kp [c, m] H H' → Q .non H'
theorem ok_cancel (T : Txt K mg) : C8.Met P w K mg base 1 (cConsole K) "cancel" (spCancel K) [] := by
  obtain ⟨fd, F⟩ := T.d_Console_cancel
  refine metOf (ps := ["self"]) F (fnNox F sc_cancel (fun vs H Q E h => ?_) (fun cdv Ar outer s H vs Q E hr h => ?_)) T.cl_Console T.m_Console_cancel fun _ _ _ _ _ _ us hl => match us, hl with | [_], _ => rfl
  · obtain ⟨A, c, dx, m, q, n, rfl, _⟩ := h
    rfl
  · obtain ⟨A, c, dx, m, q, n, rfl, C, k⟩ := h
    refine ⟨_, pss_cons (ps_fld (pv 0) pe_int rfl) (pss_one (ps_fld (pv 0) pe_int rfl)), ?_⟩
    refine ⟨_, rfl, c, cConsole K, dx, _, rfl, C.ob, T.cl_Console, T.a_Console_now, (by show 4 < 1000; decide), ?_⟩
    rw [cf_sNow]
    have C1 := C.set 0 q.foot rfl
    refine ⟨_, rfl, c, cConsole K, dx, _, rfl, C1.ob, T.cl_Console, T.a_Console_foot, (by show 4 < 1000; decide), ?_⟩
    rw [cf_sFoot]
    exact k _ (C1.set (k := 0) 0 0 rfl).up (kpC.tr kpC)
theorem sc_shoe : FnScope ["self", "step"] ["self", "step"] (defScope s_Console_shoe) := ⟨rfl, rfl, rfl, by decide +kernel, rfl, by decide +kernel, by decide +kernel⟩
theorem ok_shoe (T : Txt K mg) : MetX P w K mg base 2 (cConsole K) "shoe" (spD1 K NuV fun o q x => q.shoe o x) [] := by
  obtain ⟨fd, F⟩ := T.d_Console_shoe
  have e := T.e_NoStep
  refine metXOf (ps := ["self", "step"]) F (F.ok sc_shoe (fun vs H Q E h => ?_) (fun cdv Ar outer s H vs Q E hr h => ?_)) T.cl_Console T.m_Console_shoe fun _ _ _ _ _ _ us hl => match us, hl with | [_, _], _ => rfl
  · obtain ⟨A, o, c, dx, m, q, n, x, rfl, _⟩ := h
    rfl
  · obtain ⟨A, o, c, dx, m, q, n, x, rfl, hx, G, ok, C, hn, k⟩ := h
    refine ⟨_, pss_cons (ps_if (PW.pt (pw_or (pt_not (pt_val (C8.pe_c (ok_is_whole T) hr (by decide) (by rfl) (pa_cons (pv 1) pa_nil))))
        (pw_or1 (pt_not (pt_chain op_le op_le pe_int (pv 1) (pe_callB call_len_seq (by rfl) T.n_len PySem.boot_len (pa_cons (C8.pe_mt0 (ok_osteps T) hr (by decide) (pe_fld (pv 0) rfl)) pa_nil)))))))
      (pss_one (ps_raise rfl (takes_of rfl rfl rfl rfl) (pmk_own PySem.F.excBase_ValueError e.ex e.g e.kp (raises_own e.sb e.ty) rfl))) pss_nil)
      (pss_one (ps_fld (pv 0) (pv 1) rfl)), ?_⟩
    have kno : stair o x = none → ∀ H', Same H H' → E (.ref (xNoStep K)) none H' := fun z H1 s1 => by
      have k : ∀ H', ConAt K H' A c dx m (q.shoe o _).2 (n + 1) → Kp [c, m] H H' → ans K (q.shoe o _).1 Q E H' := k
      unfold Con.shoe at k
      rw [z] at k
      exact k H1 (C.same s1).up (Same.kp s1)
    rcases hx with ⟨i, rfl⟩ | ⟨b, rfl⟩
    · refine ⟨_, rfl, .int i, rfl, rfl, true, rfl, iteF ⟨_, rfl, _, _, rfl, rfl, _, rfl, ?_⟩⟩
      have es : stair o (.int i) = if 0 ≤ i ∧ i ≤ (o.stairs.length : Int) then some i.toNat else none := rfl
      by_cases h0 : 0 ≤ i
      · rw [decide_eq_true h0]
        refine iteT ⟨_, rfl, c, cConsole K, dx, _, _, rfl, C.ob, T.cl_Console, T.a_Console_organ, cf_organ _ _ _ _, A.at_ 0, A.dx, _, rfl, G.ob, of_no _ _ _ (by decide +kernel), A, o, _, rfl, G, G.st, fun l hl => ?_⟩
        have C1 := C.same (Same.nw (o := .lst (o.stairs.map V.int)) hl)
        refine ⟨l, _, rfl, .inl (SqL.of upd_same), _, _, rfl, rfl, _, rfl, ?_⟩
        rw [List.length_map]
        by_cases h1 : i ≤ (o.stairs.length : Int)
        · rw [decide_eq_true h1]
          have k : ∀ H', ConAt K H' A c dx m (q.shoe o _).2 (n + 1) → Kp [c, m] H H' → ans K (q.shoe o _).1 Q E H' := k
          unfold Con.shoe at k
          rw [es, if_pos ⟨h0, h1⟩] at k
          refine iteF ⟨_, rfl, _, rfl, c, cConsole K, dx, _, rfl, C1.ob, T.cl_Console, T.a_Console_foot, (by show 4 < 1000; decide), ?_⟩
          rw [cf_sFoot]
          exact k _ (C1.set (k := i.toNat) q.now i (Int.toNat_of_nonneg h0).symm).up ((Kp.nw hl).tr kpC)
        · rw [decide_eq_false h1]
          exact iteT (kno (by rw [es, if_neg fun z => h1 z.2]) _ (Same.nw hl))
      · rw [decide_eq_false h0]
        exact iteF ⟨_, rfl, iteT (kno (by rw [es, if_neg fun z => h0 z.1]) _ (Same.refl _))⟩
    · exact ⟨_, rfl, .bl b, rfl, rfl, false, rfl, iteT (iteT (kno rfl _ (Same.refl _)))⟩
end
end WC
/-! store, press, drawn, step, knobs. -/
namespace WC
open PySem PySem.Spec PyProof.Rows L2
section
variable {P : Program} {w : World} {K : PySem.W.Frag} {mg : PySem.Str → Option Value} {base : Heap}
theorem sc_store : FnScope ["self", "piston", "board", "number", "whole"] ["self", "piston", "board"] (defScope s_Console_store) := ⟨rfl, rfl, rfl, by decide +kernel, rfl, by decide +kernel, by decide +kernel⟩
def spKeep (K : PySem.W.Frag) : Sp := fun vs H Q E => ∃ (A : OA) (o : Org) (c dx m : Addr) (q : Con) (n : Nat) (x b : V), vs = [.ref c, x, b] ∧ NuV x ∧ TxV b ∧ OrgAt K H A o ∧ o.Ok ∧ ConAt K H A c dx m q n ∧ n ≤ 500 ∧
  ∀ H', ConAt K H' A c dx m (q.keep o x b).2 (n + 1) → Kp [c, m] H H' → ans K (q.keep o x b).1 Q E H'
theorem key_inl {x : V} {i : Int} (h : pist x = some i) : x = .int i := by
  cases x with
  | int j =>
    have h : (if 0 ≤ j ∧ j < 10 then some j else none) = some i := h
    by_cases c : 0 ≤ j ∧ j < 10
    · rw [if_pos c] at h
      cases h
      rfl
    · rw [if_neg c] at h
      cases h
  | _ => cases h
theorem fn_store (T : Txt K mg) : ∃ fd, FnP K ("Console", some "store") "store" "Console.store" s_Console_store [.non] fd ∧ FnOk P w K mg base (L2.CX P w) 4 (He.fAd K ("Console", some "store")) fd ["self", "piston", "board"] (spKeep K) := by
  obtain ⟨fd, F⟩ := T.d_Console_store
  have e := T.e_NoBoard
  have nd := sc_store.nd
  refine ⟨fd, F, F.ok sc_store (fun vs H Q E h => ?_) (fun cdv Ar outer s H vs Q E hr h => ?_)⟩
  · obtain ⟨A, o, c, dx, m, q, n, x, b, rfl, _⟩ := h
    rfl
  · obtain ⟨A, o, c, dx, m, q, n, x, b, rfl, hx, hb, G, ok, C, hn, k⟩ := h
    have hu := hu_of hr
    refine ⟨_, pss_cons (ps_expr (pe_mx (ok_look_at T) hr (by decide) (passes_call (takes_of rfl rfl rfl rfl) fun _ _ _ _ h => h) (pv 0) (pa_cons (pv 1) pa_nil)))
      (pss_cons (ps_if (pt_cmp (pc_isN (pv 2))) (pss_cons (ps_dput hu (pe_fld (pv 0) rfl) (pv 1) (C8.pe_mk (ok_Every T) hr (by decide) (by rfl) (pa_cons (pe_fld (pv 0) rfl) pa_nil)) rfl) (pss_one ps_retN)) pss_nil)
      (pss_cons (ps_set (i := 3) nd rfl (.inl rfl) (C8.pe_mt (ok_board_number T) hr (by decide) (pe_fld (pv 0) rfl) (pa_cons (pv 2) pa_nil)))
      (pss_cons (ps_if (pt_cmp (pc_isN (pv 3))) (pss_one (ps_raise rfl (takes_of rfl rfl rfl rfl) (pmk_own PySem.F.excBase_ValueError e.ex e.g e.kp (raises_own e.sb e.ty) rfl))) pss_nil)
      (pss_cons (ps_set (i := 4) nd rfl (.inl rfl) (C8.pe_c (ok_knobs_of_board T) hr (by decide) (by rfl) (pa_cons (pe_fld (pv 0) rfl) (pa_cons (pv 3) pa_nil))))
      (pss_one (ps_dput hu (pe_fld (pv 0) rfl) (pv 1) (C8.pe_mk (ok_Part T) hr (by decide) (by rfl) (pa_cons (pe_op op_and (pe_fld (pv 0) rfl) (pv 4)) (pa_cons (pv 4) pa_nil))) rfl)))))), ?_⟩
    refine ⟨_, rfl, c, dx, _, rfl, C.ob, cf_no _ _ _ _ _ (by decide +kernel), _, rfl, c, x, rfl, hx, fun i hi => ?_, fun hi => ?_⟩
    · obtain rfl := key_inl hi
      by_cases hbn : b = .non
      · subst hbn
        have k : ∀ H', ConAt K H' A c dx m (q.keep o (.int i) .non).2 (n + 1) → Kp [c, m] H H' → ans K (q.keep o (.int i) .non).1 Q E H' := k
        unfold Con.keep at k
        rw [hi] at k
        refine ⟨_, rfl, _, rfl, iteT ?_⟩
        refine ⟨_, rfl, c, cConsole K, dx, _, _, rfl, C.ob, T.cl_Console, T.a_Console_now, cf_now _ _ _ _, fun y dy n1 n2 n3 => ⟨y, dy, q.now, rfl, upd_same, rfl, ?_⟩⟩
        have s1 : Same H (upd (upd (upd H dy (.own y)) y (.ins (cEvery K) dy [])) y (.ins (cEvery K) dy (fEvery q.now))) := fun z u e => by
          rw [upd_ne (ne_of_none e n1), upd_ne (ne_of_none e n1), upd_ne (ne_of_none e n2)]
          exact e
        have C1 := C.same s1
        obtain ⟨kvs, m1, m2, m3⟩ := C1.me
        refine ⟨_, rfl, c, cConsole K, dx, _, _, rfl, C1.ob, T.cl_Console, T.a_Console_memory, cf_memory _ _ _ _, _, rfl, _, _, rfl, DPut.k (k := Sum.inl i) m1 (Nat.lt_of_le_of_lt m2 (lt_line hn)), ?_⟩
        exact k _ (C1.put (st := .every q.now) m1 ⟨y, dy, rfl, upd_same⟩) ((Same.kp (S := [c, m]) s1).tr kpM)
      · have bn : ∀ r : Bool, (decide (b = .non) = r) → r = false := fun r e => by rw [← e]; exact decide_eq_false hbn
        have k : ∀ H', ConAt K H' A c dx m (q.keep o (.int i) b).2 (n + 1) → Kp [c, m] H H' → ans K (q.keep o (.int i) b).1 Q E H' := k
        unfold Con.keep at k
        rw [hi] at k
        have k : ∀ H', ConAt K H' A c dx m (if b = .non then (Res.non, q.store i (.every q.now)) else (match o.titledV "board" b with
          | some n => (Res.non, q.store i (.part (bAnd q.now (o.knobsOf n)) (o.knobsOf n)))
          | none => (.no .board, q))).2 (n + 1) → Kp [c, m] H H' → ans K (if b = .non then (Res.non, q.store i (.every q.now)) else (match o.titledV "board" b with
          | some n => (Res.non, q.store i (.part (bAnd q.now (o.knobsOf n)) (o.knobsOf n)))
          | none => (.no .board, q))).1 Q E H' := k
        rw [if_neg hbn] at k
        obtain ⟨bs, rfl⟩ : ∃ s, b = .str s := by
          rcases hb with e | ⟨s, e, _⟩
          · exact absurd e hbn
          · exact ⟨s, e⟩
        refine ⟨_, rfl, _, rfl, iteF ?_⟩
        refine ⟨_, rfl, c, cConsole K, dx, _, _, rfl, C.ob, T.cl_Console, T.a_Console_organ, cf_organ _ _ _ _, A.at_ 0, A.dx, _, rfl, G.ob, of_no _ _ _ (by decide +kernel), _, rfl, A, o, o.knobs, .str bs, rfl, G, hb, fun H1 s1 => ⟨_, rfl, ?_⟩⟩
        cases ht : o.titledV "board" (.str bs) with
        | none =>
          rw [ht] at k
          exact ⟨_, rfl, iteT (k H1 (C.same s1).up (Same.kp s1))⟩
        | some j =>
          rw [ht] at k
          have C1 := C.same s1
          refine ⟨_, rfl, iteF ⟨_, rfl, c, cConsole K, dx, _, _, rfl, C1.ob, T.cl_Console, T.a_Console_organ, cf_organ _ _ _ _, _, rfl, A, o, j, rfl, G.same s1, ok.small, fun H2 s2 => ?_⟩⟩
          have C2 := C1.same s2
          refine ⟨_, rfl, c, cConsole K, dx, _, _, rfl, C2.ob, T.cl_Console, T.a_Console_now, cf_now _ _ _ _, _, rfl, _, _, rfl, rfl, _, rfl, fun y dy n1 n2 n3 => ⟨y, dy, _, _, rfl, upd_same, rfl, ?_⟩⟩
          have s3 : Same H2 (upd (upd (upd H2 dy (.own y)) y (.ins (cPart K) dy [])) y (.ins (cPart K) dy (fPart (bAnd q.now (o.knobsOf j)) (o.knobsOf j)))) := fun z u e => by
            rw [upd_ne (ne_of_none e n1), upd_ne (ne_of_none e n1), upd_ne (ne_of_none e n2)]
            exact e
          have C3 := C2.same s3
          obtain ⟨kvs, m1, m2, m3⟩ := C3.me
          refine ⟨_, rfl, c, cConsole K, dx, _, _, rfl, C3.ob, T.cl_Console, T.a_Console_memory, cf_memory _ _ _ _, _, rfl, _, _, rfl, DPut.k (k := Sum.inl i) m1 (Nat.lt_of_le_of_lt m2 (lt_line hn)), ?_⟩
          exact k _ (C3.put (st := .part (bAnd q.now (o.knobsOf j)) (o.knobsOf j)) m1 ⟨y, dy, rfl, upd_same⟩) ((Same.kp (S := [c, m]) (s1.trans (s2.trans s3))).tr kpM)
    · have k : ∀ H', ConAt K H' A c dx m (q.keep o x b).2 (n + 1) → Kp [c, m] H H' → ans K (q.keep o x b).1 Q E H' := k
      unfold Con.keep at k
      rw [hi] at k
      exact k H C.up Kp.rf
theorem ok_store (T : Txt K mg) : MetX P w K mg base 4 (cConsole K) "store" (spKeep K) [] ∧ MetX P w K mg base 4 (cConsole K) "store" (spKeep K) [.non] := by
  obtain ⟨fd, F, G⟩ := fn_store (P := P) (w := w) (base := base) T
  obtain ⟨ds, r, b⟩ := F.binds1 (ps := ["self", "piston", "board"]) 3 1 (by simp) rfl fun T kV doc pm an cdv ct us its hl hi => match us, hl, its, hi with | [_, _, _], _, [_], _ => ⟨_, rfl, rfl⟩
  obtain ⟨ds2, r2, b2⟩ := F.binds1 (ps := ["self", "piston", "board"]) 2 0 (by simp) rfl fun T kV doc pm an cdv ct us its hl hi => match us, hl, its, hi with | [_, _], _, [_], _ => ⟨_, rfl, rfl⟩
  exact ⟨⟨_, fd, _, ds, T.cl_Console, T.m_Console_store, G, b, r⟩, ⟨_, fd, _, ds2, T.cl_Console, T.m_Console_store, G, b2, r2⟩⟩
end
end WC
/-! press, drawn, step, knobs. -/
namespace WC
open PySem PySem.Spec PyProof.Rows L2
section
variable {P : Program} {w : World} {K : PySem.W.Frag} {mg : PySem.Str → Option Value} {base : Heap}
theorem sc_press : FnScope ["self", "piston"] ["self", "piston"] (defScope s_Console_press) := ⟨rfl, rfl, rfl, by decide +kernel, rfl, by decide +kernel, by decide +kernel⟩
/-- the put of what is stored -/
theorem put_any (T : Txt K mg) (H : Hp) (v : Option V) (st : Option Pst) (h : PstAt K H v st) : ∃ (C : Addr) (sp : Sp), C8.Met P w K mg base 1 C "put" sp [] ∧
    ∀ p, st = some p → ∃ a dx fs, v = some (.ref a) ∧ H a = some (.ins C dx fs) ∧ fs.lookup ("put" : PySem.Str) = none ∧ ∀ (d : Int) (Q : VK), Q (.int (p.put d)) H → sp [.ref a, .int d] H Q C8.E0 := by
  cases st with
  | none => exact ⟨_, _, ok_putE T, fun p hp => by cases hp⟩
  | some st =>
    cases st with
    | every k =>
      obtain ⟨p, dx, e, z⟩ := h
      refine ⟨_, _, ok_putE T, fun p' hp => ?_⟩
      cases hp
      exact ⟨p, dx, _, e, z, by kernel_rfl, fun d Q q => ⟨p, dx, k, d, rfl, z, q⟩⟩
    | part k ww =>
      obtain ⟨p, dx, e, z⟩ := h
      refine ⟨_, _, ok_putP T, fun p' hp => ?_⟩
      cases hp
      exact ⟨p, dx, _, e, z, by kernel_rfl, fun d Q q => ⟨p, dx, k, ww, d, rfl, z, q⟩⟩
theorem ok_press (T : Txt K mg) : MetX P w K mg base 3 (cConsole K) "press" (spD1 K NuV fun _ q x => q.press x) [] := by
  obtain ⟨fd, F⟩ := T.d_Console_press
  have e := T.e_NoPiston
  refine metXOf (ps := ["self", "piston"]) F (F.ok sc_press (fun vs H Q E h => ?_) (fun cdv Ar outer s H vs Q E hr h => ?_)) T.cl_Console T.m_Console_press fun _ _ _ _ _ _ us hl => match us, hl with | [_, _], _ => rfl
  · obtain ⟨A, o, c, dx, m, q, n, x, rfl, _⟩ := h
    rfl
  · obtain ⟨A, o, c, dx, m, q, n, x, rfl, hx, G, ok, C, hn, k⟩ := h
    have hu := hu_of hr
    have k : ∀ H', ConAt K H' A c dx m (q.press x).2 (n + 1) → Kp [c, m] H H' → ans K (q.press x).1 Q E H' := k
    obtain ⟨kvs, m1, m2, m3⟩ := C.me
    obtain ⟨C2, sp2, ok2, h2⟩ := put_any (P := P) (w := w) (base := base) T H _ _ (m3 ((pist x).getD 0))
    refine ⟨_, pss_cons (ps_expr (pe_mx (ok_look_at T) hr (by decide) (passes_call (takes_of rfl rfl rfl rfl) fun _ _ _ _ h => h) (pv 0) (pa_cons (pv 1) pa_nil)))
      (pss_cons (ps_if (pt_cmp (pc_dnotin hu (pv 1) (pe_fld (pv 0) rfl))) (pss_one (ps_raise rfl (takes_of rfl rfl rfl rfl) (pmk_own PySem.F.excBase_ValueError e.ex e.g e.kp (raises_own e.sb e.ty) rfl))) pss_nil)
      (pss_one (ps_fld (pv 0) (C8.pe_mt ok2 hr (by decide) (pe_dget hu (pe_fld (pv 0) rfl) (pv 1) (fun _ _ => rfl)) (pa_cons (pe_fld (pv 0) rfl) pa_nil)) rfl))), ?_⟩
    refine ⟨_, rfl, c, dx, _, rfl, C.ob, cf_no _ _ _ _ _ (by decide +kernel), _, rfl, c, x, rfl, hx, fun i hi => ?_, fun hi => ?_⟩
    · obtain rfl := key_inl hi
      unfold Con.press at k
      rw [hi] at k h2
      have gt : DGet H m (.int i) (valV kvs (Sum.inl i : Key)) := DGet.k (k := Sum.inl i) m1
      refine ⟨_, rfl, _, rfl, c, cConsole K, dx, _, _, rfl, C.ob, T.cl_Console, T.a_Console_memory, cf_memory _ _ _ _, _, _, rfl, gt, ?_⟩
      have mi : PstAt K H (valV kvs (Sum.inl i : Key)) (q.mem i) := m3 i
      have h2 : ∀ p, q.mem i = some p → ∃ a dx fs, valV kvs (Sum.inl i : Key) = some (.ref a) ∧ H a = some (.ins C2 dx fs) ∧ fs.lookup ("put" : PySem.Str) = none ∧ ∀ (d : Int) (Q : VK), Q (.int (p.put d)) H → sp2 [.ref a, .int d] H Q C8.E0 := h2
      cases hm : q.mem i with
      | none =>
        have k : ∀ H', ConAt K H' A c dx m (match q.mem i with | some p => (Res.non, { q with now := p.put q.now }) | none => (.no .piston, q)).2 (n + 1) → Kp [c, m] H H' → ans K (match q.mem i with | some p => (Res.non, { q with now := p.put q.now }) | none => (.no .piston, q)).1 Q E H' := k
        rw [hm] at k mi
        have mi : valV kvs (Sum.inl i : Key) = none := mi
        rw [mi]
        exact ⟨_, rfl, iteT (k H C.up Kp.rf)⟩
      | some p =>
        have k : ∀ H', ConAt K H' A c dx m (match q.mem i with | some p => (Res.non, { q with now := p.put q.now }) | none => (.no .piston, q)).2 (n + 1) → Kp [c, m] H H' → ans K (match q.mem i with | some p => (Res.non, { q with now := p.put q.now }) | none => (.no .piston, q)).1 Q E H' := k
        rw [hm] at k
        obtain ⟨a, da, fa, v1, v2, v3, v4⟩ := h2 p hm
        rw [v1] at gt ⊢
        refine ⟨_, rfl, iteF ⟨_, rfl, c, cConsole K, dx, _, _, rfl, C.ob, T.cl_Console, T.a_Console_memory, cf_memory _ _ _ _, _, rfl, _, _, rfl, gt, a, da, fa, rfl, v2, v3, ?_⟩⟩
        refine ⟨_, rfl, c, cConsole K, dx, _, _, rfl, C.ob, T.cl_Console, T.a_Console_now, cf_now _ _ _ _, v4 _ _ ?_⟩
        refine ⟨_, rfl, c, cConsole K, dx, _, rfl, C.ob, T.cl_Console, T.a_Console_now, (by show 4 < 1000; decide), ?_⟩
        rw [cf_sNow]
        exact k _ (C.set _ _ rfl).up kpC
    · unfold Con.press at k
      rw [hi] at k
      exact k H C.up Kp.rf
/-! ### drawn, step, knobs -/
theorem sc_drawn : FnScope ["self"] ["self"] (defScope s_Console_drawn) := ⟨rfl, rfl, rfl, by decide +kernel, rfl, by decide +kernel, by decide +kernel⟩
theorem sc_cstep : FnScope ["self"] ["self"] (defScope s_Console_step) := ⟨rfl, rfl, rfl, by decide +kernel, rfl, by decide +kernel, by decide +kernel⟩
theorem sc_cknobs : FnScope ["self", "found", "stops"] ["self"] (defScope s_Console_knobs) := ⟨rfl, rfl, rfl, by decide +kernel, rfl, by decide +kernel, by decide +kernel⟩
def spNum (K : PySem.W.Frag) (f : Org → Con → Int) : Sp := fun vs H Q _ => ∃ (A : OA) (o : Org) (c dx m : Addr) (q : Con) (n : Nat), vs = [.ref c] ∧ OrgAt K H A o ∧ ConAt K H A c dx m q n ∧ ∀ H', Same H H' → Q (.int (f o q)) H'
theorem ok_drawn (T : Txt K mg) : C8.Met P w K mg base 1 (cConsole K) "drawn" (spNum K fun _ q => q.now) [] := by
  obtain ⟨fd, F⟩ := T.d_Console_drawn
  refine metOf (ps := ["self"]) F (fnNox F sc_drawn (fun vs H Q E h => ?_) (fun cdv Ar outer s H vs Q E hr h => ?_)) T.cl_Console T.m_Console_drawn fun _ _ _ _ _ _ us hl => match us, hl with | [_], _ => rfl
  · obtain ⟨A, o, c, dx, m, q, n, rfl, _⟩ := h
    rfl
  · obtain ⟨A, o, c, dx, m, q, n, rfl, G, C, k⟩ := h
    exact ⟨_, pss_one (ps_ret (pe_fld (pv 0) rfl)), _, rfl, c, cConsole K, dx, _, _, rfl, C.ob, T.cl_Console, T.a_Console_now, cf_now _ _ _ _, k H (Same.refl H)⟩
theorem ok_cstep (T : Txt K mg) : C8.Met P w K mg base 1 (cConsole K) "step" (spNum K fun _ q => (q.foot : Int)) [] := by
  obtain ⟨fd, F⟩ := T.d_Console_step
  refine metOf (ps := ["self"]) F (fnNox F sc_cstep (fun vs H Q E h => ?_) (fun cdv Ar outer s H vs Q E hr h => ?_)) T.cl_Console T.m_Console_step fun _ _ _ _ _ _ us hl => match us, hl with | [_], _ => rfl
  · obtain ⟨A, o, c, dx, m, q, n, rfl, _⟩ := h
    rfl
  · obtain ⟨A, o, c, dx, m, q, n, rfl, G, C, k⟩ := h
    exact ⟨_, pss_one (ps_ret (pe_fld (pv 0) rfl)), _, rfl, c, cConsole K, dx, _, _, rfl, C.ob, T.cl_Console, T.a_Console_foot, cf_foot _ _ _ _, k H (Same.refl H)⟩
theorem cutTo (xs : List V) (f : Nat) : cutV xs none (some (f : Int)) = xs.take f := by
  have e1 : HT.sIx xs.length 0 none = 0 := rfl
  have e2 : HT.sIx xs.length xs.length (some (f : Int)) = min f xs.length := HT.sIx_nat _ _ _
  unfold cutV
  rw [e1, e2, Nat.sub_zero, List.drop_zero]
  by_cases h : f ≤ xs.length
  · rw [Nat.min_eq_left h]
  · rw [Nat.min_eq_right (by omega), List.take_of_length_le (Nat.le_refl _), List.take_of_length_le (by omega)]
theorem ok_cknobs (T : Txt K mg) : C8.Met P w K mg base 2 (cConsole K) "knobs" (spNum K fun o q => q.force o) [] := by
  obtain ⟨fd, F⟩ := T.d_Console_knobs
  have nd := sc_cknobs.nd
  refine metOf (ps := ["self"]) F (fnNox F sc_cknobs (fun vs H Q E h => ?_) (fun cdv Ar outer s H vs Q E hr h => ?_)) T.cl_Console T.m_Console_knobs fun _ _ _ _ _ _ us hl => match us, hl with | [_], _ => rfl
  · obtain ⟨A, o, c, dx, m, q, n, rfl, _⟩ := h
    rfl
  · obtain ⟨A, o, c, dx, m, q, n, rfl, G, C, k⟩ := h
    refine ⟨_, pss_cons (ps_set (i := 1) nd rfl (.inl rfl) (pe_fld (pv 0) rfl))
      (pss_cons (ps_for PassesOwn.never rfl (pi_list (pe_slice sl_list (C8.pe_mt0 (ok_osteps T) hr (by decide) (pe_fld (pv 0) rfl)) po_none (po_some (pe_fld (pv 0) rfl)))) (pg_name (i := 2) nd rfl (.inl rfl))
        (pss_one (ps_set (i := 1) nd rfl (.inl rfl) (pe_op op_or (pv 1) (pv 2)))))
      (pss_one (ps_ret (pv 1)))), ?_⟩
    refine ⟨_, rfl, c, cConsole K, dx, _, _, rfl, C.ob, T.cl_Console, T.a_Console_now, cf_now _ _ _ _, ?_⟩
    refine ⟨_, rfl, c, cConsole K, dx, _, _, rfl, C.ob, T.cl_Console, T.a_Console_organ, cf_organ _ _ _ _, A.at_ 0, A.dx, _, rfl, G.ob, of_no _ _ _ (by decide +kernel), A, o, _, rfl, G, G.st, fun l hl => ?_⟩
    have s1 := Same.nw (o := .lst (o.stairs.map V.int)) hl
    have C1 := C.same s1
    refine ⟨_, rfl, c, cConsole K, dx, _, _, rfl, C1.ob, T.cl_Console, T.a_Console_foot, cf_foot _ _ _ _, _, rfl, l, _, rfl, SqL.of upd_same, fun l2 h2 => ?_⟩
    rw [cutTo, ← List.map_take]
    have s2 := s1.trans (Same.nw (o := .lst ((o.stairs.take q.foot).map V.int)) h2)
    refine ⟨l2, rfl, ⟨_, SqL.of upd_same⟩, for_list (K := K) (a := l2) (xs := (o.stairs.take q.foot).map V.int) (fun i σ H2 => ∃ v : Option V, σ = [some (.ref c), some (.int (((o.stairs.take q.foot).take i).foldl bOr q.now)), v] ∧ Same H H2 ∧ H2 l2 = some (.lst ((o.stairs.take q.foot).map V.int)))
      ⟨none, rfl, s2, upd_same⟩ (fun i σ H2 _ ⟨_, _, _, e⟩ => SqL.of e) ?_ ?_⟩
    · rintro i y σ H2 hi ⟨v, rfl, s3, e3⟩
      obtain ⟨z, hz, rfl⟩ := get_map hi
      refine ⟨_, rfl, _, rfl, _, _, rfl, rfl, some (.int z), ?_, s3, e3⟩
      rw [take_more hz, List.foldl_append]
      rfl
    · rintro σ H2 ⟨v, rfl, s3, e3⟩
      rw [List.length_map, List.take_length]
      exact ⟨_, rfl, k H2 s3⟩
end
end WC
/-! _law_stood; a def that is handed the caught error: _law_names. -/
namespace WC
open PySem PySem.Spec PyProof.Rows L2
/-- p's object is an error of the class at D -/
structure ErrAt (D : Addr) (p : Addr × Obj) : Prop where
  z : Zc (.ref D) none p.2
  f : ∃ vs, p.2.data = .fields vs
/-- a def to which a caught error of the class at D is handed, while it is handled -/
structure FnE (P : Program) (w : World) (K : PySem.W.Frag) (mg : PySem.Str → Option Value) (base : Heap) (k : Nat) (f : Addr) (fd : FuncData) (ps : List PySem.Str) (D : Addr) (sp : Addr → Sp) : Prop where
  len : ∀ a vs H Q E, sp a vs H Q E → vs.length = ps.length
  run : ∀ (A : Around) (outer : List Env) (s : Shared) (H : Hp) (us : List Value) (vs : List V) (Q : VK) (p : Addr × Obj), L2H.RoomH k A → ErrAt D p → L2H.PinOk outer H s p → Env0 P w K mg base A outer s H → BindsTo s fd ⟨us, []⟩ (ps.zip us) → Vals vs us → sp p.1 vs H Q C8.E0 →
    codeAny (model P w) A (.call (.ref f) ⟨us, []⟩) (CR CX0 outer P w H s Q C8.E0) s
section
variable {P : Program} {w : World} {K : PySem.W.Frag} {mg : PySem.Str → Option Value} {base : Heap}
theorem fnE_of {x qual : PySem.Str} {params : Arguments} {body : List Stmt} {scope : Scope} {f : Addr} {fd : FuncData} {N ps : List PySem.Str} {k : Nat} {D : Addr} {sp : Addr → Sp} (F : FunD K x qual params body scope [] [] f fd) (S : FnScope N ps scope) (len : ∀ a vs H Q E, sp a vs H Q E → vs.length = ps.length)
    (hb : ∀ (cdv : Value) (A : Around) (outer : List Env) (s : Shared) (H : Hp) (vs : List V) (Q : VK) (p : Addr × Obj), ErrAt D p → sp p.1 vs H Q C8.E0 →
      ∃ t, PSs (L2H.cxH CX0 P w K mg base N qual scope f cdv A outer s H C8.E0 p) body t ∧ t { nx := fun _ H' => Q .non H', rt := Q } (start N vs) H) : FnE P w K mg base (k + 1) f fd ps D sp := by
  obtain ⟨oc, od, dV, kV, doc, pm, an, cdv, ct, osl, rfl, lk, hcd, _, _⟩ := F.ex
  refine ⟨len, fun A outer s H us vs Q p room er pin env bt vals hsp => ?_⟩
  have inK : K.In s.heap := env.mod.kin.keeps fun b o e => (env.bs b o e).1
  refine codeAny_call_function room.depth (inK _ _ lk) rfl S.co S.gen rfl (PySem.W.codeRec_of inK hcd) (bt _ _ _ _ (wpAny_newFunctionEnv_cells S.kind (fun ⟨n, v⟩ hn => ?_) fun en hen s1 ic => ?_))
  · cases S.par n (List.of_mem_zip hn).1 with
    | inl z => exact .inl z
    | inr z => exact .inr ⟨z, PySem.W.cellsFrom_some _ _ _ (.inl z)⟩
  · subst hen
    refine ⟨(env.mod.nolimit.keeps fun b o e => (env.bs b o e).1).keeps ic.toInCall.keep, codeAny_func ?_⟩
    obtain ⟨t, h1, h2⟩ := hb cdv A outer s H vs Q p er hsp
    refine wpAny_mono (h1.run [] s1 _ H _ (L2H.inv_startH S pin env (len _ _ _ _ _ hsp) vals ic) h2) (fun fl s2 r => ?_) fun _ _ r => r
    match fl, r with
    | .ret u, ⟨v, σ2, H2, J, rv, q⟩ => exact ⟨v, H2, J.os, J.bare, J.base, J.hok, rv, q⟩
    | .next, ⟨σ2, H2, J, q⟩ => exact ⟨V.non, H2, J.os, J.bare, J.base, J.hok, rfl, q⟩
    | .brk, ⟨_, _, _, q⟩ => exact q.elim
    | .cont, ⟨_, _, _, q⟩ => exact q.elim
/-- .. called -/
def tCallE (sp : Sp) (t : TA) : TE := fun σ H Q => t σ H fun vs H1 => sp vs H1 Q C8.E0
theorem pe_callE {X : Cx} {k : Nat} {f D a : Addr} {oe : Obj} {fd : FuncData} {ps : List PySem.Str} {sp : Addr → Sp} {x : PySem.Str} {q pos : Pos} {e : Expr} {es : List Expr} {t : TA} (F : FnE X.prog X.w X.K X.mg X.base k f fd ps D sp) (room : L2H.RoomH k X.A) (er : ErrAt D (a, oe)) (hp : (a, oe) ∈ X.pn) (hg : Gl X x) (hm : X.mg x = some (.ref f)) (hk : PySem.W.keepIn X.K (.ref f) = true) (hb : Binds X.K fd ps [])
    (ha : PA X (e :: es) t) (hdb : (x == ("__debug__" : PySem.Str)) = false := by decide) (he : starEach (e :: es) X.env = (false, eval e X.env) :: starEach es X.env := by rfl) (hpl : (backTo pos (starEach es X.env)).any (·.1) = false := by rfl) :
    PE X (.Call (.Name x q) (e :: es) [] pos) (tCallE (sp a) t) := by
  refine ⟨fun pins s σ H Q I h => wpAny_Call_Name_kw (ld_glob I hg hm (PySem.W.callWith_K (h₀ := X.base) I.ok.mod.kin hk (thn (ha.run pos pins s σ H _ I h) fun us s1 ⟨vs, H1, I1, r, q⟩ => ⟨I1.kIn, ?_⟩) he hpl) hdb)⟩
  obtain ⟨g1, g2, g3, g4, g5⟩ := I1.pin (a, oe) (List.mem_append_left _ hp)
  have pin : L2H.PinOk X.stack H1 s1 (a, oe) := ⟨g1, g2, fun hm => by
    rcases List.mem_cons.mp (I1.stkSub a hm) with z | z
    · exact g3 z
    · exact g4 z, g5⟩
  have hl : us.length = ps.length := by
    rw [← r.length]
    exact F.len _ _ _ _ _ q
  have bt := hb s1 us I1.kIn (by rw [List.append_nil]; exact hl)
  rw [List.append_nil] at bt
  refine wpAny_call (codeAny_mono (F.run X.A X.stack s1 H1 us vs Q (a, oe) room er pin I1.env0 bt r q) fun z s2 hq => ?_)
  match z, hq with
  | .ok (.ret u), hq => exact I1.after hq
  | .ok .next, hq => exact hq.elim
  | .ok .brk, hq => exact hq.elim
  | .ok .cont, hq => exact hq.elim
  | .error e, hq => exact hq.elim
/-- isinstance of such an error -/
theorem call_isP {X : Cx} {a D : Addr} {oe : Obj} (C : ExcC X.K D) (er : ErrAt D (a, oe)) (hp : (a, oe) ∈ X.pn) : CallR X (.builtin "isinstance") (rIsE X.K D a) := by
  intro pins s σ H xs us Q I r h
  obtain ⟨c, cv, b, rfl, hcv, e, q⟩ := h
  match us, r with
  | [_, _], .cons rx (.cons rt .nil) =>
    obtain rfl : _ = Value.ref a := rx
    obtain rfl := hcv _ rt
    have hget := (I.pin (a, oe) (List.mem_append_left _ hp)).1
    obtain ⟨vs, hv⟩ := er.f
    have J : PySem.W.InstAt s.heap a oe D none := by
      have h1 := er.z.1
      have h2 := er.z.2
      have hv : oe.data = .fields vs := hv
      obtain ⟨oc, od, oda, osl⟩ := oe
      simp only at h1 h2 hv
      subst h1 h2 hv
      exact ⟨hget, rfl, rfl, trivial⟩
    exact PySem.W.kia_one (PySem.W.handS_kitx_exc C.hg C.hk C.hs C.hd C.ha C.hn C.ht C.hm) I.kIn J e (fun z => nomatch z) fun tk => ⟨.bl b, H, I.kept (t' := tk) fun _ _ z => z, rfl, q⟩
end
section
variable {P : Program} {w : World} {K : PySem.W.Frag} {mg : PySem.Str → Option Value} {base : Heap}
/-! ### _law_stood -/
theorem sc_law_stood : FnScope ["_law_console"] ["_law_console"] (defScope s_law_stood) := ⟨rfl, rfl, rfl, by decide +kernel, rfl, by decide +kernel, by decide +kernel⟩
def spStood (K : PySem.W.Frag) : Sp := fun vs H Q _ => ∃ (A : OA) (o : Org) (c dx m : Addr) (q : Con) (n : Nat), vs = [.ref c] ∧ OrgAt K H A o ∧ ConAt K H A c dx m q n ∧ ∀ H' t, Same H H' → H t = none → H' t = some (.tup ((q.stood o).map V.int)) → Q (.ref t) H'
theorem ok_law_stood (T : Txt K mg) : C8.Cal P w K mg base 3 "_law_stood" (spStood K) [] := by
  obtain ⟨fd, F⟩ := T.d_law_stood
  refine calOf (ps := ["_law_console"]) F (fnNox F sc_law_stood (fun vs H Q E h => ?_) (fun cdv Ar outer s H vs Q E hr h => ?_)) T.g_law_stood fun _ _ _ _ _ _ us hl => match us, hl with | [_], _ => rfl
  · obtain ⟨A, o, c, dx, m, q, n, rfl, _⟩ := h
    rfl
  · obtain ⟨A, o, c, dx, m, q, n, rfl, G, C, k⟩ := h
    refine ⟨_, pss_one (ps_ret (pe_tup (pa_cons (C8.pe_mt0 (ok_drawn T) hr (by decide) (pv 0)) (pa_cons (C8.pe_mt0 (ok_cknobs T) hr (by decide) (pv 0)) (pa_cons (C8.pe_mt0 (ok_cstep T) hr (by decide) (pv 0)) pa_nil))))), ?_⟩
    refine ⟨_, rfl, c, dx, _, rfl, C.ob, cf_no _ _ _ _ _ (by decide +kernel), A, o, c, dx, m, q, n, rfl, G, C, fun H1 s1 => ?_⟩
    have G1 := G.same s1
    have C1 := C.same s1
    refine ⟨_, rfl, c, dx, _, rfl, C1.ob, cf_no _ _ _ _ _ (by decide +kernel), A, o, c, dx, m, q, n, rfl, G1, C1, fun H2 s2 => ?_⟩
    have G2 := G1.same s2
    have C2 := C1.same s2
    refine ⟨_, rfl, c, dx, _, rfl, C2.ob, cf_no _ _ _ _ _ (by decide +kernel), A, o, c, dx, m, q, n, rfl, G2, C2, fun H3 s3 => ?_⟩
    have s03 := s1.trans (s2.trans s3)
    exact ⟨by show 3 ≤ sizeLine; decide, fun t ht => k _ t (s03.trans (Same.nw ht)) (Same.free s03 ht) upd_same⟩
/-! ### _law_names -/
theorem sc_law_names : FnScope ["_law_e", "_law_some"] ["_law_e"] (defScope s_law_names) := ⟨rfl, rfl, rfl, by decide +kernel, rfl, by decide +kernel, by decide +kernel⟩
def spNames (r : Rf) (a : Addr) : Sp := fun vs H Q _ => vs = [.ref a] ∧ ∀ l, H l = none → Q (.ref l) (upd H l (.lst [.str r.word]))
def Rf.cls : Rf → PySem.Str
  | .knob => "NoKnob"
  | .piston => "NoPiston"
  | .board => "NoBoard"
  | .step => "NoStep"
theorem Txt.exc (T : Txt K mg) (r : Rf) : ExA K mg r.cls := by
  cases r
  · exact T.e_NoKnob
  · exact T.e_NoPiston
  · exact T.e_NoBoard
  · exact T.e_NoStep
theorem Rf.at_cls (r : Rf) : r.at K = He.ga K r.cls := by cases r <;> rfl
theorem ok_law_names (T : Txt K mg) (r : Rf) : ∃ fd, FnP K ("_law_names", none) "_law_names" "_law_names" s_law_names [] fd ∧ FnE P w K mg base 1 (He.fAd K ("_law_names", none)) fd ["_law_e"] (r.at K) (spNames r) := by
  obtain ⟨fd, F⟩ := T.d_law_names
  have nd := sc_law_names.nd
  refine ⟨fd, F, fnE_of F sc_law_names (fun a vs H Q E h => by rw [h.1]; rfl) fun cdv A outer s H vs Q p er h => ?_⟩
  obtain ⟨a, oe⟩ := p
  obtain ⟨rfl, k⟩ := h
  have C : ExcC K (r.at K) := by rw [r.at_cls]; exact (T.exc r).isx
  refine ⟨_, pss_cons (ps_set (i := 1) nd rfl (.inl rfl) (pe_lst pa_nil))
    (pss_cons (ps_if (pt_val (pe_callB (call_isP C er List.mem_cons_self) (by rfl) T.n_isinstance (by decide +kernel) (pa_cons (pv 0) (pa_cons (pe_glob (v := .ref (xNoKnob K)) (by rfl) T.e_NoKnob.g rfl) pa_nil)))) (pss_one (ps_expr (pe_bm PySem.F.plainAttrs_list PySem.F.slot_list_append PySem.F.type_list_append mt_append (pv 1) (pa_cons pe_str pa_nil)))) pss_nil)
    (pss_cons (ps_if (pt_val (pe_callB (call_isP C er List.mem_cons_self) (by rfl) T.n_isinstance (by decide +kernel) (pa_cons (pv 0) (pa_cons (pe_glob (v := .ref (xNoPiston K)) (by rfl) T.e_NoPiston.g rfl) pa_nil)))) (pss_one (ps_expr (pe_bm PySem.F.plainAttrs_list PySem.F.slot_list_append PySem.F.type_list_append mt_append (pv 1) (pa_cons pe_str pa_nil)))) pss_nil)
    (pss_cons (ps_if (pt_val (pe_callB (call_isP C er List.mem_cons_self) (by rfl) T.n_isinstance (by decide +kernel) (pa_cons (pv 0) (pa_cons (pe_glob (v := .ref (xNoBoard K)) (by rfl) T.e_NoBoard.g rfl) pa_nil)))) (pss_one (ps_expr (pe_bm PySem.F.plainAttrs_list PySem.F.slot_list_append PySem.F.type_list_append mt_append (pv 1) (pa_cons pe_str pa_nil)))) pss_nil)
    (pss_cons (ps_if (pt_val (pe_callB (call_isP C er List.mem_cons_self) (by rfl) T.n_isinstance (by decide +kernel) (pa_cons (pv 0) (pa_cons (pe_glob (v := .ref (xNoStep K)) (by rfl) T.e_NoStep.g rfl) pa_nil)))) (pss_one (ps_expr (pe_bm PySem.F.plainAttrs_list PySem.F.slot_list_append PySem.F.type_list_append mt_append (pv 1) (pa_cons pe_str pa_nil)))) pss_nil)
    (pss_one (ps_ret (pv 1))))))), ?_⟩
  have isw : ∀ y : Rf, PySem.W.kitOne K (.ref (r.at K)) (.ref (y.at K)) = some (decide (r = y)) := fun y => by
    rw [r.at_cls, y.at_cls]
    have m : ∀ z : Rf, z.cls ∈ (["NoKnob", "NoPiston", "NoBoard", "NoStep"] : List PySem.Str) := fun z => by cases z <;> simp [Rf.cls]
    rw [T.isw r.cls (m r) y.cls (m y)]
    refine congrArg some (decide_eq_decide.mpr ⟨fun e => ?_, fun e => by rw [e]⟩)
    cases r <;> cases y <;> first | rfl | exact absurd e (by simp only [Rf.cls]; decide +kernel)
  have i1 : PySem.W.kitOne K (.ref (r.at K)) (.ref (xNoKnob K)) = some (decide (r = .knob)) := isw .knob
  have i2 : PySem.W.kitOne K (.ref (r.at K)) (.ref (xNoPiston K)) = some (decide (r = .piston)) := isw .piston
  have i3 : PySem.W.kitOne K (.ref (r.at K)) (.ref (xNoBoard K)) = some (decide (r = .board)) := isw .board
  have i4 : PySem.W.kitOne K (.ref (r.at K)) (.ref (xNoStep K)) = some (decide (r = .step)) := isw .step
  refine ⟨by decide, fun l hl => ?_⟩
  have kk : ∀ w : PySem.Str, w = r.word → Q (.ref l) (upd (upd H l (.lst [])) l (.lst ([] ++ [.str w]))) := fun w e => by
    rw [upd_upd, e]
    exact k l hl
  have rv : ∀ (c : Addr) (u : Value), RelV (.ref c) u → u = .ref c := fun c u h => h
  have no : ∀ (H' : Hp) (y : Rf), r ≠ y → decide (r = y) = false := fun _ y n => decide_eq_false n
  cases r with
  | knob =>
    refine ⟨_, rfl, _, _, _, rfl, rv _, i1, _, rfl, iteT ?_⟩
    refine ⟨_, rfl, .inl ⟨rfl, _, SqL.of upd_same⟩, _, _, _, rfl, rfl, upd_same, (by show 0 < sizeLine; decide), ?_⟩
    refine ⟨_, rfl, _, _, _, rfl, rv _, i2, _, rfl, iteF ⟨_, rfl, _, _, _, rfl, rv _, i3, _, rfl, iteF ⟨_, rfl, _, _, _, rfl, rv _, i4, _, rfl, iteF ⟨_, rfl, kk _ rfl⟩⟩⟩⟩
  | piston =>
    refine ⟨_, rfl, _, _, _, rfl, rv _, i1, _, rfl, iteF ⟨_, rfl, _, _, _, rfl, rv _, i2, _, rfl, iteT ?_⟩⟩
    refine ⟨_, rfl, .inl ⟨rfl, _, SqL.of upd_same⟩, _, _, _, rfl, rfl, upd_same, (by show 0 < sizeLine; decide), ?_⟩
    refine ⟨_, rfl, _, _, _, rfl, rv _, i3, _, rfl, iteF ⟨_, rfl, _, _, _, rfl, rv _, i4, _, rfl, iteF ⟨_, rfl, kk _ rfl⟩⟩⟩
  | board =>
    refine ⟨_, rfl, _, _, _, rfl, rv _, i1, _, rfl, iteF ⟨_, rfl, _, _, _, rfl, rv _, i2, _, rfl, iteF ⟨_, rfl, _, _, _, rfl, rv _, i3, _, rfl, iteT ?_⟩⟩⟩
    refine ⟨_, rfl, .inl ⟨rfl, _, SqL.of upd_same⟩, _, _, _, rfl, rfl, upd_same, (by show 0 < sizeLine; decide), ?_⟩
    refine ⟨_, rfl, _, _, _, rfl, rv _, i4, _, rfl, iteF ⟨_, rfl, kk _ rfl⟩⟩
  | step =>
    refine ⟨_, rfl, _, _, _, rfl, rv _, i1, _, rfl, iteF ⟨_, rfl, _, _, _, rfl, rv _, i2, _, rfl, iteF ⟨_, rfl, _, _, _, rfl, rv _, i3, _, rfl, iteF ⟨_, rfl, _, _, _, rfl, rv _, i4, _, rfl, iteT ?_⟩⟩⟩⟩
    refine ⟨_, rfl, .inl ⟨rfl, _, SqL.of upd_same⟩, _, _, _, rfl, rfl, upd_same, (by show 0 < sizeLine; decide), ?_⟩
    exact ⟨_, rfl, kk _ rfl⟩
end
end WC
/-! _law_do. -/
namespace WC
open PySem PySem.Spec PyProof.Rows L2
def RAt (H : Hp) (v : V) : Res → Prop
  | .bl b => v = .bl b
  | .non => v = .non
  | .no x => ∃ l, v = .ref l ∧ H l = some (.lst [.str x.word])
section
variable {P : Program} {w : World} {K : PySem.W.Frag} {mg : PySem.Str → Option Value} {base : Heap}
theorem sc_law_do : FnScope ["_law_console", "_law_deed_here", "_law_told", "_law_found", "_law_e"] ["_law_console", "_law_deed_here"] (defScope s_law_do) := ⟨rfl, rfl, rfl, by decide +kernel, rfl, by decide +kernel, by decide +kernel⟩
def spDo (K : PySem.W.Frag) : Sp := fun vs H Q _ => ∃ (A : OA) (o : Org) (c dx m : Addr) (q : Con) (n : Nat) (t : Addr) (d : Deed), vs = [.ref c, .ref t] ∧ H t = some (.tup d.vals) ∧ d.wf ∧ OrgAt K H A o ∧ o.Ok ∧ ConAt K H A c dx m q n ∧ n ≤ 500 ∧
  ∀ v H', RAt H' v (act o q d).1 → ConAt K H' A c dx m (act o q d).2 (n + 1) → Kp [c, m] H H' → Q v H'
/-- what the body of the try does -/
def tDo (K : PySem.W.Frag) (W : WX) : TS := fun D σ H => ∃ (A : OA) (o : Org) (c dx m : Addr) (q : Con) (n : Nat) (t : Addr) (d : Deed) (x y z : Option V), σ = [some (.ref c), some (.ref t), x, y, z] ∧ H t = some (.tup d.vals) ∧ d.wf ∧ OrgAt K H A o ∧ o.Ok ∧ ConAt K H A c dx m q n ∧ n ≤ 500 ∧
  ∀ H', ConAt K H' A c dx m (act o q d).2 (n + 1) → Kp [c, m] H H' → ans K (act o q d).1 (fun v H2 => D.nx (σ.set 2 (some v)) H2) (fun cls e H2 => W cls e σ H2) H'
def tsE (K : PySem.W.Frag) (a : Addr) (cls : Value) (d : Option Addr) : TS := fun D σ H => ∃ r : Rf, cls = .ref (r.at K) ∧ d = none ∧ σ[4]? = some (some (.ref a)) ∧ ∀ l, H l = none → D.nx (σ.set 3 (some (.ref l))) (upd H l (.lst [.str r.word]))
theorem pss_ex {X : Cx} {b : List Stmt} {t' : TS} (h : ∀ D σ H, t' D σ H → ∃ t, PSs X b t ∧ t D σ H) : PSs X b t' := ⟨fun pins s σ H D I q => by
  obtain ⟨t, h1, h2⟩ := h D σ H q
  exact h1.run pins s σ H D I h2⟩
theorem ok_law_do (T : Txt K mg) : C8.Cal P w K mg base 6 "_law_do" (spDo K) [] := by
  obtain ⟨fd, F⟩ := T.d_law_do
  have nd := sc_law_do.nd
  refine calOf (ps := ["_law_console", "_law_deed_here"]) F (fnNox F sc_law_do (fun vs H Q E h => ?_) (fun cdv Ar outer s0 H0 vs Q E hr h => ?_)) T.g_law_do fun _ _ _ _ _ _ us hl => match us, hl with | [_, _], _ => rfl
  · obtain ⟨A, o, c, dx, m, q, n, t, d, rfl, _⟩ := h
    rfl
  · obtain ⟨A, o, c, dx, m, q, n, t, d, rfl, ht, hd, G, ok, C, hn, k⟩ := h
    have hu := hu_of hr
    refine ⟨_, pss_cons (ps_set (i := 2) nd rfl (.inl rfl) pe_non) (pss_cons (ps_set (i := 3) nd rfl (.inl rfl) (pe_lst pa_nil))
      (pss_cons (ps_try_as (i := 4) (c := .ref (xOrganError K)) (tb := tDo K) (ts := tsE K) (Wout := fun _ _ _ _ => False) rfl rfl nd rfl rfl ⟨by rfl, by decide, .inl T.g_OrganError⟩ (fun u s' ⟨_, _, _, _, _, _, _, _, _, _, _, _, _, _, _, _, w⟩ => w.elim)
        (fun W pn xe tk po => ?_) (fun a oe cls d pn hz hf => ?_))
      (pss_cons (ps_if (pt_cmpR (op_neNil (Nat.lt_of_succ_lt hu)) (pv 3) (pe_lst pa_nil) (nomark _)) (pss_one (ps_ret (pv 3))) pss_nil)
      (pss_one (ps_ret (pv 2)))))), ?_⟩
    · refine pss_ex fun D σ H h => ?_
      obtain ⟨A, o, c, dx, m, q, n, t, d, x, y, z, rfl, ht, hd, G, ok, C, hn, k⟩ := h
      refine ⟨_, pss_one (ps_if (pt_cmpR op_eq (pe_ix ix_tup (pv 1) pe_int (fun _ _ => rfl)) pe_str (nomark _))
          (pss_one (ps_set (i := 2) nd rfl (.inl rfl) (pe_mw (E := WE W) (ok_pull T) hr (by decide) (passAt tk) (pv 0) (pa_cons (pe_ix ix_tup (pv 1) pe_int (fun _ _ => rfl)) pa_nil))))
        (pss_one (ps_if (pt_cmpR op_eq (pe_ix ix_tup (pv 1) pe_int (fun _ _ => rfl)) pe_str (nomark _))
          (pss_one (ps_set (i := 2) nd rfl (.inl rfl) (pe_mw (E := WE W) (ok_push T) hr (by decide) (passAt tk) (pv 0) (pa_cons (pe_ix ix_tup (pv 1) pe_int (fun _ _ => rfl)) pa_nil))))
        (pss_one (ps_if (PW.pt (pw_and (pt_cmpR op_eq (pe_ix ix_tup (pv 1) pe_int (fun _ _ => rfl)) pe_str (nomark _)) (pw_and1 (pt_cmpR op_eq (pe_callB call_len_seq (by rfl) T.n_len PySem.boot_len (pa_cons (pv 1) pa_nil)) pe_int (nomark _)))))
          (pss_one (ps_set (i := 2) nd rfl (.inl rfl) (pe_mw (E := WE W) (ok_store T).2 hr (by decide) (passAt tk) (pv 0) (pa_cons (pe_ix ix_tup (pv 1) pe_int (fun _ _ => rfl)) pa_nil))))
        (pss_one (ps_if (pt_cmpR op_eq (pe_ix ix_tup (pv 1) pe_int (fun _ _ => rfl)) pe_str (nomark _))
          (pss_one (ps_set (i := 2) nd rfl (.inl rfl) (pe_mw (E := WE W) (ok_store T).1 hr (by decide) (passAt tk) (pv 0) (pa_cons (pe_ix ix_tup (pv 1) pe_int (fun _ _ => rfl)) (pa_cons (pe_ix ix_tup (pv 1) pe_int (fun _ _ => rfl)) pa_nil)))))
        (pss_one (ps_if (pt_cmpR op_eq (pe_ix ix_tup (pv 1) pe_int (fun _ _ => rfl)) pe_str (nomark _))
          (pss_one (ps_set (i := 2) nd rfl (.inl rfl) (pe_mw (E := WE W) (ok_press T) hr (by decide) (passAt tk) (pv 0) (pa_cons (pe_ix ix_tup (pv 1) pe_int (fun _ _ => rfl)) pa_nil))))
        (pss_one (ps_if (pt_cmpR op_eq (pe_ix ix_tup (pv 1) pe_int (fun _ _ => rfl)) pe_str (nomark _))
          (pss_one (ps_set (i := 2) nd rfl (.inl rfl) (pe_mw (E := WE W) (ok_shoe T) hr (by decide) (passAt tk) (pv 0) (pa_cons (pe_ix ix_tup (pv 1) pe_int (fun _ _ => rfl)) pa_nil))))
          (pss_one (ps_set (i := 2) nd rfl (.inl rfl) (C8.pe_mt0 (ok_cancel T) hr (by decide) (pv 0))))))))))))))), ?_⟩
      cases d with
      | pull x =>
        have ht : H t = some (.tup [.str "pull", x]) := ht
        refine ⟨_, rfl, t, _, _, _, rfl, rfl, SqT.of ht, rfl, rfl, _, rfl, ?_⟩
        rw [strT]
        exact iteT ⟨_, rfl, c, dx, _, rfl, C.ob, cf_no _ _ _ _ _ (by decide +kernel), _, rfl, t, _, _, _, rfl, rfl, SqT.of ht, rfl, A, o, c, dx, m, q, n, x, rfl, hd, G, ok, C, hn, k⟩
      | push x =>
        have ht : H t = some (.tup [.str "push", x]) := ht
        refine ⟨_, rfl, t, _, _, _, rfl, rfl, SqT.of ht, rfl, rfl, _, rfl, ?_⟩
        rw [strF (show ("push" : PySem.Str) ≠ "pull" by decide +kernel)]
        refine iteF ⟨_, rfl, t, _, _, _, rfl, rfl, SqT.of ht, rfl, rfl, _, rfl, ?_⟩
        rw [strT]
        exact iteT ⟨_, rfl, c, dx, _, rfl, C.ob, cf_no _ _ _ _ _ (by decide +kernel), _, rfl, t, _, _, _, rfl, rfl, SqT.of ht, rfl, A, o, c, dx, m, q, n, x, rfl, hd, G, ok, C, hn, k⟩
      | store x =>
        have ht : H t = some (.tup [.str "store", x]) := ht
        refine ⟨_, rfl, t, _, _, _, rfl, rfl, SqT.of ht, rfl, rfl, _, rfl, ?_⟩
        rw [strF (show ("store" : PySem.Str) ≠ "pull" by decide +kernel)]
        refine iteF ⟨_, rfl, t, _, _, _, rfl, rfl, SqT.of ht, rfl, rfl, _, rfl, ?_⟩
        rw [strF (show ("store" : PySem.Str) ≠ "push" by decide +kernel)]
        refine iteF ⟨_, rfl, t, _, _, _, rfl, rfl, SqT.of ht, rfl, rfl, _, rfl, ?_⟩
        rw [strT]
        refine iteT ⟨_, rfl, t, _, rfl, .inr (SqT.of ht), rfl, _, rfl, ?_⟩
        rw [show decide (V.int (([V.str "store", x] : List V).length : Int) = V.int 2) = true from decide_eq_true rfl]
        exact iteT ⟨_, rfl, c, dx, _, rfl, C.ob, cf_no _ _ _ _ _ (by decide +kernel), _, rfl, t, _, _, _, rfl, rfl, SqT.of ht, rfl, A, o, c, dx, m, q, n, x, .non, rfl, hd, .inl rfl, G, ok, C, hn, k⟩
      | storeB x b =>
        have ht : H t = some (.tup [.str "store", x, b]) := ht
        refine ⟨_, rfl, t, _, _, _, rfl, rfl, SqT.of ht, rfl, rfl, _, rfl, ?_⟩
        rw [strF (show ("store" : PySem.Str) ≠ "pull" by decide +kernel)]
        refine iteF ⟨_, rfl, t, _, _, _, rfl, rfl, SqT.of ht, rfl, rfl, _, rfl, ?_⟩
        rw [strF (show ("store" : PySem.Str) ≠ "push" by decide +kernel)]
        refine iteF ⟨_, rfl, t, _, _, _, rfl, rfl, SqT.of ht, rfl, rfl, _, rfl, ?_⟩
        rw [strT]
        refine iteT ⟨_, rfl, t, _, rfl, .inr (SqT.of ht), rfl, _, rfl, ?_⟩
        rw [show decide (V.int (([V.str "store", x, b] : List V).length : Int) = V.int 2) = false from ne_int (i := 3) (j := 2) (by decide)]
        refine iteF ⟨_, rfl, t, _, _, _, rfl, rfl, SqT.of ht, rfl, rfl, _, rfl, ?_⟩
        rw [strT]
        exact iteT ⟨_, rfl, c, dx, _, rfl, C.ob, cf_no _ _ _ _ _ (by decide +kernel), _, rfl, t, _, _, _, rfl, rfl, SqT.of ht, rfl, _, rfl, t, _, _, _, rfl, rfl, SqT.of ht, rfl, A, o, c, dx, m, q, n, x, b, rfl, hd.1, hd.2, G, ok, C, hn, k⟩
      | press x =>
        have ht : H t = some (.tup [.str "press", x]) := ht
        refine ⟨_, rfl, t, _, _, _, rfl, rfl, SqT.of ht, rfl, rfl, _, rfl, ?_⟩
        rw [strF (show ("press" : PySem.Str) ≠ "pull" by decide +kernel)]
        refine iteF ⟨_, rfl, t, _, _, _, rfl, rfl, SqT.of ht, rfl, rfl, _, rfl, ?_⟩
        rw [strF (show ("press" : PySem.Str) ≠ "push" by decide +kernel)]
        refine iteF ⟨_, rfl, t, _, _, _, rfl, rfl, SqT.of ht, rfl, rfl, _, rfl, ?_⟩
        rw [strF (show ("press" : PySem.Str) ≠ "store" by decide +kernel)]
        refine iteF (iteF ⟨_, rfl, t, _, _, _, rfl, rfl, SqT.of ht, rfl, rfl, _, rfl, ?_⟩)
        rw [strF (show ("press" : PySem.Str) ≠ "store" by decide +kernel)]
        refine iteF ⟨_, rfl, t, _, _, _, rfl, rfl, SqT.of ht, rfl, rfl, _, rfl, ?_⟩
        rw [strT]
        exact iteT ⟨_, rfl, c, dx, _, rfl, C.ob, cf_no _ _ _ _ _ (by decide +kernel), _, rfl, t, _, _, _, rfl, rfl, SqT.of ht, rfl, A, o, c, dx, m, q, n, x, rfl, hd, G, ok, C, hn, k⟩
      | shoe x =>
        have ht : H t = some (.tup [.str "shoe", x]) := ht
        refine ⟨_, rfl, t, _, _, _, rfl, rfl, SqT.of ht, rfl, rfl, _, rfl, ?_⟩
        rw [strF (show ("shoe" : PySem.Str) ≠ "pull" by decide +kernel)]
        refine iteF ⟨_, rfl, t, _, _, _, rfl, rfl, SqT.of ht, rfl, rfl, _, rfl, ?_⟩
        rw [strF (show ("shoe" : PySem.Str) ≠ "push" by decide +kernel)]
        refine iteF ⟨_, rfl, t, _, _, _, rfl, rfl, SqT.of ht, rfl, rfl, _, rfl, ?_⟩
        rw [strF (show ("shoe" : PySem.Str) ≠ "store" by decide +kernel)]
        refine iteF (iteF ⟨_, rfl, t, _, _, _, rfl, rfl, SqT.of ht, rfl, rfl, _, rfl, ?_⟩)
        rw [strF (show ("shoe" : PySem.Str) ≠ "store" by decide +kernel)]
        refine iteF ⟨_, rfl, t, _, _, _, rfl, rfl, SqT.of ht, rfl, rfl, _, rfl, ?_⟩
        rw [strF (show ("shoe" : PySem.Str) ≠ "press" by decide +kernel)]
        refine iteF ⟨_, rfl, t, _, _, _, rfl, rfl, SqT.of ht, rfl, rfl, _, rfl, ?_⟩
        rw [strT]
        exact iteT ⟨_, rfl, c, dx, _, rfl, C.ob, cf_no _ _ _ _ _ (by decide +kernel), _, rfl, t, _, _, _, rfl, rfl, SqT.of ht, rfl, A, o, c, dx, m, q, n, x, rfl, hd, G, ok, C, hn, k⟩
      | cancel =>
        have ht : H t = some (.tup [.str "cancel"]) := ht
        refine ⟨_, rfl, t, _, _, _, rfl, rfl, SqT.of ht, rfl, rfl, _, rfl, ?_⟩
        rw [strF (show ("cancel" : PySem.Str) ≠ "pull" by decide +kernel)]
        refine iteF ⟨_, rfl, t, _, _, _, rfl, rfl, SqT.of ht, rfl, rfl, _, rfl, ?_⟩
        rw [strF (show ("cancel" : PySem.Str) ≠ "push" by decide +kernel)]
        refine iteF ⟨_, rfl, t, _, _, _, rfl, rfl, SqT.of ht, rfl, rfl, _, rfl, ?_⟩
        rw [strF (show ("cancel" : PySem.Str) ≠ "store" by decide +kernel)]
        refine iteF (iteF ⟨_, rfl, t, _, _, _, rfl, rfl, SqT.of ht, rfl, rfl, _, rfl, ?_⟩)
        rw [strF (show ("cancel" : PySem.Str) ≠ "store" by decide +kernel)]
        refine iteF ⟨_, rfl, t, _, _, _, rfl, rfl, SqT.of ht, rfl, rfl, _, rfl, ?_⟩
        rw [strF (show ("cancel" : PySem.Str) ≠ "press" by decide +kernel)]
        refine iteF ⟨_, rfl, t, _, _, _, rfl, rfl, SqT.of ht, rfl, rfl, _, rfl, ?_⟩
        rw [strF (show ("cancel" : PySem.Str) ≠ "shoe" by decide +kernel)]
        exact iteF ⟨_, rfl, c, dx, _, rfl, C.ob, cf_no _ _ _ _ _ (by decide +kernel), A, c, dx, m, q, n, rfl, C, k⟩
    · refine pss_ex fun D σ H h => ?_
      obtain ⟨r, rfl, rfl, e3, k⟩ := h
      obtain ⟨fd2, F2, G2⟩ := ok_law_names (P := P) (w := w) (base := base) T r
      have rm := L2H.roomH_of (hr.mono (show 1 ≤ 5 by decide))
      exact ⟨_, pss_one (ps_set (i := 3) nd rfl (.inl rfl) (pe_callE G2 ⟨rm.dp, rm.un⟩ ⟨hz, hf⟩ List.mem_cons_self (by rfl) T.g_law_names F2.kp (F2.bindsN fun _ _ _ _ _ _ us hl => match us, hl with | [_], _ => rfl) (pa_cons (pv 4) pa_nil))), _, e3, rfl, k⟩
    · refine ⟨by decide, fun l hl => ?_⟩
      have C1 := C.same (Same.nw (o := .lst []) hl)
      have G1 := G.new (u := .lst []) hl
      have ht1 : (upd H0 l (.lst [])) t = some (.tup d.vals) := by rw [upd_ne (ne_of_none ht hl)]; exact ht
      refine ⟨A, o, c, dx, m, q, n, t, d, _, _, _, rfl, ht1, hd, G1, ok, C1, hn, fun H2 C2 k2 => ?_⟩
      have hl2 : H2 l = some (.lst []) := by
        obtain ⟨kvs, e, _⟩ := C1.me
        have z1 : l ≠ c := ne_nF (x := .lst []) upd_same C1.ob (by show 77 ≠ 4; decide)
        have z2 : l ≠ m := ne_of (o := .lst []) upd_same e (by intro z; cases z)
        exact k2.at upd_same (by simp [z1, z2])
      have k02 : Kp [c, m] H0 H2 := (Kp.nw hl).tr k2
      cases hr1 : (act o q d).1 with
      | bl b =>
        refine ⟨_, rfl, by decide, fun l2 h2 => ⟨l, l2, [], rfl, rfl, SqL.of (by rw [upd_ne (ne_of_none hl2 h2)]; exact hl2), SqL.of upd_same, _, rfl, iteF ⟨_, rfl, ?_⟩⟩⟩
        have kk := k (.bl b) (upd H2 l2 (.lst []))
        rw [hr1] at kk
        exact kk rfl (C2.same (Same.nw h2)) (k02.tr (Kp.nw h2))
      | non =>
        refine ⟨_, rfl, by decide, fun l2 h2 => ⟨l, l2, [], rfl, rfl, SqL.of (by rw [upd_ne (ne_of_none hl2 h2)]; exact hl2), SqL.of upd_same, _, rfl, iteF ⟨_, rfl, ?_⟩⟩⟩
        have kk := k .non (upd H2 l2 (.lst []))
        rw [hr1] at kk
        exact kk rfl (C2.same (Same.nw h2)) (k02.tr (Kp.nw h2))
      | no r =>
        have up : PySem.W.exmOne K (.ref (r.at K)) (.ref (xOrganError K)) = some true := by
          rw [r.at_cls]
          exact (T.exc r).up
        refine ⟨true, up, fun _ a ha => ⟨r, rfl, rfl, rfl, fun l3 h3 => ?_⟩, fun z => by cases z⟩
        refine ⟨_, rfl, by decide, fun l2 h2 => ⟨l3, l2, [.str r.word], rfl, rfl, SqL.of (by rw [upd_ne (ne_of_none (o := .lst [.str r.word]) upd_same h2)]; exact upd_same), SqL.of upd_same, _, rfl, iteT ⟨_, rfl, ?_⟩⟩⟩
        have kk := k (.ref l3) (upd (upd H2 l3 (.lst [.str r.word])) l2 (.lst []))
        rw [hr1] at kk
        exact kk ⟨l3, rfl, by rw [upd_ne (ne_of_none (o := .lst [.str r.word]) upd_same h2)]; exact upd_same⟩ ((C2.same (Same.nw h3)).same (Same.nw h2)) ((k02.tr (Kp.nw h3)).tr (Kp.nw h2))
end
end WC
/-! _law_drawn, _law_draw. -/
namespace WC
open PySem PySem.Spec PyProof.Rows L2
/-- the cells to draw from, the place among them, the number, the turns so far -/
structure Dw (H : Hp) (a cl : Addr) (k : Nat) : Prop where
  ne : a ≠ cl
  ex : ∃ (cs : List Int) (p t : Nat) (n : Int), H a = some (.lst [.ref cl, .int (p : Int), .int n, .int (t : Int)]) ∧ H cl = some (.lst (cs.map V.int)) ∧ p ≤ cs.length ∧ (0 ≤ n ∧ n < 4294967296) ∧ t ≤ k
section
variable {P : Program} {w : World} {K : PySem.W.Frag} {mg : PySem.Str → Option Value} {base : Heap}
theorem sc_law_draw : FnScope ["_law_drawn_here", "_law_many", "_law_cells", "_law_turn", "_law_digit"] ["_law_drawn_here", "_law_many"] (defScope s_law_draw) := ⟨rfl, rfl, rfl, by decide +kernel, rfl, by decide +kernel, by decide +kernel⟩
def spDraw : Sp := fun vs H Q _ => ∃ (a cl : Addr) (k : Nat) (many : Int), vs = [.ref a, .int many] ∧ Dw H a cl k ∧ k ≤ 10000 ∧ 1 ≤ many ∧ many < 1073741824 ∧ ∀ (d : Nat) H', (d : Int) < many → Dw H' a cl (k + 1) → Kp [a, cl] H H' → Q (.int (d : Int)) H'
theorem ok_law_draw (T : Txt K mg) : C8.Cal P w K mg base 1 "_law_draw" spDraw [] := by
  obtain ⟨fd, F⟩ := T.d_law_draw
  have nd := sc_law_draw.nd
  refine calOf (ps := ["_law_drawn_here", "_law_many"]) F (fnNox F sc_law_draw (fun vs H Q E h => ?_) (fun cdv Ar outer s H vs Q E hr h => ?_)) T.g_law_draw fun _ _ _ _ _ _ us hl => match us, hl with | [_, _], _ => rfl
  · obtain ⟨a, cl, k, many, rfl, _⟩ := h
    rfl
  · obtain ⟨a, cl, k, many, rfl, D, hk, m1, m2, q⟩ := h
    refine ⟨_, pss_cons (ps_set (i := 2) nd rfl (.inl rfl) (pe_ix ix_list (pv 0) pe_int (fun _ _ => rfl)))
      (pss_cons (ps_asg (pe_op op_add (pe_ix ix_list (pv 0) pe_int (fun _ _ => rfl)) pe_int) (pg_sub (pv 0) pe_int set_list))
      (pss_cons (ps_while PassesOwn.never (PW.pt (pw_and (pt_cmpR op_lt (pe_ix ix_list (pv 0) pe_int (fun _ _ => rfl)) (pe_callB call_len_seq (by rfl) T.n_len PySem.boot_len (pa_cons (pv 2) pa_nil)) (nomark _))
          (pw_and1 (pt_cmpR op_eq (pe_ix ix_list (pv 2) (pe_ix ix_list (pv 0) pe_int (fun _ _ => rfl)) (fun _ _ => rfl)) pe_int (nomark _)))))
        (pss_one (ps_asg (pe_op op_add (pe_ix ix_list (pv 0) pe_int (fun _ _ => rfl)) pe_int) (pg_sub (pv 0) pe_int set_list))))
      (pss_cons (ps_if (pt_cmpR op_eq (pe_ix ix_list (pv 0) pe_int (fun _ _ => rfl)) (pe_callB call_len_seq (by rfl) T.n_len PySem.boot_len (pa_cons (pv 2) pa_nil)) (nomark _))
          (pss_cons (ps_set (i := 3) nd rfl (.inl rfl) (pe_ix ix_list (pv 0) pe_int (fun _ _ => rfl)))
          (pss_cons (ps_asg (pe_op op_mod (pe_op op_add (pe_op op_add (pe_op op_mul (pe_ix ix_list (pv 0) pe_int (fun _ _ => rfl)) pe_int) (pe_op op_mul (pe_op op_mul (pv 3) (pv 3)) (pv 3))) pe_int) pe_int) (pg_sub (pv 0) pe_int set_list))
          (pss_one (ps_ret (pe_op op_mod (pe_op op_fdiv (pe_op op_mod (pe_op op_mul (pe_ix ix_list (pv 0) pe_int (fun _ _ => rfl)) (pe_ix ix_list (pv 0) pe_int (fun _ _ => rfl))) pe_int) pe_int) (pv 1))))))
          pss_nil)
      (pss_cons (ps_set (i := 4) nd rfl (.inl rfl) (pe_op op_mod (pe_ix ix_list (pv 2) (pe_ix ix_list (pv 0) pe_int (fun _ _ => rfl)) (fun _ _ => rfl)) (pv 1)))
      (pss_cons (ps_asg (pe_op op_fdiv (pe_ix ix_list (pv 2) (pe_ix ix_list (pv 0) pe_int (fun _ _ => rfl)) (fun _ _ => rfl)) (pv 1)) (pg_sub (pv 2) (pe_ix ix_list (pv 0) pe_int (fun _ _ => rfl)) set_list))
      (pss_one (ps_ret (pv 4)))))))), ?_⟩
    obtain ⟨ne, cs, p, t, n, ha, hc, hp, hn, ht⟩ := D
    have len4 : ∀ (b : V) (c d e : V), atI [b, c, d, e] 0 = some b ∧ atI [b, c, d, e] 1 = some c ∧ atI [b, c, d, e] 2 = some d ∧ atI [b, c, d, e] 3 = some e := fun _ _ _ _ => ⟨rfl, rfl, rfl, rfl⟩
    refine ⟨_, rfl, a, _, _, _, rfl, rfl, SqL.of ha, rfl, ?_⟩
    refine ⟨_, rfl, a, _, _, _, rfl, rfl, SqL.of ha, rfl, _, _, rfl, rfl, _, rfl, a, _, _, 3, rfl, rfl, ha, rfl, ?_⟩
    have e1 : ([.ref cl, .int (p : Int), .int n, .int (t : Int)] : List V).set 3 (.int ((t : Int) + 1)) = [.ref cl, .int (p : Int), .int n, .int ((t + 1 : Nat) : Int)] := by
      rw [Int.natCast_add]
      rfl
    rw [e1]
    have hc2 : ∀ u, (upd H a u) cl = some (.lst (cs.map V.int)) := fun u => by rw [upd_ne ne.symm]; exact hc
    have cl_len : (cs.map V.int).length = cs.length := List.length_map _
    refine ⟨fun m σ H2 => ∃ p : Nat, m = cs.length - p ∧ p ≤ cs.length ∧ σ = [some (.ref a), some (.int many), some (.ref cl), none, none] ∧ H2 = upd H a (.lst [.ref cl, .int (p : Int), .int n, .int ((t + 1 : Nat) : Int)]), ⟨_, p, rfl, hp, rfl, rfl⟩, ?_⟩
    rintro m σ H2 ⟨p, rfl, hp, rfl, rfl⟩
    have xa : ∀ p2 : Nat, SqL K (upd H a (.lst [.ref cl, .int (p2 : Int), .int n, .int ((t + 1 : Nat) : Int)])) a [.ref cl, .int (p2 : Int), .int n, .int ((t + 1 : Nat) : Int)] := fun p2 => SqL.of upd_same
    refine ⟨_, rfl, a, _, _, _, rfl, rfl, xa p, rfl, _, rfl, cl, _, rfl, .inl (SqL.of (hc2 _)), _, _, rfl, rfl, _, rfl, ?_⟩
    rw [cl_len]
    -- behind the loop
    have kp : Kp [a, cl] H (upd H a (.lst [.ref cl, .int (p : Int), .int n, .int ((t + 1 : Nat) : Int)])) := Kp.up (by simp)
    by_cases h1 : p < cs.length
    · rw [show decide ((p : Int) < (cs.length : Int)) = true from decide_eq_true (by omega)]
      obtain ⟨c, hcp⟩ : ∃ c, cs[p]? = some c := ⟨_, List.getElem?_eq_getElem h1⟩
      have hcp2 : (cs.map V.int)[p]? = some (.int c) := by rw [List.getElem?_map, hcp]; rfl
      refine iteT ⟨_, rfl, _, rfl, a, _, _, _, rfl, rfl, xa p, rfl, cl, _, _, _, rfl, rfl, SqL.of (hc2 _), atNat hcp2, rfl, _, rfl, ?_⟩
      by_cases h2 : c = 0
      · rw [show decide (V.int c = V.int 0) = true from decide_eq_true (by rw [h2])]
        refine iteT ⟨fun σ' H' => σ' = [some (.ref a), some (.int many), some (.ref cl), none, none] ∧ H' = upd H a (.lst [.ref cl, .int ((p + 1 : Nat) : Int), .int n, .int ((t + 1 : Nat) : Int)]), fun σ' H' ⟨e1, e2⟩ => ⟨cs.length - (p + 1), by omega, p + 1, rfl, h1, e1, e2⟩, ?_⟩
        refine ⟨_, rfl, a, _, _, _, rfl, rfl, xa p, rfl, _, _, rfl, rfl, _, rfl, a, _, _, 1, rfl, rfl, upd_same, rfl, rfl, ?_⟩
        rw [upd_upd, Int.natCast_add]
        rfl
      · rw [show decide (V.int c = V.int 0) = false from decide_eq_false (fun z => h2 (by injection z))]
        refine iteF ?_
        refine ⟨_, rfl, a, _, _, _, rfl, rfl, xa p, rfl, _, rfl, cl, _, rfl, .inl (SqL.of (hc2 _)), rfl, _, rfl, ?_⟩
        rw [cl_len, show decide (V.int (p : Int) = V.int (cs.length : Int)) = false from ne_int (Nat.ne_of_lt h1)]
        refine iteF ?_
        refine ⟨_, rfl, _, rfl, a, _, _, _, rfl, rfl, xa p, rfl, cl, _, _, _, rfl, rfl, SqL.of (hc2 _), atNat hcp2, _, rfl, _, _, rfl, rfl, (by show 0 < many; omega), ?_⟩
        refine ⟨_, rfl, _, rfl, a, _, _, _, rfl, rfl, xa p, rfl, cl, _, _, _, rfl, rfl, SqL.of (hc2 _), atNat hcp2, _, rfl, _, _, rfl, rfl, (by show 0 < many ∧ many < 1073741824; omega), ?_⟩
        refine ⟨_, rfl, _, rfl, a, _, _, _, rfl, rfl, xa p, rfl, cl, _, _, p, rfl, rfl, hc2 _, ?_, ?_⟩
        · rw [cl_len]
          unfold ixN
          rw [if_pos (Int.natCast_nonneg p), if_pos (by omega)]
          rfl
        · refine ⟨_, rfl, ?_⟩
          have r1 := Int.emod_nonneg c (show many ≠ 0 by omega)
          have r2 := Int.emod_lt_of_pos c (show 0 < many by omega)
          have r3 : ((c % many).toNat : Int) = c % many := Int.toNat_of_nonneg r1
          have qq := q (c % many).toNat (upd (upd H a (.lst [.ref cl, .int (p : Int), .int n, .int ((t + 1 : Nat) : Int)])) cl (.lst ((cs.map V.int).set p (.int (c / many))))) (by rw [r3]; exact r2) ⟨ne, cs.set p (c / many), p, t + 1, n, by rw [upd_ne ne]; exact upd_same, by rw [upd_same, List.map_set], by rw [List.length_set]; exact hp, hn, by omega⟩ (kp.tr (Kp.up (by simp)))
          rw [r3] at qq
          exact qq
    · have h2 : p = cs.length := by omega
      rw [show decide ((p : Int) < (cs.length : Int)) = false from decide_eq_false (by omega)]
      refine iteF (iteF ?_)
      refine ⟨_, rfl, a, _, _, _, rfl, rfl, xa p, rfl, _, rfl, cl, _, rfl, .inl (SqL.of (hc2 _)), rfl, _, rfl, ?_⟩
      rw [cl_len, show decide (V.int (p : Int) = V.int (cs.length : Int)) = true from decide_eq_true (by rw [h2])]
      refine iteT ?_
      refine ⟨_, rfl, a, _, _, _, rfl, rfl, xa p, rfl, ?_⟩
      have ht2 : ((t + 1 : Nat) : Int) ≤ 10001 := by omega
      have ht3 : (0 : Int) ≤ ((t + 1 : Nat) : Int) := Int.natCast_nonneg _
      have tt : ((t + 1 : Nat) : Int) * ((t + 1 : Nat) : Int) ≤ 10001 * 10001 := Int.mul_le_mul ht2 ht2 ht3 (by decide)
      have tt0 : 0 ≤ ((t + 1 : Nat) : Int) * ((t + 1 : Nat) : Int) := Int.mul_nonneg ht3 ht3
      refine ⟨_, rfl, a, _, _, _, rfl, rfl, xa p, rfl, _, _, rfl, rfl, .inl ⟨by omega, by omega⟩, _, rfl, _, rfl, _, _, rfl, rfl, .inl ⟨by omega, by omega⟩, _, rfl, _, _, rfl, rfl, .inl ⟨by omega, by omega⟩, _, _, rfl, rfl, _, _, rfl, rfl, _, _, rfl, rfl, (by show (0 : Int) < 2147483647; decide), ?_⟩
      refine ⟨_, rfl, a, _, _, 2, rfl, rfl, upd_same, rfl, ?_⟩
      rw [upd_upd]
      dsimp only
      generalize hN : (n * 48271 + ((t + 1 : Nat) : Int) * ((t + 1 : Nat) : Int) * ((t + 1 : Nat) : Int) + 1) % 2147483647 = N
      have N0 : 0 ≤ N := by rw [← hN]; exact Int.emod_nonneg _ (by decide)
      have N1 : N < 2147483647 := by rw [← hN]; exact Int.emod_lt_of_pos _ (by decide)
      have xb : (upd H a (.lst (([.ref cl, .int (p : Int), .int n, .int ((t + 1 : Nat) : Int)] : List V).set 2 (.int N)))) a = some (.lst [.ref cl, .int (p : Int), .int N, .int ((t + 1 : Nat) : Int)]) := upd_same
      refine ⟨_, rfl, a, _, _, _, rfl, rfl, SqL.of xb, rfl, _, rfl, a, _, _, _, rfl, rfl, SqL.of xb, rfl, _, _, rfl, rfl, .inl ⟨by omega, by omega⟩, _, _, rfl, rfl, (by show (0 : Int) < 2147483629; decide), _, _, rfl, rfl, (by show (0 : Int) < 64 ∧ (64 : Int) < 1073741824; decide), _, rfl, _, _, rfl, rfl, (by show 0 < many; omega), ?_⟩
      dsimp only
      generalize N * N % 2147483629 / 64 = c
      have r1 := Int.emod_nonneg c (show many ≠ 0 by omega)
      have r2 := Int.emod_lt_of_pos c (show 0 < many by omega)
      have r3 : ((c % many).toNat : Int) = c % many := Int.toNat_of_nonneg r1
      have qq := q (c % many).toNat (upd H a (.lst [.ref cl, .int (p : Int), .int N, .int ((t + 1 : Nat) : Int)])) (by rw [r3]; exact r2) ⟨ne, cs, p, t + 1, N, upd_same, hc2 _, hp, ⟨N0, by omega⟩, by omega⟩ (Kp.up (by simp))
      rw [r3] at qq
      exact qq
end
end WC
/-! _law_drawn. -/
namespace WC
open PySem PySem.Spec PyProof.Rows L2
section
variable {P : Program} {w : World} {K : PySem.W.Frag} {mg : PySem.Str → Option Value} {base : Heap}
theorem sc_law_drawn : FnScope ["_law_script", "_law_start", "_law_cells", "_law_number", "_law_k", "_law_mixed", "_law_cell"] ["_law_script", "_law_start"] (defScope s_law_drawn) := ⟨rfl, rfl, rfl, by decide +kernel, rfl, by decide +kernel, by decide +kernel⟩
def spDrawn (K : PySem.W.Frag) : Sp := fun vs H Q _ => ∃ (a : Addr) (ns : List Int) (z : Int), vs = [.ref a, .int z] ∧ SqL K H a (ns.map V.int) ∧ (0 ≤ z ∧ z < 1000) ∧ ∀ H' d cl, Dw H' d cl 0 → Same H H' → H d = none → H cl = none → Q (.ref d) H'
theorem cutInts (ns : List Int) : ∃ ms : List Int, cutV (ns.map V.int) none (some 63) = ms.map V.int ∧ ms.length ≤ 63 := by
  refine ⟨ns.take 63, ?_, List.length_take_le _ _⟩
  rw [show (63 : Int) = ((63 : Nat) : Int) from rfl, cutTo, List.map_take]
theorem ok_law_drawn (T : Txt K mg) : C8.Cal P w K mg base 1 "_law_drawn" (spDrawn K) [] := by
  obtain ⟨fd, F⟩ := T.d_law_drawn
  have nd := sc_law_drawn.nd
  refine calOf (ps := ["_law_script", "_law_start"]) F (fnNox F sc_law_drawn (fun vs H Q E h => ?_) (fun cdv Ar outer s H vs Q E hr h => ?_)) T.g_law_drawn fun _ _ _ _ _ _ us hl => match us, hl with | [_, _], _ => rfl
  · obtain ⟨a, ns, z, rfl, _⟩ := h
    rfl
  · obtain ⟨a, ns, z, rfl, ha, hz, q⟩ := h
    refine ⟨_, pss_cons (ps_set (i := 2) nd rfl (.inl rfl) (pe_op op_cat
        (pe_lc (own := [("_law_cell", 6)]) (g := gName 6) (tt := tYes) rfl nd (pi_list (pe_slice sl_list (pv 0) po_none (po_some pe_int))) (blkOk_by (N := ["_law_script", "_law_start", "_law_cells", "_law_number", "_law_k", "_law_mixed", "_law_cell"]) (sc := defScope s_law_drawn) (by decide +kernel)) (fun _ _ _ _ _ => pg_name (i := 6) nd rfl (Or.inl rfl)) (fun _ _ _ _ _ => pts_nil)
          (fun _ _ _ _ _ => pe_callB call_abs (by rfl) T.n_abs (by decide +kernel) (pa_cons (pv 6) pa_nil)))
        (pe_lst (pa_cons pe_int pa_nil))))
      (pss_cons (ps_set (i := 3) nd rfl (.inl rfl) (pv 1))
      (pss_cons (ps_for PassesOwn.never rfl (pi_range1 (by rfl) T.n_range (pa_cons (pe_callB call_len_seq (by rfl) T.n_len PySem.boot_len (pa_cons (pv 2) pa_nil)) pa_nil)) (pg_name (i := 4) nd rfl (.inl rfl))
        (pss_one (ps_set (i := 3) nd rfl (.inl rfl) (pe_op op_mod (pe_op op_add (pe_op op_add (pe_op op_mul (pv 3) pe_int) (pe_op op_mul (pe_op op_mod (pe_ix ix_list (pv 2) (pv 4) (fun _ _ => rfl)) pe_int) (pe_op op_add (pe_op op_mul (pv 4) (pv 4)) pe_int))) pe_int) pe_int))))
      (pss_cons (ps_set (i := 5) nd rfl (.inl rfl) (pe_op op_mul (pe_op op_mod (pe_ix ix_list (pv 2) pe_int (fun _ _ => rfl)) pe_int) (pe_callB call_len_seq (by rfl) T.n_len PySem.boot_len (pa_cons (pv 2) pa_nil))))
      (pss_cons (ps_asg (pe_op op_fdiv (pe_ix ix_list (pv 2) pe_int (fun _ _ => rfl)) pe_int) (pg_sub (pv 2) pe_int set_list))
      (pss_one (ps_ret (pe_lst (pa_cons (pv 2) (pa_cons (pv 5) (pa_cons (pv 3) (pa_cons pe_int pa_nil))))))))))), ?_⟩
    obtain ⟨ms, hms, hl⟩ := cutInts ns
    refine ⟨_, rfl, _, rfl, a, _, rfl, ha, fun b hb => ?_⟩
    rw [hms]
    have sb : Same H (upd H b (.lst (ms.map V.int))) := Same.nw hb
    refine ⟨b, rfl, ⟨_, SqL.of upd_same⟩, fun D hD => ?_⟩
    have bD : b ≠ D := ne_of_none (o := .lst (ms.map V.int)) upd_same hD
    refine lc_it (walk_list (xs := ms.map V.int)) (fun i H' => ∃ cs : List Int, H' = upd (upd H b (.lst (ms.map V.int))) D (.lst (cs.map V.int)) ∧ cs.length = i) ⟨[], rfl, rfl⟩ (fun i H' _ ⟨cs, e, _⟩ => SqL.of (by rw [e, upd_ne bD]; exact upd_same)) ?_ ?_
    · rintro i x H1 H2 hi ⟨cs, rfl, hcs⟩ ⟨rfl, hx⟩
      obtain ⟨c, hc, rfl⟩ := get_map hx
      refine ⟨rfl, _, rfl, c, rfl, _, upd_same, ?_, ?_⟩
      · rw [List.length_map, hcs]
        rw [List.length_map] at hi
        exact lt_line (by omega)
      · exact ⟨cs ++ [if c < 0 then -c else c], by rw [upd_upd, List.map_append]; rfl, by rw [List.length_append, hcs]; rfl⟩
    · rintro H1 ⟨cs, rfl, hcs⟩
      rw [List.length_map] at hcs
      have sD : Same H (upd (upd H b (.lst (ms.map V.int))) D (.lst (cs.map V.int))) := sb.trans (Same.nw hD)
      refine ⟨by show 1 ≤ sizeLine; decide, fun l hl2 => ?_⟩
      have lD : l ≠ D := (ne_of_none (o := .lst (cs.map V.int)) upd_same hl2).symm
      refine ⟨D, l, _, _, rfl, rfl, (by rw [upd_ne lD.symm]; exact upd_same), upd_same, (by rw [List.length_map]; exact Nat.le_of_lt (lt_line (n := cs.length + 1) (by omega))), fun E2 hE => ?_⟩
      have s3 : Same H (upd (upd (upd (upd H b (.lst (ms.map V.int))) D (.lst (cs.map V.int))) l (.lst [.int 0])) E2 (.lst (cs.map V.int ++ [.int 0]))) := (sD.trans (Same.nw hl2)).trans (Same.nw hE)
      have eE : H E2 = none := Same.free (sD.trans (Same.nw hl2)) hE
      obtain ⟨ds, hds, hdl⟩ : ∃ ds : List Int, cs.map V.int ++ [.int 0] = ds.map V.int ∧ ds.length = cs.length + 1 := ⟨cs ++ [0], by rw [List.map_append]; rfl, by rw [List.length_append]; rfl⟩
      rw [hds] at s3 ⊢
      generalize hH3 : upd (upd (upd (upd H b (.lst (ms.map V.int))) D (.lst (cs.map V.int))) l (.lst [.int 0])) E2 (.lst (ds.map V.int)) = H3 at s3 ⊢
      have h3 : H3 E2 = some (.lst (ds.map V.int)) := by rw [← hH3]; exact upd_same
      have dl : (ds.map V.int).length = ds.length := List.length_map _
      refine ⟨_, rfl, ?_⟩
      refine ⟨_, rfl, E2, _, rfl, .inl (SqL.of h3), _, rfl, (by rw [dl]; omega), (by rw [dl]; omega), ?_⟩
      rw [dl]
      refine for_range (lo := 0) (n := ((ds.length : Int)).toNat) (fun i σ H4 => ∃ (n : Int) (x : Option V), σ = [some (.ref a), some (.int z), some (.ref E2), some (.int n), x, none, none] ∧ H4 = H3 ∧ 0 ≤ n ∧ n < 4294967296) ⟨z, none, rfl, rfl, hz.1, by omega⟩ ?_ ?_
      · rintro i σ H4 hi ⟨n, x, rfl, rfl, n0, n1⟩
        have hi2 : i < ds.length := by omega
        obtain ⟨c, hc⟩ : ∃ c, ds[i]? = some c := ⟨_, List.getElem?_eq_getElem hi2⟩
        have hc2 : atI (ds.map V.int) (0 + (i : Int)) = some (.int c) := by
          rw [Int.zero_add]
          exact atNat (by rw [List.getElem?_map, hc]; rfl)
        refine ⟨_, rfl, _, _, rfl, rfl, .inl ⟨by omega, by omega⟩, _, rfl, _, rfl, E2, _, _, _, rfl, rfl, SqL.of h3, hc2, _, _, rfl, rfl, (by show (0 : Int) < 2147483647; decide), _, rfl, _, rfl, _, _, rfl, rfl, .inl ⟨by omega, by omega⟩, _, _, rfl, rfl, _, _, rfl, rfl, .inl ?_, _, _, rfl, rfl, _, _, rfl, rfl, _, _, rfl, rfl, (by show (0 : Int) < 2147483629; decide), ?_⟩
        · have r1 := Int.emod_nonneg c (show (2147483647 : Int) ≠ 0 by decide)
          have r2 := Int.emod_lt_of_pos c (show (0 : Int) < 2147483647 by decide)
          exact ⟨by omega, by omega⟩
        · refine ⟨_, _, rfl, rfl, Int.emod_nonneg _ (by decide), ?_⟩
          exact Int.lt_trans (Int.emod_lt_of_pos _ (by decide)) (by decide)
      · rintro σ H4 ⟨n, x, rfl, rfl, n0, n1⟩
        obtain ⟨c, hc⟩ : ∃ c, ds[0]? = some c := ⟨_, List.getElem?_eq_getElem (by omega)⟩
        have hc2 : atI (ds.map V.int) 0 = some (.int c) := atNat (i := 0) (by rw [List.getElem?_map, hc]; rfl)
        have r1 := Int.emod_nonneg c (show (2 : Int) ≠ 0 by decide)
        have r2 := Int.emod_lt_of_pos c (show (0 : Int) < 2 by decide)
        refine ⟨_, rfl, E2, _, _, _, rfl, rfl, SqL.of h3, hc2, _, _, rfl, rfl, (by show (0 : Int) < 2; decide), _, rfl, E2, _, rfl, .inl (SqL.of h3), _, _, rfl, rfl, .inl ⟨by omega, by omega⟩, ?_⟩
        rw [dl]
        refine ⟨_, rfl, E2, _, _, _, rfl, rfl, SqL.of h3, hc2, _, _, rfl, rfl, (by show (0 : Int) < 2 ∧ (2 : Int) < 1073741824; decide), _, rfl, E2, _, _, 0, rfl, rfl, h3, ?_, ?_⟩
        · rw [dl]
          unfold ixN
          rw [if_pos (by decide), if_pos (by omega)]
          rfl
        · refine ⟨_, rfl, _, rfl, _, rfl, (by show 4 ≤ sizeLine; decide), fun d hd => ?_⟩
          have dE : d ≠ E2 := (ne_of_none (o := .lst ((ds.map V.int).set 0 (.int (c / 2)))) upd_same hd).symm
          have hd3 : H4 d = none := by rw [upd_ne dE] at hd; exact hd
          refine q _ d E2 ⟨dE, ds.set 0 (c / 2), (c % 2 * (ds.length : Int)).toNat, 0, n, ?_, ?_, ?_, ⟨n0, n1⟩, Nat.le_refl _⟩ (fun y u e => ?_) (Same.free s3 hd3) eE
          · rw [upd_same]
            have : ((c % 2 * (ds.length : Int)).toNat : Int) = c % 2 * (ds.length : Int) := Int.toNat_of_nonneg (Int.mul_nonneg r1 (Int.natCast_nonneg _))
            rw [this]
            rfl
          · rw [upd_ne dE.symm, upd_same, List.map_set]
          · rw [List.length_set]
            have e2 : c % 2 = 0 ∨ c % 2 = 1 := by omega
            rcases e2 with e2 | e2
            · rw [e2]; simp
            · rw [e2]; simp
          · rw [upd_ne (ne_of_none (s3 _ _ e) hd3), upd_ne (ne_of_none e eE)]
            exact s3 _ _ e
end
end WC
/-! _law_name. -/
namespace WC
open PySem PySem.Spec PyProof.Rows L2
def letter (k : Nat) : PySem.Str := ⟨#[97 + k]⟩
def nameOf (kind at_ k : Nat) : PySem.Str := if kind = 0 then letter k ++ repS "v" (at_ : Int) else if kind = 1 then repS "o" (1 + (k : Int) % 6) ++ repS "b" ((k : Int) / 6) else cutS "qrst" none (some (at_ : Int)) ++ letter k ++ cutS "qrst" (some (at_ : Int)) none
def boardOf (i j : Nat) : PySem.Str := ⟨#[120 + i]⟩ ++ repS "w" (j : Int)
theorem letter_at : ∀ k : Nat, k < 12 → atI ("abcdefghijkl" : PySem.Str).cps.toList (k : Int) = some (97 + k) := by decide +kernel
theorem xyz_at : ∀ k : Nat, k < 3 → atI ("xyz" : PySem.Str).cps.toList (k : Int) = some (120 + k) := by decide +kernel
theorem small_parts : ∀ n : Nat, n < 8 → (repS "v" (n : Int)).length ≤ 100 ∧ (repS "o" (n : Int)).length ≤ 100 ∧ (repS "b" (n : Int)).length ≤ 100 ∧ (repS "w" (n : Int)).length ≤ 100 ∧ (cutS "qrst" none (some (n : Int))).length ≤ 100 ∧ (cutS "qrst" (some (n : Int)) none).length ≤ 100 := by decide +kernel
theorem lenAdd (a b : PySem.Str) : (a ++ b).length = a.length + b.length := by
  show (a.cps ++ b.cps).size = _
  rw [Array.size_append]
  rfl
section
variable {P : Program} {w : World} {K : PySem.W.Frag} {mg : PySem.Str → Option Value} {base : Heap}
theorem sc_law_name : FnScope ["_law_kind", "_law_at", "_law_k", "_law_letter"] ["_law_kind", "_law_at", "_law_k"] (defScope s_law_name) := ⟨rfl, rfl, rfl, by decide +kernel, rfl, by decide +kernel, by decide +kernel⟩
def spName : Sp := fun vs H Q _ => ∃ kind at_ k : Nat, vs = [.int (kind : Int), .int (at_ : Int), .int (k : Int)] ∧ kind < 3 ∧ at_ < 5 ∧ k < 12 ∧ Q (.str (nameOf kind at_ k)) H
theorem ok_law_name (T : Txt K mg) : C8.Cal P w K mg base 1 "_law_name" spName [] := by
  obtain ⟨fd, F⟩ := T.d_law_name
  have nd := sc_law_name.nd
  refine calOf (ps := ["_law_kind", "_law_at", "_law_k"]) F (fnNox F sc_law_name (fun vs H Q E h => ?_) (fun cdv Ar outer s H vs Q E hr h => ?_)) T.g_law_name fun _ _ _ _ _ _ us hl => match us, hl with | [_, _, _], _ => rfl
  · obtain ⟨kind, at_, k, rfl, _⟩ := h
    rfl
  · obtain ⟨kind, at_, k, rfl, h1, h2, h3, q⟩ := h
    refine ⟨_, pss_cons (ps_set (i := 3) nd rfl (.inl rfl) (pe_ix ix_str pe_str (pv 2) (fun _ _ => rfl)))
      (pss_cons (ps_if (pt_cmpR op_eq (pv 0) pe_int (nomark _)) (pss_one (ps_ret (pe_op op_add_str (pv 3) (pe_op op_mulS pe_str (pv 1))))) pss_nil)
      (pss_cons (ps_if (pt_cmpR op_eq (pv 0) pe_int (nomark _)) (pss_one (ps_ret (pe_op op_add_str (pe_op op_mulS pe_str (pe_op op_add pe_int (pe_op op_mod (pv 2) pe_int))) (pe_op op_mulS pe_str (pe_op op_fdiv (pv 2) pe_int))))) pss_nil)
      (pss_one (ps_ret (pe_op op_add_str (pe_op op_add_str (pe_slice sl_str pe_str po_none (po_some (pv 1))) (pv 3)) (pe_slice sl_str pe_str (po_some (pv 1)) po_none)))))), ?_⟩
    have lt : ∀ {a b : PySem.Str}, a.length ≤ 100 → b.length ≤ 200 → a.length + b.length ≤ sizeLine := fun h1 h2 => Nat.le_of_lt (lt_line (by omega))
    have l1 : (letter k).length ≤ 100 := by show 1 ≤ 100; decide
    obtain ⟨p1, _, _, _, p5, p6⟩ := small_parts at_ (by omega)
    refine ⟨_, rfl, _, _, _, rfl, rfl, (by decide +kernel), letter_at k h3, ?_⟩
    refine ⟨_, rfl, rfl, _, rfl, ?_⟩
    rw [intE]
    by_cases k0 : kind = 0
    · subst k0
      have q : Q (.str (letter k ++ repS "v" (at_ : Int))) H := q
      rw [show decide (((0 : Nat) : Int) = 0) = true from rfl]
      exact iteT ⟨_, rfl, _, rfl, _, _, rfl, rfl, rfl, by omega, by omega, letter k, _, rfl, rfl, lt l1 (Nat.le_trans p1 (by decide)), q⟩
    · rw [show decide ((kind : Int) = 0) = false from decide_eq_false (by omega)]
      refine iteF ⟨_, rfl, rfl, _, rfl, ?_⟩
      rw [intE]
      by_cases k1 : kind = 1
      · subst k1
        have q : Q (.str (repS "o" (1 + (k : Int) % 6) ++ repS "b" ((k : Int) / 6))) H := q
        rw [show decide (((1 : Nat) : Int) = 1) = true from rfl]
        have r1 : 1 + (k : Int) % 6 = ((1 + k % 6 : Nat) : Int) := by omega
        have r2 : (k : Int) / 6 = ((k / 6 : Nat) : Int) := by omega
        have s1 := (small_parts (1 + k % 6) (by omega)).2.1
        have s2 := (small_parts (k / 6) (by omega)).2.2.1
        rw [← r1] at s1
        rw [← r2] at s2
        exact iteT ⟨_, rfl, _, _, rfl, rfl, (by show (0 : Int) < 6; decide), _, _, rfl, rfl, _, _, rfl, rfl, rfl, by omega, by omega, _, rfl, _, _, rfl, rfl, (by show (0 : Int) < 6 ∧ (6 : Int) < 1073741824; decide), _, _, rfl, rfl, rfl, by omega, by omega, _, _, rfl, rfl, lt s1 (Nat.le_trans s2 (by decide)), q⟩
      · rw [show decide ((kind : Int) = 1) = false from decide_eq_false (by omega)]
        have q : Q (.str (cutS "qrst" none (some (at_ : Int)) ++ letter k ++ cutS "qrst" (some (at_ : Int)) none)) H := by
          have e : nameOf kind at_ k = cutS "qrst" none (some (at_ : Int)) ++ letter k ++ cutS "qrst" (some (at_ : Int)) none := by
            unfold nameOf
            rw [if_neg k0, if_neg k1]
          rw [← e]
          exact q
        refine iteF ⟨_, rfl, _, rfl, _, rfl, (by decide +kernel), _, rfl, _, letter k, rfl, rfl, lt p5 (Nat.le_trans l1 (by decide)), _, rfl, _, rfl, _, rfl, (by decide +kernel), _, _, rfl, rfl, ?_, q⟩
        rw [Nat.add_comm]
        refine lt p6 ?_
        rw [lenAdd]
        omega
end
/-! ### the names -/
theorem names_ok1 : ∀ kind : Nat, kind < 3 → ∀ at_ : Nat, at_ < 5 → ∀ k : Nat, k < 12 → isName (nameOf kind at_ k) = true ∧ (nameOf kind at_ k).length ≤ 100 ∧ nameOf kind at_ k ≠ "u" := by decide +kernel
theorem names_ok2 : ∀ kind : Nat, kind < 3 → ∀ at_ : Nat, at_ < 5 → ∀ k : Nat, k < 12 → ∀ j : Nat, j < k → nameOf kind at_ k ≠ nameOf kind at_ j := by decide +kernel
theorem names_ok3 : ∀ kind : Nat, kind < 3 → ∀ at_ : Nat, at_ < 5 → ∀ k : Nat, k < 12 → ∀ i : Nat, i < 3 → ∀ j : Nat, j < 3 → nameOf kind at_ k ≠ boardOf i j := by decide +kernel
theorem boards_ok1 : ∀ i : Nat, i < 3 → ∀ j : Nat, j < 3 → isName (boardOf i j) = true ∧ (boardOf i j).length ≤ 100 ∧ boardOf i j ≠ "u" := by decide +kernel
theorem boards_ok2 : ∀ i : Nat, i < 3 → ∀ j : Nat, j < 3 → ∀ k : Nat, k < i → ∀ l : Nat, l < 3 → boardOf i j ≠ boardOf k l := by decide +kernel
theorem u_ok : isName "u" = true ∧ ("u" : PySem.Str).length ≤ 100 := by decide +kernel
end WC
/-! The rows that _law_organ makes are an organ: the plain part. -/
namespace WC
open PySem PySem.Spec PyProof.Rows L2
def Row.isKnob : Row → Bool
  | .stop .. => true
  | .coupler .. => true
  | .mute .. => true
  | _ => false
def knobRows (rs : List Row) : List Row := rs.filter Row.isKnob
def knobNames (rs : List Row) : List PySem.Str := (knobRows rs).map Row.name
def Row.isMuteB (r : Row) : Bool := decide (r.word = "mute")
theorem takes_snoc : ∀ (rs : List Row) (o f : Org) (r : Row) (o' : Org), Org.takes o rs = some f → f.take r = some o' → Org.takes o (rs ++ [r]) = some { o' with ntab := o'.ntab + 1 }
  | [], o, f, r, o', h, h2 => by
    obtain rfl : o = f := Option.some.inj h
    show (match o.take r with | some o' => Org.takes { o' with ntab := o'.ntab + 1 } [] | none => none) = _
    rw [h2]
    rfl
  | q :: rs, o, f, r, o', h, h2 => by
    obtain ⟨o1, k1, k2⟩ := takes_cons h
    show (match o.take q with | some o' => Org.takes { o' with ntab := o'.ntab + 1 } (rs ++ [r]) | none => none) = _
    rw [k1]
    exact takes_snoc rs _ f r o' k2 h2
theorem titled_of {o : Org} {w n : PySem.Str} {i : Nat} (h : isName n = true) (e : o.tit n = some (w, i)) : o.titled w n = some i := by
  unfold Org.titled
  rw [if_pos h, e]
  exact if_pos rfl
theorem fresh_of2 {o : Org} {n : PySem.Str} (h : isName n = true) (e : o.tit n = none) : o.fresh n = true := by
  unfold Org.fresh
  rw [h, e]
  rfl
theorem filter_snoc {α : Type} (p : α → Bool) (l : List α) (x : α) : (l ++ [x]).filter p = l.filter p ++ (if p x = true then [x] else []) := by
  rw [List.filter_append]
  congr 1
  cases e : p x with
  | true => rw [List.filter_cons_of_pos e]; rfl
  | false => rw [List.filter_cons_of_neg (by rw [e]; exact Bool.false_ne_true)]; rfl
theorem many_snoc (o o' : Org) (n : PySem.Str) (d : Det) (w : PySem.Str) (h : o'.knobs = o.knobs ++ [(n, d)]) : o'.many w = o.many w + (if d.word = w then 1 else 0) := by
  unfold Org.many
  rw [h, filter_snoc, List.length_append]
  congr 1
  by_cases c : d.word = w
  · rw [if_pos (decide_eq_true c), if_pos c]; rfl
  · rw [if_neg (by simp [c]), if_neg c]; rfl
structure OI (nb kind at_ k L S : Nat) (rs : List Row) (stops : List PySem.Str) (o : Org) : Prop where
  tk : Org.takes {} rs = some o
  len : rs.length ≤ L
  bd : ∀ i, i < nb → ∃ n kk, rs[i]? = some (.board n kk) ∧ isName n = true ∧ n.length ≤ 100 ∧ o.tit n = some (("board" : PySem.Str), i) ∧ (∃ m, o.manuals[i]? = some (m, kk)) ∧ 1 ≤ kk
  rk : o.tit "u" = some (("rank" : PySem.Str), 0)
  nm : ∀ n x, o.tit n = some x → n = "u" ∨ (∃ i j, i < 3 ∧ j < 3 ∧ n = boardOf i j) ∨ ∃ j, j < k ∧ n = nameOf kind at_ j
  sm : ∀ r ∈ rs, r.Sm
  mst : o.many "stop" ≤ k
  mco : o.many "coupler" ≤ k
  mmu : o.many "mute" = (rs.filter Row.isMuteB).length
  st : o.stairs.length ≤ S
  sp : ∀ s ∈ stops, isName s = true ∧ s.length ≤ 100 ∧ s ∈ knobNames rs ∧ (∃ j, j < k ∧ s = nameOf kind at_ j) ∧ ∃ i d, o.tit s = some (("knob" : PySem.Str), i) ∧ o.knobs[i]? = some (s, d) ∧ d.isStop = true
  sd : stops.Nodup
  stp : ∀ n ns, Row.step n ns ∈ rs → ∀ s ∈ n :: ns, s ∈ knobNames rs
  kn : k ≤ (knobNames rs).length
  sl : stops.length ≤ k
theorem knobNames_snoc (rs : List Row) (r : Row) : knobNames (rs ++ [r]) = knobNames rs ++ (if r.isKnob = true then [r.name] else []) := by
  unfold knobNames knobRows
  rw [filter_snoc, List.map_append]
  by_cases c : r.isKnob = true
  · rw [if_pos c, if_pos c]; rfl
  · rw [if_neg c, if_neg c]; rfl
theorem OI.fresh {nb kind at_ k L S : Nat} {rs : List Row} {stops : List PySem.Str} {o : Org} (x : OI nb kind at_ k L S rs stops o) (h1 : kind < 3) (h2 : at_ < 5) (h3 : k < 12) : o.tit (nameOf kind at_ k) = none := by
  cases e : o.tit (nameOf kind at_ k) with
  | none => rfl
  | some y =>
    rcases x.nm _ _ e with z | ⟨i, j, hi, hj, z⟩ | ⟨j, hj, z⟩
    · exact absurd z (names_ok1 kind h1 at_ h2 k h3).2.2
    · exact absurd z (names_ok3 kind h1 at_ h2 k h3 i hi j hj)
    · exact absurd z (names_ok2 kind h1 at_ h2 k h3 j hj)
/-- a knob's row more -/
theorem OI.addKnob {nb kind at_ k L S : Nat} {rs : List Row} {stops stops' : List PySem.Str} {o o' : Org} {r : Row} {d : Det} (x : OI nb kind at_ k L S rs stops o) (h1 : kind < 3) (h2 : at_ < 5) (h3 : k < 12)
    (ht : o.take r = some o') (hk : r.isKnob = true) (hn : r.name = nameOf kind at_ k) (hw : r.word = d.word) (hsm : r.Sm)
    (e1 : o'.tit = o.name r.name "knob" o.knobs.length) (e2 : o'.manuals = o.manuals) (e3 : o'.knobs = o.knobs ++ [(r.name, d)]) (e4 : o'.stairs = o.stairs) (e5 : stops' = if d.isStop = true then stops ++ [r.name] else stops) :
    OI nb kind at_ (k + 1) (L + 1) S (rs ++ [r]) stops' { o' with ntab := o'.ntab + 1 } := by
  have fr : o.tit r.name = none := by rw [hn]; exact x.fresh h1 h2 h3
  have tk : ∀ m y, o.tit m = some y → o'.tit m = some y := fun m y e => by
    rw [e1]
    show (if m = r.name then _ else o.tit m) = _
    rw [if_neg (fun z => by rw [z, fr] at e; cases e)]
    exact e
  have mn : ∀ w, o'.many w = o.many w + (if d.word = w then 1 else 0) := fun w => many_snoc o o' r.name d w e3
  have kns := knobNames_snoc rs r
  rw [if_pos hk] at kns
  have inK : ∀ s, s ∈ knobNames rs → s ∈ knobNames (rs ++ [r]) := fun s h => by rw [kns]; exact List.mem_append_left _ h
  have kget : ∀ i y, o.knobs[i]? = some y → o'.knobs[i]? = some y := fun i y e => by
    rw [e3, List.getElem?_append_left (List.getElem?_eq_some_iff.mp e).1]
    exact e
  obtain ⟨n1, n2, n3⟩ := names_ok1 kind h1 at_ h2 k h3
  have old : ∀ s ∈ stops, isName s = true ∧ s.length ≤ 100 ∧ s ∈ knobNames (rs ++ [r]) ∧ (∃ j, j < k + 1 ∧ s = nameOf kind at_ j) ∧ ∃ i d, o'.tit s = some (("knob" : PySem.Str), i) ∧ o'.knobs[i]? = some (s, d) ∧ d.isStop = true := fun s hs => by
    obtain ⟨a1, a2, a3, ⟨j, a4, a5⟩, i, dd, a6, a7, a8⟩ := x.sp s hs
    exact ⟨a1, a2, inK s a3, ⟨j, by omega, a5⟩, i, dd, tk _ _ a6, kget _ _ a7, a8⟩
  have nin : r.name ∉ stops := fun hs => by
    obtain ⟨_, _, _, ⟨j, a4, a5⟩, _⟩ := x.sp _ hs
    rw [hn] at a5
    exact absurd a5 (names_ok2 kind h1 at_ h2 k h3 j a4)
  refine ⟨takes_snoc rs {} o r o' x.tk ht, ?_, fun i hi => ?_, tk _ _ x.rk, fun n y e => ?_, fun q hq => ?_, ?_, ?_, ?_, by rw [show ({ o' with ntab := o'.ntab + 1 } : Org).stairs = o'.stairs from rfl, e4]; exact x.st, fun s hs => ?_, ?_, fun n ns hm s hs => ?_, ?_, ?_⟩
  · rw [List.length_append]
    exact Nat.succ_le_succ x.len
  · obtain ⟨n, kk, a1, a2, a3, a4, ⟨m, a5⟩, a6⟩ := x.bd i hi
    refine ⟨n, kk, ?_, a2, a3, tk _ _ a4, ⟨m, ?_⟩, a6⟩
    · rw [List.getElem?_append_left (List.getElem?_eq_some_iff.mp a1).1]
      exact a1
    · show o'.manuals[i]? = _
      rw [e2]
      exact a5
  · have e : o'.tit n = some y := e
    rw [e1] at e
    have e : (if n = r.name then some (("knob" : PySem.Str), o.knobs.length) else o.tit n) = some y := e
    by_cases c : n = r.name
    · exact .inr (.inr ⟨k, Nat.lt_succ_self k, by rw [c, hn]⟩)
    · rw [if_neg c] at e
      rcases x.nm n y e with z | z | ⟨j, hj, z⟩
      · exact .inl z
      · exact .inr (.inl z)
      · exact .inr (.inr ⟨j, by omega, z⟩)
  · rcases List.mem_append.mp hq with h | h
    · exact x.sm q h
    · rw [List.mem_singleton] at h
      rw [h]
      exact hsm
  · have := x.mst
    show o'.many "stop" ≤ _
    rw [mn]
    split <;> omega
  · have := x.mco
    show o'.many "coupler" ≤ _
    rw [mn]
    split <;> omega
  · show o'.many "mute" = _
    rw [mn, filter_snoc, List.length_append, x.mmu]
    congr 1
    by_cases c : d.word = "mute"
    · rw [if_pos c, if_pos (by unfold Row.isMuteB; rw [hw]; exact decide_eq_true c)]; rfl
    · rw [if_neg c, if_neg (by unfold Row.isMuteB; rw [hw]; simp [c])]; rfl
  · rw [e5] at hs
    by_cases c : d.isStop = true
    · rw [if_pos c] at hs
      rcases List.mem_append.mp hs with h | h
      · exact old s h
      · rw [List.mem_singleton] at h
        subst h
        refine ⟨by rw [hn]; exact n1, by rw [hn]; exact n2, ?_, ⟨k, Nat.lt_succ_self k, hn⟩, o.knobs.length, d, ?_, ?_, c⟩
        · rw [kns]; simp
        · show o'.tit _ = _
          rw [e1]
          exact if_pos rfl
        · show o'.knobs[_]? = _
          rw [e3, List.getElem?_append_right (Nat.le_refl _), Nat.sub_self]
          rfl
    · rw [if_neg c] at hs
      exact old s hs
  · rw [e5]
    by_cases c : d.isStop = true
    · rw [if_pos c, List.nodup_append]
      refine ⟨x.sd, by simp, fun a ha b hb => ?_⟩
      rw [List.mem_singleton] at hb
      rw [hb]
      exact fun z => nin (z ▸ ha)
    · rw [if_neg c]
      exact x.sd
  · rcases List.mem_append.mp hm with h | h
    · exact inK s (x.stp n ns h s hs)
    · rw [List.mem_singleton] at h
      rw [← h] at hk
      cases hk
  · rw [kns, List.length_append]
    exact Nat.succ_le_succ x.kn
  · rw [e5]
    have := x.sl
    by_cases c : d.isStop = true
    · rw [if_pos c, List.length_append]
      exact Nat.succ_le_succ this
    · rw [if_neg c]
      omega
/-- a row that is no knob's, that leaves the names alone -/
theorem OI.addOther {nb kind at_ k L S S' : Nat} {rs : List Row} {stops : List PySem.Str} {o o' : Org} {r : Row} (x : OI nb kind at_ k L S rs stops o) (ht : o.take r = some o') (hk : r.isKnob = false) (hmu : r.isMuteB = false) (hsm : r.Sm)
    (e1 : o'.tit = o.tit) (e2 : o'.manuals = o.manuals) (e3 : o'.knobs = o.knobs) (e4 : o'.stairs.length ≤ S') (hst : ∀ n ns, r = .step n ns → ∀ s ∈ n :: ns, s ∈ knobNames rs) :
    OI nb kind at_ k (L + 1) S' (rs ++ [r]) stops { o' with ntab := o'.ntab + 1 } := by
  have kns := knobNames_snoc rs r
  rw [if_neg (by rw [hk]; exact Bool.false_ne_true), List.append_nil] at kns
  have mn : ∀ w, o'.many w = o.many w := fun w => by unfold Org.many; rw [e3]
  refine ⟨takes_snoc rs {} o r o' x.tk ht, ?_, fun i hi => ?_, ?_, fun n y e => ?_, fun q hq => ?_, ?_, ?_, ?_, e4, fun s hs => ?_, x.sd, fun n ns hm s hs => ?_, ?_, x.sl⟩
  · rw [List.length_append]
    exact Nat.succ_le_succ x.len
  · obtain ⟨n, kk, a1, a2, a3, a4, ⟨m, a5⟩, a6⟩ := x.bd i hi
    refine ⟨n, kk, ?_, a2, a3, ?_, ⟨m, ?_⟩, a6⟩
    · rw [List.getElem?_append_left (List.getElem?_eq_some_iff.mp a1).1]
      exact a1
    · show o'.tit n = _
      rw [e1]
      exact a4
    · show o'.manuals[i]? = _
      rw [e2]
      exact a5
  · show o'.tit _ = _
    rw [e1]
    exact x.rk
  · have e : o'.tit n = some y := e
    rw [e1] at e
    exact x.nm n y e
  · rcases List.mem_append.mp hq with h | h
    · exact x.sm q h
    · rw [List.mem_singleton] at h
      rw [h]
      exact hsm
  · show o'.many _ ≤ _
    rw [mn]
    exact x.mst
  · show o'.many _ ≤ _
    rw [mn]
    exact x.mco
  · show o'.many _ = _
    rw [mn, filter_snoc, if_neg (by rw [hmu]; exact Bool.false_ne_true), List.append_nil]
    exact x.mmu
  · obtain ⟨a1, a2, a3, a4, i, dd, a6, a7, a8⟩ := x.sp s hs
    refine ⟨a1, a2, by rw [kns]; exact a3, a4, i, dd, ?_, ?_, a8⟩
    · show o'.tit _ = _
      rw [e1]
      exact a6
    · show o'.knobs[_]? = _
      rw [e3]
      exact a7
  · rw [kns]
    rcases List.mem_append.mp hm with h | h
    · exact x.stp n ns h s hs
    · rw [List.mem_singleton] at h
      exact hst n ns h.symm s hs
  · rw [kns]
    exact x.kn
/-! ### the single rows -/
theorem OI.mute {nb kind at_ k L S : Nat} {rs : List Row} {stops : List PySem.Str} {o : Org} {i : Nat} {b : PySem.Str} {kk : Int} (x : OI nb kind at_ k L S rs stops o) (h1 : kind < 3) (h2 : at_ < 5) (h3 : k < 12) (hi : i < nb) (hb : rs[i]? = some (.board b kk)) (hm : (rs.filter Row.isMuteB).length < 5) :
    ∃ o', OI nb kind at_ (k + 1) (L + 1) S (rs ++ [.mute (nameOf kind at_ k) b]) stops o' := by
  obtain ⟨n, k2, a1, a2, a3, a4, _, _⟩ := x.bd i hi
  rw [hb] at a1
  cases a1
  obtain ⟨n1, n2, n3⟩ := names_ok1 kind h1 at_ h2 k h3
  have ht : o.take (.mute (nameOf kind at_ k) b) = some { o.knob (nameOf kind at_ k) (.mute i) with latest := none } := by
    show (match o.titled "board" b with | some i => if o.fresh (nameOf kind at_ k) = true ∧ o.many "mute" ≠ 5 then some { o.knob (nameOf kind at_ k) (.mute i) with latest := none } else none | none => none) = _
    rw [titled_of a2 a4]
    exact if_pos ⟨fresh_of2 n1 (x.fresh h1 h2 h3), by rw [x.mmu]; omega⟩
  exact ⟨_, x.addKnob (d := .mute i) h1 h2 h3 ht rfl rfl rfl ⟨n2, a3⟩ rfl rfl rfl rfl rfl⟩
theorem OI.coup {nb kind at_ k L S : Nat} {rs : List Row} {stops : List PySem.Str} {o : Org} {i j : Nat} {b c : PySem.Str} {kk k3 sh : Int} (x : OI nb kind at_ k L S rs stops o) (h1 : kind < 3) (h2 : at_ < 5) (h3 : k < 12) (hi : i < nb) (hb : rs[i]? = some (.board b kk)) (hj : j < nb) (hc : rs[j]? = some (.board c k3)) (hs : -60 ≤ sh ∧ sh ≤ 60) :
    ∃ o', OI nb kind at_ (k + 1) (L + 1) S (rs ++ [.coupler (nameOf kind at_ k) b c sh]) stops o' := by
  obtain ⟨n, k2, a1, a2, a3, a4, _, _⟩ := x.bd i hi
  rw [hb] at a1
  cases a1
  obtain ⟨n', k2', c1, c2, c3, c4, _, _⟩ := x.bd j hj
  rw [hc] at c1
  cases c1
  obtain ⟨n1, n2, n3⟩ := names_ok1 kind h1 at_ h2 k h3
  have ht : o.take (.coupler (nameOf kind at_ k) b c sh) = some { o.knob (nameOf kind at_ k) (.coup i j sh) with latest := none } := by
    show (match o.titled "board" b, o.titled "board" c with
      | some i, some j => if o.fresh (nameOf kind at_ k) = true ∧ (-60 ≤ sh ∧ sh ≤ 60) ∧ o.many "coupler" ≠ 12 then some { o.knob (nameOf kind at_ k) (.coup i j sh) with latest := none } else none
      | _, _ => none) = _
    rw [titled_of a2 a4, titled_of c2 c4]
    have := x.mco
    exact if_pos ⟨fresh_of2 n1 (x.fresh h1 h2 h3), hs, by omega⟩
  exact ⟨_, x.addKnob (d := .coup i j sh) h1 h2 h3 ht rfl rfl rfl ⟨n2, a3, c3⟩ rfl rfl rfl rfl rfl⟩
theorem OI.stop {nb kind at_ k L S : Nat} {rs : List Row} {stops : List PySem.Str} {o : Org} {i : Nat} {b : PySem.Str} {kk : Int} (x : OI nb kind at_ k L S rs stops o) (h1 : kind < 3) (h2 : at_ < 5) (h3 : k < 12) (hi : i < nb) (hb : rs[i]? = some (.board b kk)) :
    ∃ o', OI nb kind at_ (k + 1) (L + 1) S (rs ++ [.stop (nameOf kind at_ k) b]) (stops ++ [nameOf kind at_ k]) o' ∧ o'.nlines = 0 ∧ ∃ j m, o'.latest = some j ∧ o'.knobs[j]? = some (m, .stop i) := by
  obtain ⟨n, k2, a1, a2, a3, a4, _, _⟩ := x.bd i hi
  rw [hb] at a1
  cases a1
  obtain ⟨n1, n2, n3⟩ := names_ok1 kind h1 at_ h2 k h3
  have ht : o.take (.stop (nameOf kind at_ k) b) = some { o.knob (nameOf kind at_ k) (.stop i) with latest := some o.knobs.length, nlines := 0 } := by
    show (match o.titled "board" b with | some i => if o.fresh (nameOf kind at_ k) = true ∧ o.many "stop" ≠ 24 then some { o.knob (nameOf kind at_ k) (.stop i) with latest := some o.knobs.length, nlines := 0 } else none | none => none) = _
    rw [titled_of a2 a4]
    have := x.mst
    exact if_pos ⟨fresh_of2 n1 (x.fresh h1 h2 h3), by omega⟩
  refine ⟨_, x.addKnob (d := .stop i) h1 h2 h3 ht rfl rfl rfl ⟨n2, a3⟩ rfl rfl rfl rfl rfl, rfl, o.knobs.length, nameOf kind at_ k, rfl, ?_⟩
  show (o.knobs ++ [(nameOf kind at_ k, .stop i)])[o.knobs.length]? = _
  rw [List.getElem?_append_right (Nat.le_refl _), Nat.sub_self]
  rfl
theorem OI.line {nb kind at_ k L S : Nat} {rs : List Row} {stops : List PySem.Str} {o : Org} {i j : Nat} {m : PySem.Str} (x : OI nb kind at_ k L S rs stops o) (hi : i < nb) (hl : o.latest = some j) (hk : o.knobs[j]? = some (m, .stop i)) (h0 : o.nlines = 0) :
    ∃ o', OI nb kind at_ k (L + 1) S (rs ++ [.line "u" 0 0 0]) stops o' := by
  obtain ⟨n, k2, _, _, _, _, ⟨m2, a5⟩, a6⟩ := x.bd i hi
  have ht : o.take (.line "u" 0 0 0) = some { o with nlines := o.nlines + 1 } := by
    show (match o.latest, o.titled "rank" "u" with
      | some i, some _ => (match o.knobs[i]? with
        | some (_, .stop b) => (match o.manuals[b]? with
          | some (_, keys) => if ((-200 : Int) ≤ 0 ∧ (0 : Int) ≤ 200) ∧ ((0 : Int) ≤ 0 ∧ (0 : Int) ≤ keys - 1) ∧ ((0 : Int) ≤ 0 ∧ (0 : Int) ≤ 0) ∧ o.nlines < 4 then some { o with nlines := o.nlines + 1 } else none
          | none => none)
        | _ => none)
      | _, _ => none) = _
    rw [titled_of u_ok.1 x.rk, hl]
    show (match o.knobs[j]? with
        | some (_, .stop b) => (match o.manuals[b]? with
          | some (_, keys) => if ((-200 : Int) ≤ 0 ∧ (0 : Int) ≤ 200) ∧ ((0 : Int) ≤ 0 ∧ (0 : Int) ≤ keys - 1) ∧ ((0 : Int) ≤ 0 ∧ (0 : Int) ≤ 0) ∧ o.nlines < 4 then some _ else none
          | none => none)
        | _ => none) = _
    rw [hk]
    show (match o.manuals[i]? with
          | some (_, keys) => if ((-200 : Int) ≤ 0 ∧ (0 : Int) ≤ 200) ∧ ((0 : Int) ≤ 0 ∧ (0 : Int) ≤ keys - 1) ∧ ((0 : Int) ≤ 0 ∧ (0 : Int) ≤ 0) ∧ o.nlines < 4 then some _ else none
          | none => none) = _
    rw [a5]
    refine if_pos ⟨by decide, ⟨by decide, by omega⟩, by decide, by omega⟩
  exact ⟨_, x.addOther ht rfl rfl u_ok.2 rfl rfl rfl x.st fun n ns e => by cases e⟩
theorem stepNs_ok {o : Org} : ∀ (ls : List PySem.Str) (acc : List Int), ls.Nodup → (∀ s ∈ ls, isName s = true ∧ ∃ i d, o.tit s = some (("knob" : PySem.Str), i) ∧ o.knobs[i]? = some (s, d) ∧ d.isStop = true ∧ (i : Int) ∉ acc) → ∃ is, o.stepNs ls acc = some is
  | [], acc, _, _ => ⟨acc, rfl⟩
  | s :: ls, acc, nd, h => by
    obtain ⟨a1, i, d, a2, a3, a4, a5⟩ := h s List.mem_cons_self
    rw [List.nodup_cons] at nd
    obtain ⟨is, his⟩ := stepNs_ok ls (acc ++ [(i : Int)]) nd.2 fun s2 hs2 => by
      obtain ⟨b1, i2, d2, b2, b3, b4, b5⟩ := h s2 (List.mem_cons_of_mem _ hs2)
      refine ⟨b1, i2, d2, b2, b3, b4, fun z => ?_⟩
      rcases List.mem_append.mp z with z | z
      · exact b5 z
      · rw [List.mem_singleton] at z
        have e : i2 = i := by omega
        rw [e, a3] at b3
        have e2 : s = s2 := by injection b3 with b3; injection b3
        exact nd.1 (e2 ▸ hs2)
    refine ⟨is, ?_⟩
    show (match o.titled "knob" s with
      | some i => (match o.knobs[i]? with
        | some (_, d) => if d.isStop = true ∧ (i : Int) ∉ acc then o.stepNs ls (acc ++ [(i : Int)]) else none
        | none => none)
      | none => none) = _
    rw [titled_of a1 a2]
    show (match o.knobs[i]? with
        | some (_, d) => if d.isStop = true ∧ (i : Int) ∉ acc then o.stepNs ls (acc ++ [(i : Int)]) else none
        | none => none) = _
    rw [a3]
    show (if d.isStop = true ∧ (i : Int) ∉ acc then o.stepNs ls (acc ++ [(i : Int)]) else none) = _
    rw [if_pos ⟨a4, a5⟩]
    exact his
theorem OI.step {nb kind at_ k L S : Nat} {rs : List Row} {stops : List PySem.Str} {o : Org} {n : PySem.Str} {ns : List PySem.Str} (x : OI nb kind at_ k L S rs stops o) (hS : S < 12) (nd : (n :: ns).Nodup) (hin : ∀ s ∈ n :: ns, s ∈ stops) (hl : ns.length ≤ 100) :
    ∃ o', OI nb kind at_ k (L + 1) (S + 1) (rs ++ [.step n ns]) stops o' := by
  obtain ⟨is, his⟩ := stepNs_ok (o := o) (n :: ns) [] nd fun s hs => by
    obtain ⟨a1, a2, a3, a4, i, dd, a6, a7, a8⟩ := x.sp s (hin s hs)
    exact ⟨a1, i, dd, a6, a7, a8, by simp⟩
  have hst := x.st
  have ht : o.take (.step n ns) = some { o with latest := none, stairs := o.stairs ++ [setOf is] } := by
    show (match o.stepNs (n :: ns) [] with
      | some is => if o.stairs.length ≠ 12 then some { o with latest := none, stairs := o.stairs ++ [setOf is] } else none
      | none => none) = _
    rw [his]
    exact if_pos (by omega)
  refine ⟨_, x.addOther ht rfl (decide_eq_false (show ("step" : PySem.Str) ≠ "mute" by decide +kernel)) ⟨fun s hs => (x.sp s (hin s hs)).2.1, hl⟩ rfl rfl rfl ?_ fun n' ns' e s hs => ?_⟩
  · show (o.stairs ++ [setOf is]).length ≤ _
    rw [List.length_append]
    exact Nat.succ_le_succ hst
  · cases e
    exact (x.sp s (hin s hs)).2.2.1
/-! ### the boards, the rank -/
structure BI (i : Nat) (rs : List Row) (o : Org) : Prop where
  tk : Org.takes {} rs = some o
  len : rs.length = i
  bd : ∀ j, j < i → ∃ n kk, rs[j]? = some (.board n kk) ∧ isName n = true ∧ n.length ≤ 100 ∧ o.tit n = some (("board" : PySem.Str), j) ∧ (∃ m, o.manuals[j]? = some (m, kk)) ∧ 1 ≤ kk
  nm : ∀ n x, o.tit n = some x → ∃ a b, a < i ∧ b < 3 ∧ n = boardOf a b
  sm : ∀ r ∈ rs, r.Sm
  ml : o.manuals.length = i
  kn : o.knobs = []
  st : o.stairs = []
  np : o.npipes = 0
  nk : ∀ r ∈ rs, r.isKnob = false ∧ r.isMuteB = false ∧ ∀ n ns, r ≠ .step n ns
theorem BI.start : BI 0 [] {} := ⟨rfl, rfl, fun j h => absurd h (Nat.not_lt_zero j), (fun n x e => by cases e), (fun r h => by cases h), rfl, rfl, rfl, rfl, (fun r h => by cases h)⟩
theorem BI.board {i j : Nat} {rs : List Row} {o : Org} {kk : Int} (x : BI i rs o) (hi : i < 3) (hj : j < 3) (hk : 1 ≤ kk ∧ kk ≤ 61) : ∃ o', BI (i + 1) (rs ++ [.board (boardOf i j) kk]) o' := by
  obtain ⟨b1, b2, b3⟩ := boards_ok1 i hi j hj
  have fr : o.tit (boardOf i j) = none := by
    cases e : o.tit (boardOf i j) with
    | none => rfl
    | some y =>
      obtain ⟨a, b, ha, hb, z⟩ := x.nm _ _ e
      exact absurd z (boards_ok2 i hi j hj a ha b hb)
  have ht : o.take (.board (boardOf i j) kk) = some { o with latest := none, tit := o.name (boardOf i j) "board" o.manuals.length, ntit := o.ntit + 1, manuals := o.manuals ++ [(boardOf i j, kk)] } := by
    have ml := x.ml
    exact if_pos ⟨fresh_of2 b1 fr, hk, by omega⟩
  refine ⟨_, takes_snoc rs {} o _ _ x.tk ht, by rw [List.length_append, x.len]; rfl, fun l hl => ?_, fun n y e => ?_, fun r hr => ?_, by show (o.manuals ++ [(boardOf i j, kk)]).length = _; rw [List.length_append, x.ml]; rfl, x.kn, x.st, x.np, fun r hr => ?_⟩
  · by_cases c : l < i
    · obtain ⟨n, k2, a1, a2, a3, a4, ⟨m, a5⟩, a6⟩ := x.bd l c
      refine ⟨n, k2, ?_, a2, a3, ?_, ⟨m, ?_⟩, a6⟩
      · rw [List.getElem?_append_left (List.getElem?_eq_some_iff.mp a1).1]
        exact a1
      · show (if n = boardOf i j then _ else o.tit n) = _
        rw [if_neg (fun z => by rw [z, fr] at a4; cases a4)]
        exact a4
      · show (o.manuals ++ _)[l]? = _
        rw [List.getElem?_append_left (List.getElem?_eq_some_iff.mp a5).1]
        exact a5
    · have e : l = i := by omega
      subst e
      refine ⟨boardOf l j, kk, ?_, b1, b2, ?_, ⟨boardOf l j, ?_⟩, hk.1⟩
      · rw [List.getElem?_append_right (by rw [x.len]; exact Nat.le_refl _), x.len, Nat.sub_self]
        rfl
      · show (if boardOf l j = boardOf l j then some (("board" : PySem.Str), o.manuals.length) else o.tit (boardOf l j)) = _
        rw [if_pos rfl, x.ml]
      · show (o.manuals ++ _)[l]? = _
        rw [List.getElem?_append_right (by rw [x.ml]; exact Nat.le_refl _), x.ml, Nat.sub_self]
        rfl
  · have e : (if n = boardOf i j then some (("board" : PySem.Str), o.manuals.length) else o.tit n) = some y := e
    by_cases c : n = boardOf i j
    · exact ⟨i, j, Nat.lt_succ_self i, hj, c⟩
    · rw [if_neg c] at e
      obtain ⟨a, b, ha, hb, z⟩ := x.nm n y e
      exact ⟨a, b, by omega, hb, z⟩
  · rcases List.mem_append.mp hr with h | h
    · exact x.sm r h
    · rw [List.mem_singleton] at h
      rw [h]
      exact b2
  · rcases List.mem_append.mp hr with h | h
    · exact x.nk r h
    · rw [List.mem_singleton] at h
      rw [h]
      exact ⟨rfl, decide_eq_false (show ("board" : PySem.Str) ≠ "mute" by decide +kernel), fun n ns z => by cases z⟩
theorem BI.rank {nb kind at_ : Nat} {rs : List Row} {o : Org} {p w : Int} (x : BI nb rs o) (hb : nb ≤ 3) (hp : 1 ≤ p ∧ p ≤ 97) (hw : 0 ≤ w ∧ w ≤ 1000) : ∃ o', OI nb kind at_ 0 4 0 (rs ++ [.rank "u" p w]) [] o' := by
  have fr : o.tit "u" = none := by
    cases e : o.tit "u" with
    | none => rfl
    | some y =>
      obtain ⟨a, b, ha, hb2, z⟩ := x.nm _ _ e
      exact absurd z.symm (boards_ok1 a (by omega) b hb2).2.2
  have ht : o.take (.rank "u" p w) = some { o with latest := none, tit := o.name "u" "rank" o.npipes, ntit := o.ntit + 1, npipes := o.npipes + 1 } := by
    have np := x.np
    exact if_pos ⟨fresh_of2 u_ok.1 fr, hp, ⟨hw.1, by omega⟩, by omega⟩
  have nok : (rs ++ [Row.rank "u" p w]).filter Row.isKnob = [] := List.filter_eq_nil_iff.mpr fun r hr => by
    rcases List.mem_append.mp hr with h | h
    · rw [(x.nk r h).1]; exact Bool.false_ne_true
    · rw [List.mem_singleton] at h
      rw [h]
      exact Bool.false_ne_true
  have nmu : (rs ++ [Row.rank "u" p w]).filter Row.isMuteB = [] := List.filter_eq_nil_iff.mpr fun r hr => by
    rcases List.mem_append.mp hr with h | h
    · rw [(x.nk r h).2.1]; exact Bool.false_ne_true
    · rw [List.mem_singleton] at h
      rw [h]
      rw [show Row.isMuteB (.rank "u" p w) = false from decide_eq_false (show ("rank" : PySem.Str) ≠ "mute" by decide +kernel)]
      exact Bool.false_ne_true
  have mz : ∀ v, Org.many { o with latest := none, tit := o.name "u" "rank" o.npipes, ntit := o.ntit + 1, npipes := o.npipes + 1, ntab := o.ntab + 1 } v = 0 := fun v => by
    unfold Org.many
    show (o.knobs.filter _).length = 0
    rw [x.kn]
    rfl
  refine ⟨_, takes_snoc rs {} o _ _ x.tk ht, by rw [List.length_append, x.len]; exact Nat.succ_le_succ hb, fun l hl => ?_, ?_, fun n y e => ?_, fun r hr => ?_, Nat.le_of_eq (mz _), Nat.le_of_eq (mz _), (by rw [nmu]; exact mz _), (by show o.stairs.length ≤ 0; rw [x.st]; exact Nat.le_refl _), (fun s hs => by cases hs), List.nodup_nil, fun n ns hm s hs => ?_, Nat.zero_le _, Nat.le_refl _⟩
  · obtain ⟨n, k2, a1, a2, a3, a4, a5, a6⟩ := x.bd l hl
    refine ⟨n, k2, ?_, a2, a3, ?_, a5, a6⟩
    · rw [List.getElem?_append_left (List.getElem?_eq_some_iff.mp a1).1]
      exact a1
    · show (if n = "u" then _ else o.tit n) = _
      rw [if_neg (fun z => by rw [z, fr] at a4; cases a4)]
      exact a4
  · show (if ("u" : PySem.Str) = "u" then some (("rank" : PySem.Str), o.npipes) else o.tit "u") = _
    rw [if_pos rfl, x.np]
  · have e : (if n = "u" then some (("rank" : PySem.Str), o.npipes) else o.tit n) = some y := e
    by_cases c : n = "u"
    · exact .inl c
    · rw [if_neg c] at e
      obtain ⟨a, b, ha, hb2, z⟩ := x.nm n y e
      exact .inr (.inl ⟨a, b, by omega, hb2, z⟩)
  · rcases List.mem_append.mp hr with h | h
    · exact x.sm r h
    · rw [List.mem_singleton] at h
      rw [h]
      exact u_ok.2
  · rcases List.mem_append.mp hm with h | h
    · exact absurd rfl ((x.nk _ h).2.2 n ns)
    · rw [List.mem_singleton] at h
      cases h
end WC
/-! _law_organ: the heap's part, the two sub-statements. -/
namespace WC
open PySem PySem.Spec PyProof.Rows L2
/-- while rows are made: d, cl the draws' lists, R the rows' list -/
structure WI (H0 H : Hp) (d cl R : Addr) (n : Nat) (rs : List Row) : Prop where
  fr : Kp [d, cl] H0 H
  dw : Dw H d cl n
  nR : H0 R = none
  rows : RowsAt H R rs
  hd : ∃ o, H0 d = some o
  hc : ∃ o, H0 cl = some o
section
variable {H0 H H1 : Hp} {d cl R p T : Addr} {n : Nat} {rs : List Row} {r : Row} {u : HO} {ts : List Addr} {k : Nat}
theorem Dw.up (x : Dw H d cl k) (h1 : d ≠ p) (h2 : cl ≠ p) : Dw (upd H p u) d cl k := by
  obtain ⟨cs, q, t, m, a1, a2, a3, a4, a5⟩ := x.ex
  exact ⟨x.ne, cs, q, t, m, by rw [upd_ne h1]; exact a1, by rw [upd_ne h2]; exact a2, a3, a4, a5⟩
theorem Dw.live (x : Dw H d cl k) : (∃ xs, H d = some (.lst xs)) ∧ ∃ xs, H cl = some (.lst xs) := by
  obtain ⟨cs, q, t, m, a1, a2, _⟩ := x.ex
  exact ⟨⟨_, a1⟩, ⟨_, a2⟩⟩
theorem WI.ne (x : WI H0 H d cl R n rs) : R ≠ d ∧ R ≠ cl := by
  obtain ⟨o, e⟩ := x.hd
  obtain ⟨o2, e2⟩ := x.hc
  exact ⟨(ne_of_none e x.nR).symm, (ne_of_none e2 x.nR).symm⟩
theorem WI.draw (x : WI H0 H d cl R n rs) (D1 : Dw H1 d cl (n + 1)) (k1 : Kp [d, cl] H H1) : WI H0 H1 d cl R (n + 1) rs := by
  obtain ⟨ts, h1, h2⟩ := x.rows
  obtain ⟨⟨xs, e1⟩, ⟨ys, e2⟩⟩ := x.dw.live
  refine ⟨x.fr.tr k1, D1, x.nR, ⟨ts, k1.at h1 (by simp [x.ne]), h2.imp fun t r z => k1.at z ?_⟩, x.hd, x.hc⟩
  have z1 : t ≠ d := ne_of z e1 (by intro y; cases y)
  have z2 : t ≠ cl := ne_of z e2 (by intro y; cases y)
  simp [z1, z2]
theorem WI.nw (x : WI H0 H d cl R n rs) (h : H p = none) : WI H0 (upd H p u) d cl R n rs := by
  obtain ⟨⟨xs, e1⟩, ⟨ys, e2⟩⟩ := x.dw.live
  exact ⟨x.fr.tr (Kp.nw h), x.dw.up (ne_of_none e1 h) (ne_of_none e2 h), x.nR, x.rows.same (Same.nw h), x.hd, x.hc⟩
theorem WI.app (x : WI H0 H d cl R n rs) (h1 : H R = some (.lst (ts.map V.ref))) (hT : RowAt H T r) : WI H0 (upd H R (.lst (ts.map V.ref ++ [.ref T]))) d cl R n (rs ++ [r]) := by
  obtain ⟨ts2, h2, h3⟩ := x.rows
  rw [h1] at h2
  have ets : ts.map V.ref = ts2.map V.ref := by injection h2 with h2; injection h2
  have tk : ∀ t r, RowAt H t r → RowAt (upd H R (.lst (ts.map V.ref ++ [.ref T]))) t r := fun t r z => by
    show (upd H R _) t = _
    rw [upd_ne (ne_of z h1 (by intro y; cases y))]
    exact z
  refine ⟨fun b o e nb => ?_, x.dw.up x.ne.1.symm x.ne.2.symm, x.nR, ⟨ts2 ++ [T], ?_, (h3.imp tk).snoc (tk _ _ hT)⟩, x.hd, x.hc⟩
  · rw [upd_ne (ne_of_none e x.nR)]
    exact x.fr b o e nb
  · rw [upd_same, ets, List.map_append]
    rfl
theorem WI.oth {xs : List V} (x : WI H0 H d cl R n rs) (h : H p = some (.lst xs)) (n0 : H0 p = none) (pR : p ≠ R) : WI H0 (upd H p u) d cl R n rs := by
  obtain ⟨o1, e1⟩ := x.hd
  obtain ⟨o2, e2⟩ := x.hc
  obtain ⟨ts, h1, h2⟩ := x.rows
  refine ⟨fun b o e nb => ?_, x.dw.up (ne_of_none e1 n0) (ne_of_none e2 n0), x.nR, ⟨ts, by rw [upd_ne pR.symm]; exact h1, h2.imp fun t r z => ?_⟩, x.hd, x.hc⟩
  · rw [upd_ne (ne_of_none e n0)]
    exact x.fr b o e nb
  · show (upd H p u) t = _
    rw [upd_ne (ne_of z h (by intro y; cases y))]
    exact z
end
/-- .. and S the stops' list -/
structure WS (H0 H : Hp) (d cl R S : Addr) (n : Nat) (rs : List Row) (stops : List PySem.Str) : Prop extends WI H0 H d cl R n rs where
  nS : H0 S = none
  SR : S ≠ R
  hS : H S = some (.lst (stops.map V.str))
section
variable {H0 H H1 : Hp} {d cl R S p T : Addr} {n : Nat} {rs : List Row} {r : Row} {u : HO} {ts : List Addr} {k : Nat} {stops : List PySem.Str}
theorem WS.neS (x : WS H0 H d cl R S n rs stops) : S ≠ d ∧ S ≠ cl := by
  obtain ⟨o, e⟩ := x.hd
  obtain ⟨o2, e2⟩ := x.hc
  exact ⟨(ne_of_none e x.nS).symm, (ne_of_none e2 x.nS).symm⟩
theorem WS.drw (x : WS H0 H d cl R S n rs stops) (D1 : Dw H1 d cl (n + 1)) (k1 : Kp [d, cl] H H1) : WS H0 H1 d cl R S (n + 1) rs stops :=
  ⟨x.toWI.draw D1 k1, x.nS, x.SR, k1.at x.hS (by simp [x.neS])⟩
theorem WS.nwS (x : WS H0 H d cl R S n rs stops) (h : H p = none) : WS H0 (upd H p u) d cl R S n rs stops :=
  ⟨x.toWI.nw h, x.nS, x.SR, by rw [upd_ne (ne_of_none x.hS h)]; exact x.hS⟩
theorem WS.appS (x : WS H0 H d cl R S n rs stops) (h1 : H R = some (.lst (ts.map V.ref))) (hT : RowAt H T r) : WS H0 (upd H R (.lst (ts.map V.ref ++ [.ref T]))) d cl R S n (rs ++ [r]) stops :=
  ⟨x.toWI.app h1 hT, x.nS, x.SR, by rw [upd_ne x.SR]; exact x.hS⟩
theorem WS.stopS (x : WS H0 H d cl R S n rs stops) (s : PySem.Str) : WS H0 (upd H S (.lst (stops.map V.str ++ [.str s]))) d cl R S n rs (stops ++ [s]) :=
  ⟨x.toWI.oth x.hS x.nS x.SR, x.nS, x.SR, by rw [upd_same, List.map_append]; rfl⟩
end
theorem ps_ex {X : Cx} {b : Stmt} {t' : TS} (h : ∀ D σ H, t' D σ H → ∃ t, PS X b t ∧ t D σ H) : PS X b t' := ⟨fun pins s σ H D I q => by
  obtain ⟨t, h1, h2⟩ := h D σ H q
  exact h1.run pins s σ H D I h2⟩
/-- the names of _law_organ as they stand within a turn -/
def stO (d : Addr) (nb kind at_ : Nat) (R : Addr) (k : Nat) (S : Addr) (b : PySem.Str) (way : Nat) (nm : PySem.Str) (y z : Option V) : L2.St :=
  [some (.ref d), some (.int (nb : Int)), some (.int (kind : Int)), some (.int (at_ : Int)), some (.ref R), some (.int (k : Int)), some (.ref S), some (.str b), some (.int (way : Int)), some (.str nm), y, z]
/-- the knob's row of a turn -/
def tChain : TS := fun D σ H => ∃ (H0 : Hp) (d cl R S : Addr) (n nb kind at_ k i way : Nat) (rs : List Row) (stops : List PySem.Str) (o : Org) (b : PySem.Str) (kk : Int) (y z : Option V), σ = stO d nb kind at_ R k S b way (nameOf kind at_ k) y z ∧
  WS H0 H d cl R S n rs stops ∧ OI nb kind at_ k (4 + 3 * k) k rs stops o ∧ kind < 3 ∧ at_ < 5 ∧ k < 12 ∧ nb ≤ 3 ∧ 1 ≤ nb ∧ i < nb ∧ rs[i]? = some (.board b kk) ∧ way < 6 ∧ n ≤ 1000 ∧
  ∀ H' rs' stops' o' n', WS H0 H' d cl R S n' rs' stops' → OI nb kind at_ (k + 1) (6 + 3 * k) k rs' stops' o' → n' ≤ n + 2 → D.nx σ H'
/-- the step's row of a turn, if there is one -/
def tStepR : TS := fun D σ H => ∃ (H0 : Hp) (d cl R S : Addr) (n nb kind at_ k L way : Nat) (rs : List Row) (stops : List PySem.Str) (o : Org) (b nm : PySem.Str) (y z : Option V), σ = stO d nb kind at_ R k S b way nm y z ∧
  WS H0 H d cl R S n rs stops ∧ OI nb kind at_ (k + 1) L k rs stops o ∧ k < 12 ∧ n ≤ 2000 ∧ L ≤ 100 ∧
  ∀ H' rs' o' n' y', WS H0 H' d cl R S n' rs' stops → OI nb kind at_ (k + 1) (L + 1) (k + 1) rs' stops o' → n' ≤ n + 3 → D.nx (stO d nb kind at_ R k S b way nm y' z) H'
theorem OI.moreL {nb kind at_ k L L' S S' : Nat} {rs : List Row} {stops : List PySem.Str} {o : Org} (x : OI nb kind at_ k L S rs stops o) (h : L ≤ L') (h2 : S ≤ S') : OI nb kind at_ k L' S' rs stops o :=
  ⟨x.tk, Nat.le_trans x.len h, x.bd, x.rk, x.nm, x.sm, x.mst, x.mco, x.mmu, Nat.le_trans x.st h2, x.sp, x.sd, x.stp, x.kn, x.sl⟩
abbrev N_organ : List PySem.Str := ["_law_drawn_here", "_law_boards", "_law_kind", "_law_at", "_law_rows", "_law_k", "_law_stops", "_law_board", "_law_way", "_law_name_here", "_law_turn", "_law_row"]
theorem sc_law_organ : FnScope N_organ ["_law_drawn_here"] (defScope s_law_organ) := ⟨rfl, rfl, rfl, by decide +kernel, rfl, by decide +kernel, by decide +kernel⟩
theorem rowLen (rs : List Row) (ts : List Addr) {H : Hp} (h : Paired (RowAt H) ts rs) : (ts.map V.ref).length = rs.length := by rw [List.length_map, Paired.length h]
theorem rowAt_get {H : Hp} {rs : List Row} {ts : List Addr} (h : Paired (RowAt H) ts rs) {i : Nat} {r : Row} (e : rs[i]? = some r) : ∃ t, atI (ts.map V.ref) (i : Int) = some (.ref t) ∧ H t = some (.tup (.str r.word :: .str r.name :: r.rest)) := by
  obtain ⟨t, h1, h2⟩ := h.getR e
  refine ⟨t, atNat (by rw [List.getElem?_map, h1]; rfl), ?_⟩
  rw [← r.vals_eq]
  exact h2
theorem at0 (a b : V) (l : List V) : atI (a :: b :: l) 0 = some a := atNat (i := 0) rfl
theorem at1 (a b : V) (l : List V) : atI (a :: b :: l) 1 = some b := atNat (i := 1) rfl
end WC
/-! _law_organ. -/
namespace WC
open PySem PySem.Spec PyProof.Rows L2
/-- rows to make organs and deeds of -/
structure Gd (rs : List Row) (o : Org) : Prop where
  good : Good rs o
  kn : knobNames rs ≠ []
  bn : ∃ n kk, Row.board n kk ∈ rs
  stp : ∀ n ns, Row.step n ns ∈ rs → ∀ s ∈ n :: ns, s ∈ knobNames rs
def spLOrgan : Sp := fun vs H Q _ => ∃ d cl : Addr, vs = [.ref d] ∧ Dw H d cl 0 ∧ ∀ R H' rs o, Gd rs o → RowsAt H' R rs → Kp [d, cl] H H' → H R = none → Q (.ref R) H'
theorem OI.gd {nb kind at_ k L S : Nat} {rs : List Row} {stops : List PySem.Str} {o : Org} (x : OI nb kind at_ k L S rs stops o) (hb : 1 ≤ nb) (hk : 1 ≤ k) (hL : L ≤ 150) : Gd rs o := by
  obtain ⟨n, kk, a1, a2, a3, a4, ⟨m, a5⟩, a6⟩ := x.bd 0 hb
  have mem := List.mem_of_getElem? a1
  refine ⟨⟨x.sm, List.length_pos_of_mem mem, Nat.le_trans x.len hL, x.tk, fun z => by rw [z] at a5; cases a5⟩, fun z => ?_, ⟨n, kk, mem⟩, x.stp⟩
  have := x.kn
  rw [z] at this
  exact absurd (Nat.le_trans hk this) (by decide)
theorem nodup_rot {l : List PySem.Str} (h : l.Nodup) (i j : Nat) : ((l.drop i ++ l.take i).take j).Nodup := by
  have p : List.Perm (l.drop i ++ l.take i) l := by
    have q : List.Perm (l.take i ++ l.drop i) l := by rw [List.take_append_drop]
    exact List.perm_append_comm.trans q
  exact (p.symm.nodup h).sublist (List.take_sublist _ _)
theorem mem_rot {l : List PySem.Str} {i j : Nat} {s : PySem.Str} (h : s ∈ (l.drop i ++ l.take i).take j) : s ∈ l := by
  rcases List.mem_append.mp (List.mem_of_mem_take h) with z | z
  · exact List.mem_of_mem_drop z
  · exact List.mem_of_mem_take z
theorem cutFrom (xs : List V) (f : Nat) : cutV xs (some (f : Int)) none = xs.drop f := by
  have e1 : HT.sIx xs.length 0 (some (f : Int)) = min f xs.length := HT.sIx_nat _ _ _
  have e2 : HT.sIx xs.length xs.length none = xs.length := rfl
  unfold cutV
  rw [e1, e2]
  by_cases h : f ≤ xs.length
  · rw [Nat.min_eq_left h, List.take_of_length_le (by rw [List.length_drop]; exact Nat.le_refl _)]
  · rw [Nat.min_eq_right (by omega), List.drop_eq_nil_of_le (Nat.le_refl _), List.drop_eq_nil_of_le (by omega)]
    simp
section
variable {P : Program} {w : World} {K : PySem.W.Frag} {mg : PySem.Str → Option Value} {base : Heap}
theorem ok_law_organ (T : Txt K mg) : C8.Cal P w K mg base 2 "_law_organ" spLOrgan [] := by
  obtain ⟨fd, F⟩ := T.d_law_organ
  have nd := sc_law_organ.nd
  refine calOf (ps := ["_law_drawn_here"]) F (fnNox F sc_law_organ (fun vs H Q E h => ?_) (fun cdv Ar outer s0 H0 vs Q E hr h => ?_)) T.g_law_organ fun _ _ _ _ _ _ us hl => match us, hl with | [_], _ => rfl
  · obtain ⟨d, cl, rfl, _⟩ := h
    rfl
  · obtain ⟨d, cl, rfl, D, q⟩ := h
    have hu := hu_of hr
    refine ⟨_, pss_cons (ps_set (i := 1) nd rfl (.inl rfl) (pe_op op_add pe_int (C8.pe_c (ok_law_draw T) hr (by decide) (by rfl) (pa_cons (pv 0) (pa_cons pe_int pa_nil)))))
      (pss_cons (ps_set (i := 2) nd rfl (.inl rfl) (C8.pe_c (ok_law_draw T) hr (by decide) (by rfl) (pa_cons (pv 0) (pa_cons pe_int pa_nil))))
      (pss_cons (ps_set (i := 3) nd rfl (.inl rfl) (C8.pe_c (ok_law_draw T) hr (by decide) (by rfl) (pa_cons (pv 0) (pa_cons pe_int pa_nil))))
      (pss_cons (ps_set (i := 4) nd rfl (.inl rfl) (pe_lst pa_nil))
      (pss_cons (ps_for PassesOwn.never rfl (pi_range1 (by rfl) T.n_range (pa_cons (pv 1) pa_nil)) (pg_name (i := 5) nd rfl (.inl rfl))
        (pss_one (ps_expr (pe_bm PySem.F.plainAttrs_list PySem.F.slot_list_append PySem.F.type_list_append mt_append (pv 4) (pa_cons (pe_tup (pa_cons pe_str (pa_cons (pe_op op_add_str (pe_ix ix_str pe_str (pv 5) (fun _ _ => rfl)) (pe_op op_mulS pe_str (C8.pe_c (ok_law_draw T) hr (by decide) (by rfl) (pa_cons (pv 0) (pa_cons pe_int pa_nil)))))
          (pa_cons (pe_op op_add pe_int (C8.pe_c (ok_law_draw T) hr (by decide) (by rfl) (pa_cons (pv 0) (pa_cons pe_int pa_nil)))) pa_nil)))) pa_nil)))))
      (pss_cons (ps_expr (pe_bm PySem.F.plainAttrs_list PySem.F.slot_list_append PySem.F.type_list_append mt_append (pv 4) (pa_cons (pe_tup (pa_cons pe_str (pa_cons pe_str (pa_cons (pe_op op_add pe_int (C8.pe_c (ok_law_draw T) hr (by decide) (by rfl) (pa_cons (pv 0) (pa_cons pe_int pa_nil))))
          (pa_cons (C8.pe_c (ok_law_draw T) hr (by decide) (by rfl) (pa_cons (pv 0) (pa_cons pe_int pa_nil))) pa_nil))))) pa_nil)))
      (pss_cons (ps_set (i := 6) nd rfl (.inl rfl) (pe_lst pa_nil))
      (pss_cons (ps_for PassesOwn.never rfl (pi_range1 (by rfl) T.n_range (pa_cons (pe_op op_add pe_int (C8.pe_c (ok_law_draw T) hr (by decide) (by rfl) (pa_cons (pv 0) (pa_cons pe_int pa_nil)))) pa_nil)) (pg_name (i := 5) nd rfl (.inl rfl))
        (pss_cons (ps_set (i := 7) nd rfl (.inl rfl) (pe_ix ix_tup (pe_ix ix_list (pv 4) (C8.pe_c (ok_law_draw T) hr (by decide) (by rfl) (pa_cons (pv 0) (pa_cons (pv 1) pa_nil))) (fun _ _ => rfl)) pe_int (fun _ _ => rfl)))
        (pss_cons (ps_set (i := 8) nd rfl (.inl rfl) (C8.pe_c (ok_law_draw T) hr (by decide) (by rfl) (pa_cons (pv 0) (pa_cons pe_int pa_nil))))
        (pss_cons (ps_set (i := 9) nd rfl (.inl rfl) (C8.pe_c (ok_law_name T) hr (by decide) (by rfl) (pa_cons (pv 2) (pa_cons (pv 3) (pa_cons (pv 5) pa_nil)))))
        (pss_cons (ps_ex (t' := tChain) fun D σ H h => ?_)
        (pss_one (ps_ex (t' := tStepR) fun D σ H h => ?_)))))))
      (pss_one (ps_ret (pv 4)))))))))), ?_⟩
    · obtain ⟨H0, d, cl, R, S, n, nb, kind, at_, k, i, way, rs, stops, o, b, kk, y, z, rfl, W, X, h1, h2, h3, h4, h5, h6, h7, h8, h9, kq⟩ := h
      refine ⟨_, ps_if (PW.pt (pw_and (pt_cmpR op_eq (pv 8) pe_int (nomark _)) (pw_and1 (pt_cmpR op_lt (pe_callB call_len_seq (by rfl) T.n_len PySem.boot_len (pa_cons
            (pe_lc (own := [("_law_row", 11)]) (g := gName 11) (tt := tTest (tOp rEq (tOp (rIxT K) (tVar 11) (tC (.int 0))) (tC (.str "mute")))) (te := tVar 11) rfl nd (pi_list (pv 4)) (blkOk_by (N := N_organ) (sc := defScope s_law_organ) (by decide +kernel)) (fun _ _ _ _ _ => pg_name (i := 11) nd rfl (Or.inl rfl))
              (fun _ _ _ _ _ => pts_one (pt_cmpR op_eq (pe_ix ix_tup (pv 11) pe_int (fun _ _ => rfl)) pe_str (nomark _))) (fun _ _ _ _ _ => pv 11)) pa_nil)) pe_int (nomark _)))))
          (pss_one (ps_expr (pe_bm PySem.F.plainAttrs_list PySem.F.slot_list_append PySem.F.type_list_append mt_append (pv 4) (pa_cons (pe_tup (pa_cons pe_str (pa_cons (pv 9) (pa_cons (pv 7) pa_nil)))) pa_nil))))
        (pss_one (ps_if (pt_cmpR op_lt (pv 8) pe_int (nomark _))
          (pss_one (ps_expr (pe_bm PySem.F.plainAttrs_list PySem.F.slot_list_append PySem.F.type_list_append mt_append (pv 4) (pa_cons (pe_tup (pa_cons pe_str (pa_cons (pv 9) (pa_cons (pv 7)
            (pa_cons (pe_ix ix_tup (pe_ix ix_list (pv 4) (C8.pe_c (ok_law_draw T) hr (by decide) (by rfl) (pa_cons (pv 0) (pa_cons (pv 1) pa_nil))) (fun _ _ => rfl)) pe_int (fun _ _ => rfl))
            (pa_cons (pe_op op_sub (C8.pe_c (ok_law_draw T) hr (by decide) (by rfl) (pa_cons (pv 0) (pa_cons pe_int pa_nil))) pe_int) pa_nil)))))) pa_nil))))
          (pss_cons (ps_expr (pe_bm PySem.F.plainAttrs_list PySem.F.slot_list_append PySem.F.type_list_append mt_append (pv 6) (pa_cons (pv 9) pa_nil)))
          (pss_cons (ps_expr (pe_bm PySem.F.plainAttrs_list PySem.F.slot_list_append PySem.F.type_list_append mt_append (pv 4) (pa_cons (pe_tup (pa_cons pe_str (pa_cons (pv 9) (pa_cons (pv 7) pa_nil)))) pa_nil)))
          (pss_one (ps_if (pt_cmpR op_eq (pv 8) pe_int (nomark _)) (pss_one (ps_expr (pe_bm PySem.F.plainAttrs_list PySem.F.slot_list_append PySem.F.type_list_append mt_append (pv 4) (pa_cons (pe_tup (pa_cons pe_str (pa_cons pe_str (pa_cons pe_int (pa_cons pe_int (pa_cons pe_int pa_nil)))))) pa_nil)))) pss_nil)))))), ?_⟩
      have Xlen := X.len
      have small : ∀ {x : Nat}, x ≤ 100 → x < sizeLine := fun h => lt_line (by omega)
      refine ⟨_, rfl, rfl, _, rfl, ?_⟩
      rw [intE]
      by_cases w0 : way = 0
      · rw [show decide ((way : Int) = 0) = true from decide_eq_true (by omega)]
        obtain ⟨ts, r1, r2⟩ := W.rows
        refine iteT ⟨_, rfl, R, rfl, ⟨_, SqL.of r1⟩, fun L hL => ?_⟩
        have nL : R ≠ L := ne_of_none r1 hL
        refine lc_list (K := K) (a := R) (xs := ts.map V.ref) (fun i H' => ∃ acc : List V, H' = upd H L (.lst acc) ∧ acc.length = ((rs.take i).filter Row.isMuteB).length) ⟨[], rfl, rfl⟩
          (fun i H' _ ⟨acc, e, _⟩ => by rw [e]; exact SqL.of (by rw [upd_ne nL]; exact r1)) ?_ ?_
        · rintro i x H1 hi ⟨acc, rfl, hl⟩
          obtain ⟨t, hi2, rfl⟩ := get_map hi
          obtain ⟨r, hk, htup⟩ := r2.getL hi2
          have hi3 : i < rs.length := (List.getElem?_eq_some_iff.mp hk).1
          have htup' : (upd H L (.lst acc)) t = some (.tup (.str r.word :: .str r.name :: r.rest)) := by
            rw [upd_ne (ne_of_none htup hL), ← r.vals_eq]
            exact htup
          refine ⟨rfl, _, rfl, t, _, _, _, rfl, rfl, SqT.of htup', at0 _ _ _, rfl, _, rfl, ?_⟩
          have fm := filt_more (p := Row.isMuteB) hk
          by_cases hw : r.word = "mute"
          · rw [show decide (V.str r.word = V.str "mute") = true from decide_eq_true (by rw [hw])]
            refine iteT ⟨_, rfl, acc, upd_same, ?_, acc ++ [.ref t], upd_upd, ?_⟩
            · rw [hl]
              refine Nat.lt_of_le_of_lt (List.length_filter_le _ _) ?_
              rw [List.length_take]
              exact Nat.lt_of_le_of_lt (Nat.min_le_right _ _) (small (by omega))
            · rw [fm, if_pos (show Row.isMuteB r = true from decide_eq_true hw), List.length_append, List.length_append, hl]
              rfl
          · rw [strF hw]
            refine iteF ⟨acc, rfl, ?_⟩
            rw [fm, if_neg (by unfold Row.isMuteB; simp [hw]), List.append_nil]
            exact hl
        · rintro H1 ⟨acc, rfl, hl⟩
          rw [List.length_map, Paired.length r2, List.take_length] at hl
          have WL := W.nwS (u := .lst acc) hL
          refine ⟨L, acc, rfl, .inl (SqL.of upd_same), _, _, rfl, rfl, _, rfl, ?_⟩
          by_cases m5 : (rs.filter Row.isMuteB).length < 5
          · rw [show decide ((acc.length : Int) < 5) = true from decide_eq_true (by omega)]
            refine iteT ?_
            obtain ⟨ts, r1, r2⟩ := WL.rows
            refine ⟨_, rfl, .inl ⟨rfl, _, SqL.of r1⟩, _, rfl, _, rfl, by show 3 ≤ sizeLine; decide, fun t2 ht => ?_⟩
            have W6 := WL.nwS (u := .tup [.str "mute", .str (nameOf kind at_ k), .str b]) ht
            obtain ⟨ts6, r7, r8⟩ := W6.rows
            refine ⟨R, _, .ref t2, rfl, rfl, r7, ?_, ?_⟩
            · rw [rowLen _ _ r8]
              exact small (by omega)
            · obtain ⟨o', X'⟩ := X.mute h1 h2 h3 h6 h7 m5
              exact kq _ _ _ o' _ (W6.appS (r := .mute (nameOf kind at_ k) b) r7 upd_same) (X'.moreL (by omega) (Nat.le_refl _)) (by omega)
          · rw [show decide ((acc.length : Int) < 5) = false from decide_eq_false (by omega)]
            refine iteF ?_
            refine ⟨_, rfl, _, _, rfl, rfl, _, rfl, ?_⟩
            rw [show decide ((way : Int) < 3) = true from decide_eq_true (by omega)]
            refine iteT ?_
            obtain ⟨ts, r1, r2⟩ := WL.rows
            refine ⟨_, rfl, .inl ⟨rfl, _, SqL.of r1⟩, ?_⟩
            refine ⟨_, rfl, _, rfl, _, rfl, _, rfl, _, rfl, d, cl, _, (nb : Int), rfl, WL.dw, by omega, by omega, by omega, fun j H5 hj D5 k5 => ?_⟩
            have W5 := WL.drw D5 k5
            obtain ⟨bn2, bk2, a1, a2, a3, a4, a5, a6⟩ := X.bd j (by omega)
            obtain ⟨ts5, r3, r4⟩ := W5.rows
            obtain ⟨t5, r5, r6⟩ := rowAt_get r4 a1
            refine ⟨R, _, _, _, rfl, rfl, SqL.of r3, r5, t5, _, _, _, rfl, rfl, SqT.of r6, at1 _ _ _, ?_⟩
            refine ⟨_, rfl, d, cl, _, 121, rfl, W5.dw, by omega, by decide, by decide, fun e H6 he D6 k6 => ⟨_, _, rfl, rfl, by show 5 ≤ sizeLine; decide, fun t2 ht => ?_⟩⟩
            have W6 := (W5.drw D6 k6).nwS (u := .tup [.str "coupler", .str (nameOf kind at_ k), .str b, .str bn2, .int ((e : Int) - 60)]) ht
            obtain ⟨ts6, r7, r8⟩ := W6.rows
            refine ⟨R, _, .ref t2, rfl, rfl, r7, ?_, ?_⟩
            · rw [rowLen _ _ r8]
              exact small (by omega)
            · obtain ⟨o', X'⟩ := X.coup (sh := (e : Int) - 60) h1 h2 h3 h6 h7 (by omega) a1 (by omega)
              exact kq _ _ _ o' _ (W6.appS (r := .coupler (nameOf kind at_ k) b bn2 ((e : Int) - 60)) r7 upd_same) (X'.moreL (by omega) (Nat.le_refl _)) (by omega)
      · rw [show decide ((way : Int) = 0) = false from decide_eq_false (by omega)]
        refine iteF (iteF ?_)
        by_cases w3 : way < 3
        · refine ⟨_, rfl, _, _, rfl, rfl, _, rfl, ?_⟩
          rw [show decide ((way : Int) < 3) = true from decide_eq_true (by omega)]
          refine iteT ?_
          obtain ⟨ts, r1, r2⟩ := W.rows
          refine ⟨_, rfl, .inl ⟨rfl, _, SqL.of r1⟩, ?_⟩
          refine ⟨_, rfl, _, rfl, _, rfl, _, rfl, _, rfl, d, cl, _, (nb : Int), rfl, W.dw, by omega, by omega, by omega, fun j H5 hj D5 k5 => ?_⟩
          have W5 := W.drw D5 k5
          obtain ⟨bn2, bk2, a1, a2, a3, a4, a5, a6⟩ := X.bd j (by omega)
          obtain ⟨ts5, r3, r4⟩ := W5.rows
          obtain ⟨t5, r5, r6⟩ := rowAt_get r4 a1
          refine ⟨R, _, _, _, rfl, rfl, SqL.of r3, r5, t5, _, _, _, rfl, rfl, SqT.of r6, at1 _ _ _, ?_⟩
          refine ⟨_, rfl, d, cl, _, 121, rfl, W5.dw, by omega, by decide, by decide, fun e H6 he D6 k6 => ⟨_, _, rfl, rfl, by show 5 ≤ sizeLine; decide, fun t2 ht => ?_⟩⟩
          have W6 := (W5.drw D6 k6).nwS (u := .tup [.str "coupler", .str (nameOf kind at_ k), .str b, .str bn2, .int ((e : Int) - 60)]) ht
          obtain ⟨ts6, r7, r8⟩ := W6.rows
          refine ⟨R, _, .ref t2, rfl, rfl, r7, ?_, ?_⟩
          · rw [rowLen _ _ r8]
            exact small (by omega)
          · obtain ⟨o', X'⟩ := X.coup (sh := (e : Int) - 60) h1 h2 h3 h6 h7 (by omega) a1 (by omega)
            exact kq _ _ _ o' _ (W6.appS (r := .coupler (nameOf kind at_ k) b bn2 ((e : Int) - 60)) r7 upd_same) (X'.moreL (by omega) (Nat.le_refl _)) (by omega)
        · refine ⟨_, rfl, _, _, rfl, rfl, _, rfl, ?_⟩
          rw [show decide ((way : Int) < 3) = false from decide_eq_false (by omega)]
          have Xsl := X.sl
          refine iteF ⟨_, rfl, .inl ⟨rfl, _, SqL.of W.hS⟩, _, rfl, S, _, _, rfl, rfl, W.hS, by rw [List.length_map]; exact small (by omega), ?_⟩
          have W2 := W.stopS (nameOf kind at_ k)
          obtain ⟨ts, r1, r2⟩ := W2.rows
          refine ⟨_, rfl, .inl ⟨rfl, _, SqL.of r1⟩, _, rfl, _, rfl, by show 3 ≤ sizeLine; decide, fun t2 ht => ?_⟩
          have W6 := W2.nwS (u := .tup [.str "stop", .str (nameOf kind at_ k), .str b]) ht
          obtain ⟨ts6, r7, r8⟩ := W6.rows
          refine ⟨R, _, .ref t2, rfl, rfl, r7, by rw [rowLen _ _ r8]; exact small (by omega), ?_⟩
          have W7 := W6.appS (r := .stop (nameOf kind at_ k) b) r7 upd_same
          obtain ⟨o1, X1, nl0, j, m, la, kn⟩ := X.stop h1 h2 h3 h6 h7
          refine ⟨_, rfl, rfl, _, rfl, ?_⟩
          rw [intE]
          by_cases w5 : way = 5
          · rw [show decide ((way : Int) = 5) = true from decide_eq_true (by omega)]
            obtain ⟨ts, r1, r2⟩ := W7.rows
            refine iteT ⟨_, rfl, .inl ⟨rfl, _, SqL.of r1⟩, by show 5 ≤ sizeLine; decide, fun t3 ht3 => ?_⟩
            have W8 := W7.nwS (u := .tup [.str "line", .str "u", .int 0, .int 0, .int 0]) ht3
            obtain ⟨ts8, r9, r10⟩ := W8.rows
            have X1len := X1.len
            refine ⟨R, _, .ref t3, rfl, rfl, r9, by rw [rowLen _ _ r10]; exact small (by omega), ?_⟩
            obtain ⟨o', X'⟩ := X1.line h6 la kn nl0
            exact kq _ _ _ o' _ (W8.appS (r := .line "u" 0 0 0) r9 upd_same) (X'.moreL (by omega) (Nat.le_refl _)) (by omega)
          · rw [show decide ((way : Int) = 5) = false from decide_eq_false (by omega)]
            exact iteF (kq _ _ _ o1 _ W7 (X1.moreL (by omega) (Nat.le_refl _)) (by omega))
    · obtain ⟨H0, d, cl, R, S, n, nb, kind, at_, k, L, way, rs, stops, o, b, nm, y, z, rfl, W, X, h1, h2, h3, kq⟩ := h
      have Xlen := X.len
      have Xsl := X.sl
      have small : ∀ {x : Nat}, x ≤ 200 → x < sizeLine := fun h => lt_line (by omega)
      refine ⟨_, ps_if (PW.pt (pw_and (pt_cmpR (op_neNil (Nat.lt_of_succ_lt hu)) (pv 6) (pe_lst pa_nil) (nomark _)) (pw_and1 (pt_cmpR op_eq (C8.pe_c (ok_law_draw T) hr (by decide) (by rfl) (pa_cons (pv 0) (pa_cons pe_int pa_nil))) pe_int (nomark _)))))
        (pss_cons (ps_set (i := 10) nd rfl (.inl rfl) (C8.pe_c (ok_law_draw T) hr (by decide) (by rfl) (pa_cons (pv 0) (pa_cons (pe_callB call_len_seq (by rfl) T.n_len PySem.boot_len (pa_cons (pv 6) pa_nil)) pa_nil))))
        (pss_one (ps_expr (pe_bm PySem.F.plainAttrs_list PySem.F.slot_list_append PySem.F.type_list_append mt_append (pv 4) (pa_cons
          (pe_callTy call_tuple_of (by rfl) T.n_tuple (by decide +kernel) (pa_cons (pe_op op_cat (pe_lst (pa_cons pe_str pa_nil))
            (pe_slice sl_list (pe_op op_cat (pe_slice sl_list (pv 6) (po_some (pv 10)) po_none) (pe_slice sl_list (pv 6) po_none (po_some (pv 10)))) po_none (po_some (pe_op op_add pe_int (C8.pe_c (ok_law_draw T) hr (by decide) (by rfl) (pa_cons (pv 0) (pa_cons pe_int pa_nil))))))) pa_nil)) pa_nil))))) pss_nil, ?_⟩
      refine ⟨_, rfl, by decide, fun l hl => ?_⟩
      have Wl := W.nwS (u := .lst []) hl
      refine ⟨S, l, _, rfl, rfl, SqL.of Wl.hS, SqL.of upd_same, _, rfl, ?_⟩
      by_cases hne : stops = []
      · rw [show ((stops.map V.str).isEmpty != true) = false by rw [hne]; rfl]
        exact iteF (iteF (kq _ _ o _ _ Wl (X.moreL (Nat.le_succ _) (Nat.le_succ _)) (by omega)))
      rw [show ((stops.map V.str).isEmpty != true) = true by cases stops with | nil => exact absurd rfl hne | cons => rfl]
      refine iteT ⟨_, rfl, d, cl, _, 4, rfl, Wl.dw, by omega, by decide, by decide, fun e H2 he D2 k2 => ⟨rfl, _, rfl, ?_⟩⟩
      rw [intE]
      have W2 := Wl.drw D2 k2
      by_cases e0 : (e : Int) = 0
      · rw [decide_eq_true e0]
        have slen : 0 < stops.length := List.length_pos_iff.mpr hne
        refine iteT ⟨_, rfl, _, rfl, S, _, rfl, .inl (SqL.of W2.hS), d, cl, _, ((stops.map V.str).length : Int), rfl, W2.dw, by omega, by rw [List.length_map]; omega, by rw [List.length_map]; omega, fun turn H3 ht D3 k3 => ?_⟩
        have W3 := W2.drw D3 k3
        obtain ⟨ts, r1, r2⟩ := W3.rows
        refine ⟨_, rfl, .inl ⟨rfl, _, SqL.of r1⟩, ?_⟩
        refine ⟨by show 1 ≤ sizeLine; decide, fun l1 n1 => ?_⟩
        have W4 := W3.nwS (u := .lst [.str "step"]) n1
        refine ⟨_, rfl, _, rfl, _, rfl, S, _, rfl, SqL.of W4.hS, fun p1 n2 => ?_⟩
        rw [cutFrom]
        have W5 := W4.nwS (u := .lst ((stops.map V.str).drop turn)) n2
        refine ⟨_, rfl, _, rfl, _, rfl, S, _, rfl, SqL.of W5.hS, fun p2 n3 => ?_⟩
        rw [cutTo]
        have W6 := W5.nwS (u := .lst ((stops.map V.str).take turn)) n3
        have q12 : p1 ≠ p2 := ne_of_none (o := .lst ((stops.map V.str).drop turn)) upd_same n3
        refine ⟨p1, p2, _, _, rfl, rfl, (by rw [upd_ne q12]; exact upd_same), upd_same, (by rw [List.length_drop, List.length_take, List.length_map]; exact Nat.le_of_lt (small (by omega))), fun p3 n4 => ?_⟩
        have W7 := W6.nwS (u := .lst ((stops.map V.str).drop turn ++ (stops.map V.str).take turn)) n4
        obtain ⟨⟨xs6, ed⟩, ⟨ys6, ec⟩⟩ := W6.dw.live
        have z1 : p3 ≠ d := (ne_of_none ed n4).symm
        have z2 : p3 ≠ cl := (ne_of_none ec n4).symm
        obtain ⟨⟨xs3, ed3⟩, ⟨ys3, ec3⟩⟩ := W3.dw.live
        have y1 : l1 ≠ d := (ne_of_none ed3 n1).symm
        have y2 : l1 ≠ cl := (ne_of_none ec3 n1).symm
        have h1a : (upd H3 l1 (.lst [.str "step"])) l1 = some (.lst [.str "step"]) := upd_same
        have h1b : (upd (upd H3 l1 (.lst [.str "step"])) p1 (.lst ((stops.map V.str).drop turn))) l1 = some (.lst [.str "step"]) := by rw [upd_ne (ne_of_none h1a n2)]; exact h1a
        have h1c : (upd (upd (upd H3 l1 (.lst [.str "step"])) p1 (.lst ((stops.map V.str).drop turn))) p2 (.lst ((stops.map V.str).take turn))) l1 = some (.lst [.str "step"]) := by rw [upd_ne (ne_of_none h1b n3)]; exact h1b
        have h1d : (upd (upd (upd (upd H3 l1 (.lst [.str "step"])) p1 (.lst ((stops.map V.str).drop turn))) p2 (.lst ((stops.map V.str).take turn))) p3 (.lst ((stops.map V.str).drop turn ++ (stops.map V.str).take turn))) l1 = some (.lst [.str "step"]) := by rw [upd_ne (ne_of_none h1c n4)]; exact h1c
        refine ⟨_, rfl, d, cl, _, 3, rfl, W7.dw, by omega, by decide, by decide, fun x H8 hx D8 k8 => ⟨_, _, rfl, rfl, _, rfl, p3, _, rfl, SqL.of (k8.at upd_same (by simp [z1, z2])), fun p4 n5 => ?_⟩⟩
        have W8 := W7.drw D8 k8
        have h1e : H8 l1 = some (.lst [.str "step"]) := k8.at h1d (by simp [y1, y2])
        have ex : cutV ((stops.map V.str).drop turn ++ (stops.map V.str).take turn) none (some (1 + (x : Int))) = ((stops.drop turn ++ stops.take turn).take (1 + x)).map V.str := by
          rw [show (1 + (x : Int)) = ((1 + x : Nat) : Int) by omega, cutTo, List.map_take, List.map_append, List.map_drop, List.map_take]
        rw [ex]
        obtain ⟨ls, els⟩ : ∃ ls, ls = (stops.drop turn ++ stops.take turn).take (1 + x) := ⟨_, rfl⟩
        have lsl : ls.length ≤ 12 := by
          rw [els, List.length_take]
          have : (stops.drop turn ++ stops.take turn).length = stops.length := by rw [List.length_append, List.length_drop, List.length_take]; omega
          omega
        have lsne : ls ≠ [] := fun z => by
          have : ls.length = 0 := by rw [z]; rfl
          rw [els, List.length_take, List.length_append, List.length_drop, List.length_take] at this
          omega
        have lsnd : ls.Nodup := by rw [els]; exact nodup_rot X.sd _ _
        have lsin : ∀ s ∈ ls, s ∈ stops := fun s hs => by rw [els] at hs; exact mem_rot hs
        rw [← els]
        have W9 := W8.nwS (u := .lst (ls.map V.str)) n5
        have h1f : (upd H8 p4 (.lst (ls.map V.str))) l1 = some (.lst [.str "step"]) := by rw [upd_ne (ne_of_none h1e n5)]; exact h1e
        refine ⟨l1, p4, _, _, rfl, rfl, h1f, upd_same, (by rw [List.length_map]; exact Nat.le_of_lt (small (x := 1 + ls.length) (by omega))), fun p5 n6 => ?_⟩
        have W10 := W9.nwS (u := .lst ([.str "step"] ++ ls.map V.str)) n6
        refine ⟨p5, _, rfl, .inl ⟨SqL.of upd_same, fun t nt => ?_⟩⟩
        obtain ⟨s1, ss, rfl⟩ : ∃ s1 ss, ls = s1 :: ss := by
          cases ls with
          | nil => exact absurd rfl lsne
          | cons s1 ss => exact ⟨s1, ss, rfl⟩
        have W11 := W10.nwS (u := .tup (.str "step" :: (s1 :: ss).map V.str)) nt
        obtain ⟨ts6, r7, r8⟩ := W11.rows
        refine ⟨R, _, .ref t, rfl, rfl, r7, by rw [rowLen _ _ r8]; exact small (by omega), ?_⟩
        rw [List.length_cons] at lsl
        obtain ⟨o', X'⟩ := X.step (n := s1) (ns := ss) h1 lsnd lsin (by omega)
        exact kq _ _ o' _ _ (W11.appS (r := .step s1 ss) r7 upd_same) X' (by omega)
      · rw [decide_eq_false e0]
        exact iteF (kq _ _ o _ _ W2 (X.moreL (Nat.le_succ _) (Nat.le_succ _)) (by omega))
    · refine ⟨_, rfl, d, cl, 0, 3, rfl, D, by decide, by decide, by decide, fun d0 H1 hd0 D1 k1 => ⟨_, _, rfl, rfl, ?_⟩⟩
      refine ⟨_, rfl, d, cl, 1, 3, rfl, D1, by decide, by decide, by decide, fun kind H2 hkind D2 k2 => ?_⟩
      refine ⟨_, rfl, d, cl, 2, 5, rfl, D2, by decide, by decide, by decide, fun at_ H3 hat D3 k3 => ?_⟩
      refine ⟨by decide, fun R hR => ?_⟩
      have k03 : Kp [d, cl] H0 H3 := k1.tr (k2.tr k3)
      obtain ⟨⟨xs, ed⟩, ⟨ys, ec⟩⟩ := D3.live
      have nRd : R ∉ [d, cl] := by simp [(ne_of_none ed hR).symm, (ne_of_none ec hR).symm]
      have nR : H0 R = none := k03.fr hR nRd
      obtain ⟨⟨xs0, ed0⟩, ⟨ys0, ec0⟩⟩ := D.live
      have W0 : WI H0 (upd H3 R (.lst [])) d cl R 3 [] := ⟨k03.tr (Kp.nw hR), D3.up (ne_of_none ed hR) (ne_of_none ec hR), nR, ⟨[], upd_same, .nil⟩, ⟨_, ed0⟩, ⟨_, ec0⟩⟩
      refine ⟨_, rfl, 1 + (d0 : Int), rfl, by omega, by omega, ?_⟩
      refine for_range (lo := 0) (n := (1 + (d0 : Int)).toNat) (fun i σ H2 => ∃ (x : Option V) (rs : List Row) (o : Org), σ = [some (.ref d), some (.int ((1 + d0 : Nat) : Int)), some (.int (kind : Int)), some (.int (at_ : Int)), some (.ref R), x, none, none, none, none, none, none] ∧ WI H0 H2 d cl R (3 + 2 * i) rs ∧ BI i rs o)
        ⟨none, [], {}, rfl, W0, BI.start⟩ ?_ ?_
      · rintro i σ H4 hi ⟨x, rs, o, rfl, W, B⟩
        have e0 : (0 : Int) + (i : Int) = (i : Int) := Int.zero_add _
        rw [e0]
        obtain ⟨ts, r1, r2⟩ := W.rows
        refine ⟨_, rfl, .inl ⟨rfl, _, SqL.of r1⟩, ?_⟩
        refine ⟨_, rfl, _, _, _, rfl, rfl, (by decide +kernel), xyz_at i (by omega), _, rfl, d, cl, _, 3, rfl, W.dw, by omega, by decide, by decide, fun j H5 hj D5 k5 => ?_⟩
        have W5 := W.draw D5 k5
        refine ⟨_, _, rfl, rfl, rfl, by omega, by omega, _, _, rfl, rfl, ?_, _, rfl, d, cl, _, 61, rfl, W5.dw, by omega, by decide, by decide, fun kk H6 hkk D6 k6 => ⟨_, _, rfl, rfl, by show 3 ≤ sizeLine; decide, fun t ht => ?_⟩⟩
        · have := (small_parts j (by omega)).2.2.2.1
          exact Nat.le_of_lt (lt_line (n := 1 + (repS "w" (j : Int)).length) (by omega))
        have W6 := (W5.draw D6 k6).nw (u := .tup [.str "board", .str (boardOf i j), .int (1 + (kk : Int))]) ht
        obtain ⟨ts2, r3, r4⟩ := W6.rows
        refine ⟨R, _, .ref t, rfl, rfl, r3, ?_, ?_⟩
        · rw [rowLen _ _ r4, B.len]
          exact lt_line (by omega)
        · obtain ⟨o', B'⟩ := B.board (j := j) (kk := 1 + (kk : Int)) (by omega) (by omega) (by omega)
          exact ⟨_, _, o', rfl, W6.app (r := .board (boardOf i j) (1 + (kk : Int))) r3 upd_same, B'⟩
      · rintro σ H4 ⟨x, rs, o, rfl, W, B⟩
        have enb : (1 + (d0 : Int)).toNat = 1 + d0 := by omega
        rw [enb] at W B
        obtain ⟨ts, r1, r2⟩ := W.rows
        refine ⟨_, rfl, .inl ⟨rfl, _, SqL.of r1⟩, ?_⟩
        refine ⟨_, rfl, d, cl, _, 97, rfl, W.dw, by omega, by decide, by decide, fun p H5 hp D5 k5 => ⟨_, _, rfl, rfl, ?_⟩⟩
        have W5 := W.draw D5 k5
        refine ⟨_, rfl, d, cl, _, 9, rfl, W5.dw, by omega, by decide, by decide, fun wd H6 hwd D6 k6 => ⟨by show 4 ≤ sizeLine; decide, fun t ht => ?_⟩⟩
        have W6 := (W5.draw D6 k6).nw (u := .tup [.str "rank", .str "u", .int (1 + (p : Int)), .int (wd : Int)]) ht
        obtain ⟨ts2, r3, r4⟩ := W6.rows
        obtain ⟨o', X'⟩ := B.rank (kind := kind) (at_ := at_) (p := 1 + (p : Int)) (w := (wd : Int)) (by omega) (by omega) (by omega)
        refine ⟨R, _, .ref t, rfl, rfl, r3, ?_, ?_⟩
        · rw [rowLen _ _ r4, B.len]
          exact lt_line (by omega)
        have W7 := W6.app (r := .rank "u" (1 + (p : Int)) (wd : Int)) r3 upd_same
        refine ⟨by decide, fun S hS => ?_⟩
        obtain ⟨ts3, r5, r6⟩ := W7.rows
        have SR : S ≠ R := (ne_of_none r5 hS).symm
        obtain ⟨⟨xs7, ed7⟩, ⟨ys7, ec7⟩⟩ := W7.dw.live
        have nS : H0 S = none := W7.fr.fr hS (by simp [(ne_of_none ed7 hS).symm, (ne_of_none ec7 hS).symm])
        have W8 : WS H0 _ d cl R S _ _ [] := ⟨W7.nw (u := .lst []) hS, nS, SR, upd_same⟩
        refine ⟨_, rfl, d, cl, _, 12, rfl, W8.dw, by omega, by decide, by decide, fun m H9 hm D9 k9 => ⟨_, _, rfl, rfl, ?_⟩⟩
        have W9 := W8.drw D9 k9
        refine ⟨1 + (m : Int), rfl, by omega, by omega, ?_⟩
        refine for_range (lo := 0) (n := (1 + (m : Int)).toNat) (fun k σ H2 => ∃ (x7 x8 x9 x5 x10 : Option V) (rs : List Row) (stops : List PySem.Str) (o : Org) (n : Nat), σ = [some (.ref d), some (.int ((1 + d0 : Nat) : Int)), some (.int (kind : Int)), some (.int (at_ : Int)), some (.ref R), x5, some (.ref S), x7, x8, x9, x10, none] ∧ WS H0 H2 d cl R S n rs stops ∧ n ≤ 20 + 8 * k ∧ OI (1 + d0) kind at_ k (4 + 3 * k) k rs stops o)
          ⟨none, none, none, _, none, _, [], o', _, rfl, W9, by omega, X'⟩ ?_ ?_
        · rintro k σ H10 hk ⟨x7, x8, x9, x5, x10, rs, stops, o, n, rfl, W, hn, X⟩
          have e0 : (0 : Int) + (k : Int) = (k : Int) := Int.zero_add _
          rw [e0]
          refine ⟨_, rfl, _, rfl, _, rfl, d, cl, _, ((1 + d0 : Nat) : Int), rfl, W.dw, by omega, by omega, by omega, fun i H11 hi D11 k11 => ?_⟩
          have W11 := W.drw D11 k11
          obtain ⟨bn, bk, a1, a2, a3, a4, a5, a6⟩ := X.bd i (by omega)
          obtain ⟨ts, r1, r2⟩ := W11.rows
          obtain ⟨t, r3, r4⟩ := rowAt_get r2 a1
          refine ⟨R, _, _, _, rfl, rfl, SqL.of r1, r3, t, _, _, _, rfl, rfl, SqT.of r4, at1 _ _ _, ?_⟩
          refine ⟨_, rfl, d, cl, _, 6, rfl, W11.dw, by omega, by decide, by decide, fun way H12 hway D12 k12 => ?_⟩
          have W12 := W11.drw D12 k12
          refine ⟨_, rfl, _, rfl, _, rfl, kind, at_, k, rfl, by omega, by omega, by omega, ?_⟩
          refine ⟨H0, d, cl, R, S, _, 1 + d0, kind, at_, k, i, way, rs, stops, o, bn, bk, _, _, rfl, W12, X, by omega, by omega, by omega, by omega, by omega, by omega, a1, by omega, by omega, fun H13 rs' stops' o2 n' W13 X13 hn' => ?_⟩
          refine ⟨H0, d, cl, R, S, n', 1 + d0, kind, at_, k, 6 + 3 * k, way, rs', stops', o2, bn, nameOf kind at_ k, _, _, rfl, W13, X13, by omega, by omega, by omega, fun H14 rs2 o3 n2 y' W14 X14 hn2 => ?_⟩
          exact ⟨_, _, _, _, _, rs2, stops', o3, n2, rfl, W14, by omega, X14.moreL (by omega) (Nat.le_refl _)⟩
        · rintro σ H10 ⟨x7, x8, x9, x5, x10, rs, stops, o, n, rfl, W, hn, X⟩
          exact ⟨_, rfl, q R H10 rs o (X.gd (by omega) (by omega) (by omega)) W.rows W.fr nR⟩
end
end WC
/-! _law_knobs, _law_steps. -/
namespace WC
open PySem PySem.Spec PyProof.Rows L2
theorem knobWord (r : Row) : inV (.str r.word) [.str "stop", .str "coupler", .str "mute"] = r.isKnob := by
  cases r <;> (simp only [Row.word, Row.isKnob]; decide +kernel)
theorem first_ix {s : PySem.Str} : ∀ {l : List PySem.Str}, s ∈ l → ∃ j, l[j]? = some s ∧ j < l.length ∧ ∀ m z, m < j → l[m]? = some z → z ≠ s
  | [], h => by cases h
  | x :: l, h => by
    by_cases c : x = s
    · exact ⟨0, by rw [c]; rfl, Nat.succ_pos _, fun m z hm => absurd hm (Nat.not_lt_zero m)⟩
    · rcases List.mem_cons.mp h with e | h
      · exact absurd e.symm c
      · obtain ⟨j, h1, h2, h3⟩ := first_ix h
        refine ⟨j + 1, by simpa using h1, Nat.succ_lt_succ h2, fun m z hm hz => ?_⟩
        cases m with
        | zero =>
          have : x = z := by simpa using hz
          rw [← this]
          exact c
        | succ m => exact h3 m z (by omega) (by simpa using hz)
theorem flatStrs (l : List PySem.Str) : (l.map V.str).all flatV = true := by
  rw [List.all_map, List.all_eq_true]
  intro x _
  rfl
section
variable {P : Program} {w : World} {K : PySem.W.Frag} {mg : PySem.Str → Option Value} {base : Heap}
theorem sc_law_knobs : FnScope ["_law_rows", "_law_row"] ["_law_rows"] (defScope s_law_knobs) := ⟨rfl, rfl, rfl, by decide +kernel, rfl, by decide +kernel, by decide +kernel⟩
def spKnobs : Sp := fun vs H Q _ => ∃ (R : Addr) (rs : List Row), vs = [.ref R] ∧ RowsAt H R rs ∧ rs.length ≤ 200 ∧ ∀ L H', Same H H' → RowsAt H' L (knobRows rs) → Q (.ref L) H'
theorem ok_law_knobs (T : Txt K mg) : C8.Cal P w K mg base 1 "_law_knobs" spKnobs [] := by
  obtain ⟨fd, F⟩ := T.d_law_knobs
  have nd := sc_law_knobs.nd
  refine calOf (ps := ["_law_rows"]) F (fnNox F sc_law_knobs (fun vs H Q E h => ?_) (fun cdv Ar outer s H vs Q E hr h => ?_)) T.g_law_knobs fun _ _ _ _ _ _ us hl => match us, hl with | [_], _ => rfl
  · obtain ⟨R, rs, rfl, _⟩ := h
    rfl
  · obtain ⟨R, rs, rfl, ⟨ts, r1, r2⟩, hl, q⟩ := h
    refine ⟨_, pss_one (ps_ret (pe_lc (own := [("_law_row", 1)]) (g := gName 1) (tt := tTest (tOp (rIn K false) (tOp (rIxT K) (tVar 1) (tC (.int 0))) (tTup (tCons (tC (.str "stop")) (tCons (tC (.str "coupler")) (tCons (tC (.str "mute")) tNil)))))) (te := tVar 1) rfl nd (pi_list (pv 0)) (blkOk_by (N := ["_law_rows", "_law_row"]) (sc := defScope s_law_knobs) (by decide +kernel)) (fun _ _ _ _ _ => pg_name (i := 1) nd rfl (Or.inl rfl))
      (fun _ _ _ _ _ => pts_one (pt_cmpR op_in_seq (pe_ix ix_tup (pv 1) pe_int (fun _ _ => rfl)) (pe_tup (pa_cons pe_str (pa_cons pe_str (pa_cons pe_str pa_nil)))) rfl)) (fun _ _ _ _ _ => pv 1))), ?_⟩
    refine ⟨_, rfl, R, rfl, ⟨_, SqL.of r1⟩, fun D hD => ?_⟩
    have rl := rowLen _ _ r2
    refine lc_list (K := K) (a := R) (xs := ts.map V.ref) (fun i H' => Same H H' ∧ ∃ us : List Addr, H' D = some (.lst (us.map V.ref)) ∧ Paired (RowAt H) us (knobRows (rs.take i))) ⟨Same.nw hD, [], upd_same, .nil⟩ (fun i H' _ ⟨s1, _⟩ => SqL.of (s1 _ _ r1)) ?_ ?_
    · rintro i x H1 hi ⟨s1, us, e1, e2⟩
      obtain ⟨t, hi2, rfl⟩ := get_map hi
      obtain ⟨r, hk, htup⟩ := r2.getL hi2
      have hrow : H1 t = some (.tup (.str r.word :: .str r.name :: r.rest)) := by rw [← r.vals_eq]; exact s1 _ _ htup
      have fm : knobRows (rs.take (i + 1)) = knobRows (rs.take i) ++ (if r.isKnob = true then [r] else []) := filt_more hk
      refine ⟨rfl, _, rfl, t, _, _, _, rfl, rfl, SqT.of hrow, at0 _ _ _, by show 3 ≤ sizeLine; decide, fun p hp => ?_⟩
      refine ⟨p, _, rfl, .inr (SqT.of upd_same), rfl, rfl, ?_⟩
      rw [if_neg Bool.false_ne_true, knobWord]
      have pD : D ≠ p := ne_of_none e1 hp
      have s2 := s1.trans (Same.nw (o := .tup [.str "stop", .str "coupler", .str "mute"]) hp)
      cases hkn : r.isKnob with
      | true =>
        rw [hkn, if_pos rfl] at fm
        refine ⟨_, rfl, iteT ⟨_, rfl, _, (by rw [upd_ne pD]; exact e1), ?_, fun b o e => ?_, us ++ [t], ?_, ?_⟩⟩
        · rw [rowLen _ _ e2]
          refine Nat.lt_of_le_of_lt (List.length_filter_le _ _) ?_
          rw [List.length_take]
          exact Nat.lt_of_le_of_lt (Nat.min_le_right _ _) (lt_line (by omega))
        · rw [upd_ne (ne_of_none e hD)]
          exact s2 _ _ e
        · rw [upd_same, List.map_append]
          rfl
        · rw [fm]
          exact e2.snoc htup
      | false =>
        rw [hkn, if_neg Bool.false_ne_true, List.append_nil] at fm
        refine ⟨_, rfl, iteF ⟨s2, us, (by rw [upd_ne pD]; exact e1), ?_⟩⟩
        rw [fm]
        exact e2
    · rintro H1 ⟨s1, us, e1, e2⟩
      rw [List.length_map, Paired.length r2, List.take_length] at e2
      exact q D H1 s1 ⟨us, e1, e2.imp fun t r z => s1 _ _ z⟩
/-! ### _law_steps -/
theorem sc_law_steps : FnScope ["_law_rows", "_law_names_here", "_law_row", "_law_name_here"] ["_law_rows"] (defScope s_law_steps) := ⟨rfl, rfl, rfl, by decide +kernel, rfl, by decide +kernel, by decide +kernel⟩
def teInner (K : PySem.W.Frag) : TE := tOp (rI CPow fun i j => .int (i * 2 ^ j.toNat)) (tC (.int 1)) (tBM K "list" (rIndex K) (tVar 1) (tCons (tVar 3) tNil))
def tInner (K : PySem.W.Frag) : TE := tLc (iTup K (L2.tSl (rSlT K) (tVar 2) (tPart (tC (.int 1))) tNoPart)) (gName 3) tYes (teInner K) [3]
def spSteps : Sp := fun vs H Q _ => ∃ (R : Addr) (rs : List Row), vs = [.ref R] ∧ RowsAt H R rs ∧ rs.length ≤ 200 ∧ (∀ r ∈ rs, r.Sm) ∧ (∀ n ns, Row.step n ns ∈ rs → ∀ s ∈ n :: ns, s ∈ knobNames rs) ∧ ∀ L H' xs, Same H H' → H' L = some (.lst xs) → xs.length ≤ 200 → Q (.ref L) H'
theorem ok_law_steps (T : Txt K mg) : C8.Cal P w K mg base 2 "_law_steps" spSteps [] := by
  obtain ⟨fd, F⟩ := T.d_law_steps
  have nd := sc_law_steps.nd
  refine calOf (ps := ["_law_rows"]) F (fnNox F sc_law_steps (fun vs H Q E h => ?_) (fun cdv Ar outer s H vs Q E hr h => ?_)) T.g_law_steps fun _ _ _ _ _ _ us hl => match us, hl with | [_], _ => rfl
  · obtain ⟨R, rs, rfl, _⟩ := h
    rfl
  · obtain ⟨R, rs, rfl, hrows, hl, hsm, hst, q⟩ := h
    refine ⟨_, pss_cons (ps_set (i := 1) nd rfl (.inr rfl) (pe_lc (own := [("_law_row", 2)]) (g := gName 2) (tt := tYes) (te := tOp (rIxT K) (tVar 2) (tC (.int 1))) rfl nd (pi_list (C8.pe_c (ok_law_knobs T) hr (by decide) (by rfl) (pa_cons (pv 0) pa_nil))) (blkOk_by (N := ["_law_rows", "_law_names_here", "_law_row", "_law_name_here"]) (sc := defScope s_law_steps) (by decide +kernel)) (fun _ _ _ _ _ => pg_name (i := 2) nd rfl (Or.inl rfl))
        (fun _ _ _ _ _ => pts_nil) (fun _ _ _ _ _ => pe_ix ix_tup (pv 2) pe_int (fun _ _ => rfl))))
      (pss_one (ps_ret (pe_lc (own := [("_law_row", 2)]) (g := gName 2) (tt := tTest (tOp rEq (tOp (rIxT K) (tVar 2) (tC (.int 0))) (tC (.str "step")))) (te := tCB (rSum K) (tCons (tInner K) tNil)) rfl nd (pi_list (pv 0)) (blkOk_by (N := ["_law_rows", "_law_names_here", "_law_row", "_law_name_here"]) (sc := defScope s_law_steps) (by decide +kernel)) (fun _ _ _ _ _ => pg_name (i := 2) nd rfl (Or.inl rfl))
        (fun _ _ _ _ _ => pts_one (pt_cmpR op_eq (pe_ix ix_tup (pv 2) pe_int (fun _ _ => rfl)) pe_str (nomark _)))
        (fun _ _ _ _ _ => pe_callB (cr_sum rfl) (by rfl) T.n_sum (by decide +kernel) (pa_cons (pe_lc (own := [("_law_name_here", 3)]) (g := gName 3) (tt := tYes) (te := teInner K) rfl nd (pi_tup (pe_slice sl_tup (pv 2) (po_some pe_int) po_none)) (blkOk_by (N := ["_law_rows", "_law_names_here", "_law_row", "_law_name_here"]) (sc := { kind := .function, names := [(".0", .local), ("_law_row", .local), ("sum", .globalImplicit), ("_law_names_here", .cell)], isGenerator := false, isCoroutine := false }) (by decide +kernel)) (fun _ _ _ _ _ => pg_name (i := 3) nd rfl (Or.inl rfl))
          (fun _ _ _ _ _ => pts_nil) (fun _ _ _ _ _ => pe_op op_shl pe_int (pe_bm PySem.F.plainAttrs_list PySem.F.slot_list_index PySem.F.type_list_index mt_index (pv 1) (pa_cons (pv 3) pa_nil)))) pa_nil))))), ?_⟩
    refine ⟨_, rfl, R, rs, rfl, hrows, hl, fun L H1 s1 rL => ?_⟩
    obtain ⟨us, u1, u2⟩ := rL
    have kl : (knobRows rs).length ≤ 200 := Nat.le_trans (List.length_filter_le _ _) hl
    refine ⟨L, rfl, ⟨_, SqL.of u1⟩, fun D hD => ?_⟩
    have nL : L ≠ D := ne_of_none u1 hD
    refine lc_list (K := K) (a := L) (xs := us.map V.ref) (fun i H' => H' = upd H1 D (.lst ((((knobRows rs).take i).map Row.name).map V.str))) rfl (fun i H' _ e => by rw [e]; exact SqL.of (by rw [upd_ne nL]; exact u1)) ?_ ?_
    · rintro i x H2 hi rfl
      obtain ⟨t, hi2, rfl⟩ := get_map hi
      obtain ⟨r, hk, htup⟩ := u2.getL hi2
      have hrow : (upd H1 D (.lst ((((knobRows rs).take i).map Row.name).map V.str))) t = some (.tup (.str r.word :: .str r.name :: r.rest)) := by rw [upd_ne (ne_of_none htup hD), ← r.vals_eq]; exact htup
      refine ⟨rfl, _, rfl, t, _, _, _, rfl, rfl, SqT.of hrow, at1 _ _ _, _, upd_same, ?_, ?_⟩
      · rw [List.length_map, List.length_map, List.length_take]
        exact Nat.lt_of_le_of_lt (Nat.min_le_right _ _) (lt_line (by omega))
      · rw [upd_upd, take_more hk, List.map_append, List.map_append]
        rfl
    · rintro H2 rfl
      rw [List.length_map, Paired.length u2, List.take_length]
      have sD : Same H (upd H1 D (.lst (((knobRows rs).map Row.name).map V.str))) := s1.trans (Same.nw hD)
      have hN : (upd H1 D (.lst (((knobRows rs).map Row.name).map V.str))) D = some (.lst ((knobNames rs).map V.str)) := upd_same
      generalize upd H1 D (.lst (((knobRows rs).map Row.name).map V.str)) = H3 at sD hN ⊢
      obtain ⟨ts, r1, r2⟩ := hrows.same sD
      refine ⟨_, rfl, R, rfl, ⟨_, SqL.of r1⟩, fun D2 hD2 => ?_⟩
      refine lc_list (K := K) (a := R) (xs := ts.map V.ref) (fun i H' => Same H3 H' ∧ ∃ acc, H' D2 = some (.lst acc) ∧ acc.length ≤ i) ⟨Same.nw hD2, [], upd_same, Nat.zero_le _⟩ (fun i H' _ ⟨s3, _⟩ => SqL.of (s3 _ _ r1)) ?_ ?_
      · rintro i x H4 hi ⟨s3, acc, e1, e2⟩
        obtain ⟨t, hi2, rfl⟩ := get_map hi
        obtain ⟨r, hk, htup⟩ := r2.getL hi2
        have hi3 : i < rs.length := (List.getElem?_eq_some_iff.mp hk).1
        have hrow : H4 t = some (.tup (.str r.word :: .str r.name :: r.rest)) := by rw [← r.vals_eq]; exact s3 _ _ htup
        refine ⟨rfl, _, rfl, t, _, _, _, rfl, rfl, SqT.of hrow, at0 _ _ _, rfl, _, rfl, ?_⟩
        by_cases hw : r.word = "step"
        · rw [show decide (V.str r.word = V.str "step") = true from decide_eq_true (by rw [hw])]
          obtain ⟨n, ns, rfl⟩ : ∃ n ns, r = .step n ns := by
            cases r with
            | step n ns => exact ⟨n, ns, rfl⟩
            | board => exact absurd hw (by simp only [Row.word]; decide +kernel)
            | rank => exact absurd hw (by simp only [Row.word]; decide +kernel)
            | stop => exact absurd hw (by simp only [Row.word]; decide +kernel)
            | line => exact absurd hw (by simp only [Row.word]; decide +kernel)
            | coupler => exact absurd hw (by simp only [Row.word]; decide +kernel)
            | mute => exact absurd hw (by simp only [Row.word]; decide +kernel)
          have hrow : H4 t = some (.tup (.str "step" :: (n :: ns).map V.str)) := hrow
          have hin := hst n ns (List.mem_of_getElem? hk)
          refine iteT ⟨_, rfl, 1, rfl, t, _, rfl, SqT.of hrow, notWhole1 _ _, fun p hp => ?_⟩
          rw [cut1]
          have s4 := s3.trans (Same.nw (o := .tup ((n :: ns).map V.str)) hp)
          have pD2 : D2 ≠ p := ne_of_none e1 hp
          refine ⟨p, rfl, ⟨_, SqT.of upd_same⟩, fun D3 hD3 => ?_⟩
          have pD3 : p ≠ D3 := ne_of_none (o := .tup ((n :: ns).map V.str)) upd_same hD3
          have e1' : (upd H4 p (.tup ((n :: ns).map V.str))) D2 = some (.lst acc) := by rw [upd_ne pD2]; exact e1
          have D23 : D2 ≠ D3 := ne_of_none e1' hD3
          refine lc_it (walk_tup (xs := (n :: ns).map V.str)) (fun j H' => ∃ zs : List Int, H' = upd (upd H4 p (.tup ((n :: ns).map V.str))) D3 (.lst (zs.map V.int)) ∧ zs.length = j) ⟨[], rfl, rfl⟩ (fun j H' _ ⟨zs, e, _⟩ => SqT.of (by rw [e, upd_ne pD3]; exact upd_same)) ?_ ?_
          · rintro j x H5 H6 hj ⟨zs, rfl, hzs⟩ ⟨rfl, hx⟩
            obtain ⟨nm, hnm, rfl⟩ := get_map hx
            obtain ⟨jj, f1, f2, f3⟩ := first_ix (hin nm (List.mem_of_getElem? hnm))
            have knl : (knobNames rs).length ≤ 200 := by unfold knobNames; rw [List.length_map]; exact kl
            have hN5 : (upd (upd H4 p (.tup ((n :: ns).map V.str))) D3 (.lst (zs.map V.int))) D = some (.lst ((knobNames rs).map V.str)) := by
              have z := s4 _ _ hN
              rw [upd_ne (ne_of_none z hD3)]
              exact z
            refine ⟨rfl, _, rfl, .inl ⟨rfl, _, SqL.of hN5⟩, _, rfl, D, _, .str nm, jj, .str nm, rfl, rfl, SqL.of hN5, rfl, flatStrs _, (by rw [List.getElem?_map, f1]; rfl), (by show (nm == nm) = true; exact beq_self_eq_true nm), fun m z hm hz => ?_, _, _, rfl, rfl, ⟨by omega, by omega, by decide⟩, _, upd_same, ?_, ?_⟩
            · obtain ⟨z2, hz2, rfl⟩ := get_map hz
              show (z2 == nm) = false
              exact beq_eq_false_iff_ne.mpr (f3 m z2 hm hz2)
            · rw [List.length_map, hzs]
              have hj2 : j < ((n :: ns).map V.str).length := hj
              rw [List.length_map, List.length_cons] at hj2
              have sm : (Row.step n ns).Sm := hsm _ (List.mem_of_getElem? hk)
              have := sm.2
              exact lt_line (by omega)
            · exact ⟨zs ++ [1 * 2 ^ (jj : Int).toNat], by rw [upd_upd, List.map_append]; rfl, by rw [List.length_append, hzs]; rfl⟩
          · rintro H5 ⟨zs, rfl, hzs⟩
            refine ⟨D3, zs, rfl, SqL.of upd_same, acc, (by rw [upd_ne D23]; exact e1'), lt_line (by omega), fun b o e => ?_, acc ++ [.int zs.sum], upd_same, by rw [List.length_append]; exact Nat.succ_le_succ e2⟩
            rw [upd_ne (ne_of_none e hD2), upd_ne (ne_of_none (s4 _ _ e) hD3)]
            exact s4 _ _ e
        · rw [strF hw]
          exact iteF ⟨s3, acc, e1, Nat.le_succ_of_le e2⟩
      · rintro H4 ⟨s3, acc, e1, e2⟩
        rw [List.length_map, Paired.length r2] at e2
        exact q D2 H4 acc (sD.trans s3) e1 (by omega)
end
end WC
/-! _law_deed. -/
namespace WC
open PySem PySem.Spec PyProof.Rows L2
theorem mod_ix {α : Type} (z : Int) {l : List α} (h : l ≠ []) : ∃ j : Nat, z % (l.length : Int) = (j : Int) ∧ j < l.length := by
  have h0 := List.length_pos_iff.mpr h
  have r1 := Int.emod_nonneg z (show (l.length : Int) ≠ 0 by omega)
  have r2 := Int.emod_lt_of_pos z (show (0 : Int) < (l.length : Int) by omega)
  exact ⟨(z % (l.length : Int)).toNat, (Int.toNat_of_nonneg r1).symm, by omega⟩
def Row.isBoardB (r : Row) : Bool := decide (r.word = "board")
abbrev N_deed : List PySem.Str := ["_law_rows", "_law_number", "_law_knobs_here", "_law_boards", "_law_way", "_law_more", "_law_name_here", "_law_board", "_law_row"]
section
variable {P : Program} {w : World} {K : PySem.W.Frag} {mg : PySem.Str → Option Value} {base : Heap}
theorem sc_law_deed : FnScope N_deed ["_law_rows", "_law_number"] (defScope s_law_deed) := ⟨rfl, rfl, rfl, by decide +kernel, rfl, by decide +kernel, by decide +kernel⟩
def spDeed : Sp := fun vs H Q _ => ∃ (R : Addr) (z : Int) (rs : List Row) (o : Org), vs = [.ref R, .int z] ∧ RowsAt H R rs ∧ Gd rs o ∧ ∀ t H' (d : Deed), Same H H' → H' t = some (.tup d.vals) → d.wf → Q (.ref t) H'
theorem ok_law_deed (T : Txt K mg) : C8.Cal P w K mg base 3 "_law_deed" spDeed [] := by
  obtain ⟨fd, F⟩ := T.d_law_deed
  have nd := sc_law_deed.nd
  refine calOf (ps := ["_law_rows", "_law_number"]) F (fnNox F sc_law_deed (fun vs H Q E h => ?_) (fun cdv Ar outer s H vs Q E hr h => ?_)) T.g_law_deed fun _ _ _ _ _ _ us hl => match us, hl with | [_, _], _ => rfl
  · obtain ⟨R, z, rs, o, rfl, _⟩ := h
    rfl
  · obtain ⟨R, z, rs, o, rfl, hrows, gd, q⟩ := h
    have hl : rs.length ≤ 200 := Nat.le_trans gd.good.l2 (by decide)
    refine ⟨_, pss_cons (ps_set (i := 2) nd rfl (.inl rfl) (C8.pe_c (ok_law_knobs T) hr (by decide) (by rfl) (pa_cons (pv 0) pa_nil)))
      (pss_cons (ps_setLc (i := 3) (own := [("_law_row", 8)]) (g := gName 8) (tt := tTest (tOp rEq (tOp (rIxT K) (tVar 8) (tC (.int 0))) (tC (.str "board")))) (te := tOp (rIxT K) (tVar 8) (tC (.int 1))) rfl nd rfl rfl (sw_true rfl rfl rfl (by decide +kernel)) (pi_list (pv 0)) (blkOk_by (N := N_deed) (sc := defScope s_law_deed) (by decide +kernel)) (fun _ _ _ _ _ => pg_name (i := 8) nd rfl (Or.inl rfl))
        (fun _ _ _ _ _ => pts_one (pt_cmpR op_eq (pe_ix ix_tup (pv 8) pe_int (fun _ _ => rfl)) pe_str (nomark _))) (fun _ _ _ _ _ => pe_ix ix_tup (pv 8) pe_int (fun _ _ => rfl)))
      (pss_cons (ps_set (i := 4) nd rfl (.inl rfl) (pe_op op_mod (pv 1) pe_int))
      (pss_cons (ps_set (i := 5) nd rfl (.inl rfl) (pe_op op_fdiv (pv 1) pe_int))
      (pss_cons (ps_set (i := 6) nd rfl (.inl rfl) (pe_ix ix_tup (pe_ix ix_list (pv 2) (pe_op op_mod (pv 5) (pe_callB call_len_seq (by rfl) T.n_len PySem.boot_len (pa_cons (pv 2) pa_nil))) (fun _ _ => rfl)) pe_int (fun _ _ => rfl)))
      (pss_cons (ps_set (i := 7) nd rfl (.inl rfl) (pe_ix ix_list (pv 3) (pe_op op_mod (pe_op op_fdiv (pv 5) pe_int) (pe_callB call_len_seq (by rfl) T.n_len PySem.boot_len (pa_cons (pv 3) pa_nil))) (fun _ _ => rfl)))
      (pss_cons (ps_if (pt_cmpR op_lt (pv 4) pe_int (nomark _)) (pss_one (ps_ret (pe_tup (pa_cons pe_str (pa_cons (pv 6) pa_nil))))) pss_nil)
      (pss_cons (ps_if (pt_cmpR op_eq (pv 4) pe_int (nomark _)) (pss_one (ps_ret (pe_tup (pa_cons pe_str (pa_cons (pv 6) pa_nil))))) pss_nil)
      (pss_cons (ps_if (pt_cmpR op_eq (pv 4) pe_int (nomark _)) (pss_one (ps_ret (pe_tup (pa_cons pe_str (pa_cons (pe_op op_mod (pe_op op_mod (pv 5) pe_int) pe_int) pa_nil))))) pss_nil)
      (pss_cons (ps_if (pt_cmpR op_eq (pv 4) pe_int (nomark _)) (pss_one (ps_ret (pe_tup (pa_cons pe_str (pa_cons (pe_op op_mod (pe_op op_mod (pv 5) pe_int) pe_int) (pa_cons (pv 7) pa_nil)))))) pss_nil)
      (pss_cons (ps_if (pt_cmpR op_eq (pv 4) pe_int (nomark _)) (pss_one (ps_ret (pe_tup (pa_cons pe_str (pa_cons (pe_op op_mod (pe_op op_mod (pv 5) pe_int) pe_int) pa_nil))))) pss_nil)
      (pss_cons (ps_if (pt_cmpR op_eq (pv 4) pe_int (nomark _)) (pss_one (ps_ret (pe_tup (pa_cons pe_str (pa_cons (pe_op op_mod (pv 5) pe_int) pa_nil))))) pss_nil)
      (pss_cons (ps_if (pt_cmpR op_eq (pv 4) pe_int (nomark _)) (pss_one (ps_ret (pe_tup (pa_cons pe_str (pa_cons (pe_op op_mod (pv 5) (pe_op op_add (pe_callB call_len_seq (by rfl) T.n_len PySem.boot_len (pa_cons (C8.pe_c (ok_law_steps T) hr (by decide) (by rfl) (pa_cons (pv 0) pa_nil)) pa_nil)) pe_int)) pa_nil))))) pss_nil)
      (pss_cons (ps_if (PW.pt (pw_and (pt_cmpR op_eq (pv 4) pe_int (nomark _)) (pw_and1 (pt_cmpR op_eq (pe_op op_mod (pv 5) pe_int) pe_int (nomark _))))) (pss_one (ps_ret (pe_tup (pa_cons pe_str pa_nil)))) pss_nil)
      (pss_cons (ps_if (pt_cmpR op_eq (pv 4) pe_int (nomark _)) (pss_one (ps_ret (pe_tup (pa_cons pe_str (pa_cons (pe_op op_mod (pv 5) pe_int) (pa_cons pe_non pa_nil)))))) pss_nil)
      (pss_one (ps_ret (pe_ix ix_list (pe_lst (pa_cons (pe_tup (pa_cons pe_str (pa_cons (pv 7) pa_nil))) (pa_cons (pe_tup (pa_cons pe_str (pa_cons pe_non pa_nil))) (pa_cons (pe_tup (pa_cons pe_str (pa_cons pe_int pa_nil)))
        (pa_cons (pe_tup (pa_cons pe_str (pa_cons (pe_un un_neg pe_int) pa_nil))) (pa_cons (pe_tup (pa_cons pe_str (pa_cons pe_bl pa_nil))) (pa_cons (pe_tup (pa_cons pe_str (pa_cons pe_int (pa_cons (pv 6) pa_nil)))) pa_nil))))))) (pe_op op_mod (pv 5) pe_int) (fun _ _ => rfl)))))))))))))))))), ?_⟩
    refine ⟨_, rfl, R, rs, rfl, hrows, hl, fun L H1 s1 rL => ?_⟩
    obtain ⟨us, u1, u2⟩ := rL
    obtain ⟨ts, r1, r2⟩ := hrows.same s1
    refine ⟨_, rfl, R, rfl, ⟨_, SqL.of r1⟩, fun D hD => ?_⟩
    have nR : R ≠ D := ne_of_none r1 hD
    refine lc_list (K := K) (a := R) (xs := ts.map V.ref) (fun i H' => H' = upd H1 D (.lst ((((rs.take i).filter Row.isBoardB).map Row.name).map V.str))) rfl (fun i H' _ e => by rw [e]; exact SqL.of (by rw [upd_ne nR]; exact r1)) ?_ ?_
    · rintro i x H2 hi rfl
      obtain ⟨t, hi2, rfl⟩ := get_map hi
      obtain ⟨r, hk, htup⟩ := r2.getL hi2
      have hrow : (upd H1 D (.lst ((((rs.take i).filter Row.isBoardB).map Row.name).map V.str))) t = some (.tup (.str r.word :: .str r.name :: r.rest)) := by rw [upd_ne (ne_of_none htup hD), ← r.vals_eq]; exact htup
      have fm := filt_more (p := Row.isBoardB) hk
      refine ⟨rfl, _, rfl, t, _, _, _, rfl, rfl, SqT.of hrow, at0 _ _ _, rfl, _, rfl, ?_⟩
      by_cases hw : r.word = "board"
      · rw [show decide (V.str r.word = V.str "board") = true from decide_eq_true (by rw [hw])]
        rw [if_pos (show Row.isBoardB r = true from decide_eq_true hw)] at fm
        refine iteT ⟨_, rfl, t, _, _, _, rfl, rfl, SqT.of hrow, at1 _ _ _, _, upd_same, ?_, ?_⟩
        · rw [List.length_map, List.length_map]
          refine Nat.lt_of_le_of_lt (List.length_filter_le _ _) ?_
          rw [List.length_take]
          exact Nat.lt_of_le_of_lt (Nat.min_le_right _ _) (lt_line (by omega))
        · rw [upd_upd, fm, List.map_append, List.map_append]
          rfl
      · rw [strF hw]
        rw [if_neg (by unfold Row.isBoardB; simp [hw]), List.append_nil] at fm
        refine iteF ?_
        show upd H1 D _ = upd H1 D _
        rw [fm]
    · rintro H2 rfl
      rw [List.length_map, Paired.length r2, List.take_length]
      have sD : Same H (upd H1 D (.lst (((rs.filter Row.isBoardB).map Row.name).map V.str))) := s1.trans (Same.nw hD)
      obtain ⟨bs, hbs⟩ : ∃ bs, bs = (rs.filter Row.isBoardB).map Row.name := ⟨_, rfl⟩
      have bne : bs ≠ [] := fun e => by
        obtain ⟨n, kk, hm⟩ := gd.bn
        have : n ∈ bs := by rw [hbs]; exact List.mem_map.mpr ⟨.board n kk, List.mem_filter.mpr ⟨hm, decide_eq_true rfl⟩, rfl⟩
        rw [e] at this
        cases this
      have bsm : ∀ b ∈ bs, b.length ≤ 100 := fun b hb => by
        rw [hbs] at hb
        obtain ⟨r, hr, rfl⟩ := List.mem_map.mp hb
        exact Row.smName (gd.good.sm r (List.mem_filter.mp hr).1)
      rw [← hbs] at sD ⊢
      have hB : (upd H1 D (.lst (bs.map V.str))) D = some (.lst (bs.map V.str)) := upd_same
      have hL : (upd H1 D (.lst (bs.map V.str))) L = some (.lst (us.map V.ref)) := by rw [upd_ne (ne_of_none u1 hD)]; exact u1
      have hU : Paired (RowAt (upd H1 D (.lst (bs.map V.str)))) us (knobRows rs) := u2.imp fun t r z => Same.nw hD _ _ z
      generalize upd H1 D (.lst (bs.map V.str)) = H3 at sD hB hL hU ⊢
      have kne : knobRows rs ≠ [] := fun e => gd.kn (by unfold knobNames; rw [e]; rfl)
      refine ⟨_, rfl, _, _, rfl, rfl, (by show (0 : Int) < 12; decide), _, rfl, _, _, rfl, rfl, (by show (0 : Int) < 12 ∧ (12 : Int) < 1073741824; decide), ?_⟩
      dsimp only
      generalize z % 12 = W
      generalize z / 12 = M
      have ul := rowLen _ _ hU
      have une : us.map V.ref ≠ [] := fun e => kne (List.eq_nil_of_length_eq_zero (by rw [← ul, e]; rfl))
      obtain ⟨j, ej, hj⟩ := mod_ix M une
      have hj2 : j < (knobRows rs).length := by rw [← ul]; exact hj
      obtain ⟨r, hr0⟩ : ∃ r, (knobRows rs)[j]? = some r := ⟨_, List.getElem?_eq_getElem hj2⟩
      obtain ⟨t, g1, g2⟩ := rowAt_get hU hr0
      have rsm : r.name.length ≤ 100 := Row.smName (gd.good.sm r (List.mem_filter.mp (List.mem_of_getElem? hr0)).1)
      have upos := List.length_pos_iff.mpr une
      refine ⟨_, rfl, _, rfl, _, rfl, L, _, rfl, .inl (SqL.of hL), _, _, rfl, rfl, (by show (0 : Int) < _; omega), L, _, _, _, rfl, rfl, SqL.of hL, by rw [ej]; exact g1, t, _, _, _, rfl, rfl, SqT.of g2, at1 _ _ _, ?_⟩
      have bne2 : bs.map V.str ≠ [] := fun e => bne (List.map_eq_nil_iff.mp e)
      obtain ⟨i, ei, hi⟩ := mod_ix (M / 16) bne2
      have bpos := List.length_pos_iff.mpr bne2
      obtain ⟨b, hb⟩ : ∃ b, bs[i]? = some b := ⟨_, List.getElem?_eq_getElem (by rw [List.length_map] at hi; exact hi)⟩
      have bl := bsm b (List.mem_of_getElem? hb)
      refine ⟨_, rfl, _, rfl, _, _, rfl, rfl, (by show (0 : Int) < 16 ∧ (16 : Int) < 1073741824; decide), _, rfl, D, _, rfl, .inl (SqL.of hB), _, _, rfl, rfl, (by show (0 : Int) < _; omega), D, _, _, _, rfl, rfl, SqL.of hB, by rw [ei]; exact atNat (v := .str b) (by rw [List.getElem?_map, hb]; rfl), ?_⟩
      generalize r.name = nm at rsm
      clear g2 hr0
      have ret : ∀ (t : Addr) (d : Deed) (H4 : Hp), Same H H4 → H4 t = none → d.wf → Q (.ref t) (upd H4 t (.tup d.vals)) := fun t d H4 s4 ht hd => q t _ d (s4.trans (Same.nw ht)) upd_same hd
      have num : ∀ i : Int, NuV (.int i) := fun i => .inl ⟨i, rfl⟩
      have sz2 : ∀ n : Nat, n ≤ 10 → n ≤ sizeLine := fun n h => Nat.le_trans h (by decide)
      have p10 : (0 : Int) < 10 := by decide
      have p4 : (0 : Int) < 4 := by decide
      have p6 : (0 : Int) < 6 := by decide
      refine ⟨_, rfl, _, _, rfl, rfl, _, rfl, ?_⟩
      by_cases w1 : W < 4
      · rw [decide_eq_true w1]
        exact iteT ⟨_, rfl, sz2 2 (by decide), fun t ht => ret t (.pull (.str nm)) H3 sD ht (txS rsm)⟩
      rw [decide_eq_false w1]
      refine iteF ⟨_, rfl, rfl, _, rfl, ?_⟩
      rw [intE]
      by_cases w2 : W = 4
      · rw [decide_eq_true w2]
        exact iteT ⟨_, rfl, sz2 2 (by decide), fun t ht => ret t (.push (.str nm)) H3 sD ht (txS rsm)⟩
      rw [decide_eq_false w2]
      refine iteF ⟨_, rfl, rfl, _, rfl, ?_⟩
      rw [intE]
      by_cases w3 : W = 5
      · rw [decide_eq_true w3]
        exact iteT ⟨_, rfl, _, _, rfl, rfl, p10, _, _, rfl, rfl, p4, sz2 2 (by decide), fun t ht => ret t (.store (.int (M % 10 % 4))) H3 sD ht (num _)⟩
      rw [decide_eq_false w3]
      refine iteF ⟨_, rfl, rfl, _, rfl, ?_⟩
      rw [intE]
      by_cases w4 : W = 6
      · rw [decide_eq_true w4]
        exact iteT ⟨_, rfl, _, _, rfl, rfl, p10, _, _, rfl, rfl, p4, _, rfl, sz2 3 (by decide), fun t ht => ret t (.storeB (.int (M % 10 % 4)) (.str b)) H3 sD ht ⟨num _, txS bl⟩⟩
      rw [decide_eq_false w4]
      refine iteF ⟨_, rfl, rfl, _, rfl, ?_⟩
      rw [intE]
      by_cases w5 : W = 7
      · rw [decide_eq_true w5]
        exact iteT ⟨_, rfl, _, _, rfl, rfl, p10, _, _, rfl, rfl, p4, sz2 2 (by decide), fun t ht => ret t (.press (.int (M % 10 % 4))) H3 sD ht (num _)⟩
      rw [decide_eq_false w5]
      refine iteF ⟨_, rfl, rfl, _, rfl, ?_⟩
      rw [intE]
      by_cases w6 : W = 8
      · rw [decide_eq_true w6]
        exact iteT ⟨_, rfl, _, _, rfl, rfl, p10, sz2 2 (by decide), fun t ht => ret t (.press (.int (M % 10))) H3 sD ht (num _)⟩
      rw [decide_eq_false w6]
      refine iteF ⟨_, rfl, rfl, _, rfl, ?_⟩
      rw [intE]
      by_cases w7 : W = 9
      · rw [decide_eq_true w7]
        refine iteT ⟨_, rfl, _, rfl, R, rs, rfl, hrows.same sD, hl, gd.good.sm, gd.stp, fun L4 H4 xs s4 e4 l4 => ?_⟩
        exact ⟨L4, _, rfl, .inl (SqL.of e4), _, _, rfl, rfl, _, _, rfl, rfl, (by show (0 : Int) < (xs.length : Int) + 1; omega), sz2 2 (by decide), fun t ht => ret t (.shoe (.int (M % ((xs.length : Int) + 1)))) H4 (sD.trans s4) ht (num _)⟩
      rw [decide_eq_false w7]
      refine iteF ⟨_, rfl, rfl, _, rfl, ?_⟩
      rw [intE]
      by_cases w8 : W = 10
      · rw [decide_eq_true w8]
        refine iteT ⟨_, rfl, _, _, rfl, rfl, p4, rfl, _, rfl, ?_⟩
        rw [intE]
        by_cases m4 : M % 4 = 0
        · rw [decide_eq_true m4]
          exact iteT ⟨sz2 1 (by decide), fun t ht => ret t .cancel H3 sD ht trivial⟩
        rw [decide_eq_false m4]
        refine iteF ⟨_, rfl, rfl, _, rfl, ?_⟩
        rw [intE, decide_eq_true w8]
        exact iteT ⟨_, rfl, _, _, rfl, rfl, p10, sz2 3 (by decide), fun t ht => ret t (.storeB (.int (M % 10)) .non) H3 sD ht ⟨num _, .inl rfl⟩⟩
      rw [decide_eq_false w8]
      refine iteF (iteF ⟨_, rfl, rfl, _, rfl, ?_⟩)
      rw [intE, decide_eq_false w8]
      have sm1 := sD
      generalize hH0 : H3 = H0' at sm1 ⊢
      refine iteF ⟨_, rfl, sz2 2 (by decide), fun t0 h0 => ?_⟩
      have s0 := sm1.trans (Same.nw (o := .tup [.str "pull", .str b]) h0)
      have e0 : (upd H0' t0 (.tup [.str "pull", .str b])) t0 = some (.tup [.str "pull", .str b]) := upd_same
      have y0 : Same H0' (upd H0' t0 (.tup [.str "pull", .str b])) := Same.nw h0
      generalize upd H0' t0 (.tup [.str "pull", .str b]) = H1' at s0 e0 y0 ⊢
      refine ⟨sz2 2 (by decide), fun t1 h1 => ?_⟩
      have s1 := s0.trans (Same.nw (o := .tup [.str "push", .non]) h1)
      have e1 : (upd H1' t1 (.tup [.str "push", .non])) t1 = some (.tup [.str "push", .non]) := upd_same
      have y1 : Same H1' (upd H1' t1 (.tup [.str "push", .non])) := Same.nw h1
      generalize upd H1' t1 (.tup [.str "push", .non]) = H2' at s1 e1 y1 ⊢
      refine ⟨sz2 2 (by decide), fun t2 h2 => ?_⟩
      have s2 := s1.trans (Same.nw (o := .tup [.str "press", .int 10]) h2)
      have e2 : (upd H2' t2 (.tup [.str "press", .int 10])) t2 = some (.tup [.str "press", .int 10]) := upd_same
      have y2 : Same H2' (upd H2' t2 (.tup [.str "press", .int 10])) := Same.nw h2
      generalize upd H2' t2 (.tup [.str "press", .int 10]) = H3' at s2 e2 y2 ⊢
      refine ⟨_, rfl, sz2 2 (by decide), fun t3 h3 => ?_⟩
      have s3 := s2.trans (Same.nw (o := .tup [.str "shoe", .int (-1)]) h3)
      have e3 : (upd H3' t3 (.tup [.str "shoe", .int (-1)])) t3 = some (.tup [.str "shoe", .int (-1)]) := upd_same
      have y3 : Same H3' (upd H3' t3 (.tup [.str "shoe", .int (-1)])) := Same.nw h3
      generalize upd H3' t3 (.tup [.str "shoe", .int (-1)]) = H4' at s3 e3 y3 ⊢
      refine ⟨sz2 2 (by decide), fun t4 h4 => ?_⟩
      have s4 := s3.trans (Same.nw (o := .tup [.str "store", .bl true]) h4)
      have e4 : (upd H4' t4 (.tup [.str "store", .bl true])) t4 = some (.tup [.str "store", .bl true]) := upd_same
      have y4 : Same H4' (upd H4' t4 (.tup [.str "store", .bl true])) := Same.nw h4
      generalize upd H4' t4 (.tup [.str "store", .bl true]) = H5' at s4 e4 y4 ⊢
      refine ⟨_, rfl, sz2 3 (by decide), fun t5 h5 => ?_⟩
      have s5 := s4.trans (Same.nw (o := .tup [.str "store", .int 3, .str nm]) h5)
      have e5 : (upd H5' t5 (.tup [.str "store", .int 3, .str nm])) t5 = some (.tup [.str "store", .int 3, .str nm]) := upd_same
      have y5 : Same H5' (upd H5' t5 (.tup [.str "store", .int 3, .str nm])) := Same.nw h5
      generalize upd H5' t5 (.tup [.str "store", .int 3, .str nm]) = H6' at s5 e5 y5 ⊢
      refine ⟨sz2 6 (by decide), fun l hl5 => ?_⟩
      have s6 := s5.trans (Same.nw (o := .lst [.ref t0, .ref t1, .ref t2, .ref t3, .ref t4, .ref t5]) hl5)
      have y6 : Same H6' (upd H6' l (.lst [.ref t0, .ref t1, .ref t2, .ref t3, .ref t4, .ref t5])) := Same.nw hl5
      have el : (upd H6' l (.lst [.ref t0, .ref t1, .ref t2, .ref t3, .ref t4, .ref t5])) l = some (.lst [.ref t0, .ref t1, .ref t2, .ref t3, .ref t4, .ref t5]) := upd_same
      generalize upd H6' l (.lst [.ref t0, .ref t1, .ref t2, .ref t3, .ref t4, .ref t5]) = H7' at s6 y6 el ⊢
      have f5 := y6 _ _ e5
      have f4 := y6 _ _ (y5 _ _ e4)
      have f3 := y6 _ _ (y5 _ _ (y4 _ _ e3))
      have f2 := y6 _ _ (y5 _ _ (y4 _ _ (y3 _ _ e2)))
      have f1 := y6 _ _ (y5 _ _ (y4 _ _ (y3 _ _ (y2 _ _ e1))))
      have f0 := y6 _ _ (y5 _ _ (y4 _ _ (y3 _ _ (y2 _ _ (y1 _ _ e0)))))
      obtain ⟨m, em, hm⟩ := mod_ix M (l := [t0, t1, t2, t3, t4, t5]) (by simp)
      have em : M % 6 = (m : Int) := em
      refine ⟨_, rfl, _, _, rfl, rfl, p6, ?_⟩
      dsimp only
      rw [em]
      match m, hm with
      | 0, _ => exact ⟨l, _, 0, .ref t0, rfl, rfl, SqL.of el, rfl, q t0 H7' (.pull (.str b)) s6 f0 (txS bl)⟩
      | 1, _ => exact ⟨l, _, 1, .ref t1, rfl, rfl, SqL.of el, rfl, q t1 H7' (.push .non) s6 f1 (.inl rfl)⟩
      | 2, _ => exact ⟨l, _, 2, .ref t2, rfl, rfl, SqL.of el, rfl, q t2 H7' (.press (.int 10)) s6 f2 (num 10)⟩
      | 3, _ => exact ⟨l, _, 3, .ref t3, rfl, rfl, SqL.of el, rfl, q t3 H7' (.shoe (.int (-1))) s6 f3 (num (-1))⟩
      | 4, _ => exact ⟨l, _, 4, .ref t4, rfl, rfl, SqL.of el, rfl, q t4 H7' (.store (.bl true)) s6 f4 (.inr ⟨true, rfl⟩)⟩
      | 5, _ => exact ⟨l, _, 5, .ref t5, rfl, rfl, SqL.of el, rfl, q t5 H7' (.storeB (.int 3) (.str nm)) s6 f5 ⟨num 3, txS rsm⟩⟩
      | n + 6, h => exact absurd h (by simp)
end
end WC
/-! What an organ of taken rows is to a console; what is told. -/
namespace WC
open PySem PySem.Spec PyProof.Rows L2
def Org.InK (o : Org) : Prop := ∀ n i, o.tit n = some (("knob" : PySem.Str), i) → i < o.knobs.length
theorem InK.other {o o' : Org} {w n : PySem.Str} {j : Nat} (x : o.InK) (hw : w ≠ "knob") (h1 : o'.tit = o.name n w j) (h2 : o'.knobs = o.knobs) : o'.InK := fun m i e => by
  rw [h1] at e
  rw [h2]
  have e : (if m = n then some (w, j) else o.tit m) = some (("knob" : PySem.Str), i) := e
  by_cases c : m = n
  · rw [if_pos c] at e
    exact absurd (by injection e with e; injection e) hw
  · rw [if_neg c] at e
    exact x m i e
theorem InK.knob {o o' : Org} {n : PySem.Str} {d : Det} (x : o.InK) (h1 : o'.tit = o.name n "knob" o.knobs.length) (h2 : o'.knobs = o.knobs ++ [(n, d)]) : o'.InK := fun m i e => by
  rw [h1] at e
  rw [h2, List.length_append]
  have e : (if m = n then some (("knob" : PySem.Str), o.knobs.length) else o.tit m) = some (("knob" : PySem.Str), i) := e
  by_cases c : m = n
  · rw [if_pos c] at e
    have : o.knobs.length = i := by injection e with e; injection e
    rw [← this]
    exact Nat.lt_succ_self _
  · rw [if_neg c] at e
    exact Nat.lt_succ_of_lt (x m i e)
theorem InK.same {o o' : Org} (x : o.InK) (h1 : o'.tit = o.tit) (h2 : o'.knobs = o.knobs) : o'.InK := fun m i e => by
  rw [h1] at e
  rw [h2]
  exact x m i e
theorem take_inK {o o' : Org} {r : Row} (x : o.InK) (h : o.take r = some o') : o'.InK := by
  cases r with
  | board n kk =>
    have ht : (if o.fresh n = true ∧ (1 ≤ kk ∧ kk ≤ 61) ∧ o.manuals.length ≠ 5 then some { o with latest := none, tit := o.name n "board" o.manuals.length, ntit := o.ntit + 1, manuals := o.manuals ++ [(n, kk)] } else none) = some o' := h
    split at ht
    · obtain rfl := Option.some.inj ht
      exact InK.other x (show ("board" : PySem.Str) ≠ "knob" by decide +kernel) rfl rfl
    · cases ht
  | rank n pp ww =>
    have ht : (if o.fresh n = true ∧ (1 ≤ pp ∧ pp ≤ 97) ∧ (0 ≤ ww ∧ ww ≤ 1000000000) ∧ o.npipes ≠ 12 then some { o with latest := none, tit := o.name n "rank" o.npipes, ntit := o.ntit + 1, npipes := o.npipes + 1 } else none) = some o' := h
    split at ht
    · obtain rfl := Option.some.inj ht
      exact InK.other x (show ("rank" : PySem.Str) ≠ "knob" by decide +kernel) rfl rfl
    · cases ht
  | stop n b =>
    have ht : (match o.titled "board" b with | some i => if o.fresh n = true ∧ o.many "stop" ≠ 24 then some { o.knob n (.stop i) with latest := some o.knobs.length, nlines := 0 } else none | none => none) = some o' := h
    split at ht
    · split at ht
      · obtain rfl := Option.some.inj ht
        exact InK.knob x rfl rfl
      · cases ht
    · cases ht
  | mute n b =>
    have ht : (match o.titled "board" b with | some i => if o.fresh n = true ∧ o.many "mute" ≠ 5 then some { o.knob n (.mute i) with latest := none } else none | none => none) = some o' := h
    split at ht
    · split at ht
      · obtain rfl := Option.some.inj ht
        exact InK.knob x rfl rfl
      · cases ht
    · cases ht
  | coupler n f g sh =>
    have ht : (match o.titled "board" f, o.titled "board" g with
      | some i, some j => if o.fresh n = true ∧ (-60 ≤ sh ∧ sh ≤ 60) ∧ o.many "coupler" ≠ 12 then some { o.knob n (.coup i j sh) with latest := none } else none
      | _, _ => none) = some o' := h
    split at ht
    · split at ht
      · obtain rfl := Option.some.inj ht
        exact InK.knob x rfl rfl
      · cases ht
    · cases ht
  | step n ns =>
    have ht : (match o.stepNs (n :: ns) [] with
      | some is => if o.stairs.length ≠ 12 then some { o with latest := none, stairs := o.stairs ++ [setOf is] } else none
      | none => none) = some o' := h
    split at ht
    · split at ht
      · obtain rfl := Option.some.inj ht
        exact InK.same x rfl rfl
      · cases ht
    · cases ht
  | line rn sf l h2 =>
    have ht : (match o.latest, o.titled "rank" rn with
      | some i, some _ => (match o.knobs[i]? with
        | some (_, .stop b) => (match o.manuals[b]? with
          | some (_, keys) => if (-200 ≤ sf ∧ sf ≤ 200) ∧ (0 ≤ h2 ∧ h2 ≤ keys - 1) ∧ (0 ≤ l ∧ l ≤ h2) ∧ o.nlines < 4 then some { o with nlines := o.nlines + 1 } else none
          | none => none)
        | _ => none)
      | _, _ => none) = some o' := h
    split at ht
    · split at ht
      · split at ht
        · split at ht
          · obtain rfl := Option.some.inj ht
            exact InK.same x rfl rfl
          · cases ht
        · cases ht
      · cases ht
    · cases ht
theorem takes_ok : ∀ (rs : List Row) (o f : Org) (k : Nat), o.Sz k → o.InK → Org.takes o rs = some f → f.Sz (k + rs.length) ∧ f.InK
  | [], o, f, k, s, x, h => by
    obtain rfl : o = f := Option.some.inj h
    exact ⟨s, x⟩
  | r :: rs, o, f, k, s, x, h => by
    obtain ⟨o1, k1, k2⟩ := takes_cons h
    have z := takes_ok rs _ f (k + 1) (take_sz s k1) (fun n i e => take_inK x k1 n i e) k2
    rw [List.length_cons, show k + (rs.length + 1) = k + 1 + rs.length by omega]
    exact z
theorem Good.ok {rs : List Row} {o : Org} (g : Good rs o) : o.Ok := by
  obtain ⟨s, x⟩ := takes_ok rs {} o 0 ⟨Nat.le_refl _, Nat.le_refl _, Nat.le_refl _, Nat.le_refl _, Nat.le_refl _, Nat.le_refl _⟩ (fun n i e => by cases e) g.tk
  refine ⟨?_, x⟩
  have := s.kn
  have := g.l2
  omega
/-! ### what is told -/
abbrev Ent : Type := Deed × Res × List Int
inductive Runs (o : Org) : Con → List Ent → Con → Prop
  | nil (q : Con) : Runs o q [] q
  | cons {q q' : Con} {d : Deed} {es : List Ent} : Runs o (act o q d).2 es q' → Runs o q ((d, (act o q d).1, (act o q d).2.stood o) :: es) q'
theorem Runs.snoc {o : Org} {q q' : Con} {es : List Ent} (x : Runs o q es q') (d : Deed) : Runs o q (es ++ [(d, (act o q' d).1, (act o q' d).2.stood o)]) (act o q' d).2 := by
  induction x with
  | nil q => exact .cons (.nil _)
  | cons h ih => exact .cons ih
theorem Runs.last {o : Org} {q q' : Con} {es : List Ent} (x : Runs o q es q') : es ≠ [] → ∃ e, es[es.length - 1]? = some e ∧ e.2.2 = q'.stood o := by
  induction x with
  | nil q => exact fun h => absurd rfl h
  | cons h ih =>
    intro _
    cases h with
    | nil => exact ⟨_, rfl, rfl⟩
    | cons h2 =>
      obtain ⟨e, e1, e2⟩ := ih (by simp)
      refine ⟨e, ?_, e2⟩
      rw [List.length_cons, Nat.add_sub_cancel]
      rw [List.length_cons, Nat.add_sub_cancel] at e1
      rw [List.length_cons, List.getElem?_cons_succ]
      exact e1
def EntAt (H : Hp) (t : Addr) (e : Ent) : Prop := ∃ (td tq : Addr) (v : V), H t = some (.tup [.ref td, v, .ref tq]) ∧ H td = some (.tup e.1.vals) ∧ e.1.wf ∧ RAt H v e.2.1 ∧ H tq = some (.tup (e.2.2.map V.int))
def ToldAt (H : Hp) (T : Addr) (es : List Ent) : Prop := ∃ ts : List Addr, H T = some (.lst (ts.map V.ref)) ∧ Paired (EntAt H) ts es
section
variable {H H' : Hp} {T t c m T' : Addr} {e : Ent} {es : List Ent} {v : V} {r : Res}
theorem RAt.imp (x : RAt H v r) (h : ∀ l (z : PySem.Str), H l = some (.lst [.str z]) → H' l = some (.lst [.str z])) : RAt H' v r := by
  cases r with
  | bl b => exact x
  | non => exact x
  | no y =>
    obtain ⟨l, h1, h2⟩ := x
    exact ⟨l, h1, h _ _ h2⟩
theorem EntAt.imp (x : EntAt H t e) (h1 : ∀ l (z : PySem.Str), H l = some (.lst [.str z]) → H' l = some (.lst [.str z])) (h2 : ∀ b xs, H b = some (.tup xs) → H' b = some (.tup xs)) : EntAt H' t e := by
  obtain ⟨td, tq, v, a1, a2, a3, a4, a5⟩ := x
  exact ⟨td, tq, v, h2 _ _ a1, h2 _ _ a2, a3, a4.imp h1, h2 _ _ a5⟩
theorem ToldAt.same (x : ToldAt H T es) (s : Same H H') : ToldAt H' T es := by
  obtain ⟨ts, h1, h2⟩ := x
  exact ⟨ts, s _ _ h1, h2.imp fun t e z => z.imp (fun l y k => s _ _ k) fun b xs k => s _ _ k⟩
/-- a console, and a list of what is told, are changed: texts and entries stand -/
theorem chg (k : Kp [c, m, T'] H H') {us : List Addr} {K : PySem.W.Frag} {dx : Addr} {fs : List (PySem.Str × V)} {kvs : List (Key × V)} (hc : H c = some (.ins (cConsole K) dx fs)) (hm : H m = some (.dK kvs)) (hT : H T' = some (.lst (us.map V.ref))) :
    (∀ l (z : PySem.Str), H l = some (.lst [.str z]) → H' l = some (.lst [.str z])) ∧ ∀ b xs, H b = some (.tup xs) → H' b = some (.tup xs) := by
  refine ⟨fun l z e => k.at e ?_, fun b xs e => k.at e ?_⟩
  · have z1 : l ≠ c := ne_of e hc (by intro y; cases y)
    have z2 : l ≠ m := ne_of e hm (by intro y; cases y)
    have z3 : l ≠ T' := ne_of e hT (by
      intro y
      cases us with
      | nil => cases y
      | cons u us => cases y)
    simp [z1, z2, z3]
  · have z1 : b ≠ c := ne_of e hc (by intro y; cases y)
    have z2 : b ≠ m := ne_of e hm (by intro y; cases y)
    have z3 : b ≠ T' := ne_of e hT (by intro y; cases y)
    simp [z1, z2, z3]
end
/-! ### data -/
section
variable {K : PySem.W.Frag} {H : Hp} {v : V} {r : Res}
theorem RAt.dp (x : RAt H v r) : Dp K H v r.data := by
  cases r with
  | bl b =>
    obtain rfl : v = .bl b := x
    exact .bl b
  | non =>
    obtain rfl : v = .non := x
    exact .non
  | no y =>
    obtain ⟨l, rfl, h⟩ := x
    exact .lst (SqL.of h) (.cons (.str _) .nil)
theorem data_shaped (r : Res) : SeqAt.shaped r.data = true := by
  cases r with
  | bl b => rfl
  | non => rfl
  | no y => cases y <;> decide +kernel
theorem data_eqv (r : Res) : PyData.eqv r.data r.data = true := by
  refine SeqAt.eqv_refl _ ?_
  exact SeqAt.canLay_of_shaped (data_shaped r)
theorem dpInts : ∀ l : List Int, DpAll K H (l.map V.int) (l.map PyData.int)
  | [] => .nil
  | i :: l => .cons (.int i) (dpInts l)
theorem stood_shaped (o : Org) (q : Con) : SeqAt.shaped (.tuple ((q.stood o).map PyData.int)) = true := rfl
end
end WC
/-! law. -/
namespace WC
open PySem PySem.Spec PyProof.Rows L2
/-- a console with the list of what it was told -/
def Lane (K : PySem.W.Frag) (H : Hp) (A : OA) (o : Org) (c dx m T : Addr) (n : Nat) : Prop := ∃ q es, ConAt K H A c dx m q n ∧ ToldAt H T es ∧ Runs o {} es q ∧ es.length ≤ n
section
variable {K : PySem.W.Frag} {H H' : Hp} {A A' : OA} {o : Org} {c dx m T c' dx' m' T' : Addr} {q q' : Con} {n n' : Nat} {us : List Addr}
theorem ConAt.mv (x : ConAt K H A c dx m q n) (h : ∀ b u, H b = some u → (∀ ls, u ≠ .lst ls) → H' b = some u) : ConAt K H' A c dx m q n := by
  obtain ⟨kvs, e, hl, z⟩ := x.me
  exact ⟨h _ _ x.ob (by intro ls y; cases y), x.oc, x.om, kvs, h _ _ e (by intro ls y; cases y), hl, fun i => (z i).imp fun p C dx fs w _ => h _ _ w (by intro ls y; cases y)⟩
theorem ConAt.kp3 (x : ConAt K H A c dx m q n) (y : ConAt K H A' c' dx' m' q' n') {ls : List V} (hT : H T' = some (.lst ls)) (hc : c ≠ c') (hm : m ≠ m') (k : Kp [c', m', T'] H H') : ConAt K H' A c dx m q n := by
  obtain ⟨kvs, e, hl, h⟩ := x.me
  obtain ⟨kvs', e', _⟩ := y.me
  refine ⟨k.at x.ob ?_, x.oc, x.om, kvs, k.at e ?_, hl, fun i => (h i).imp fun p C dx fs z l => k.at z ?_⟩
  · have z : c ≠ m' := ne_nF x.ob e' (by show 4 ≠ 77; decide)
    have z2 : c ≠ T' := ne_of x.ob hT (by intro w; cases w)
    simp [hc, z, z2]
  · have z : m ≠ c' := ne_nF e y.ob (by show 77 ≠ 4; decide)
    have z2 : m ≠ T' := ne_of e hT (by intro w; cases w)
    simp [hm, z, z2]
  · have z1 : p ≠ c' := ne_nF z y.ob (by show fs.length ≠ 4; omega)
    have z2 : p ≠ m' := ne_nF z e' (by show fs.length ≠ 77; omega)
    have z3 : p ≠ T' := ne_of z hT (by intro w; cases w)
    simp [z1, z2, z3]
/-- the other console's turn -/
theorem Lane.oth (x : Lane K H A o c dx m T n) (y : ConAt K H A' c' dx' m' q' n') (hT : H T' = some (.lst (us.map V.ref))) (hc : c ≠ c') (hm : m ≠ m') (hTT : T ≠ T') (k : Kp [c', m', T'] H H') : Lane K H' A o c dx m T (n + 1) := by
  obtain ⟨q, es, C, ⟨ts, t1, t2⟩, R, hl⟩ := x
  obtain ⟨kvs', e', _⟩ := y.me
  obtain ⟨g1, g2⟩ := chg k y.ob e' hT
  have z1 : T ≠ c' := ne_of t1 y.ob (by intro w; cases w)
  have z2 : T ≠ m' := ne_of t1 e' (by intro w; cases w)
  exact ⟨q, es, (C.kp3 y hT hc hm k).up, ⟨ts, k.at t1 (by simp [z1, z2, hTT]), t2.imp fun t e z => z.imp g1 g2⟩, R, Nat.le_succ_of_le hl⟩
theorem Lane.same (x : Lane K H A o c dx m T n) (s : Same H H') : Lane K H' A o c dx m T n := by
  obtain ⟨q, es, C, t, R, hl⟩ := x
  exact ⟨q, es, C.same s, t.same s, R, hl⟩
end
section
variable {P : Program} {w : World} {K : PySem.W.Frag} {mg : PySem.Str → Option Value} {base : Heap}
theorem sc_law : FnScope ["_law_script", "_law_rows", "_law_organ_here", "_law_consoles", "_law_told", "_law_cell", "_law_number", "_law_at", "_law_deed_here", "_law_alone", "_law_found", "_law_stood_here"] ["_law_script"] (defScope s_law) := ⟨rfl, rfl, rfl, by decide +kernel, rfl, by decide +kernel, by decide +kernel⟩
def spLaw (K : PySem.W.Frag) : Sp := fun vs H Q _ => ∃ (a : Addr) (ns : List Int), vs = [.ref a] ∧ SqL K H a (ns.map V.int) ∧ ns.length ≤ 63 ∧ ∀ H', Q (.bl true) H'
theorem cutInts2 (ns : List Int) (lo hi : Option Int) : ∃ ms : List Int, cutV (ns.map V.int) lo hi = ms.map V.int ∧ ms.length ≤ ns.length := by
  refine ⟨(ns.drop (HT.sIx ns.length 0 lo)).take (HT.sIx ns.length ns.length hi - HT.sIx ns.length 0 lo), ?_, ?_⟩
  · unfold cutV
    rw [List.length_map, ← List.map_drop, ← List.map_take]
  · rw [List.length_take, List.length_drop]
    omega
theorem ok_law (T : Txt K mg) {fd : FuncData} (F : FnP K ("law", none) "law" "law" s_law [] fd) : FnOk P w K mg base CX0 8 (He.fAd K ("law", none)) fd ["_law_script"] (spLaw K) := by
  have nd := sc_law.nd
  refine fnNox F sc_law (fun vs H Q E h => ?_) (fun cdv Ar outer s0 H vs Q E hr h => ?_)
  · obtain ⟨a, ns, rfl, _⟩ := h
    rfl
  · obtain ⟨a, ns, rfl, ha, hns, k⟩ := h
    have hu := hu_of hr
    refine ⟨_, pss_cons (ps_set (i := 1) nd rfl (.inl rfl) (C8.pe_c (ok_law_organ T) hr (by decide) (by rfl) (pa_cons (C8.pe_c (ok_law_drawn T) hr (by decide) (by rfl) (pa_cons (pv 0) (pa_cons pe_int pa_nil))) pa_nil)))
      (pss_cons (ps_set (i := 2) nd rfl (.inl rfl) (C8.pe_mk (ok_Organ T) hr (by decide) (by rfl) (pa_cons (pv 1) pa_nil)))
      (pss_cons (ps_set (i := 3) nd rfl (.inl rfl) (pe_lst (pa_cons (C8.pe_mk (ok_Console T) hr (by decide) (by rfl) (pa_cons (pv 2) pa_nil)) (pa_cons (C8.pe_mk (ok_Console T) hr (by decide) (by rfl) (pa_cons (pv 2) pa_nil)) pa_nil))))
      (pss_cons (ps_set (i := 4) nd rfl (.inl rfl) (pe_lst (pa_cons (pe_lst pa_nil) (pa_cons (pe_lst pa_nil) pa_nil))))
      (pss_cons (ps_for PassesOwn.never rfl (pi_list (pe_slice sl_list (pv 0) (po_some pe_int) (po_some pe_int))) (pg_name (i := 5) nd rfl (.inl rfl))
        (pss_cons (ps_set (i := 6) nd rfl (.inl rfl) (pe_op op_fdiv (pe_op op_mod (pe_op op_mul (pv 5) pe_int) pe_int) pe_int))
        (pss_cons (ps_set (i := 7) nd rfl (.inl rfl) (pe_op op_mod (pe_op op_fdiv (pv 6) pe_int) pe_int))
        (pss_cons (ps_set (i := 8) nd rfl (.inl rfl) (C8.pe_c (ok_law_deed T) hr (by decide) (by rfl) (pa_cons (pv 1) (pa_cons (pe_op op_fdiv (pv 6) pe_int) pa_nil))))
        (pss_one (ps_expr (pe_bm PySem.F.plainAttrs_list PySem.F.slot_list_append PySem.F.type_list_append mt_append (pe_ix ix_list (pv 4) (pv 7) (fun _ _ => rfl)) (pa_cons (pe_tup (pa_cons (pv 8)
          (pa_cons (C8.pe_c (ok_law_do T) hr (by decide) (by rfl) (pa_cons (pe_ix ix_list (pv 3) (pv 7) (fun _ _ => rfl)) (pa_cons (pv 8) pa_nil)))
          (pa_cons (C8.pe_c (ok_law_stood T) hr (by decide) (by rfl) (pa_cons (pe_ix ix_list (pv 3) (pv 7) (fun _ _ => rfl)) pa_nil)) pa_nil)))) pa_nil))))))))
      (pss_cons (ps_for PassesOwn.never rfl (pi_range1 (by rfl) T.n_range (pa_cons pe_int pa_nil)) (pg_name (i := 7) nd rfl (.inl rfl))
        (pss_cons (ps_set (i := 9) nd rfl (.inl rfl) (C8.pe_mk (ok_Console T) hr (by decide) (by rfl) (pa_cons (C8.pe_mk (ok_Organ T) hr (by decide) (by rfl) (pa_cons (pv 1) pa_nil)) pa_nil)))
        (pss_cons (ps_for PassesOwn.never rfl (pi_list (pe_ix ix_list (pv 4) (pv 7) (fun _ _ => rfl))) (pg_tup rfl (pgs_cons (pg_name (i := 8) nd rfl (.inl rfl)) (pgs_cons (pg_name (i := 10) nd rfl (.inl rfl)) (pgs_cons (pg_name (i := 11) nd rfl (.inl rfl)) pgs_nil))))
          (pss_one (ps_if (PW.pt (pw_or (pt_cmpR (op_neD hr.units) (C8.pe_c (ok_law_do T) hr (by decide) (by rfl) (pa_cons (pv 9) (pa_cons (pv 8) pa_nil))) (pv 10) (nomark _)) (pw_or1 (pt_cmpR (op_neD hr.units) (C8.pe_c (ok_law_stood T) hr (by decide) (by rfl) (pa_cons (pv 9) pa_nil)) (pv 11) (nomark _)))))
            (pss_one ps_never) pss_nil)))
        (pss_one (ps_if (PW.pt (pw_and (pt_cmpR (op_neNil (Nat.lt_of_succ_lt hu)) (pe_ix ix_list (pv 4) (pv 7) (fun _ _ => rfl)) (pe_lst pa_nil) (nomark _)) (pw_and1 (pt_cmpR (op_neD hr.units) (C8.pe_c (ok_law_stood T) hr (by decide) (by rfl) (pa_cons (pe_ix ix_list (pv 3) (pv 7) (fun _ _ => rfl)) pa_nil))
            (pe_ix ix_tup (pe_ix ix_list (pe_ix ix_list (pv 4) (pv 7) (fun _ _ => rfl)) (pe_un un_neg pe_int) (fun _ _ => rfl)) pe_int (fun _ _ => rfl)) (nomark _)))))
          (pss_one ps_never) pss_nil)))))
      (pss_one (ps_ret pe_bl))))))), ?_⟩
    -- the rows
    refine ⟨_, rfl, a, ns, 47, rfl, ha, by decide, fun H1 d cl D1 s1 nd0 nc0 => ⟨d, cl, rfl, D1, fun R H2 rs o gd hR k2 nR => ?_⟩⟩
    have s2 : Same H H2 := fun b u e => k2 b u (s1 _ _ e) (by
      have z1 : b ≠ d := ne_of_none e nd0
      have z2 : b ≠ cl := ne_of_none e nc0
      simp [z1, z2])
    have ok := gd.good.ok
    -- the organ
    refine ⟨_, rfl, fun x dx n1 n2 n3 => ⟨H2, x, dx, R, rs, o, rfl, upd_same, fun b u e => (by rw [upd_ne (ne_of_none e n1), upd_ne (ne_of_none e n2)]; exact e), n1, hR, gd.good, fun A H3 hA G3 => ⟨rfl, ?_⟩⟩⟩
    have G := G3.g
    have hRb := hR.same G3.fr
    have sab : SqL K H3 a (ns.map V.int) := (Same.seq (s2.trans G3.fr) ha)
    rw [← hA]
    -- the consoles
    refine ⟨_, rfl, fun c0 dx0 n4 n5 n6 => ⟨H3, A, o, c0, dx0, rfl, upd_same, fun b u e => (by rw [upd_ne (ne_of_none e n4), upd_ne (ne_of_none e n5)]; exact e), n4, G, fun m0 H4 C0 s4 nm0 => ⟨rfl, ?_⟩⟩⟩
    refine ⟨_, rfl, fun c1 dx1 n7 n8 n9 => ⟨H4, A, o, c1, dx1, rfl, upd_same, fun b u e => (by rw [upd_ne (ne_of_none e n7), upd_ne (ne_of_none e n8)]; exact e), n7, G.same s4, fun m1 H5 C1 s5 nm1 => ⟨rfl, ?_⟩⟩⟩
    have c01 : c0 ≠ c1 := ne_of_none C0.ob n7
    have m01 : m0 ≠ m1 := by
      obtain ⟨_, e, _⟩ := C0.me
      exact ne_of_none e nm1
    have C0' := C0.same s5
    have s35 := s4.trans s5
    have nc1 : H3 c1 = none := Same.free s4 n7
    have nm1' : H3 m1 = none := Same.free s4 nm1
    refine ⟨by show 2 ≤ sizeLine; decide, fun Lc hLc => ?_⟩
    -- what is told
    refine ⟨by decide, fun T0 hT0 => ⟨by decide, fun T1 hT1 => ⟨by show 2 ≤ sizeLine; decide, fun Lt hLt => ?_⟩⟩⟩
    have s6 : Same H5 (upd H5 Lc (.lst [.ref c0, .ref c1])) := Same.nw hLc
    have eLc : (upd H5 Lc (.lst [.ref c0, .ref c1])) Lc = some (.lst [.ref c0, .ref c1]) := upd_same
    generalize upd H5 Lc (.lst [.ref c0, .ref c1]) = H6 at hT0 hT1 hLt s6 eLc ⊢
    have s7 : Same H6 (upd H6 T0 (.lst [])) := Same.nw hT0
    have eT0 : (upd H6 T0 (.lst [])) T0 = some (.lst []) := upd_same
    have nT0 : H3 T0 = none := Same.free (s35.trans s6) hT0
    have LcT0 : Lc ≠ T0 := ne_of_none eLc hT0
    generalize upd H6 T0 (.lst []) = H7 at hT1 hLt s7 eT0 ⊢
    have s8 : Same H7 (upd H7 T1 (.lst [])) := Same.nw hT1
    have eT1 : (upd H7 T1 (.lst [])) T1 = some (.lst []) := upd_same
    have nT1 : H3 T1 = none := Same.free ((s35.trans s6).trans s7) hT1
    have LcT1 : Lc ≠ T1 := ne_of_none (s7 _ _ eLc) hT1
    have T01 : T0 ≠ T1 := ne_of_none eT0 hT1
    generalize upd H7 T1 (.lst []) = H8 at hLt s8 eT1 ⊢
    have s9 : Same H8 (upd H8 Lt (.lst [.ref T0, .ref T1])) := Same.nw hLt
    have eLt : (upd H8 Lt (.lst [.ref T0, .ref T1])) Lt = some (.lst [.ref T0, .ref T1]) := upd_same
    have LtT0 : Lt ≠ T0 := (ne_of_none (s8 _ _ eT0) hLt).symm
    have LtT1 : Lt ≠ T1 := (ne_of_none eT1 hLt).symm
    generalize upd H8 Lt (.lst [.ref T0, .ref T1]) = H9 at s9 eLt ⊢
    have s59 : Same H5 H9 := s6.trans (s7.trans (s8.trans s9))
    have s39 : Same H3 H9 := s35.trans s59
    -- the cells
    refine ⟨_, rfl, 2, rfl, 86, rfl, a, _, rfl, Same.seq s39 sab, fun S hS => ?_⟩
    obtain ⟨ms, hms, hml⟩ := cutInts2 ns (some 2) (some 86)
    rw [hms]
    have s10 : Same H9 (upd H9 S (.lst (ms.map V.int))) := Same.nw hS
    have eS : (upd H9 S (.lst (ms.map V.int))) S = some (.lst (ms.map V.int)) := upd_same
    have ST0 : S ≠ T0 := (ne_of_none (s9 _ _ (s8 _ _ eT0)) hS).symm
    have ST1 : S ≠ T1 := (ne_of_none (s9 _ _ eT1) hS).symm
    generalize upd H9 S (.lst (ms.map V.int)) = Hs at s10 eS ⊢
    have s3s : Same H3 Hs := s39.trans s10
    have s5s : Same H5 Hs := s59.trans s10
    have eLcs : Hs Lc = some (.lst [.ref c0, .ref c1]) := s10 _ _ (s9 _ _ (s8 _ _ (s7 _ _ eLc)))
    have eLts : Hs Lt = some (.lst [.ref T0, .ref T1]) := s10 _ _ eLt
    have L0 : Lane K Hs A o c0 dx0 m0 T0 0 := ⟨{}, [], C0'.same s5s, ⟨[], s10 _ _ (s9 _ _ (s8 _ _ eT0)), .nil⟩, .nil _, Nat.le_refl _⟩
    have L1 : Lane K Hs A o c1 dx1 m1 T1 0 := ⟨{}, [], C1.same s5s, ⟨[], s10 _ _ (s9 _ _ eT1), .nil⟩, .nil _, Nat.le_refl _⟩
    have pers : ∀ H', Kp [c0, m0, T0, c1, m1, T1] Hs H' → Same H3 H' ∧ H' Lc = some (.lst [.ref c0, .ref c1]) ∧ H' Lt = some (.lst [.ref T0, .ref T1]) ∧ H' S = some (.lst (ms.map V.int)) := fun H' kk => by
      have obs0 := (C0'.same s5s).ob
      have obs1 := (C1.same s5s).ob
      obtain ⟨kv0, me0, _⟩ := (C0'.same s5s).me
      obtain ⟨kv1, me1, _⟩ := (C1.same s5s).me
      have lists : ∀ b ls, Hs b = some (.lst ls) → b ≠ T0 → b ≠ T1 → H' b = some (.lst ls) := fun b ls e z1 z2 => kk.at e (by
        have a1 : b ≠ c0 := ne_of e obs0 (by intro w; cases w)
        have a2 : b ≠ c1 := ne_of e obs1 (by intro w; cases w)
        have a3 : b ≠ m0 := ne_of e me0 (by intro w; cases w)
        have a4 : b ≠ m1 := ne_of e me1 (by intro w; cases w)
        simp [a1, a2, a3, a4, z1, z2])
      refine ⟨fun b u e => kk.at (s3s _ _ e) ?_, lists _ _ eLcs LcT0 LcT1, lists _ _ eLts LtT0 LtT1, lists _ _ eS ST0 ST1⟩
      have a1 := ne_of_none e n4
      have a2 := ne_of_none e nm0
      have a3 := ne_of_none e nT0
      have a4 := ne_of_none e nc1
      have a5 := ne_of_none e nm1'
      have a6 := ne_of_none e nT1
      simp [a1, a2, a3, a4, a5, a6]
    refine ⟨S, rfl, ⟨_, SqL.of eS⟩, for_list (K := K) (a := S) (xs := ms.map V.int) (fun i σ H' => ∃ y5 y6 y7 y8 : Option V, σ = [some (.ref a), some (.ref R), some (.ref (A.at_ 0)), some (.ref Lc), some (.ref Lt), y5, y6, y7, y8, none, none, none] ∧ Kp [c0, m0, T0, c1, m1, T1] Hs H' ∧ Lane K H' A o c0 dx0 m0 T0 i ∧ Lane K H' A o c1 dx1 m1 T1 i)
      ⟨none, none, none, none, rfl, Kp.rf, L0, L1⟩ (fun i σ H' _ ⟨_, _, _, _, _, kk, _⟩ => SqL.of (pers H' kk).2.2.2) ?_ ?_⟩
    · rintro i y σ H' hi ⟨y5, y6, y7, y8, rfl, kk, La, Lb⟩
      obtain ⟨cell, hcell, rfl⟩ := get_map hi
      have hi63 : i < 63 := Nat.lt_of_lt_of_le (List.getElem?_eq_some_iff.mp hcell).1 (Nat.le_trans hml hns)
      refine ⟨_, rfl, _, _, rfl, rfl, .inr ⟨by decide, by decide⟩, _, _, rfl, rfl, (by show (0 : Int) < 2147483647; decide), _, _, rfl, rfl, (by show (0 : Int) < 8 ∧ (8 : Int) < 1073741824; decide), ?_⟩
      dsimp only
      generalize cell * 1226874159 % 2147483647 / 8 = z
      refine ⟨_, rfl, _, _, rfl, rfl, (by show (0 : Int) < 3 ∧ (3 : Int) < 1073741824; decide), _, _, rfl, rfl, (by show (0 : Int) < 2; decide), ?_⟩
      dsimp only
      obtain ⟨at_, eat, hat⟩ := mod_ix (z / 3) (l := [(), ()]) (by simp)
      have eat : z / 3 % 2 = (at_ : Int) := eat
      have hat : at_ < 2 := hat
      rw [eat]
      have p0 := pers H' kk
      refine ⟨_, rfl, _, rfl, _, _, rfl, rfl, (by show (0 : Int) < 6 ∧ (6 : Int) < 1073741824; decide), R, _, rs, o, rfl, hRb.same p0.1, gd, fun td H1' dd sd etd wfd => ?_⟩
      obtain ⟨c, dx', m, T', c', dxx, m', T'', g1, g2, Lo, Lx, hcc, hmm, hTT, mem, nc, nm, nT, fin⟩ : ∃ (c dx m T c' dx' m' T' : Addr), atI [V.ref c0, .ref c1] (at_ : Int) = some (.ref c) ∧ atI [V.ref T0, .ref T1] (at_ : Int) = some (.ref T) ∧ Lane K H1' A o c dx m T i ∧ Lane K H1' A o c' dx' m' T' i ∧ c' ≠ c ∧ m' ≠ m ∧ T' ≠ T ∧ (∀ b ∈ [c, m, T], b ∈ [c0, m0, T0, c1, m1, T1]) ∧ H3 c = none ∧ H3 m = none ∧ H3 T = none ∧
          ∀ H5, Lane K H5 A o c dx m T (i + 1) → Lane K H5 A o c' dx' m' T' (i + 1) → Lane K H5 A o c0 dx0 m0 T0 (i + 1) ∧ Lane K H5 A o c1 dx1 m1 T1 (i + 1) := by
        match at_, hat with
        | 0, _ => exact ⟨c0, dx0, m0, T0, c1, dx1, m1, T1, rfl, rfl, La.same sd, Lb.same sd, c01.symm, m01.symm, T01.symm, (by simp), n4, nm0, nT0, fun H5 x y => ⟨x, y⟩⟩
        | 1, _ => exact ⟨c1, dx1, m1, T1, c0, dx0, m0, T0, rfl, rfl, Lb.same sd, La.same sd, c01, m01, T01, (by simp), nc1, nm1', nT1, fun H5 x y => ⟨y, x⟩⟩
      have memc := mem c (by simp)
      have memm := mem m (by simp)
      have memT := mem T' (by simp)
      obtain ⟨q, es, C, ⟨ts, t1, t2⟩, Rn, hl⟩ := Lo
      have kk1 : Kp [c0, m0, T0, c1, m1, T1] Hs H1' := kk.tr (Same.kp sd)
      have p1 := pers H1' kk1
      have tsl : (ts.map V.ref).length < sizeLine := by
        rw [List.length_map, Paired.length t2]
        exact lt_line (by omega)
      refine ⟨_, rfl, _, rfl, Lt, _, _, _, rfl, rfl, SqL.of p1.2.2.1, g2, .inl ⟨rfl, _, SqL.of t1⟩, ?_⟩
      refine ⟨_, rfl, _, rfl, _, rfl, Lc, _, _, _, rfl, rfl, SqL.of p1.2.1, g1, _, rfl, A, o, c, dx', m, q, i, td, dd, rfl, etd, wfd, G.same p1.1, ok, C, by omega, fun v H2' rv C2 k2 => ?_⟩
      have kk2 : Kp [c0, m0, T0, c1, m1, T1] Hs H2' := kk1.tr (k2.mo fun b hb => mem b (by
        rcases List.mem_cons.mp hb with h | h
        · rw [h]; simp
        · rw [List.mem_singleton] at h
          rw [h]; simp))
      have p2 := pers H2' kk2
      refine ⟨_, rfl, _, rfl, Lc, _, _, _, rfl, rfl, SqL.of p2.2.1, g1, A, o, c, dx', m, _, i + 1, rfl, G.same p2.1, C2, fun H3' tq s3 ntq etq => ?_⟩
      refine ⟨by show 3 ≤ sizeLine; decide, fun t nt => ?_⟩
      obtain ⟨kvs, me, _⟩ := C.me
      have Tc : T' ≠ c := ne_of t1 C.ob (by intro w; cases w)
      have Tm : T' ≠ m := ne_of t1 me (by intro w; cases w)
      have tdc : td ≠ c := ne_of etd C.ob (by intro w; cases w)
      have tdm : td ≠ m := ne_of etd me (by intro w; cases w)
      have s34 : Same H3' (upd H3' t (.tup [.ref td, v, .ref tq])) := Same.nw nt
      have t4 : (upd H3' t (.tup [.ref td, v, .ref tq])) T' = some (.lst (ts.map V.ref)) := s34 _ _ (s3 _ _ (k2.at t1 (by simp [Tc, Tm])))
      have td4 : (upd H3' t (.tup [.ref td, v, .ref tq])) td = some (.tup dd.vals) := s34 _ _ (s3 _ _ (k2.at etd (by simp [tdc, tdm])))
      have C4 := (C2.same s3).same s34
      have rv4 : RAt (upd H3' t (.tup [.ref td, v, .ref tq])) v (act o q dd).1 := rv.imp fun l z e => s34 _ _ (s3 _ _ e)
      have tq4 := s34 _ _ etq
      have tt4 : (upd H3' t (.tup [.ref td, v, .ref tq])) t = some (.tup [.ref td, v, .ref tq]) := upd_same
      have k14 : Kp [c, m] H1' (upd H3' t (.tup [.ref td, v, .ref tq])) := k2.tr (Same.kp (s3.trans s34))
      generalize upd H3' t (.tup [.ref td, v, .ref tq]) = H4' at s34 t4 td4 C4 rv4 tq4 tt4 k14 ⊢
      refine ⟨T', _, .ref t, rfl, rfl, t4, tsl, ?_⟩
      have k45 : Kp [c, m, T'] H4' (upd H4' T' (.lst (ts.map V.ref ++ [.ref t]))) := Kp.up (by simp)
      have k15 : Kp [c, m, T'] H1' (upd H4' T' (.lst (ts.map V.ref ++ [.ref t]))) := (k14.mo (by
        intro b hb
        rcases List.mem_cons.mp hb with h | h
        · rw [h]; simp
        · rw [List.mem_singleton] at h
          rw [h]; simp)).tr k45
      obtain ⟨e1, e2⟩ := chg k15 C.ob me t1
      obtain ⟨kvs4, me4, _⟩ := C4.me
      obtain ⟨e3, e4⟩ := chg k45 C4.ob me4 t4
      have own : Lane K (upd H4' T' (.lst (ts.map V.ref ++ [.ref t]))) A o c dx' m T' (i + 1) := by
        refine ⟨(act o q dd).2, es ++ [(dd, (act o q dd).1, (act o q dd).2.stood o)], C4.mv fun b u e nl => ?_, ⟨ts ++ [t], ?_, (t2.imp fun t e z => z.imp e1 e2).snoc ?_⟩, Rn.snoc dd, by rw [List.length_append]; exact Nat.succ_le_succ hl⟩
        · have bT : b ≠ T' := fun w => by
            rw [w, t4] at e
            exact nl _ (Option.some.inj e).symm
          rw [upd_ne bT]
          exact e
        · rw [upd_same, List.map_append]
          rfl
        · have z : EntAt H4' t (dd, (act o q dd).1, (act o q dd).2.stood o) := ⟨td, tq, v, tt4, td4, wfd, rv4, tq4⟩
          exact z.imp e3 e4
      have oth := Lx.oth C t1 hcc hmm hTT k15
      obtain ⟨f0, f1⟩ := fin _ own oth
      refine ⟨_, _, _, _, rfl, ?_, f0, f1⟩
      exact kk1.tr (k15.mo mem)
    · rintro σ H' ⟨y5, y6, y7, y8, rfl, kk, La, Lb⟩
      rw [List.length_map] at La Lb
      have p0 := pers H' kk
      have n63 : ms.length ≤ 63 := Nat.le_trans hml hns
      clear pers
      obtain ⟨s3', eLc', eLt', _⟩ := p0
      have hRx := hRb.same s3'
      refine ⟨2, rfl, by decide, by decide, for_range (lo := 0) (n := 2) (fun i σ H2' => ∃ y5 y6 y7 y8 y9 y10 y11 : Option V, σ = [some (.ref a), some (.ref R), some (.ref (A.at_ 0)), some (.ref Lc), some (.ref Lt), y5, y6, y7, y8, y9, y10, y11] ∧ Same H' H2')
        ⟨_, _, _, _, _, _, _, rfl, Same.refl H'⟩ ?_ ?_⟩
      · rintro i σ H2' hi2 ⟨y5, y6, y7, y8, y9, y10, y11, rfl, s2'⟩
        rw [show (0 : Int) + (i : Int) = (i : Int) from Int.zero_add _]
        obtain ⟨c, dx', m, T', g1, g2, q, es, C, ⟨ts, t1, t2⟩, Rn, hl⟩ : ∃ (c dx m T : Addr), atI [V.ref c0, .ref c1] (i : Int) = some (.ref c) ∧ atI [V.ref T0, .ref T1] (i : Int) = some (.ref T) ∧ Lane K H2' A o c dx m T ms.length := by
          match i, hi2 with
          | 0, _ => exact ⟨c0, dx0, m0, T0, rfl, rfl, La.same s2'⟩
          | 1, _ => exact ⟨c1, dx1, m1, T1, rfl, rfl, Lb.same s2'⟩
        have eLc2 := s2' _ _ eLc'
        have eLt2 := s2' _ _ eLt'
        have hR2 := hRx.same s2'
        -- an organ and a console alone
        refine ⟨_, rfl, fun x2 dx2 m1' m2' m3' => ⟨H2', x2, dx2, R, rs, o, rfl, upd_same, fun b u e => (by rw [upd_ne (ne_of_none e m1'), upd_ne (ne_of_none e m2')]; exact e), m1', hR2, gd.good, fun A2 H4 hA2 G2 => ⟨rfl, ?_⟩⟩⟩
        rw [← hA2]
        refine fun ca da m4' m5' m6' => ⟨H4, A2, o, ca, da, rfl, upd_same, fun b u e => (by rw [upd_ne (ne_of_none e m4'), upd_ne (ne_of_none e m5')]; exact e), m4', G2.g, fun ma H5 CA s5' nma => ⟨rfl, ?_⟩⟩
        have s25 : Same H2' H5 := G2.fr.trans s5'
        have nca2 : H2' ca = none := Same.free G2.fr m4'
        have nma2 : H2' ma = none := Same.free G2.fr nma
        -- again
        have keepL : ∀ H6, Kp [ca, ma] H5 H6 → Same H2' H6 := fun H6 k6 b u e => k6.at (s25 _ _ e) (by simp [ne_of_none e nca2, ne_of_none e nma2])
        refine ⟨_, rfl, _, rfl, Lt, _, _, _, rfl, rfl, SqL.of (s25 _ _ eLt2), g2, T', rfl, ⟨_, SqL.of (s25 _ _ t1)⟩, ?_⟩
        have tl : (ts.map V.ref).length = es.length := by rw [List.length_map, Paired.length t2]
        refine for_list (K := K) (a := T') (xs := ts.map V.ref) (fun j σ H6 => ∃ (y8 y10 y11 : Option V) (qj : Con), σ = [some (.ref a), some (.ref R), some (.ref (A.at_ 0)), some (.ref Lc), some (.ref Lt), y5, y6, some (.int (i : Int)), y8, some (.ref ca), y10, y11] ∧ Kp [ca, ma] H5 H6 ∧ ConAt K H6 A2 ca da ma qj j ∧ Runs o qj (es.drop j) q)
          ⟨_, _, _, {}, rfl, Kp.rf, CA, Rn⟩ (fun j σ H6 _ ⟨_, _, _, _, _, k6, _⟩ => SqL.of (keepL H6 k6 _ _ t1)) ?_ ?_
        · rintro j y σ H6 hj ⟨z8, z10, z11, qj, rfl, k6, Cj, Rj⟩
          obtain ⟨t, ht, rfl⟩ := get_map hj
          obtain ⟨e, he, hent⟩ := t2.getL ht
          have hjl : j < es.length := (List.getElem?_eq_some_iff.mp he).1
          have hd : es.drop j = e :: es.drop (j + 1) := by
            obtain ⟨hlt, hee⟩ := List.getElem?_eq_some_iff.mp he
            rw [← hee]
            exact List.drop_eq_getElem_cons hlt
          rw [hd] at Rj
          have s26 := keepL H6 k6
          obtain ⟨td, tq, v, b1, b2, b3, b4, b5⟩ := hent.imp (fun l z w => s26 _ _ w) (fun b xs w => s26 _ _ w)
          refine ⟨t, _, rfl, SqT.of b1, rfl, _, _, rfl, _, _, rfl, _, _, rfl, rfl, ?_⟩
          cases Rj with
          | cons Rj' =>
            rename_i dd
            have b2 : H6 td = some (.tup dd.vals) := b2
            have b3 : dd.wf := b3
            have b4 : RAt H6 v (act o qj dd).1 := b4
            have b5 : H6 tq = some (.tup (((act o qj dd).2.stood o).map V.int)) := b5
            have G6 : OrgAt K H6 A2 o := (G2.g.same s5').kpC1 CA k6
            refine ⟨_, rfl, _, rfl, A2, o, ca, da, ma, qj, j, td, dd, rfl, b2, b3, G6, ok, Cj, by omega, fun v7 H7' rv7 C7 k7 => ?_⟩
            have k57 : Kp [ca, ma] H5 H7' := k6.tr k7
            obtain ⟨kvj, mej, _⟩ := Cj.me
            have b4' : RAt H7' v (act o qj dd).1 := b4.imp fun l z w => k7.at w (by
              have w1 : l ≠ ca := ne_of w Cj.ob (by intro y; cases y)
              have w2 : l ≠ ma := ne_of w mej (by intro y; cases y)
              simp [w1, w2])
            have b5' : H7' tq = some (.tup (((act o qj dd).2.stood o).map V.int)) := k7.at b5 (by
              have w1 : tq ≠ ca := ne_of b5 Cj.ob (by intro y; cases y)
              have w2 : tq ≠ ma := ne_of b5 mej (by intro y; cases y)
              simp [w1, w2])
            refine ⟨_, rfl, _, _, rv7.dp, b4'.dp, data_shaped _, data_shaped _, ?_⟩
            rw [data_eqv]
            have G7 : OrgAt K H7' A2 o := (G2.g.same s5').kpC1 CA k57
            refine ⟨_, rfl, iteF ⟨_, rfl, A2, o, ca, da, ma, _, j + 1, rfl, G7, C7, fun H8' t8 s8' nt8 et8 => ?_⟩⟩
            refine ⟨_, rfl, .tuple (((act o qj dd).2.stood o).map PyData.int), .tuple (((act o qj dd).2.stood o).map PyData.int), .tup (SqT.of et8) (dpInts _), .tup (SqT.of (s8' _ _ b5')) (dpInts _), stood_shaped _ _, stood_shaped _ _, ?_⟩
            rw [SeqAt.eqv_refl _ (SeqAt.canLay_of_shaped (stood_shaped o (act o qj dd).2))]
            refine ⟨_, rfl, iteF ⟨_, _, _, (act o qj dd).2, rfl, k57.tr (Same.kp s8'), C7.same s8', Rj'⟩⟩
        · rintro σ H6 ⟨z8, z10, z11, qj, rfl, k6, Cj, Rj⟩
          have s26 := keepL H6 k6
          refine ⟨_, rfl, _, rfl, Lt, _, _, _, rfl, rfl, SqL.of (s26 _ _ eLt2), g2, by decide, fun l hl6 => ?_⟩
          have s67 := s26.trans (Same.nw (o := .lst []) hl6)
          have t7 := s67 _ _ t1
          refine ⟨T', l, _, rfl, rfl, SqL.of t7, SqL.of upd_same, _, rfl, ?_⟩
          by_cases hes : es = []
          · have : ts.map V.ref = [] := List.eq_nil_of_length_eq_zero (by rw [tl, hes]; rfl)
            rw [this]
            exact iteF (iteF ⟨_, _, _, _, _, _, _, rfl, s2'.trans s67⟩)
          · have tne : ((ts.map V.ref).isEmpty != true) = true := by
              have : ts.map V.ref ≠ [] := fun w => hes (List.eq_nil_of_length_eq_zero (by rw [← tl, w]; rfl))
              cases e : ts.map V.ref with
              | nil => exact absurd e this
              | cons => rfl
            rw [tne]
            refine iteT ⟨_, rfl, _, rfl, Lc, _, _, _, rfl, rfl, SqL.of (s67 _ _ eLc2), g1, A, o, c, dx', m, q, _, rfl, G.same ((s3'.trans s2').trans s67), C.same s67, fun H8 t8 s8 nt8 et8 => ?_⟩
            have s28 := s67.trans s8
            obtain ⟨e, he, hst⟩ := Rn.last hes
            obtain ⟨te, hte, hent⟩ := t2.getR he
            obtain ⟨td, tq, v, b1, b2, b3, b4, b5⟩ := hent.imp (fun l z w => s28 _ _ w) (fun b xs w => s28 _ _ w)
            have lastI : atI (ts.map V.ref) (-1) = some (.ref te) := by
              have h1 : (ts.map V.ref)[(ts.map V.ref).length - 1]? = some (.ref te) := by
                rw [tl, List.getElem?_map, hte]
                rfl
              have hpos : 0 < (ts.map V.ref).length := by rw [tl]; exact List.length_pos_iff.mpr hes
              unfold atI ixN
              rw [if_neg (by decide), if_pos (by omega)]
              have e3 : (((ts.map V.ref).length : Int) + -1).toNat = (ts.map V.ref).length - 1 := by omega
              first
              | exact h1
              | (show (ts.map V.ref)[_]? = _; rw [← h1]; congr 1 <;> omega)
            refine ⟨_, rfl, _, rfl, Lt, _, _, _, rfl, rfl, SqL.of (s28 _ _ eLt2), g2, _, rfl, T', _, _, _, rfl, rfl, SqL.of (s28 _ _ t1), lastI, te, _, _, _, rfl, rfl, SqT.of b1, rfl, ?_⟩
            rw [hst] at b5
            refine ⟨.tuple ((q.stood o).map PyData.int), .tuple ((q.stood o).map PyData.int), .tup (SqT.of et8) (dpInts _), .tup (SqT.of b5) (dpInts _), stood_shaped _ _, stood_shaped _ _, ?_⟩
            rw [SeqAt.eqv_refl _ (SeqAt.canLay_of_shaped (stood_shaped o q))]
            exact ⟨_, rfl, iteF ⟨_, _, _, _, _, _, _, rfl, s2'.trans s28⟩⟩
      · rintro σ H2' ⟨y5, y6, y7, y8, y9, y10, y11, rfl, s2'⟩
        exact k _
end
end WC
namespace WC
open PySem PySem.Spec PyProof.Rows L2
def dat (at_ : PySem.Str × Option PySem.Str) (x q : PySem.Str) (st : Stmt) (dv : List He.Dv) : He.DefD := ⟨at_, x, q, defArgs st, defBody st, defScope st, dv, []⟩
def fn : List He.DefD := [dat ("is_whole", none) "is_whole" "is_whole" s_is_whole [],
  dat ("is_name", none) "is_name" "is_name" s_is_name [],
  dat ("set_of", none) "set_of" "set_of" s_set_of [],
  dat ("knobs_of_board", none) "knobs_of_board" "knobs_of_board" s_knobs_of_board [],
  dat ("is_within", none) "is_within" "is_within" s_is_within [],
  dat ("_law_drawn", none) "_law_drawn" "_law_drawn" s_law_drawn [],
  dat ("_law_draw", none) "_law_draw" "_law_draw" s_law_draw [],
  dat ("_law_name", none) "_law_name" "_law_name" s_law_name [],
  dat ("_law_organ", none) "_law_organ" "_law_organ" s_law_organ [],
  dat ("_law_knobs", none) "_law_knobs" "_law_knobs" s_law_knobs [],
  dat ("_law_steps", none) "_law_steps" "_law_steps" s_law_steps [],
  dat ("_law_deed", none) "_law_deed" "_law_deed" s_law_deed [],
  dat ("_law_names", none) "_law_names" "_law_names" s_law_names [],
  dat ("_law_do", none) "_law_do" "_law_do" s_law_do [],
  dat ("_law_stood", none) "_law_stood" "_law_stood" s_law_stood [],
  dat ("law", none) "law" "law" s_law [],
  dat ("Piston", some "__init__") "__init__" "Piston.__init__" s_Piston_init [],
  dat ("Every", some "__init__") "__init__" "Piston.__init__" s_Every_init [],
  dat ("Every", some "put") "put" "Every.put" s_Every_put [],
  dat ("Part", some "__init__") "__init__" "Part.__init__" s_Part_init [],
  dat ("Part", some "put") "put" "Part.put" s_Part_put [],
  dat ("Console", some "__init__") "__init__" "Console.__init__" s_Console_init [],
  dat ("Console", some "knob") "knob" "Console.knob" s_Console_knob [],
  dat ("Console", some "pull") "pull" "Console.pull" s_Console_pull [],
  dat ("Console", some "push") "push" "Console.push" s_Console_push [],
  dat ("Console", some "look_at") "look_at" "Console.look_at" s_Console_look_at [],
  dat ("Console", some "store") "store" "Console.store" s_Console_store [.non],
  dat ("Console", some "press") "press" "Console.press" s_Console_press [],
  dat ("Console", some "cancel") "cancel" "Console.cancel" s_Console_cancel [],
  dat ("Console", some "shoe") "shoe" "Console.shoe" s_Console_shoe [],
  dat ("Console", some "drawn") "drawn" "Console.drawn" s_Console_drawn [],
  dat ("Console", some "knobs") "knobs" "Console.knobs" s_Console_knobs [],
  dat ("Console", some "step") "step" "Console.step" s_Console_step [],
  dat ("Organ", some "__init__") "__init__" "Organ.__init__" s_Organ_init [],
  dat ("Organ", some "take_row") "take_row" "Organ.take_row" s_Organ_take_row [],
  dat ("Organ", some "take_board") "take_board" "Organ.take_board" s_Organ_take_board [],
  dat ("Organ", some "take_rank") "take_rank" "Organ.take_rank" s_Organ_take_rank [],
  dat ("Organ", some "add_knob") "add_knob" "Organ.add_knob" s_Organ_add_knob [],
  dat ("Organ", some "many_of") "many_of" "Organ.many_of" s_Organ_many_of [],
  dat ("Organ", some "take_stop") "take_stop" "Organ.take_stop" s_Organ_take_stop [],
  dat ("Organ", some "take_line") "take_line" "Organ.take_line" s_Organ_take_line [],
  dat ("Organ", some "take_coupler") "take_coupler" "Organ.take_coupler" s_Organ_take_coupler [],
  dat ("Organ", some "take_mute") "take_mute" "Organ.take_mute" s_Organ_take_mute [],
  dat ("Organ", some "take_step") "take_step" "Organ.take_step" s_Organ_take_step [],
  dat ("Organ", some "titled") "titled" "Organ.titled" s_Organ_titled [],
  dat ("Organ", some "knobs") "knobs" "Organ.knobs" s_Organ_knobs [],
  dat ("Organ", some "board_number") "board_number" "Organ.board_number" s_Organ_board_number [],
  dat ("Organ", some "knob_number") "knob_number" "Organ.knob_number" s_Organ_knob_number [],
  dat ("Organ", some "stop") "stop" "Organ.stop" s_Organ_stop [],
  dat ("Organ", some "coupler") "coupler" "Organ.coupler" s_Organ_coupler [],
  dat ("Organ", some "mute") "mute" "Organ.mute" s_Organ_mute [],
  dat ("Organ", some "steps") "steps" "Organ.steps" s_Organ_steps []]
def fa : List He.Fa := [.free "isinstance",
  .free "int",
  .free "bool",
  .free "str",
  .free "list",
  .free "tuple",
  .free "len",
  .free "all",
  .free "sum",
  .free "abs",
  .free "range",
  .free "enumerate",
  .int "MOST" 1200,
  .int "PISTONS" 10,
  .int "MOST_ROWS" 150,
  .int "MOST_BOARDS" 5,
  .int "MOST_KEYS" 61,
  .int "MOST_RANKS" 12,
  .int "MOST_PIPES" 97,
  .int "MOST_WIND" 1000000000,
  .int "MOST_STOPS" 24,
  .int "MOST_LINES" 4,
  .int "MOST_COUPLERS" 12,
  .int "MOST_MUTES" 5,
  .int "MOST_STAIRS" 12,
  .int "FAR" 200,
  .int "FAR_KEYS" 60,
  .str "LETTERS" "abcdefghijklmnopqrstuvwxyz",
  .glo "is_whole",
  .glo "is_name",
  .glo "set_of",
  .glo "knobs_of_board",
  .glo "is_within",
  .glo "_law_drawn",
  .glo "_law_draw",
  .glo "_law_name",
  .glo "_law_organ",
  .glo "_law_knobs",
  .glo "_law_steps",
  .glo "_law_deed",
  .glo "_law_names",
  .glo "_law_do",
  .glo "_law_stood",
  .glo "law",
  .glo "Piston",
  .glo "Every",
  .glo "Part",
  .glo "Console",
  .glo "Organ",
  .glo "OrganError",
  .cls "Piston",
  .cls "Every",
  .cls "Part",
  .cls "Console",
  .cls "Organ",
  .noat "Piston" "stored",
  .noat "Every" "stored",
  .noat "Part" "stored",
  .noat "Part" "whole",
  .noat "Console" "organ",
  .noat "Console" "now",
  .noat "Console" "memory",
  .noat "Console" "foot",
  .noat "Organ" "table",
  .noat "Organ" "manuals",
  .noat "Organ" "pipework",
  .noat "Organ" "draws",
  .noat "Organ" "details",
  .noat "Organ" "stairs",
  .noat "Organ" "titles",
  .noat "Organ" "latest",
  .mkr "Every",
  .mkr "Part",
  .mkr "Console",
  .mkr "Organ",
  .meth "Every" "put",
  .meth "Part" "put",
  .meth "Console" "knob",
  .meth "Console" "pull",
  .meth "Console" "push",
  .meth "Console" "look_at",
  .meth "Console" "store",
  .meth "Console" "press",
  .meth "Console" "cancel",
  .meth "Console" "shoe",
  .meth "Console" "drawn",
  .meth "Console" "knobs",
  .meth "Console" "step",
  .meth "Organ" "take_row",
  .meth "Organ" "take_board",
  .meth "Organ" "take_rank",
  .meth "Organ" "add_knob",
  .meth "Organ" "many_of",
  .meth "Organ" "take_stop",
  .meth "Organ" "take_line",
  .meth "Organ" "take_coupler",
  .meth "Organ" "take_mute",
  .meth "Organ" "take_step",
  .meth "Organ" "titled",
  .meth "Organ" "knobs",
  .meth "Organ" "board_number",
  .meth "Organ" "knob_number",
  .meth "Organ" "stop",
  .meth "Organ" "coupler",
  .meth "Organ" "mute",
  .meth "Organ" "steps",
  .glo "NoKnob",
  .exc "NoKnob",
  .exm "NoKnob" "OrganError" true,
  .glo "NoPiston",
  .exc "NoPiston",
  .exm "NoPiston" "OrganError" true,
  .glo "NoBoard",
  .exc "NoBoard",
  .exm "NoBoard" "OrganError" true,
  .glo "NoStep",
  .exc "NoStep",
  .exm "NoStep" "OrganError" true]
def exNames : List PySem.Str := ["NoKnob", "NoPiston", "NoBoard", "NoStep"]
def exOk (K : PySem.W.Frag) (x : PySem.Str) : Bool := He.eqO (PySem.W.findIn K (.ref (He.ga K x)) "__getattribute__") (some (some (.builtin "BaseException.__getattribute__"))) &&
  (He.eqO (PySem.W.findIn K (.ref (He.ga K x)) "__getattr__") (some none) && (PySem.W.hasDictIn K (He.ga K x) &&
  (He.eqO (PySem.W.findIn K (.ref (He.ga K x)) "__class__") (some (some (.builtin "object.__class__"))) && decide (PySem.W.mroIn K (He.ga K x) (.type "object") = some true))))
def more (K : PySem.W.Frag) : Bool := exNames.all (exOk K) &&
  ((exNames.all fun x => exNames.all fun y => decide (PySem.W.kitOne K (.ref (He.ga K x)) (.ref (He.ga K y)) = some (decide (x = y)))) &&
  (He.eqO (PySem.W.specialIn K (.builtin "object.__class__") "__get__") (some (some (.builtin "getset_descriptor.__get__"))) &&
  (decide (PySem.W.takesIn K (.builtin "object.__class__") = some true) &&
  (PySem.W.readsIn K (cPiston K) (.type "type") &&
  (He.eqO (PySem.W.specialIn K (.ref (cPiston K)) "__getattribute__") (some (some (.builtin "type.__getattribute__"))) &&
  (match PySem.W.findCls K (.ref (cPiston K)) (.type "type") "__init__" with | some (.val (.ref a)) => decide (a = He.fAd K ("Piston", some "__init__")) | _ => false))))))
abbrev R : PySem.W.OpenRow := PySem.W.OpenLaw.row PySem.Challenge.rw_windchest_k40_whole_two_consoles
abbrev AlM : Type := He.AlD × Bool
def asM (n : Nat) (g : Addr → Option Obj) : List Addr := He.asD g n ++ [cStatics]
def obsM (n : Nat) (g : Addr → Option Obj) : AlM := (He.obsD fa fn (He.frG g (asM n g)), more (He.frG g (asM n g)))
structure SaysM (K : PySem.W.Frag) : Prop where
  d : He.SaysD fa fn K
  m : more K = true
def hk : PySem.W.Hook where
  α := AlM
  obs := fun s => obsM 5 s.heap.get?
  val := fun _ => (He.valD fn, true)
  says := fun _ h => ∃ K : PySem.W.Frag, K.In h ∧ SaysM K
  of := fun _ _ e => ⟨_, He.frG_in, ⟨congrArg (fun z : AlM => z.1) e, congrArg (fun z : AlM => z.2) e⟩⟩
  keeps := fun _ _ _ ⟨K, hK, c⟩ k => ⟨K, PySem.W.Frag.In.keeps hK k, c⟩
def ob (s : PySem.W.SharedT) : AlM := obsM 5 (HandSHeadRun.getT s)
theorem ob_eq (s : PySem.W.SharedT) : ob s = hk.obs s.abs := by
  have e : HandSHeadRun.getT s = s.abs.heap.get? := funext (HandSHeadRun.getT_eq s)
  show obsM 5 (HandSHeadRun.getT s) = obsM 5 s.abs.heap.get?
  rw [e]
def loose1 : List PySem.Str := ["_wall", "OrganError", "NoSet", "NoOrgan", "NoKnob", "NoPiston", "NoBoard", "NoStep", "Piston", "Every", "Part", "LETTERS", "is_whole", "is_name", "MOST", "set_of", "PISTONS", "knobs_of_board", "Console", "MOST_ROWS", "MOST_BOARDS", "MOST_KEYS", "MOST_RANKS", "MOST_PIPES", "MOST_WIND", "MOST_STOPS"]
def loose2 : List PySem.Str := ["MOST_LINES", "MOST_COUPLERS", "MOST_MUTES", "MOST_STAIRS", "FAR", "FAR_KEYS", "is_within", "Organ", "_law_drawn", "_law_draw", "_law_name", "_law_organ", "_law_knobs", "_law_steps", "_law_of_board", "_law_deed", "_law_names", "_law_do", "_law_stood"]
theorem run (w : World) : HandSHeadRun.RunEq R (PySem.W.view R.prog [52]) hk ob 15000 (loose1 ++ loose2) w := by
  intro os
  kernel_rfl
theorem txt_of {K : PySem.W.Frag} {mg : PySem.Str → Option Value} {h : Heap} (X : K.In h) (G : h.Ns mainGlobals mg) (c : SaysM K) : Txt K mg := by
  have d := c.d
  have m := c.m
  obtain ⟨m1, m⟩ := He.ba m
  obtain ⟨m2, m⟩ := He.ba m
  obtain ⟨m3, m⟩ := He.ba m
  obtain ⟨m4, m⟩ := He.ba m
  obtain ⟨m5, m⟩ := He.ba m
  obtain ⟨m6, m7⟩ := He.ba m
  have exA : ∀ x ∈ exNames, (He.Fa.glo x) ∈ fa → (He.Fa.exc x) ∈ fa → (He.Fa.exm x "OrganError" true) ∈ fa → ExA K mg x := fun x hx f1 f2 f3 => by
    obtain ⟨q1, q⟩ := He.ba (List.all_eq_true.mp m1 x hx)
    obtain ⟨q2, q⟩ := He.ba q
    obtain ⟨q3, q⟩ := He.ba q
    obtain ⟨q4, q5⟩ := He.ba q
    obtain ⟨e1, e2, e3, e4⟩ := He.exc_ok (d.facts f2)
    exact ⟨He.glo_ok X G (d.facts f1), e1, e2, e3, e4, He.exm_ok (d.facts f3), ⟨He.eqO_ok q1, He.eqO_ok q2, e3, q3, He.eqO_ok q4, He.eqO_ok m3, of_decide_eq_true m4, of_decide_eq_true q5⟩⟩
  refine
  { 
n_isinstance := He.free_ok X G (d.fact 0 (by rfl)),
    n_int := He.free_ok X G (d.fact 1 (by rfl)),
    n_bool := He.free_ok X G (d.fact 2 (by rfl)),
    n_str := He.free_ok X G (d.fact 3 (by rfl)),
    n_list := He.free_ok X G (d.fact 4 (by rfl)),
    n_tuple := He.free_ok X G (d.fact 5 (by rfl)),
    n_len := He.free_ok X G (d.fact 6 (by rfl)),
    n_all := He.free_ok X G (d.fact 7 (by rfl)),
    n_sum := He.free_ok X G (d.fact 8 (by rfl)),
    n_abs := He.free_ok X G (d.fact 9 (by rfl)),
    n_range := He.free_ok X G (d.fact 10 (by rfl)),
    n_enumerate := He.free_ok X G (d.fact 11 (by rfl)),
    i_MOST := He.int_ok X G (d.fact 12 (by rfl)),
    i_PISTONS := He.int_ok X G (d.fact 13 (by rfl)),
    i_MOST_ROWS := He.int_ok X G (d.fact 14 (by rfl)),
    i_MOST_BOARDS := He.int_ok X G (d.fact 15 (by rfl)),
    i_MOST_KEYS := He.int_ok X G (d.fact 16 (by rfl)),
    i_MOST_RANKS := He.int_ok X G (d.fact 17 (by rfl)),
    i_MOST_PIPES := He.int_ok X G (d.fact 18 (by rfl)),
    i_MOST_WIND := He.int_ok X G (d.fact 19 (by rfl)),
    i_MOST_STOPS := He.int_ok X G (d.fact 20 (by rfl)),
    i_MOST_LINES := He.int_ok X G (d.fact 21 (by rfl)),
    i_MOST_COUPLERS := He.int_ok X G (d.fact 22 (by rfl)),
    i_MOST_MUTES := He.int_ok X G (d.fact 23 (by rfl)),
    i_MOST_STAIRS := He.int_ok X G (d.fact 24 (by rfl)),
    i_FAR := He.int_ok X G (d.fact 25 (by rfl)),
    i_FAR_KEYS := He.int_ok X G (d.fact 26 (by rfl)),
    i_LETTERS := He.str_ok X G (d.fact 27 (by rfl)),
    g_is_whole := He.glo_ok X G (d.fact 28 (by rfl)),
    g_is_name := He.glo_ok X G (d.fact 29 (by rfl)),
    g_set_of := He.glo_ok X G (d.fact 30 (by rfl)),
    g_knobs_of_board := He.glo_ok X G (d.fact 31 (by rfl)),
    g_is_within := He.glo_ok X G (d.fact 32 (by rfl)),
    g_law_drawn := He.glo_ok X G (d.fact 33 (by rfl)),
    g_law_draw := He.glo_ok X G (d.fact 34 (by rfl)),
    g_law_name := He.glo_ok X G (d.fact 35 (by rfl)),
    g_law_organ := He.glo_ok X G (d.fact 36 (by rfl)),
    g_law_knobs := He.glo_ok X G (d.fact 37 (by rfl)),
    g_law_steps := He.glo_ok X G (d.fact 38 (by rfl)),
    g_law_deed := He.glo_ok X G (d.fact 39 (by rfl)),
    g_law_names := He.glo_ok X G (d.fact 40 (by rfl)),
    g_law_do := He.glo_ok X G (d.fact 41 (by rfl)),
    g_law_stood := He.glo_ok X G (d.fact 42 (by rfl)),
    g_law := He.glo_ok X G (d.fact 43 (by rfl)),
    g_Piston := He.glo_ok X G (d.fact 44 (by rfl)),
    g_Every := He.glo_ok X G (d.fact 45 (by rfl)),
    g_Part := He.glo_ok X G (d.fact 46 (by rfl)),
    g_Console := He.glo_ok X G (d.fact 47 (by rfl)),
    g_Organ := He.glo_ok X G (d.fact 48 (by rfl)),
    g_OrganError := He.glo_ok X G (d.fact 49 (by rfl)),
    cl_Piston := He.cls_ok (d.fact 50 (by rfl)),
    cl_Every := He.cls_ok (d.fact 51 (by rfl)),
    cl_Part := He.cls_ok (d.fact 52 (by rfl)),
    cl_Console := He.cls_ok (d.fact 53 (by rfl)),
    cl_Organ := He.cls_ok (d.fact 54 (by rfl)),
    a_Piston_stored := He.noat_ok (d.fact 55 (by rfl)),
    a_Every_stored := He.noat_ok (d.fact 56 (by rfl)),
    a_Part_stored := He.noat_ok (d.fact 57 (by rfl)),
    a_Part_whole := He.noat_ok (d.fact 58 (by rfl)),
    a_Console_organ := He.noat_ok (d.fact 59 (by rfl)),
    a_Console_now := He.noat_ok (d.fact 60 (by rfl)),
    a_Console_memory := He.noat_ok (d.fact 61 (by rfl)),
    a_Console_foot := He.noat_ok (d.fact 62 (by rfl)),
    a_Organ_table := He.noat_ok (d.fact 63 (by rfl)),
    a_Organ_manuals := He.noat_ok (d.fact 64 (by rfl)),
    a_Organ_pipework := He.noat_ok (d.fact 65 (by rfl)),
    a_Organ_draws := He.noat_ok (d.fact 66 (by rfl)),
    a_Organ_details := He.noat_ok (d.fact 67 (by rfl)),
    a_Organ_stairs := He.noat_ok (d.fact 68 (by rfl)),
    a_Organ_titles := He.noat_ok (d.fact 69 (by rfl)),
    a_Organ_latest := He.noat_ok (d.fact 70 (by rfl)),
    k_Every := He.mkr_ok (d.fact 71 (by rfl)),
    k_Part := He.mkr_ok (d.fact 72 (by rfl)),
    k_Console := He.mkr_ok (d.fact 73 (by rfl)),
    k_Organ := He.mkr_ok (d.fact 74 (by rfl)),
    m_Every_put := He.meth_ok (d.fact 75 (by rfl)),
    m_Part_put := He.meth_ok (d.fact 76 (by rfl)),
    m_Console_knob := He.meth_ok (d.fact 77 (by rfl)),
    m_Console_pull := He.meth_ok (d.fact 78 (by rfl)),
    m_Console_push := He.meth_ok (d.fact 79 (by rfl)),
    m_Console_look_at := He.meth_ok (d.fact 80 (by rfl)),
    m_Console_store := He.meth_ok (d.fact 81 (by rfl)),
    m_Console_press := He.meth_ok (d.fact 82 (by rfl)),
    m_Console_cancel := He.meth_ok (d.fact 83 (by rfl)),
    m_Console_shoe := He.meth_ok (d.fact 84 (by rfl)),
    m_Console_drawn := He.meth_ok (d.fact 85 (by rfl)),
    m_Console_knobs := He.meth_ok (d.fact 86 (by rfl)),
    m_Console_step := He.meth_ok (d.fact 87 (by rfl)),
    m_Organ_take_row := He.meth_ok (d.fact 88 (by rfl)),
    m_Organ_take_board := He.meth_ok (d.fact 89 (by rfl)),
    m_Organ_take_rank := He.meth_ok (d.fact 90 (by rfl)),
    m_Organ_add_knob := He.meth_ok (d.fact 91 (by rfl)),
    m_Organ_many_of := He.meth_ok (d.fact 92 (by rfl)),
    m_Organ_take_stop := He.meth_ok (d.fact 93 (by rfl)),
    m_Organ_take_line := He.meth_ok (d.fact 94 (by rfl)),
    m_Organ_take_coupler := He.meth_ok (d.fact 95 (by rfl)),
    m_Organ_take_mute := He.meth_ok (d.fact 96 (by rfl)),
    m_Organ_take_step := He.meth_ok (d.fact 97 (by rfl)),
    m_Organ_titled := He.meth_ok (d.fact 98 (by rfl)),
    m_Organ_knobs := He.meth_ok (d.fact 99 (by rfl)),
    m_Organ_board_number := He.meth_ok (d.fact 100 (by rfl)),
    m_Organ_knob_number := He.meth_ok (d.fact 101 (by rfl)),
    m_Organ_stop := He.meth_ok (d.fact 102 (by rfl)),
    m_Organ_coupler := He.meth_ok (d.fact 103 (by rfl)),
    m_Organ_mute := He.meth_ok (d.fact 104 (by rfl)),
    m_Organ_steps := He.meth_ok (d.fact 105 (by rfl)),
    d_is_whole := d.def_ 0 (by rfl),
    d_is_name := d.def_ 1 (by rfl),
    d_set_of := d.def_ 2 (by rfl),
    d_knobs_of_board := d.def_ 3 (by rfl),
    d_is_within := d.def_ 4 (by rfl),
    d_law_drawn := d.def_ 5 (by rfl),
    d_law_draw := d.def_ 6 (by rfl),
    d_law_name := d.def_ 7 (by rfl),
    d_law_organ := d.def_ 8 (by rfl),
    d_law_knobs := d.def_ 9 (by rfl),
    d_law_steps := d.def_ 10 (by rfl),
    d_law_deed := d.def_ 11 (by rfl),
    d_law_names := d.def_ 12 (by rfl),
    d_law_do := d.def_ 13 (by rfl),
    d_law_stood := d.def_ 14 (by rfl),
    d_law := d.def_ 15 (by rfl),
    d_Piston_init := d.def_ 16 (by rfl),
    d_Every_init := d.def_ 17 (by rfl),
    d_Every_put := d.def_ 18 (by rfl),
    d_Part_init := d.def_ 19 (by rfl),
    d_Part_put := d.def_ 20 (by rfl),
    d_Console_init := d.def_ 21 (by rfl),
    d_Console_knob := d.def_ 22 (by rfl),
    d_Console_pull := d.def_ 23 (by rfl),
    d_Console_push := d.def_ 24 (by rfl),
    d_Console_look_at := d.def_ 25 (by rfl),
    d_Console_store := d.def_ 26 (by rfl),
    d_Console_press := d.def_ 27 (by rfl),
    d_Console_cancel := d.def_ 28 (by rfl),
    d_Console_shoe := d.def_ 29 (by rfl),
    d_Console_drawn := d.def_ 30 (by rfl),
    d_Console_knobs := d.def_ 31 (by rfl),
    d_Console_step := d.def_ 32 (by rfl),
    d_Organ_init := d.def_ 33 (by rfl),
    d_Organ_take_row := d.def_ 34 (by rfl),
    d_Organ_take_board := d.def_ 35 (by rfl),
    d_Organ_take_rank := d.def_ 36 (by rfl),
    d_Organ_add_knob := d.def_ 37 (by rfl),
    d_Organ_many_of := d.def_ 38 (by rfl),
    d_Organ_take_stop := d.def_ 39 (by rfl),
    d_Organ_take_line := d.def_ 40 (by rfl),
    d_Organ_take_coupler := d.def_ 41 (by rfl),
    d_Organ_take_mute := d.def_ 42 (by rfl),
    d_Organ_take_step := d.def_ 43 (by rfl),
    d_Organ_titled := d.def_ 44 (by rfl),
    d_Organ_knobs := d.def_ 45 (by rfl),
    d_Organ_board_number := d.def_ 46 (by rfl),
    d_Organ_knob_number := d.def_ 47 (by rfl),
    d_Organ_stop := d.def_ 48 (by rfl),
    d_Organ_coupler := d.def_ 49 (by rfl),
    d_Organ_mute := d.def_ 50 (by rfl),
    d_Organ_steps := d.def_ 51 (by rfl),
    e_NoKnob := exA "NoKnob" (by simp [exNames]) (List.mem_of_getElem? (i := 106) (by rfl)) (List.mem_of_getElem? (i := 107) (by rfl)) (List.mem_of_getElem? (i := 108) (by rfl)),
    e_NoPiston := exA "NoPiston" (by simp [exNames]) (List.mem_of_getElem? (i := 109) (by rfl)) (List.mem_of_getElem? (i := 110) (by rfl)) (List.mem_of_getElem? (i := 111) (by rfl)),
    e_NoBoard := exA "NoBoard" (by simp [exNames]) (List.mem_of_getElem? (i := 112) (by rfl)) (List.mem_of_getElem? (i := 113) (by rfl)) (List.mem_of_getElem? (i := 114) (by rfl)),
    e_NoStep := exA "NoStep" (by simp [exNames]) (List.mem_of_getElem? (i := 115) (by rfl)) (List.mem_of_getElem? (i := 116) (by rfl)) (List.mem_of_getElem? (i := 117) (by rfl)),
    isw := fun x hx y hy => of_decide_eq_true (List.all_eq_true.mp (List.all_eq_true.mp m2 x hx) y hy),
    rdP := ⟨m5, He.eqO_ok m6⟩,
    viP := ?_ }
  have m8 : (match PySem.W.findCls K (.ref (cPiston K)) (.type "type") "__init__" with | some (.val (.ref a)) => decide (a = He.fAd K ("Piston", some "__init__")) | _ => false) = true := m7
  split at m8
  · rename_i a e
    have ea : a = He.fAd K ("Piston", some "__init__") := of_decide_eq_true m8
    rw [ea] at e
    exact ⟨e, rfl⟩
  · cases m8
end WC
open PySem PySem.W PySem.Calls PyProof.Rows
theorem PySem.Challenge.cw_windchest_k40_whole_two_consoles_holds : PySem.Challenge.rw_windchest_k40_whole_two_consoles.Holds := by
  w_on; o_law
  refine HandSHeadRun.head_any (r := WC.R) (q := PySem.W.view WC.R.prog [52]) (H := WC.hk) (ob := WC.ob) (M := 15000) (loose := WC.loose1 ++ WC.loose2) (d := HandSHeadRun.topDef WC.R.prog 52) (kwd := []) WC.ob_eq
    (by kernel_rfl) (fun s => by kernel_rfl) WC.run (by kernel_rfl) (by kernel_rfl) (by kernel_rfl) (by rfl) (by first | assumption | decide +kernel) (by decide +kernel) ⟨rfl, rfl, rfl, rfl, rfl, by decide +kernel⟩ ?hw ?hc
  case hw => w_witness2
  case hc =>
    refine L2.walk_ofE (l := PySem.Challenge.rw_windchest_k40_whole_two_consoles) (n := 63) (k := 8) (x := "_law_script") (CX := L2.CX0) rfl (by decide) (by kernel_rfl) ⟨rfl, by decide, by decide⟩ ?F (fun _ _ _ _ z => z)
    intro w mg fa h Y G hmg0
    obtain ⟨K, KX, c⟩ := Y
    have hmg : mg ("law" : PySem.Str) = some (.ref fa) := by
      have e : (HandSHeadRun.topDef WC.R.prog 52).name = ("law" : PySem.Str) := by kernel_rfl
      rw [← e]
      exact hmg0
    have T : WC.Txt K mg := WC.txt_of KX G c
    have e := hmg.symm.trans T.g_law
    cases e
    obtain ⟨fd, F⟩ := T.d_law
    have hb := L2.FunD.bindsA (ps := ["_law_script"]) F fun _ _ _ _ _ _ us hl => match us, hl with | [_], _ => rfl
    exact ⟨K, fd, WC.spLaw K, KX, fun s v => hb s [v] rfl, fun H a ns hl _ hS => ⟨a, ns, rfl, hS, hl, fun _ => rfl⟩, fun base _ _ => WC.ok_law T F⟩
