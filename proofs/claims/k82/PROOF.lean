import PyProof.Rows.All
import Wide.All
import OpenK.AllK
import Wide.FinOn
import KE.KStateDown
import HandS.ForMost
import HandS.Exc
import HandS.TryOnly
import HandS.TryMany
import HandS.ExcOwn
import HandS.WordsExc
import HandS.Defaults
import HandS.MakeKwOnly
import HandS.Head0
import HandS.Head1
import HandS.Head2
import HandS.HeadEnd
import HandS.HeadHook1
import HandS.HeadHook2
import HandS.HeadHook3
import HandS.HeadHook4
import HandS.Wide
import HandS.Star
import HandS.Flow
import HandS.Set
import HandS.SetKeys
import HandS.IsInst
import HandS.Zip
import HandS.Deep
import HandS.DictComp
import HandS.TupAny
import HandS.Codes
import HandS.Steps
import HandS.Walk
import HandS.More
import HandS.SetTxt0
import HandS.SetTxtIn
import HandS.SetBool
import HandS.SlotsOwn
import HandS.DictTup
import PySem.Challenge.RW_owedanswers_k82_functions_mended
set_option Elab.async false
set_option linter.all false
set_option maxRecDepth 100000
set_option maxHeartbeats 4000000
namespace Ow
open PySem PySem.Spec PyProof.Rows L2
def top (i : Nat) : Stmt := PySem.Challenge.pw_owedanswers_k82_functions_mended.main.body.getD i (.Pass ⟨0, 0, 0, 0⟩)
abbrev R : PySem.W.OpenRow := PySem.W.OpenLaw.row PySem.Challenge.rw_owedanswers_k82_functions_mended
abbrev s_BadFunctionu_initu : Stmt := inClass (top 3) 0
abbrev s_TooManyu_initu : Stmt := inClass (top 4) 0
abbrev s_NotCutu_initu : Stmt := inClass (top 5) 0
abbrev s_BadDooru_initu : Stmt := inClass (top 6) 0
abbrev s_reason_of : Stmt := top 8
abbrev s_is_made_of : Stmt := top 11
abbrev s_is_list_name : Stmt := top 12
abbrev s_rows_of : Stmt := top 14
abbrev s_closed_door : Stmt := top 15
abbrev s_renumbered : Stmt := top 16
abbrev s_mended : Stmt := top 17
abbrev s_is_row : Stmt := top 26
abbrev s_Readeru_initu : Stmt := inClass (top 27) 0
abbrev s_Reader_opener_word : Stmt := inClass (top 27) 1
abbrev s_Reader_is_second : Stmt := inClass (top 27) 2
abbrev s_Reader_is_rescue : Stmt := inClass (top 27) 3
abbrev s_Reader_loop_place : Stmt := inClass (top 27) 4
abbrev s_Reader_may_reset : Stmt := inClass (top 27) 5
abbrev s_Reader_may_middle : Stmt := inClass (top 27) 6
abbrev s_Reader_may_open : Stmt := inClass (top 27) 7
abbrev s_Reader_fits : Stmt := inClass (top 27) 8
abbrev s_Reader_take : Stmt := inClass (top 27) 9
abbrev s_Functionu_initu : Stmt := inClass (top 28) 0
abbrev s_Function_of : Stmt := inClass (top 28) 1
abbrev s_Functionu_lenu : Stmt := inClass (top 28) 2
abbrev s_Functionu_equ : Stmt := inClass (top 28) 3
abbrev s_Functionu_stru : Stmt := inClass (top 28) 4
abbrev s_Function_block : Stmt := inClass (top 28) 5
abbrev s_Function_is_shielded : Stmt := inClass (top 28) 6
abbrev s_Function_waits : Stmt := inClass (top 28) 7
abbrev s_Function_is_step : Stmt := inClass (top 28) 8
abbrev s_Function_step_rows : Stmt := inClass (top 28) 9
abbrev s_Function_shielded : Stmt := inClass (top 28) 10
abbrev s_check_word : Stmt := top 31
abbrev s_Dooru_initu : Stmt := inClass (top 32) 0
abbrev s_Dooru_getitemu : Stmt := inClass (top 32) 1
abbrev s_Dooru_setitemu : Stmt := inClass (top 32) 2
abbrev s_Dooru_iteru : Stmt := inClass (top 32) 3
abbrev s_Door_change : Stmt := inClass (top 32) 4
abbrev s_Door_copy : Stmt := inClass (top 32) 5
abbrev s_l_bag : Stmt := top 34
abbrev s_l_take : Stmt := top 35
abbrev s_l_of : Stmt := top 36
abbrev s_l_names : Stmt := top 37
abbrev s_l_may_reset : Stmt := top 38
abbrev s_l_plain : Stmt := top 39
abbrev s_l_second : Stmt := top 40
abbrev s_l_loop : Stmt := top 41
abbrev s_l_try : Stmt := top 42
abbrev s_l_retry : Stmt := top 43
abbrev s_l_piece : Stmt := top 44
abbrev s_l_group : Stmt := top 45
abbrev s_l_rows : Stmt := top 46
abbrev s_l_door : Stmt := top 47
abbrev s_l_moved : Stmt := top 48
abbrev s_l_ways : Stmt := top 49
abbrev s_l_left_out : Stmt := top 50
abbrev s_l_right : Stmt := top 51
abbrev s_law : Stmt := top 52
/-- a def of the text, as it stands behind the top -/
abbrev Df (K : PySem.W.Frag) (p : Str × Option Str) (x qual : Str) (st : Stmt) : Prop := ∃ fd, FunD K x qual (defArgs st) (defBody st) (defScope st) [] [] (He.fAd K p) fd
structure Tx (K : PySem.W.Frag) (mg : Str → Option Value) : Prop where
  f_reason_of : Df K (("reason_of" : Str), none) ("reason_of" : Str) ("reason_of" : Str) s_reason_of
  g_reason_of : mg ("reason_of" : Str) = some (.ref (He.ga K ("reason_of" : Str)))
  f_is_made_of : Df K (("is_made_of" : Str), none) ("is_made_of" : Str) ("is_made_of" : Str) s_is_made_of
  g_is_made_of : mg ("is_made_of" : Str) = some (.ref (He.ga K ("is_made_of" : Str)))
  f_is_list_name : Df K (("is_list_name" : Str), none) ("is_list_name" : Str) ("is_list_name" : Str) s_is_list_name
  g_is_list_name : mg ("is_list_name" : Str) = some (.ref (He.ga K ("is_list_name" : Str)))
  f_rows_of : Df K (("rows_of" : Str), none) ("rows_of" : Str) ("rows_of" : Str) s_rows_of
  g_rows_of : mg ("rows_of" : Str) = some (.ref (He.ga K ("rows_of" : Str)))
  f_closed_door : Df K (("closed_door" : Str), none) ("closed_door" : Str) ("closed_door" : Str) s_closed_door
  g_closed_door : mg ("closed_door" : Str) = some (.ref (He.ga K ("closed_door" : Str)))
  f_renumbered : Df K (("renumbered" : Str), none) ("renumbered" : Str) ("renumbered" : Str) s_renumbered
  g_renumbered : mg ("renumbered" : Str) = some (.ref (He.ga K ("renumbered" : Str)))
  f_mended : Df K (("mended" : Str), none) ("mended" : Str) ("mended" : Str) s_mended
  g_mended : mg ("mended" : Str) = some (.ref (He.ga K ("mended" : Str)))
  f_is_row : Df K (("is_row" : Str), none) ("is_row" : Str) ("is_row" : Str) s_is_row
  g_is_row : mg ("is_row" : Str) = some (.ref (He.ga K ("is_row" : Str)))
  f_Readeru_initu : Df K (("Reader" : Str), some ("__init__" : Str)) ("__init__" : Str) ("Reader.__init__" : Str) s_Readeru_initu
  m_Readeru_initu : Mk K (He.ga K ("Reader" : Str)) (He.fAd K (("Reader" : Str), some ("__init__" : Str)))
  f_Reader_opener_word : Df K (("Reader" : Str), some ("opener_word" : Str)) ("opener_word" : Str) ("Reader.opener_word" : Str) s_Reader_opener_word
  m_Reader_opener_word : Meth K (He.ga K ("Reader" : Str)) ("opener_word" : Str) (He.fAd K (("Reader" : Str), some ("opener_word" : Str)))
  f_Reader_is_second : Df K (("Reader" : Str), some ("is_second" : Str)) ("is_second" : Str) ("Reader.is_second" : Str) s_Reader_is_second
  m_Reader_is_second : Meth K (He.ga K ("Reader" : Str)) ("is_second" : Str) (He.fAd K (("Reader" : Str), some ("is_second" : Str)))
  f_Reader_is_rescue : Df K (("Reader" : Str), some ("is_rescue" : Str)) ("is_rescue" : Str) ("Reader.is_rescue" : Str) s_Reader_is_rescue
  m_Reader_is_rescue : Meth K (He.ga K ("Reader" : Str)) ("is_rescue" : Str) (He.fAd K (("Reader" : Str), some ("is_rescue" : Str)))
  f_Reader_loop_place : Df K (("Reader" : Str), some ("loop_place" : Str)) ("loop_place" : Str) ("Reader.loop_place" : Str) s_Reader_loop_place
  m_Reader_loop_place : Meth K (He.ga K ("Reader" : Str)) ("loop_place" : Str) (He.fAd K (("Reader" : Str), some ("loop_place" : Str)))
  f_Reader_may_reset : Df K (("Reader" : Str), some ("may_reset" : Str)) ("may_reset" : Str) ("Reader.may_reset" : Str) s_Reader_may_reset
  m_Reader_may_reset : Meth K (He.ga K ("Reader" : Str)) ("may_reset" : Str) (He.fAd K (("Reader" : Str), some ("may_reset" : Str)))
  f_Reader_may_middle : Df K (("Reader" : Str), some ("may_middle" : Str)) ("may_middle" : Str) ("Reader.may_middle" : Str) s_Reader_may_middle
  m_Reader_may_middle : Meth K (He.ga K ("Reader" : Str)) ("may_middle" : Str) (He.fAd K (("Reader" : Str), some ("may_middle" : Str)))
  f_Reader_may_open : Df K (("Reader" : Str), some ("may_open" : Str)) ("may_open" : Str) ("Reader.may_open" : Str) s_Reader_may_open
  m_Reader_may_open : Meth K (He.ga K ("Reader" : Str)) ("may_open" : Str) (He.fAd K (("Reader" : Str), some ("may_open" : Str)))
  f_Reader_fits : Df K (("Reader" : Str), some ("fits" : Str)) ("fits" : Str) ("Reader.fits" : Str) s_Reader_fits
  m_Reader_fits : Meth K (He.ga K ("Reader" : Str)) ("fits" : Str) (He.fAd K (("Reader" : Str), some ("fits" : Str)))
  f_Reader_take : Df K (("Reader" : Str), some ("take" : Str)) ("take" : Str) ("Reader.take" : Str) s_Reader_take
  m_Reader_take : Meth K (He.ga K ("Reader" : Str)) ("take" : Str) (He.fAd K (("Reader" : Str), some ("take" : Str)))
  f_Functionu_initu : Df K (("Function" : Str), some ("__init__" : Str)) ("__init__" : Str) ("Function.__init__" : Str) s_Functionu_initu
  m_Functionu_initu : Mk K (He.ga K ("Function" : Str)) (He.fAd K (("Function" : Str), some ("__init__" : Str)))
  f_Functionu_lenu : Df K (("Function" : Str), some ("__len__" : Str)) ("__len__" : Str) ("Function.__len__" : Str) s_Functionu_lenu
  m_Functionu_lenu : Meth K (He.ga K ("Function" : Str)) ("__len__" : Str) (He.fAd K (("Function" : Str), some ("__len__" : Str)))
  f_Functionu_equ : Df K (("Function" : Str), some ("__eq__" : Str)) ("__eq__" : Str) ("Function.__eq__" : Str) s_Functionu_equ
  m_Functionu_equ : Meth K (He.ga K ("Function" : Str)) ("__eq__" : Str) (He.fAd K (("Function" : Str), some ("__eq__" : Str)))
  f_Functionu_stru : Df K (("Function" : Str), some ("__str__" : Str)) ("__str__" : Str) ("Function.__str__" : Str) s_Functionu_stru
  m_Functionu_stru : Meth K (He.ga K ("Function" : Str)) ("__str__" : Str) (He.fAd K (("Function" : Str), some ("__str__" : Str)))
  f_Function_block : Df K (("Function" : Str), some ("block" : Str)) ("block" : Str) ("Function.block" : Str) s_Function_block
  m_Function_block : Meth K (He.ga K ("Function" : Str)) ("block" : Str) (He.fAd K (("Function" : Str), some ("block" : Str)))
  f_Function_is_shielded : Df K (("Function" : Str), some ("is_shielded" : Str)) ("is_shielded" : Str) ("Function.is_shielded" : Str) s_Function_is_shielded
  m_Function_is_shielded : Meth K (He.ga K ("Function" : Str)) ("is_shielded" : Str) (He.fAd K (("Function" : Str), some ("is_shielded" : Str)))
  f_Function_waits : Df K (("Function" : Str), some ("waits" : Str)) ("waits" : Str) ("Function.waits" : Str) s_Function_waits
  m_Function_waits : Meth K (He.ga K ("Function" : Str)) ("waits" : Str) (He.fAd K (("Function" : Str), some ("waits" : Str)))
  f_Function_is_step : Df K (("Function" : Str), some ("is_step" : Str)) ("is_step" : Str) ("Function.is_step" : Str) s_Function_is_step
  m_Function_is_step : Meth K (He.ga K ("Function" : Str)) ("is_step" : Str) (He.fAd K (("Function" : Str), some ("is_step" : Str)))
  f_Function_step_rows : Df K (("Function" : Str), some ("step_rows" : Str)) ("step_rows" : Str) ("Function.step_rows" : Str) s_Function_step_rows
  m_Function_step_rows : Meth K (He.ga K ("Function" : Str)) ("step_rows" : Str) (He.fAd K (("Function" : Str), some ("step_rows" : Str)))
  f_Function_shielded : Df K (("Function" : Str), some ("shielded" : Str)) ("shielded" : Str) ("Function.shielded" : Str) s_Function_shielded
  m_Function_shielded : Meth K (He.ga K ("Function" : Str)) ("shielded" : Str) (He.fAd K (("Function" : Str), some ("shielded" : Str)))
  f_check_word : Df K (("check_word" : Str), none) ("check_word" : Str) ("check_word" : Str) s_check_word
  g_check_word : mg ("check_word" : Str) = some (.ref (He.ga K ("check_word" : Str)))
  f_Dooru_initu : ∃ fd, FunD K ("__init__" : Str) ("Door.__init__" : Str) (defArgs s_Dooru_initu) (defBody s_Dooru_initu) (defScope s_Dooru_initu) [] [(("end" : Str), V.str "keep"), (("fail" : Str), V.str "keep"), (("cut" : Str), V.str "keep")] (He.fAd K (("Door" : Str), some ("__init__" : Str))) fd
  m_Dooru_initu : Mk K (He.ga K ("Door" : Str)) (He.fAd K (("Door" : Str), some ("__init__" : Str)))
  f_Dooru_getitemu : Df K (("Door" : Str), some ("__getitem__" : Str)) ("__getitem__" : Str) ("Door.__getitem__" : Str) s_Dooru_getitemu
  m_Dooru_getitemu : Meth K (He.ga K ("Door" : Str)) ("__getitem__" : Str) (He.fAd K (("Door" : Str), some ("__getitem__" : Str)))
  f_Dooru_setitemu : Df K (("Door" : Str), some ("__setitem__" : Str)) ("__setitem__" : Str) ("Door.__setitem__" : Str) s_Dooru_setitemu
  m_Dooru_setitemu : Meth K (He.ga K ("Door" : Str)) ("__setitem__" : Str) (He.fAd K (("Door" : Str), some ("__setitem__" : Str)))
  f_Dooru_iteru : Df K (("Door" : Str), some ("__iter__" : Str)) ("__iter__" : Str) ("Door.__iter__" : Str) s_Dooru_iteru
  m_Dooru_iteru : Meth K (He.ga K ("Door" : Str)) ("__iter__" : Str) (He.fAd K (("Door" : Str), some ("__iter__" : Str)))
  f_Door_change : Df K (("Door" : Str), some ("change" : Str)) ("change" : Str) ("Door.change" : Str) s_Door_change
  m_Door_change : Meth K (He.ga K ("Door" : Str)) ("change" : Str) (He.fAd K (("Door" : Str), some ("change" : Str)))
  f_Door_copy : Df K (("Door" : Str), some ("copy" : Str)) ("copy" : Str) ("Door.copy" : Str) s_Door_copy
  m_Door_copy : Meth K (He.ga K ("Door" : Str)) ("copy" : Str) (He.fAd K (("Door" : Str), some ("copy" : Str)))
  f_l_bag : Df K (("_law_bag" : Str), none) ("_law_bag" : Str) ("_law_bag" : Str) s_l_bag
  g_l_bag : mg ("_law_bag" : Str) = some (.ref (He.ga K ("_law_bag" : Str)))
  f_l_take : Df K (("_law_take" : Str), none) ("_law_take" : Str) ("_law_take" : Str) s_l_take
  g_l_take : mg ("_law_take" : Str) = some (.ref (He.ga K ("_law_take" : Str)))
  f_l_of : Df K (("_law_of" : Str), none) ("_law_of" : Str) ("_law_of" : Str) s_l_of
  g_l_of : mg ("_law_of" : Str) = some (.ref (He.ga K ("_law_of" : Str)))
  f_l_names : Df K (("_law_names" : Str), none) ("_law_names" : Str) ("_law_names" : Str) s_l_names
  g_l_names : mg ("_law_names" : Str) = some (.ref (He.ga K ("_law_names" : Str)))
  f_l_may_reset : Df K (("_law_may_reset" : Str), none) ("_law_may_reset" : Str) ("_law_may_reset" : Str) s_l_may_reset
  g_l_may_reset : mg ("_law_may_reset" : Str) = some (.ref (He.ga K ("_law_may_reset" : Str)))
  f_l_plain : Df K (("_law_plain" : Str), none) ("_law_plain" : Str) ("_law_plain" : Str) s_l_plain
  g_l_plain : mg ("_law_plain" : Str) = some (.ref (He.ga K ("_law_plain" : Str)))
  f_l_second : Df K (("_law_second" : Str), none) ("_law_second" : Str) ("_law_second" : Str) s_l_second
  g_l_second : mg ("_law_second" : Str) = some (.ref (He.ga K ("_law_second" : Str)))
  f_l_loop : Df K (("_law_loop" : Str), none) ("_law_loop" : Str) ("_law_loop" : Str) s_l_loop
  g_l_loop : mg ("_law_loop" : Str) = some (.ref (He.ga K ("_law_loop" : Str)))
  f_l_try : Df K (("_law_try" : Str), none) ("_law_try" : Str) ("_law_try" : Str) s_l_try
  g_l_try : mg ("_law_try" : Str) = some (.ref (He.ga K ("_law_try" : Str)))
  f_l_retry : Df K (("_law_retry" : Str), none) ("_law_retry" : Str) ("_law_retry" : Str) s_l_retry
  g_l_retry : mg ("_law_retry" : Str) = some (.ref (He.ga K ("_law_retry" : Str)))
  f_l_piece : Df K (("_law_piece" : Str), none) ("_law_piece" : Str) ("_law_piece" : Str) s_l_piece
  g_l_piece : mg ("_law_piece" : Str) = some (.ref (He.ga K ("_law_piece" : Str)))
  f_l_group : Df K (("_law_group" : Str), none) ("_law_group" : Str) ("_law_group" : Str) s_l_group
  g_l_group : mg ("_law_group" : Str) = some (.ref (He.ga K ("_law_group" : Str)))
  f_l_rows : Df K (("_law_rows" : Str), none) ("_law_rows" : Str) ("_law_rows" : Str) s_l_rows
  g_l_rows : mg ("_law_rows" : Str) = some (.ref (He.ga K ("_law_rows" : Str)))
  f_l_door : Df K (("_law_door" : Str), none) ("_law_door" : Str) ("_law_door" : Str) s_l_door
  g_l_door : mg ("_law_door" : Str) = some (.ref (He.ga K ("_law_door" : Str)))
  f_l_moved : Df K (("_law_moved" : Str), none) ("_law_moved" : Str) ("_law_moved" : Str) s_l_moved
  g_l_moved : mg ("_law_moved" : Str) = some (.ref (He.ga K ("_law_moved" : Str)))
  f_l_ways : Df K (("_law_ways" : Str), none) ("_law_ways" : Str) ("_law_ways" : Str) s_l_ways
  g_l_ways : mg ("_law_ways" : Str) = some (.ref (He.ga K ("_law_ways" : Str)))
  f_l_left_out : Df K (("_law_left_out" : Str), none) ("_law_left_out" : Str) ("_law_left_out" : Str) s_l_left_out
  g_l_left_out : mg ("_law_left_out" : Str) = some (.ref (He.ga K ("_law_left_out" : Str)))
  f_l_right : Df K (("_law_right" : Str), none) ("_law_right" : Str) ("_law_right" : Str) s_l_right
  g_l_right : mg ("_law_right" : Str) = some (.ref (He.ga K ("_law_right" : Str)))
  f_law : Df K (("law" : Str), none) ("law" : Str) ("law" : Str) s_law
  g_law : mg ("law" : Str) = some (.ref (He.ga K ("law" : Str)))
  g_OwedError : mg ("OwedError" : Str) = some (.ref (He.ga K ("OwedError" : Str)))
  g_BadFunction : mg ("BadFunction" : Str) = some (.ref (He.ga K ("BadFunction" : Str)))
  g_TooMany : mg ("TooMany" : Str) = some (.ref (He.ga K ("TooMany" : Str)))
  g_NotCut : mg ("NotCut" : Str) = some (.ref (He.ga K ("NotCut" : Str)))
  g_BadDoor : mg ("BadDoor" : Str) = some (.ref (He.ga K ("BadDoor" : Str)))
  g_Reader : mg ("Reader" : Str) = some (.ref (He.ga K ("Reader" : Str)))
  c_Reader : Cls K (He.ga K ("Reader" : Str))
  n_Reader_words : NoAttr K (He.ga K ("Reader" : Str)) ("words" : Str)
  n_Reader_stack : NoAttr K (He.ga K ("Reader" : Str)) ("stack" : Str)
  n_Reader_openers : NoAttr K (He.ga K ("Reader" : Str)) ("openers" : Str)
  n_Reader_middles : NoAttr K (He.ga K ("Reader" : Str)) ("middles" : Str)
  n_Reader_ends : NoAttr K (He.ga K ("Reader" : Str)) ("ends" : Str)
  g_Function : mg ("Function" : Str) = some (.ref (He.ga K ("Function" : Str)))
  c_Function : Cls K (He.ga K ("Function" : Str))
  n_Function_lists : NoAttr K (He.ga K ("Function" : Str)) ("lists" : Str)
  n_Function_rows : NoAttr K (He.ga K ("Function" : Str)) ("rows" : Str)
  n_Function_words : NoAttr K (He.ga K ("Function" : Str)) ("words" : Str)
  n_Function_names : NoAttr K (He.ga K ("Function" : Str)) ("names" : Str)
  n_Function_tries : NoAttr K (He.ga K ("Function" : Str)) ("tries" : Str)
  n_Function_openers : NoAttr K (He.ga K ("Function" : Str)) ("openers" : Str)
  n_Function_middles : NoAttr K (He.ga K ("Function" : Str)) ("middles" : Str)
  n_Function_ends : NoAttr K (He.ga K ("Function" : Str)) ("ends" : Str)
  g_Door : mg ("Door" : Str) = some (.ref (He.ga K ("Door" : Str)))
  q_Door : PySem.W.noSeq K (He.ga K ("Door" : Str)) = true
  c_Door : Cls K (He.ga K ("Door" : Str))
  n_Door_end : NoAttr K (He.ga K ("Door" : Str)) ("end" : Str)
  n_Door_fail : NoAttr K (He.ga K ("Door" : Str)) ("fail" : Str)
  n_Door_cut : NoAttr K (He.ga K ("Door" : Str)) ("cut" : Str)
  n_Door_others : NoAttr K (He.ga K ("Door" : Str)) ("others" : Str)
  k_LETTERS : ∃ t, mg ("LETTERS" : Str) = some (.str ("abcdefghijklmnopqrstuvwxyz" : Str) t)
  k_MOST_ROWS : ∃ t, mg ("MOST_ROWS" : Str) = some (.int 24 t)
  k_MOST_LISTS : ∃ t, mg ("MOST_LISTS" : Str) = some (.int 3 t)
  k_MOST_DEEP : ∃ t, mg ("MOST_DEEP" : Str) = some (.int 5 t)
  g_PLAIN : mg ("PLAIN" : Str) = some (.ref (He.ga K ("PLAIN" : Str)))
  t_PLAIN : ∀ H : Hp, SqT K H (He.ga K ("PLAIN" : Str)) ((["ask", "begin", "finish", "read", "head", "body", "pause", "check", "drain", "close", "return"] : List String).map fun z => V.str (Str.ofString z))
  g_WAITING : mg ("WAITING" : Str) = some (.ref (He.ga K ("WAITING" : Str)))
  t_WAITING : ∀ H : Hp, SqT K H (He.ga K ("WAITING" : Str)) ((["read", "head", "body", "finish", "pause"] : List String).map fun z => V.str (Str.ofString z))
  g_OPENING : mg ("OPENING" : Str) = some (.ref (He.ga K ("OPENING" : Str)))
  t_OPENING : ∀ H : Hp, SqT K H (He.ga K ("OPENING" : Str)) ((["each", "maybe", "try", "shield", "retry"] : List String).map fun z => V.str (Str.ofString z))
  g_MIDDLE : mg ("MIDDLE" : Str) = some (.ref (He.ga K ("MIDDLE" : Str)))
  t_MIDDLE : ∀ H : Hp, SqT K H (He.ga K ("MIDDLE" : Str)) ((["else", "finally", "rescue"] : List String).map fun z => V.str (Str.ofString z))
  g_WORDS : mg ("WORDS" : Str) = some (.ref (He.ga K ("WORDS" : Str)))
  t_WORDS : ∀ H : Hp, SqT K H (He.ga K ("WORDS" : Str)) ((["keep", "close", "check", "drain", "ping"] : List String).map fun z => V.str (Str.ofString z))
  b_TypeError : mg ("TypeError" : Str) = none
  b_ValueError : mg ("ValueError" : Str) = none
  b_abs : mg ("abs" : Str) = none
  b_all : mg ("all" : Str) = none
  b_any : mg ("any" : Str) = none
  b_classmethod : mg ("classmethod" : Str) = none
  b_enumerate : mg ("enumerate" : Str) = none
  b_int : mg ("int" : Str) = none
  b_isinstance : mg ("isinstance" : Str) = none
  b_len : mg ("len" : Str) = none
  b_list : mg ("list" : Str) = none
  b_max : mg ("max" : Str) = none
  b_min : mg ("min" : Str) = none
  b_range : mg ("range" : Str) = none
  b_sorted : mg ("sorted" : Str) = none
  b_str : mg ("str" : Str) = none
  b_super : mg ("super" : Str) = none
  b_tuple : mg ("tuple" : Str) = none
  b_zip : mg ("zip" : Str) = none
theorem sc_reason_of : FnScope ["way"] ["way"] (defScope s_reason_of) := ⟨rfl, rfl, rfl, by decide +kernel, rfl, by decide +kernel, by decide +kernel⟩
theorem sc_is_made_of : FnScope ["text", "characters", "character"] ["text", "characters"] (defScope s_is_made_of) := ⟨rfl, rfl, rfl, by decide +kernel, rfl, by decide +kernel, by decide +kernel⟩
theorem sc_is_list_name : FnScope ["text"] ["text"] (defScope s_is_list_name) := ⟨rfl, rfl, rfl, by decide +kernel, rfl, by decide +kernel, by decide +kernel⟩
theorem sc_rows_of : FnScope ["mends", "word", "where"] ["mends"] (defScope s_rows_of) := ⟨rfl, rfl, rfl, by decide +kernel, rfl, by decide +kernel, by decide +kernel⟩
theorem sc_closed_door : FnScope ["door", "mends", "found", "word", "where"] ["door", "mends"] (defScope s_closed_door) := ⟨rfl, rfl, rfl, by decide +kernel, rfl, by decide +kernel, by decide +kernel⟩
theorem sc_renumbered : FnScope ["way", "rows", "before", "row"] ["way", "rows"] (defScope s_renumbered) := ⟨rfl, rfl, rfl, by decide +kernel, rfl, by decide +kernel, by decide +kernel⟩
theorem sc_mended : FnScope ["function", "door", "mends", "rows", "further", "closed", "found", "known", "way"] ["function", "door", "mends"] (defScope s_mended) := ⟨rfl, rfl, rfl, by decide +kernel, rfl, by decide +kernel, by decide +kernel⟩
theorem sc_is_row : FnScope ["words"] ["words"] (defScope s_is_row) := ⟨rfl, rfl, rfl, by decide +kernel, rfl, by decide +kernel, by decide +kernel⟩
theorem sc_Readeru_initu : FnScope ["self"] ["self"] (defScope s_Readeru_initu) := ⟨rfl, rfl, rfl, by decide +kernel, rfl, by decide +kernel, by decide +kernel⟩
theorem sc_Reader_opener_word : FnScope ["self"] ["self"] (defScope s_Reader_opener_word) := ⟨rfl, rfl, rfl, by decide +kernel, rfl, by decide +kernel, by decide +kernel⟩
theorem sc_Reader_is_second : FnScope ["self", "opener"] ["self", "opener"] (defScope s_Reader_is_second) := ⟨rfl, rfl, rfl, by decide +kernel, rfl, by decide +kernel, by decide +kernel⟩
theorem sc_Reader_is_rescue : FnScope ["self", "opener"] ["self", "opener"] (defScope s_Reader_is_rescue) := ⟨rfl, rfl, rfl, by decide +kernel, rfl, by decide +kernel, by decide +kernel⟩
theorem sc_Reader_loop_place : FnScope ["self", "place", "opener"] ["self"] (defScope s_Reader_loop_place) := ⟨rfl, rfl, rfl, by decide +kernel, rfl, by decide +kernel, by decide +kernel⟩
theorem sc_Reader_may_reset : FnScope ["self", "word", "place", "opener"] ["self", "word"] (defScope s_Reader_may_reset) := ⟨rfl, rfl, rfl, by decide +kernel, rfl, by decide +kernel, by decide +kernel⟩
theorem sc_Reader_may_middle : FnScope ["self", "word", "wanted"] ["self", "word"] (defScope s_Reader_may_middle) := ⟨rfl, rfl, rfl, by decide +kernel, rfl, by decide +kernel, by decide +kernel⟩
theorem sc_Reader_may_open : FnScope ["self", "word", "one"] ["self", "word"] (defScope s_Reader_may_open) := ⟨rfl, rfl, rfl, by decide +kernel, rfl, by decide +kernel, by decide +kernel⟩
theorem sc_Reader_fits : FnScope ["self", "word", "opener"] ["self", "word"] (defScope s_Reader_fits) := ⟨rfl, rfl, rfl, by decide +kernel, rfl, by decide +kernel, by decide +kernel⟩
theorem sc_Reader_take : FnScope ["self", "word", "row"] ["self", "word"] (defScope s_Reader_take) := ⟨rfl, rfl, rfl, by decide +kernel, rfl, by decide +kernel, by decide +kernel⟩
theorem sc_Functionu_initu : FnScope ["self", "text", "parts", "row", "reader", "words", "opener"] ["self", "text"] (defScope s_Functionu_initu) := ⟨rfl, rfl, rfl, by decide +kernel, rfl, by decide +kernel, by decide +kernel⟩
theorem sc_Function_of : FnScope ["cls", "rows"] ["cls", "rows"] (defScope s_Function_of) := ⟨rfl, rfl, rfl, by decide +kernel, rfl, by decide +kernel, by decide +kernel⟩
theorem sc_Functionu_lenu : FnScope ["self"] ["self"] (defScope s_Functionu_lenu) := ⟨rfl, rfl, rfl, by decide +kernel, rfl, by decide +kernel, by decide +kernel⟩
theorem sc_Functionu_equ : FnScope ["self", "other"] ["self", "other"] (defScope s_Functionu_equ) := ⟨rfl, rfl, rfl, by decide +kernel, rfl, by decide +kernel, by decide +kernel⟩
theorem sc_Functionu_stru : FnScope ["self"] ["self"] (defScope s_Functionu_stru) := ⟨rfl, rfl, rfl, by decide +kernel, rfl, by decide +kernel, by decide +kernel⟩
theorem sc_Function_block : FnScope ["self", "row"] ["self", "row"] (defScope s_Function_block) := ⟨rfl, rfl, rfl, by decide +kernel, rfl, by decide +kernel, by decide +kernel⟩
theorem sc_Function_is_shielded : FnScope ["self", "row", "opener"] ["self", "row"] (defScope s_Function_is_shielded) := ⟨rfl, rfl, rfl, by decide +kernel, rfl, by decide +kernel, by decide +kernel⟩
theorem sc_Function_waits : FnScope ["self", "row", "word"] ["self"] (defScope s_Function_waits) := ⟨rfl, rfl, rfl, by decide +kernel, rfl, by decide +kernel, by decide +kernel⟩
theorem sc_Function_is_step : FnScope ["self", "row"] ["self", "row"] (defScope s_Function_is_step) := ⟨rfl, rfl, rfl, by decide +kernel, rfl, by decide +kernel, by decide +kernel⟩
theorem sc_Function_step_rows : FnScope ["self"] ["self"] (defScope s_Function_step_rows) := ⟨rfl, rfl, rfl, by decide +kernel, rfl, by decide +kernel, by decide +kernel⟩
theorem sc_Function_shielded : FnScope ["self", "rows", "known", "at", "row", "found", "text"] ["self", "rows"] (defScope s_Function_shielded) := ⟨rfl, rfl, rfl, by decide +kernel, rfl, by decide +kernel, by decide +kernel⟩
theorem sc_check_word : FnScope ["word"] ["word"] (defScope s_check_word) := ⟨rfl, rfl, rfl, by decide +kernel, rfl, by decide +kernel, by decide +kernel⟩
theorem sc_Dooru_initu : FnScope ["self", "end", "fail", "cut", "word"] ["self", "end", "fail", "cut"] (defScope s_Dooru_initu) := ⟨rfl, rfl, rfl, by decide +kernel, rfl, by decide +kernel, by decide +kernel⟩
theorem sc_Dooru_getitemu : FnScope ["self", "way", "reason"] ["self", "way"] (defScope s_Dooru_getitemu) := ⟨rfl, rfl, rfl, by decide +kernel, rfl, by decide +kernel, by decide +kernel⟩
theorem sc_Dooru_setitemu : FnScope ["self", "way", "word"] ["self", "way", "word"] (defScope s_Dooru_setitemu) := ⟨rfl, rfl, rfl, by decide +kernel, rfl, by decide +kernel, by decide +kernel⟩
theorem sc_Dooru_iteru : FnScope ["self"] ["self"] (defScope s_Dooru_iteru) := ⟨rfl, rfl, rfl, by decide +kernel, rfl, by decide +kernel, by decide +kernel⟩
theorem sc_Door_change : FnScope ["self", "way", "word"] ["self", "way", "word"] (defScope s_Door_change) := ⟨rfl, rfl, rfl, by decide +kernel, rfl, by decide +kernel, by decide +kernel⟩
theorem sc_Door_copy : FnScope ["self", "other", "way"] ["self"] (defScope s_Door_copy) := ⟨rfl, rfl, rfl, by decide +kernel, rfl, by decide +kernel, by decide +kernel⟩
theorem sc_l_bag : FnScope ["_law_script", "_law_at", "_law_cell", "_law_digits"] ["_law_script", "_law_at"] (defScope s_l_bag) := ⟨rfl, rfl, rfl, by decide +kernel, rfl, by decide +kernel, by decide +kernel⟩
theorem sc_l_take : FnScope ["_law_bag_here", "_law_many", "_law_digit", "_law_mixed"] ["_law_bag_here", "_law_many"] (defScope s_l_take) := ⟨rfl, rfl, rfl, by decide +kernel, rfl, by decide +kernel, by decide +kernel⟩
theorem sc_l_of : FnScope ["_law_bag_here", "_law_some"] ["_law_bag_here", "_law_some"] (defScope s_l_of) := ⟨rfl, rfl, rfl, by decide +kernel, rfl, by decide +kernel, by decide +kernel⟩
theorem sc_l_names : FnScope ["_law_bag_here", "_law_letters", "_law_first"] ["_law_bag_here"] (defScope s_l_names) := ⟨rfl, rfl, rfl, by decide +kernel, rfl, by decide +kernel, by decide +kernel⟩
theorem sc_l_may_reset : FnScope ["_law_around", "_law_word", "_law_part"] ["_law_around", "_law_word"] (defScope s_l_may_reset) := ⟨rfl, rfl, rfl, by decide +kernel, rfl, by decide +kernel, by decide +kernel⟩
theorem sc_l_plain : FnScope ["_law_bag_here", "_law_left", "_law_some", "_law_one"] ["_law_bag_here", "_law_left"] (defScope s_l_plain) := ⟨rfl, rfl, rfl, by decide +kernel, rfl, by decide +kernel, by decide +kernel⟩
theorem sc_l_second : FnScope ["_law_bag_here", "_law_names_here", "_law_left", "_law_around", "_law_words", "_law_word"] ["_law_bag_here", "_law_names_here", "_law_left", "_law_around"] (defScope s_l_second) := ⟨rfl, rfl, rfl, by decide +kernel, rfl, by decide +kernel, by decide +kernel⟩
theorem sc_l_loop : FnScope ["_law_bag_here", "_law_names_here", "_law_left", "_law_around", "_law_name"] ["_law_bag_here", "_law_names_here", "_law_left", "_law_around"] (defScope s_l_loop) := ⟨rfl, rfl, rfl, by decide +kernel, rfl, by decide +kernel, by decide +kernel⟩
theorem sc_l_try : FnScope ["_law_bag_here", "_law_names_here", "_law_left", "_law_around", "_law_middle", "_law_rows_here"] ["_law_bag_here", "_law_names_here", "_law_left", "_law_around"] (defScope s_l_try) := ⟨rfl, rfl, rfl, by decide +kernel, rfl, by decide +kernel, by decide +kernel⟩
theorem sc_l_retry : FnScope ["_law_bag_here", "_law_names_here", "_law_left", "_law_around", "_law_rows_here"] ["_law_bag_here", "_law_names_here", "_law_left", "_law_around"] (defScope s_l_retry) := ⟨rfl, rfl, rfl, by decide +kernel, rfl, by decide +kernel, by decide +kernel⟩
theorem sc_l_piece : FnScope ["_law_bag_here", "_law_names_here", "_law_left", "_law_around", "_law_words", "_law_word", "_law_is_open", "_law_rows_here"] ["_law_bag_here", "_law_names_here", "_law_left", "_law_around"] (defScope s_l_piece) := ⟨rfl, rfl, rfl, by decide +kernel, rfl, by decide +kernel, by decide +kernel⟩
theorem sc_l_group : FnScope ["_law_bag_here", "_law_names_here", "_law_left", "_law_around", "_law_rows_here", "_law_turn"] ["_law_bag_here", "_law_names_here", "_law_left", "_law_around"] (defScope s_l_group) := ⟨rfl, rfl, rfl, by decide +kernel, rfl, by decide +kernel, by decide +kernel⟩
theorem sc_l_rows : FnScope ["_law_bag_here", "_law_most", "_law_odd", "_law_rows_here", "_law_words", "_law_places", "_law_k", "_law_row"] ["_law_bag_here", "_law_most", "_law_odd"] (defScope s_l_rows) := ⟨rfl, rfl, rfl, by decide +kernel, rfl, by decide +kernel, by decide +kernel⟩
theorem sc_l_door : FnScope ["_law_bag_here", "_law_words"] ["_law_bag_here", "_law_words"] (defScope s_l_door) := ⟨rfl, rfl, rfl, by decide +kernel, rfl, by decide +kernel, by decide +kernel⟩
theorem sc_l_moved : FnScope ["_law_way", "_law_shields", "_law_many", "_law_number", "_law_k"] ["_law_way", "_law_shields", "_law_many"] (defScope s_l_moved) := ⟨rfl, rfl, rfl, by decide +kernel, rfl, by decide +kernel, by decide +kernel⟩
theorem sc_l_ways : FnScope ["_law_many", "_law_found", "_law_row"] ["_law_many"] (defScope s_l_ways) := ⟨rfl, rfl, rfl, by decide +kernel, rfl, by decide +kernel, by decide +kernel⟩
theorem sc_l_left_out : FnScope ["_law_function", "_law_other", "_law_closed", "_law_door_here", "_law_shields", "_law_many", "_law_places", "_law_row", "_law_reasons", "_law_place", "_law_kind"] ["_law_function", "_law_other", "_law_closed", "_law_door_here", "_law_shields", "_law_many"] (defScope s_l_left_out) := ⟨rfl, rfl, rfl, by decide +kernel, rfl, by decide +kernel, by decide +kernel⟩
theorem sc_l_right : FnScope ["_law_bag_here", "_law_rows_here", "_law_function", "_law_door_here", "_law_every", "_law_waits", "_law_turn", "_law_words", "_law_way", "_law_shields", "_law_mends", "_law_closed", "_law_kept", "_law_told", "_law_due", "_law_k", "_law_row", "_law_word", "_law_moved_here"] ["_law_bag_here", "_law_rows_here"] (defScope s_l_right) := ⟨rfl, rfl, rfl, by decide +kernel, rfl, by decide +kernel, by decide +kernel⟩
theorem sc_law : FnScope ["_law_script", "_law_at", "_law_bag_here", "_law_rows_here", "_law_words", "_law_many", "_law_others", "_law_turn"] ["_law_script"] (defScope s_law) := ⟨rfl, rfl, rfl, by decide +kernel, rfl, by decide +kernel, by decide +kernel⟩

/-! what may be called, by its name -/
section
variable (P : Program) (w : World) (K : PySem.W.Frag) (mg : Str → Option Value) (base : Heap)
structure Cl (k : Nat) (x : Str) (sp : Sp) : Prop where
  ex : ∃ (f : Addr) (fd : FuncData) (ps : List Str), FnOk P w K mg base CX0 k f fd ps sp ∧ mg x = some (.ref f) ∧ PySem.W.keepIn K (.ref f) = true ∧ Binds K fd ps []
structure Mt (k : Nat) (C : Addr) (m : Str) (sp : Sp) : Prop where
  ex : ∃ (f : Addr) (fd : FuncData) (ps : List Str), Cls K C ∧ Meth K C m f ∧ FnOk P w K mg base CX0 k f fd ps sp ∧ Binds K fd ps []
structure Mkr (k : Nat) (x : Str) (C : Addr) (sp : Sp) : Prop where
  ex : ∃ (f : Addr) (fd : FuncData) (ps : List Str), Mk K C f ∧ FnOk P w K mg base CX0 k f fd ps sp ∧ mg x = some (.ref C) ∧ Binds K fd ps []
end
section
variable {P : Program} {w : World} {K : PySem.W.Frag} {mg : Str → Option Value} {base : Heap}
theorem Cl.up {j k : Nat} {x : Str} {sp : Sp} (c : Cl P w K mg base j x sp) (h : j ≤ k) : Cl P w K mg base k x sp :=
  let ⟨f, fd, ps, a, b⟩ := c.ex
  ⟨f, fd, ps, a.mono h, b⟩
theorem Mt.up {j k : Nat} {C : Addr} {x : Str} {sp : Sp} (c : Mt P w K mg base j C x sp) (h : j ≤ k) : Mt P w K mg base k C x sp :=
  let ⟨f, fd, ps, a, b, d, e⟩ := c.ex
  ⟨f, fd, ps, a, b, d.mono h, e⟩
abbrev Body (P : Program) (w : World) (K : PySem.W.Frag) (mg : Str → Option Value) (base : Heap) (k : Nat) (qual : Str) (f : Addr) (st : Stmt) (N : List Str) (sp : Sp) : Prop :=
  ∀ (cdv : Value) (A : Around) (outer : List Env) (s : Shared) (H : Hp) (vs : List V) (Q : VK) (E : XK), Room k (A.deeper (envOfC qual (defScope st) s.heap.objs.size f cdv)) → sp vs H Q E →
      ∃ t, PSs (cxOf CX0 P w K mg base N qual (defScope st) f cdv A outer s H E).nox (defBody st) t ∧ t { nx := fun _ H' => Q .non H', rt := Q } (start N vs) H
abbrev BindA (x qual : Str) (st : Stmt) (ps : List Str) : Prop := ∀ (kV doc pm : Value) (an : Option Addr) (cdv ct : Value) (us : List Value), us.length = ps.length → bindArgs (PySem.W.fnOf x qual (defArgs st) (defBody st) (defScope st) .none kV doc pm an cdv ct) ⟨us, []⟩ = pure (ps.zip us)
theorem fnD {p : Str × Option Str} {x qual : Str} {st : Stmt} {N ps : List Str} {k : Nat} {sp : Sp} (F : Df K p x qual st) (S : FnScope N ps (defScope st)) (b : BindA x qual st ps)
    (len : ∀ vs H Q E, sp vs H Q E → vs.length = ps.length) (body : Body P w K mg base k qual (He.fAd K p) st N sp) :
    ∃ fd, FnOk P w K mg base CX0 (k + 1) (He.fAd K p) fd ps sp ∧ PySem.W.keepIn K (.ref (He.fAd K p)) = true ∧ Binds K fd ps [] := by
  obtain ⟨fd, F⟩ := F
  refine ⟨fd, F.ok S len fun cdv A outer s H vs Q E hr h => ?_, F.kp, F.bindsN b⟩
  obtain ⟨t, h1, h2⟩ := body cdv A outer s H vs Q E hr h
  exact ⟨t, h1.nox, h2⟩
theorem clD {x : Str} {st : Stmt} {N ps : List Str} {k : Nat} {sp : Sp} (F : Df K (x, none) x x st) (hm : mg x = some (.ref (He.ga K x))) (S : FnScope N ps (defScope st)) (b : BindA x x st ps)
    (len : ∀ vs H Q E, sp vs H Q E → vs.length = ps.length) (body : Body P w K mg base k x (He.ga K x) st N sp) : Cl P w K mg base (k + 1) x sp := by
  obtain ⟨fd, a, b, c⟩ := fnD F S b len body
  exact ⟨_, fd, ps, a, hm, b, c⟩
theorem mtD {x C q : Str} {st : Stmt} {N ps : List Str} {k : Nat} {sp : Sp} (F : Df K (C, some x) x q st) (hc : Cls K (He.ga K C)) (hm : Meth K (He.ga K C) x (He.fAd K (C, some x))) (S : FnScope N ps (defScope st)) (b : BindA x q st ps)
    (len : ∀ vs H Q E, sp vs H Q E → vs.length = ps.length) (body : Body P w K mg base k q (He.fAd K (C, some x)) st N sp) : Mt P w K mg base (k + 1) (He.ga K C) x sp := by
  obtain ⟨fd, a, b, c⟩ := fnD F S b len body
  exact ⟨_, fd, ps, hc, hm, a, c⟩
theorem mkD {C q : Str} {st : Stmt} {N ps : List Str} {k : Nat} {sp : Sp} (F : Df K (C, some "__init__") "__init__" q st) (hc : mg C = some (.ref (He.ga K C))) (hm : Mk K (He.ga K C) (He.fAd K (C, some "__init__"))) (S : FnScope N ps (defScope st)) (b : BindA "__init__" q st ps)
    (len : ∀ vs H Q E, sp vs H Q E → vs.length = ps.length) (body : Body P w K mg base k q (He.fAd K (C, some "__init__")) st N sp) : Mkr P w K mg base (k + 1) C (He.ga K C) sp := by
  obtain ⟨fd, a, b, c⟩ := fnD F S b len body
  exact ⟨_, fd, ps, hm, a, hc, c⟩
end
section
variable {X : Cx} {k j : Nat} {C : Addr} {x m : Str} {sp : Sp} {p pos apos : Pos} {e o : Expr} {es : List Expr} {ta : TE} {t : TA}
theorem pe_f (c : Cl X.prog X.w X.K X.mg X.base k x sp) (hr : Room j X.A) (hk : k ≤ j) (ha : PA X (e :: es) t) (hg : Gl X x := by rfl)
    (hdb : (x == ("__debug__" : Str)) = false := by decide) (he : starEach (e :: es) X.env = (false, eval e X.env) :: starEach es X.env := by rfl) (hpl : (backTo pos (starEach es X.env)).any (·.1) = false := by rfl) :
    PE X (.Call (.Name x p) (e :: es) [] pos) (tCall sp [] E0 t) := by
  obtain ⟨f, fd, ps, F, hm, kp, b⟩ := c.ex
  exact pe_call F (hr.mono hk) hg hm kp b .nil pass0 ha hdb he hpl
theorem pe_f0 (c : Cl X.prog X.w X.K X.mg X.base k x sp) (hr : Room j X.A) (hk : k ≤ j) (hg : Gl X x := by rfl) (hdb : (x == ("__debug__" : Str)) = false := by decide) :
    PE X (.Call (.Name x p) [] [] pos) (tCall sp [] E0 tNil) := by
  obtain ⟨f, fd, ps, F, hm, kp, b⟩ := c.ex
  exact pe_call0 F (hr.mono hk) hg hm kp b .nil pass0 hdb
theorem pe_m {pl : Sem Bool} (c : Mt X.prog X.w X.K X.mg X.base k C m sp) (hr : Room j X.A) (hk : k ≤ j) (he : PE X o ta) (ha : PA X (e :: es) t)
    (hst : starEach (e :: es) X.env = (false, eval e X.env) :: starEach es X.env := by rfl) (hpl : (backTo pos (starEach es X.env)).any (·.1) = false := by rfl)
    (ht : eval (.Call (.Attribute o m apos) (e :: es) [] pos) X.env = (do
      let v ← eval o X.env
      standAt apos.atName
      let (f, first) ← holding [v] (getMethod v m pl)
      callWith pos f first (backTo pos (starEach (e :: es) X.env)) (backToKw pos (keywordEach [] X.env))) := by rfl) : PE X (.Call (.Attribute o m apos) (e :: es) [] pos) (tMeth C m sp [] E0 ta t) := by
  obtain ⟨f, fd, ps, hc, hm, F, b⟩ := c.ex
  exact pe_meth (pl := pl) he hc hm F (hr.mono hk) b .nil pass0 ha hst hpl ht
theorem pe_m0 {pl : Sem Bool} (c : Mt X.prog X.w X.K X.mg X.base k C m sp) (hr : Room j X.A) (hk : k ≤ j) (he : PE X o ta)
    (ht : eval (.Call (.Attribute o m apos) [] [] pos) X.env = (do
      let v ← eval o X.env
      standAt apos.atName
      let (f, first) ← holding [v] (getMethod v m pl)
      callWith pos f first (backTo pos (starEach [] X.env)) (backToKw pos (keywordEach [] X.env))) := by rfl) : PE X (.Call (.Attribute o m apos) [] [] pos) (tMeth C m sp [] E0 ta tNil) := by
  obtain ⟨f, fd, ps, hc, hm, F, b⟩ := c.ex
  exact pe_meth0 (pl := pl) he hc hm F (hr.mono hk) b .nil pass0 ht
theorem pe_k (c : Mkr X.prog X.w X.K X.mg X.base k x C sp) (hr : Room j X.A) (hk : k + 1 ≤ j) (ha : PA X (e :: es) t) (hg : Gl X x := by rfl)
    (hdb : (x == ("__debug__" : Str)) = false := by decide) (he : starEach (e :: es) X.env = (false, eval e X.env) :: starEach es X.env := by rfl) (hpl : (backTo pos (starEach es X.env)).any (·.1) = false := by rfl) :
    PE X (.Call (.Name x p) (e :: es) [] pos) (tMake C sp [] E0 t) := by
  obtain ⟨f, fd, ps, M, F, hm, b⟩ := c.ex
  exact pe_make M F (hr.mono hk) hg hm b .nil pass0 ha hdb he hpl
theorem pe_k0 (c : Mkr X.prog X.w X.K X.mg X.base k x C sp) (hr : Room j X.A) (hk : k + 1 ≤ j) (hg : Gl X x := by rfl)
    (hdb : (x == ("__debug__" : Str)) = false := by decide) : PE X (.Call (.Name x p) [] [] pos) (tMake C sp [] E0 tNil) := by
  obtain ⟨f, fd, ps, M, F, hm, b⟩ := c.ex
  exact pe_make0 M F (hr.mono hk) hg hm b .nil pass0 hdb
end
/-! ### the rules with the written part named (in a comprehension's block it is the def's) -/
section
variable {X : Cx} {K : PySem.W.Frag}
def rLenK (K : PySem.W.Frag) : List V → Hp → VK → Prop := fun xs H Q => ∃ p ys, xs = [.ref p] ∧ (SqL K H p ys ∨ SqT K H p ys) ∧ Q (.int ys.length) H
def rListK (K : PySem.W.Frag) : List V → Hp → VK → Prop := fun xs H Q => ∃ p ys, xs = [.ref p] ∧ (SqL K H p ys ∨ SqT K H p ys) ∧ ∀ l, H l = none → Q (.ref l) (upd H l (.lst ys))
def rTupleK (K : PySem.W.Frag) : List V → Hp → VK → Prop := fun xs H Q => ∃ p ys, xs = [.ref p] ∧ ((SqL K H p ys ∧ ∀ l, H l = none → Q (.ref l) (upd H l (.tup ys))) ∨ (SqT K H p ys ∧ Q (.ref p) H))
def rTupTK (K : PySem.W.Frag) : List V → Hp → VK → Prop := fun xs H Q => ∃ a ys, xs = [.ref a] ∧ SqT K H a ys ∧ Q (.ref a) H
theorem ix_listK (h : X.K = K) : IxR X (rIxL K) := by
  subst h
  exact ix_list
theorem ix_tupK (h : X.K = K) : IxR X (rIxT K) := by
  subst h
  exact ix_tup
theorem call_len_seqK (h : X.K = K) : CallR X (.builtin "len") (rLenK K) := by
  subst h
  exact call_len_seq
theorem call_list_ofK (h : X.K = K) : CallR X (.type "list") (rListK K) := by
  subst h
  exact call_list_of
theorem call_tuple_ofK (h : X.K = K) : CallR X (.type "tuple") (rTupleK K) := by
  subst h
  exact call_tuple_of
theorem call_tupleTK (h : X.K = K) : CallR X (.type "tuple") (rTupTK K) := by
  subst h
  exact call_tupleT
theorem op_in_seqK (h : X.K = K) : OpR X (compareOp .In) (rIn K false) := by
  subst h
  exact op_in_seq
theorem op_notIn_seqK (h : X.K = K) : OpR X (compareOp .NotIn) (rIn K true) := by
  subst h
  exact op_notIn_seq
theorem op_eqDK (h : X.K = K) (hu : X.A.units + 64 < cLine) : OpR X (compareOp .Eq) (rEqD K) := by
  subst h
  exact op_eqD hu
theorem op_neDK (h : X.K = K) (hu : X.A.units + 64 < cLine) : OpR X (compareOp .NotEq) (rNeD K) := by
  subst h
  exact op_neD hu
theorem sl_listK (h : X.K = K) : SlR X (rSlL K) := by
  subst h
  exact sl_list
theorem sl_tupK (h : X.K = K) : SlR X (rSlT K) := by
  subst h
  exact sl_tup
theorem cr_anyK (h : X.K = K) (hc : X.calm = true) : CallR X (.builtin "any") (rAny K) := by
  subst h
  exact cr_any hc
theorem cr_allK (h : X.K = K) (hc : X.calm = true) : CallR X (.builtin "all") (rAll K) := by
  subst h
  exact cr_all hc
theorem cr_sumK (h : X.K = K) (hc : X.calm = true) : CallR X (.builtin "sum") (rSum K) := by
  subst h
  exact cr_sum hc
theorem call_isiK2 (h : X.K = K) : CallR X (.builtin "isinstance") (rIsi K) := by
  subst h
  exact call_isi
theorem mt_indexK (h : X.K = K) : MtR X "list.index" (rIndex K) := by
  subst h
  exact mt_index
theorem op_catTK (h : X.K = K) : OpR X (binaryOp .Add) (rCatT K) := by
  subst h
  exact op_catT
def rJoinK (K : PySem.W.Frag) : V → List V → Hp → VK → Prop := fun x xs H Q => ∃ a p, ∃ ys : List Str, x = .str a ∧ xs = [.ref p] ∧ (SqL K H p (ys.map V.str) ∨ SqT K H p (ys.map V.str)) ∧ (ys.map (·.length)).sum + ys.length * a.length ≤ 16777216 ∧ Q (.str (Txt.join a ys)) H
theorem pe_joinK {o e : Expr} {to te : TE} {apos pos : Pos} (h : X.K = K) (ho : PE X o to) (he : PE X e te) (hs : starEach [e] X.env = [(false, eval e X.env)] := by rfl)
    (hb : attributeBase o "join" X.env (eval o X.env) = eval o X.env := by rfl) (hl : (apos.endLine == pos.line) = true := by rfl) : PE X (.Call (.Attribute o "join" apos) [e] [] pos) (tM1 (rJoinK K) to te) := by
  subst h
  exact pe_join ho he hs hb hl
theorem pe_fldK {e : Expr} {ta : TE} {f : Str} {pos : Pos} (h : X.K = K) (he : PE X e ta) (hb : attributeBase e f X.env (eval e X.env) = eval e X.env) : PE X (.Attribute e f pos) (tFld K ta f) := by
  subst h
  exact pe_fld he hb
theorem pt_truthK {a : Expr} {ta : TE} (h : X.K = K) (ha : PE X a ta) (he : ∀ whole, isTrue a X.env whole = (do let v ← whole; standAt a.pos; holding [v] (truthy v))) : PT X a (fun σ H Q => ta σ H fun x H' => ∃ k, TruV K x H' k ∧ Q k H') := by
  subst h
  exact pt_truth ha he
theorem pe_bmK {o e : Expr} {es : List Expr} {to : TE} {t : TA} {name : Str} {apos cpos : Pos} {T id : String} {r : V → List V → Hp → VK → Prop} (h : X.K = K) (pa : PlainAttrs T) (slot : Slot T name id) (hty : typeOf (.builtin id) = pure (.type "method_descriptor")) (hm : MtR X id r) (ho : PE X o to) (ha : PA X (e :: es) t)
    (hb : attributeBase o name X.env (eval o X.env) = eval o X.env := by rfl)
    (hf : ((backTo cpos (starEach (e :: es) X.env)).all (fun x => !x.1) && (backToKw cpos (keywordEach [] X.env)).all (fun x => x.1.isSome) && decide ((e :: es).length + ([] : List Keyword).length + (if ([] : List Keyword).isEmpty then 0 else 1) < 30)) = true := by rfl)
    (hl : (apos.endLine == cpos.line) = true := by rfl) (hs : starEach (e :: es) X.env = (false, eval e X.env) :: starEach es X.env := by rfl) (hp : (backTo cpos (starEach es X.env)).any (·.1) = false := by rfl) :
    PE X (.Call (.Attribute o name apos) (e :: es) [] cpos) (tBM K T r to t) := by
  subst h
  exact pe_bm pa slot hty hm ho ha hb hf hl hs hp
theorem pe_bm0K {o : Expr} {to : TE} {name : Str} {apos cpos : Pos} {T id : String} {r : V → List V → Hp → VK → Prop} (h : X.K = K) (pa : PlainAttrs T) (slot : Slot T name id) (hty : typeOf (.builtin id) = pure (.type "method_descriptor")) (hm : MtR X id r) (ho : PE X o to)
    (hb : attributeBase o name X.env (eval o X.env) = eval o X.env := by rfl) (hl : (apos.endLine == cpos.line) = true := by rfl) : PE X (.Call (.Attribute o name apos) [] [] cpos) (tBM0 K T r to) := by
  subst h
  exact pe_bm0 pa slot hty hm ho hb hl
end

/-! ### heaps that grow -/
theorem same_new {H : Hp} {p : Addr} {o : HO} (h : H p = none) : Same H (upd H p o) := fun b u e => by
  rw [upd_ne (ne_of_none e h)]
  exact e
@[elab_as_elim] theorem new_at {H : Hp} {p : Addr} {o : HO} {R : Hp → Prop} (np : H p = none) (h : ∀ H', Same H H' → H' p = some o → R H') : R (upd H p o) := h _ (same_new np) upd_same
theorem none_ne {H : Hp} {a b : Addr} {o : HO} (h : H a = some o) (h' : H b = none) : b ≠ a := (ne_of_none h h').symm
theorem nz_a : (2305843009213693921 : Int) ≠ 0 := by decide
theorem nz_b : (2305843009213693951 : Int) ≠ 0 := by decide
/-! ### the bag of draws: at most c were drawn by its number -/
def BagV (c : Nat) (xs : List V) : Prop := ∃ d e k : Int, xs = [.int d, .int e, .int k] ∧ 0 ≤ d ∧ 0 ≤ e ∧ e ≤ 17000000000000000000 ∧ 0 ≤ k ∧ k ≤ c
def BagAt (H : Hp) (b : Addr) (c : Nat) : Prop := ∃ xs, H b = some (.lst xs) ∧ BagV c xs
/-- all but the bag stays, new objects may stand -/
structure Go (b : Addr) (c : Nat) (H H' : Hp) : Prop where
  keep : ∀ a o, a ≠ b → H a = some o → H' a = some o
  bag : BagAt H' b c
theorem BagV.mono {c d : Nat} {xs : List V} (h : BagV c xs) (l : c ≤ d) : BagV d xs := by
  obtain ⟨x, e, k, h1, h2, h3, h4, h5, h6⟩ := h
  exact ⟨x, e, k, h1, h2, h3, h4, h5, by omega⟩
theorem BagAt.mono {c d : Nat} {H : Hp} {b : Addr} (h : BagAt H b c) (l : c ≤ d) : BagAt H b d := let ⟨xs, a, v⟩ := h; ⟨xs, a, v.mono l⟩
theorem BagAt.same {c : Nat} {H H' : Hp} {b : Addr} (h : BagAt H b c) (e : Same H H') : BagAt H' b c := let ⟨xs, a, v⟩ := h; ⟨xs, e _ _ a, v⟩
theorem Go.mono {b : Addr} {c d : Nat} {H H' : Hp} (g : Go b c H H') (l : c ≤ d) : Go b d H H' := ⟨g.keep, g.bag.mono l⟩
theorem Go.refl {b : Addr} {c : Nat} {H : Hp} (h : BagAt H b c) : Go b c H H := ⟨fun _ _ _ e => e, h⟩
theorem Go.of {b : Addr} {c : Nat} {H H' : Hp} (h : BagAt H b c) (e : Same H H') : Go b c H H' := ⟨fun a o _ q => e a o q, h.same e⟩
theorem Go.trans {b : Addr} {c d : Nat} {H H1 H2 : Hp} (g : Go b c H H1) (k : Go b d H1 H2) : Go b d H H2 := ⟨fun a o n e => k.keep a o n (g.keep a o n e), k.bag⟩
theorem Go.same {b : Addr} {c : Nat} {H H1 H2 : Hp} (g : Go b c H H1) (e : Same H1 H2) : Go b c H H2 := ⟨fun a o n q => e a o (g.keep a o n q), g.bag.same e⟩
theorem Go.free {b p : Addr} {c : Nat} {H H' : Hp} (g : Go b c H H') (h : H' p = none) : H p = none := by
  cases e : H p with
  | none => rfl
  | some o =>
    by_cases q : p = b
    · subst q
      obtain ⟨xs, z, _⟩ := g.bag
      rw [z] at h; cases h
    · rw [g.keep p o q e] at h; cases h
theorem BagAt.ne {b p : Addr} {c : Nat} {H : Hp} (g : BagAt H b c) (h : H p = none) : p ≠ b := by
  obtain ⟨xs, z, _⟩ := g
  exact none_ne z h
theorem str_ne_bag {c : Nat} {xs : List V} (h : BagV c xs) (ss : List Str) : HO.lst (ss.map V.str) ≠ HO.lst xs := by
  intro e
  obtain ⟨d, e', k, rfl, _⟩ := h
  cases ss with
  | nil => cases e
  | cons s r => cases e
theorem BagAt.ne_strs {b p : Addr} {c : Nat} {H : Hp} (g : BagAt H b c) {ss : List Str} (h : H p = some (.lst (ss.map V.str))) : p ≠ b := by
  obtain ⟨xs, z, v⟩ := g
  exact ne_of h z (str_ne_bag v ss)
theorem Go.strs {b p : Addr} {c d : Nat} {H H' : Hp} (g : Go b c H H') (h0 : BagAt H b d) {ss : List Str} (h : H p = some (.lst (ss.map V.str))) : H' p = some (.lst (ss.map V.str)) := g.keep p _ (h0.ne_strs h) h
theorem at_some {α : Type} {xs : List α} {r : Int} (h0 : 0 ≤ r) (h1 : r < xs.length) : ∃ x, atI xs r = some x ∧ x ∈ xs := by
  obtain ⟨n, rfl⟩ := Int.eq_ofNat_of_zero_le h0
  have hn : n < xs.length := by omega
  exact ⟨xs[n], atI_nat (by rw [List.getElem?_eq_getElem hn]), List.getElem_mem hn⟩
theorem nr (x : Int) {m : Int} (h : 0 < m) : 0 ≤ x.fmod m ∧ x.fmod m < m := by
  rw [Int.fmod_eq_emod_of_nonneg _ (Int.le_of_lt h)]
  exact ⟨Int.emod_nonneg _ (by omega), Int.emod_lt_of_pos _ h⟩
def spTake : Sp := fun vs H Q _ => ∃ (b : Addr) (m : Int) (c : Nat), vs = [.ref b, .int m] ∧ 0 < m ∧ m < 1073741824 ∧ BagAt H b c ∧ c < 1000000000 ∧
  ∀ (r : Int) (H' : Hp), 0 ≤ r → r < m → Go b (c + 1) H H' → Q (.int r) H'
theorem Go.put {b : Addr} {c : Nat} {H : Hp} {xs : List V} (v : BagV c xs) : Go b c H (upd H b (.lst xs)) := ⟨fun a o n e => by rw [upd_ne n]; exact e, _, upd_same, v⟩
section
variable {P : Program} {w : World} {K : PySem.W.Frag} {mg : Str → Option Value} {base : Heap}
theorem c_l_take (T : Tx K mg) : Cl P w K mg base 1 "_law_take" spTake := by
  refine clD T.f_l_take T.g_l_take sc_l_take (fun _ _ _ _ _ _ us hl => match us, hl with | [_, _], _ => rfl) (fun vs H Q E h => ?_) (fun cdv A outer s H vs Q E hr h => ?_)
  · obtain ⟨b, m, c, rfl, _⟩ := h
    rfl
  · obtain ⟨b, m, c, rfl, m0, m1, ⟨xs, hb, ⟨d, e, k, rfl, d0, e0, e1, k0, k1⟩⟩, hc, q⟩ := h
    refine ⟨_, (pss_cons (ps_if (pt_cmpR op_gt (pe_ix (ix_listK (K := K) rfl) (pv 0) pe_int (fun _ _ => rfl)) pe_int (nomark _)) (pss_cons (ps_set (i := 2) sc_l_take.nd rfl (by first | exact Or.inl rfl | exact Or.inr rfl) (pe_op op_modN (pe_callTy call_int1 rfl T.b_int boot_int (pa_cons (pe_ix (ix_listK (K := K) rfl) (pv 0) pe_int (fun _ _ => rfl)) pa_nil)) (pv 1)))
          (pss_cons (ps_asg (pe_op op_fdivN (pe_ix (ix_listK (K := K) rfl) (pv 0) pe_int (fun _ _ => rfl)) (pv 1)) (pg_sub (pv 0) pe_int set_list))
          (pss_one (ps_ret (pv 2))))) pss_nil)
      (pss_cons (ps_asg (pe_op op_add (pe_ix (ix_listK (K := K) rfl) (pv 0) pe_int (fun _ _ => rfl)) pe_int) (pg_sub (pv 0) pe_int set_list))
      (pss_cons (ps_set (i := 3) sc_l_take.nd rfl (by first | exact Or.inl rfl | exact Or.inr rfl) (pe_op op_modN (pe_callTy call_int1 rfl T.b_int boot_int (pa_cons (pe_op op_pow (pe_op op_add (pe_ix (ix_listK (K := K) rfl) (pv 0) pe_int (fun _ _ => rfl)) (pe_op op_mul pe_int (pe_ix (ix_listK (K := K) rfl) (pv 0) pe_int (fun _ _ => rfl)))) pe_int) pa_nil)) pe_int))
      (pss_cons (ps_set (i := 3) sc_l_take.nd rfl (by first | exact Or.inl rfl | exact Or.inr rfl) (pe_op op_modN (pe_callTy call_int1 rfl T.b_int boot_int (pa_cons (pe_op op_pow (pe_op op_add (pv 3) (pe_op op_mul pe_int (pe_ix (ix_listK (K := K) rfl) (pv 0) pe_int (fun _ _ => rfl)))) pe_int) pa_nil)) pe_int))
      (pss_one (ps_ret (pe_op op_modN (pe_callTy call_int1 rfl T.b_int boot_int (pa_cons (pe_op op_fdivN (pv 3) pe_int) pa_nil)) (pv 1)))))))), ?_⟩
    refine ⟨_, rfl, b, _, _, _, rfl, rfl, SqL.of hb, rfl, _, _, rfl, rfl, _, rfl, ?_⟩
    refine ite2 (fun hd => ?_) (fun hd => ?_)
    · refine ⟨_, rfl, b, _, _, _, rfl, rfl, SqL.of hb, rfl, .inl ⟨_, rfl, _, rfl, _, _, rfl, rfl, by omega, ?_⟩⟩
      refine ⟨_, rfl, b, _, _, _, rfl, rfl, SqL.of hb, rfl, _, rfl, _, _, rfl, rfl, ⟨by omega, by omega⟩, _, rfl, b, _, _, _, rfl, rfl, hb, rfl, _, rfl, ?_⟩
      exact q _ _ (nr d m0).1 (nr d m0).2 (.put ⟨_, e, k, rfl, by rw [Int.fdiv_eq_ediv_of_nonneg _ (by omega)]; exact Int.ediv_nonneg d0 (by omega), e0, e1, k0, by omega⟩)
    · refine ⟨_, rfl, b, _, _, _, rfl, rfl, SqL.of hb, rfl, _, _, rfl, rfl, _, rfl, b, _, _, _, rfl, rfl, hb, rfl, ?_⟩
      have h2 : SqL K (upd H b (.lst [.int d, .int e, .int (k + 1)])) b [.int d, .int e, .int (k + 1)] := SqL.of upd_same
      refine ⟨_, rfl, b, _, _, _, rfl, rfl, h2, rfl, _, rfl, b, _, _, _, rfl, rfl, h2, rfl, _, _, rfl, rfl, .inl ⟨by decide, by decide⟩, _, _, rfl, rfl, _, _, rfl, rfl, ⟨by decide, by decide, ?_⟩, .inl ⟨_, rfl, _, _, rfl, rfl, nz_a, ?_⟩⟩
      · show (e + 32452867 * (k + 1)).natAbs < 18446744073709551616
        omega
      have q1 := nr ((e + 32452867 * (k + 1)) ^ 3) (m := 2305843009213693921) (by decide)
      refine ⟨_, rfl, _, rfl, b, _, _, _, rfl, rfl, h2, rfl, _, _, rfl, rfl, .inl ⟨by decide, by decide⟩, _, _, rfl, rfl, _, _, rfl, rfl, ⟨by decide, by decide, ?_⟩, .inl ⟨_, rfl, _, _, rfl, rfl, nz_b, ?_⟩⟩
      · show (((e + 32452867 * (k + 1)) ^ 3).fmod 2305843009213693921 + 67867967 * (k + 1)).natAbs < 18446744073709551616
        omega
      refine ⟨_, rfl, _, _, rfl, rfl, ⟨by decide, by decide⟩, .inl ⟨_, rfl, _, rfl, _, _, rfl, rfl, by omega, ?_⟩⟩
      exact q _ _ (nr _ m0).1 (nr _ m0).2 (.put ⟨d, e, k + 1, rfl, d0, e0, e1, by omega, by omega⟩)
/-- one of some values -/
def spOf : Sp := fun vs H Q _ => ∃ (b l : Addr) (xs : List V) (c : Nat), vs = [.ref b, .ref l] ∧ l ≠ b ∧ H l = some (.lst xs) ∧ xs ≠ [] ∧ xs.length < 1000000 ∧ BagAt H b c ∧ c < 1000000000 ∧
  ∀ (x : V) (H' : Hp), x ∈ xs → Go b (c + 1) H H' → Q x H'
theorem c_l_of (T : Tx K mg) : Cl P w K mg base 2 "_law_of" spOf := by
  have c_l_take := c_l_take (P := P) (w := w) (base := base) T
  refine clD T.f_l_of T.g_l_of sc_l_of (fun _ _ _ _ _ _ us hl => match us, hl with | [_, _], _ => rfl) (fun vs H Q E h => ?_) (fun cdv A outer s H vs Q E hr h => ?_)
  · obtain ⟨b, l, xs, c, rfl, _⟩ := h
    rfl
  · obtain ⟨b, l, xs, c, rfl, hn, hl, hx, hz, hb, hc, q⟩ := h
    refine ⟨_, (pss_one (ps_ret (pe_ix (ix_listK (K := K) rfl) (pv 1) (pe_f c_l_take hr (by first | decide | omega) (pa_cons (pv 0) (pa_cons (pe_callB (call_len_seqK (K := K) rfl) rfl T.b_len boot_len (pa_cons (pv 1) pa_nil)) pa_nil))) (fun _ _ => rfl)))), ?_⟩
    have hp : 0 < xs.length := List.length_pos_iff.mpr hx
    refine ⟨_, rfl, _, rfl, _, rfl, _, _, rfl, .inl (SqL.of hl), b, _, c, rfl, by omega, by omega, hb, hc, fun r H' r0 r1 g => ?_⟩
    obtain ⟨x, ex, mx⟩ := at_some r0 r1
    exact ⟨_, _, _, _, rfl, rfl, SqL.of (g.keep _ _ hn hl), ex, q _ _ mx g⟩
def spBag (K : PySem.W.Frag) : Sp := fun vs H Q _ => ∃ (a : Addr) (ns : List Int) (i : Nat), vs = [.ref a, .int i] ∧ SqL K H a (ns.map V.int) ∧ ns.length ≤ 63 ∧ i ≤ 63 ∧
  ∀ (p : Addr) (ys : List V), H p = none → BagV 0 ys → Q (.ref p) (upd H p (.lst ys))
theorem bag_ok (i : Nat) (hi : i ≤ 63) (c d : Int) (hd : 0 ≤ d) : BagV 0 [.int d, .int (c.fmod 2305843009213693951 * 7 + 9431 * (i : Int) + 5557), .int 0] := by
  have q := nr c (m := 2305843009213693951) (by decide)
  exact ⟨_, _, _, rfl, hd, by omega, by omega, Int.le_refl 0, Int.le_refl 0⟩
theorem c_l_bag (T : Tx K mg) : Cl P w K mg base 1 "_law_bag" (spBag K) := by
  refine clD T.f_l_bag T.g_l_bag sc_l_bag (fun _ _ _ _ _ _ us hl => match us, hl with | [_, _], _ => rfl) (fun vs H Q E h => ?_) (fun cdv A outer s H vs Q E hr h => ?_)
  · obtain ⟨a, ns, i, rfl, _⟩ := h
    rfl
  · obtain ⟨a, ns, i, rfl, hs, hz, hi, q⟩ := h
    refine ⟨_, (pss_cons (ps_set (i := 2) sc_l_bag.nd rfl (by first | exact Or.inl rfl | exact Or.inr rfl) (pe_ifExp (pt_cmpR op_lt (pv 1) (pe_callB (call_len_seqK (K := K) rfl) rfl T.b_len boot_len (pa_cons (pv 0) pa_nil)) (nomark _)) (pe_ix (ix_listK (K := K) rfl) (pv 0) (pv 1) (fun _ _ => rfl)) pe_int))
      (pss_cons (ps_set (i := 3) sc_l_bag.nd rfl (by first | exact Or.inl rfl | exact Or.inr rfl) (pe_ifExp (pt_cmpR op_ge (pe_callB call_abs rfl T.b_abs boot_abs (pa_cons (pv 2) pa_nil)) (pe_op op_pow pe_int pe_int) (nomark _)) (pe_callB call_abs rfl T.b_abs boot_abs (pa_cons (pv 2) pa_nil)) pe_int))
      (pss_one (ps_ret (pe_lst (pa_cons (pv 3) (pa_cons (pe_op op_add (pe_op op_add (pe_op op_mul (pe_op op_modN (pe_callTy call_int1 rfl T.b_int boot_int (pa_cons (pv 2) pa_nil)) pe_int) pe_int) (pe_op op_mul pe_int (pv 1))) pe_int) (pa_cons pe_int pa_nil)))))))), ?_⟩
    refine ⟨_, rfl, _, rfl, _, _, rfl, .inl hs, _, _, rfl, rfl, _, rfl, ?_⟩
    refine ite2 (fun h1 => ?_) (fun h1 => ?_)
    · have h2 : i < ns.length := by have := of_decide_eq_true h1; rw [List.length_map] at this; omega
      refine ⟨_, rfl, _, rfl, _, _, _, _, rfl, rfl, hs, atI_nat (v := .int ns[i]) (by rw [List.getElem?_map, List.getElem?_eq_getElem h2] <;> rfl), ?_⟩
      refine ⟨_, rfl, _, rfl, _, _, rfl, rfl, ⟨by decide, by decide, by decide⟩, _, _, rfl, rfl, _, rfl, ?_⟩
      refine ite2 (fun h1 => ?_) (fun h1 => ?_)
      · refine ⟨_, rfl, _, rfl, _, rfl, _, rfl, .inl ⟨_, rfl, _, _, rfl, rfl, nz_b, ?_⟩⟩
        have q1 := nr ns[i] (m := 2305843009213693951) (by decide)
        refine ⟨_, _, rfl, rfl, .inr ⟨by decide, by decide⟩, _, rfl, _, _, rfl, rfl, .inl ⟨by decide, by decide⟩, _, _, rfl, rfl, _, _, rfl, rfl, by show 3 ≤ sizeLine; decide, fun p hp => q p _ hp (bag_ok i hi _ _ ?_)⟩
        split <;> omega
      · refine ⟨_, rfl, _, rfl, .inl ⟨_, rfl, _, _, rfl, rfl, nz_b, ?_⟩⟩
        exact ⟨_, _, rfl, rfl, .inr ⟨by decide, by decide⟩, _, rfl, _, _, rfl, rfl, .inl ⟨by decide, by decide⟩, _, _, rfl, rfl, _, _, rfl, rfl, by show 3 ≤ sizeLine; decide, fun p hp => q p _ hp (bag_ok i hi _ 0 (Int.le_refl 0))⟩
    · refine ⟨_, rfl, _, rfl, _, _, rfl, rfl, ⟨by decide, by decide, by decide⟩, _, _, rfl, rfl, _, rfl, ?_⟩
      refine iteF ⟨_, rfl, _, rfl, .inl ⟨_, rfl, _, _, rfl, rfl, nz_b, ?_⟩⟩
      exact ⟨_, _, rfl, rfl, .inr ⟨by decide, by decide⟩, _, rfl, _, _, rfl, rfl, .inl ⟨by decide, by decide⟩, _, _, rfl, rfl, _, _, rfl, rfl, by show 3 ≤ sizeLine; decide, fun p hp => q p _ hp (bag_ok i hi _ 0 (Int.le_refl 0))⟩
end

/-! ### names of lists -/
/-- a name: one to three letters -/
def NameOk (n : Str) : Prop := n.cps.toList ≠ [] ∧ n.cps.toList.length ≤ 3 ∧ ∀ c ∈ n.cps.toList, 97 ≤ c ∧ c ≤ 122
abbrev sV (l : List Str) : List V := l.map V.str
theorem sV_all (l : List Str) : (sV l).all flatV = true := by
  rw [List.all_map]
  exact List.all_eq_true.mpr fun _ _ => rfl
theorem inV_sV (x : Str) : ∀ l : List Str, inV (.str x) (sV l) = decide (x ∈ l)
  | [] => rfl
  | y :: r => by
    have ih := inV_sV x r
    have e : inV (.str x) (sV (y :: r)) = (eqV (.str y) (.str x) || inV (.str x) (sV r)) := rfl
    rw [e, ih]
    have e2 : eqV (.str y) (.str x) = (y == x) := rfl
    rw [e2]
    by_cases h : y = x
    · subst h
      simp
    · have h' : ¬ x = y := fun q => h q.symm
      simp [h, h']
theorem abc_at {r : Int} (h0 : 0 ≤ r) (h1 : r < 26) : ∃ c : Nat, atI ("abcdefghijklmnopqrstuvwxyz" : Str).cps.toList r = some c ∧ 97 ≤ c ∧ c ≤ 122 := by
  obtain ⟨n, rfl⟩ := Int.eq_ofNat_of_zero_le h0
  have hn : n < 26 := by omega
  have e : ∀ m : Nat, m < 26 → ("abcdefghijklmnopqrstuvwxyz" : Str).cps.toList[m]? = some (97 + m) := by decide +kernel
  exact ⟨97 + n, atI_nat (e n hn), by omega, by omega⟩
theorem tl_cat (a b : Str) : (a ++ b).cps.toList = a.cps.toList ++ b.cps.toList := TL.tl_append a b
theorem len_tl (a : Str) : a.length = a.cps.toList.length := by
  unfold Str.length
  rw [Array.length_toList]
theorem name1 {c : Nat} (h1 : 97 ≤ c) (h2 : c ≤ 122) {z : Str} (hz : z.cps.toList.length ≤ 2) (hl : ∀ c ∈ z.cps.toList, 97 ≤ c ∧ c ≤ 122) : NameOk ((⟨#[c]⟩ : Str) ++ z) := by
  unfold NameOk
  rw [tl_cat]
  refine ⟨by simp, by simp; omega, fun d hd => ?_⟩
  rcases List.mem_append.mp hd with h | h
  · have e : d = c := by simpa using h
    subst e
    exact ⟨h1, h2⟩
  · exact hl d h
theorem name2 {c : Nat} (h1 : 97 ≤ c) (h2 : c ≤ 122) : NameOk (("q" : Str) ++ (⟨#[c]⟩ : Str) ++ ("x" : Str)) := by
  have e : (("q" : Str) ++ (⟨#[c]⟩ : Str) ++ ("x" : Str)).cps.toList = [113, c, 120] := by
    rw [tl_cat, tl_cat] <;> rfl
  unfold NameOk
  rw [e]
  refine ⟨by simp, by simp, fun d hd => ?_⟩
  simp only [List.mem_cons, List.not_mem_nil, or_false] at hd
  rcases hd with h | h | h <;> omega
def spNames : Sp := fun vs H Q _ => ∃ (b : Addr) (c : Nat), vs = [.ref b] ∧ BagAt H b c ∧ c + 4 < 1000000000 ∧
  ∀ (p : Addr) (ns : List Str) (H' : Hp), H p = none → Go b (c + 4) H H' → H' p = some (.lst (sV ns)) → ns ≠ [] → ns.length ≤ 2 → (∀ n ∈ ns, NameOk n) → Q (.ref p) H'
section
variable {P : Program} {w : World} {K : PySem.W.Frag} {mg : Str → Option Value} {base : Heap}
theorem c_l_names (T : Tx K mg) : Cl P w K mg base 2 "_law_names" spNames := by
  have c_l_take := c_l_take (P := P) (w := w) (base := base) T
  refine clD T.f_l_names T.g_l_names sc_l_names (fun _ _ _ _ _ _ us hl => match us, hl with | [_], _ => rfl) (fun vs H Q E h => ?_) (fun cdv A outer s H vs Q E hr h => ?_)
  · obtain ⟨b, c, rfl, _⟩ := h
    rfl
  · obtain ⟨b, c, rfl, hb, hc, q⟩ := h
    refine ⟨_, (pss_cons (ps_set (i := 1) sc_l_names.nd rfl (by first | exact Or.inl rfl | exact Or.inr rfl) pe_str)
      (pss_cons (ps_set (i := 2) sc_l_names.nd rfl (by first | exact Or.inl rfl | exact Or.inr rfl) (pe_op op_add_str (pe_ix ix_str (pv 1) (pe_f c_l_take hr (by first | decide | omega) (pa_cons (pv 0) (pa_cons pe_int pa_nil))) (fun _ _ => rfl)) (pe_ix (ix_listK (K := K) rfl) (pe_lst (pa_cons pe_str (pa_cons pe_str (pa_cons pe_str pa_nil)))) (pe_f c_l_take hr (by first | decide | omega) (pa_cons (pv 0) (pa_cons pe_int pa_nil))) (fun _ _ => rfl))))
      (pss_one (ps_ret (pe_ix (ix_listK (K := K) rfl) (pe_lst (pa_cons (pe_lst (pa_cons (pv 2) pa_nil)) (pa_cons (pe_lst (pa_cons (pv 2) (pa_cons (pe_op op_add_str (pe_op op_add_str pe_str (pe_ix ix_str (pv 1) (pe_f c_l_take hr (by first | decide | omega) (pa_cons (pv 0) (pa_cons pe_int pa_nil))) (fun _ _ => rfl))) pe_str) pa_nil))) pa_nil))) (pe_f c_l_take hr (by first | decide | omega) (pa_cons (pv 0) (pa_cons pe_int pa_nil))) (fun _ _ => rfl)))))), ?_⟩
    refine ⟨_, rfl, _, rfl, b, 26, c, rfl, by decide, by decide, hb, by omega, fun r1 H1 r10 r11 g1 => ?_⟩
    obtain ⟨c1, e1, l1, u1⟩ := abc_at r10 r11
    refine ⟨_, _, c1, rfl, rfl, by decide +kernel, e1, by show 3 ≤ sizeLine; decide, fun p np => new_at np fun H2 s2 h2 => ?_⟩
    refine ⟨_, rfl, b, 3, c + 1, rfl, by decide, by decide, g1.bag.same s2, by omega, fun r2 H3 r20 r21 g3 => ?_⟩
    have hpb : p ≠ b := g1.bag.ne np
    have h3 := g3.keep p _ hpb h2
    have g03 : Go b (c + 2) H H3 := (g1.mono (Nat.le_succ _)).same s2 |>.trans g3
    obtain ⟨z, e2, hz⟩ : ∃ z : Str, atI [V.str (""), V.str "a", V.str "zz"] r2 = some (V.str z) ∧ z.cps.toList.length ≤ 2 ∧ ∀ c ∈ z.cps.toList, 97 ≤ c ∧ c ≤ 122 := by
      obtain ⟨x, e, m⟩ := at_some (xs := [V.str (""), V.str "a", V.str "zz"]) r20 r21
      simp only [List.mem_cons, List.not_mem_nil, or_false] at m
      rcases m with rfl | rfl | rfl
      · exact ⟨"", e, by decide +kernel, by decide +kernel⟩
      · exact ⟨"a", e, by decide +kernel, by decide +kernel⟩
      · exact ⟨"zz", e, by decide +kernel, by decide +kernel⟩
    have hn := name1 l1 u1 hz.1 hz.2
    refine ⟨p, _, _, _, rfl, rfl, SqL.of h3, e2, _, _, rfl, rfl, ?_, ?_⟩
    · have k1 : (⟨#[c1]⟩ : Str).length = 1 := rfl
      have k2 := hz.1
      rw [← len_tl] at k2
      rw [k1]
      exact Nat.le_trans (Nat.add_le_add_left k2 1) (by decide)
    generalize (⟨#[c1]⟩ : Str) ++ z = n1 at hn
    refine ⟨_, rfl, by show 1 ≤ sizeLine; decide, fun p4 np4 => new_at np4 fun H4 s4 h4 => ?_⟩
    refine ⟨_, rfl, _, rfl, _, rfl, b, 26, c + 2, rfl, by decide, by decide, g3.bag.same s4, by omega, fun r5 H5 r50 r51 g5 => ?_⟩
    obtain ⟨c5, e5, l5, u5⟩ := abc_at r50 r51
    have g05 : Go b (c + 3) H H5 := ((g03.mono (Nat.le_succ _)).same s4).trans g5
    have n4b : p4 ≠ b := g3.bag.ne np4
    have h45 := g5.keep p4 _ n4b h4
    refine ⟨_, _, c5, rfl, rfl, by decide +kernel, e5, _, _, rfl, rfl, by show 2 ≤ sizeLine; decide, _, _, rfl, rfl, by show 3 ≤ sizeLine; decide, by show 2 ≤ sizeLine; decide, fun p6 np6 => new_at np6 fun H6 s6 h6 => ?_⟩
    refine ⟨by show 2 ≤ sizeLine; decide, fun p7 np7 => new_at np7 fun H7 s7 h7 => ?_⟩
    have g07 : Go b (c + 3) H H7 := (g05.same s6).same s7
    refine ⟨_, rfl, b, 2, c + 3, rfl, by decide, by decide, g07.bag, by omega, fun r8 H8 r80 r81 g8 => ?_⟩
    have g08 : Go b (c + 4) H H8 := (g07.mono (Nat.le_succ _)).trans g8
    have n7b : p7 ≠ b := (g05.same s6).bag.ne np7
    have n6b : p6 ≠ b := g05.bag.ne np6
    obtain ⟨x, e8, m8⟩ := at_some (xs := [V.ref p4, V.ref p6]) r80 r81
    refine ⟨p7, _, _, _, rfl, rfl, SqL.of (g8.keep p7 _ n7b h7), e8, ?_⟩
    simp only [List.mem_cons, List.not_mem_nil, or_false] at m8
    rcases m8 with rfl | rfl
    · exact q p4 [n1] H8 (g03.free np4) g08 (g8.keep _ _ n4b (s7 _ _ (s6 _ _ h45))) (by simp) (by simp) (fun n h => by
        have e : n = n1 := by simpa using h
        rw [e]; exact hn)
    · exact q p6 [n1, _] H8 (g05.free np6) g08 (g8.keep _ _ n6b (s7 _ _ h6)) (by simp) (by simp) (fun n h => by
        simp only [List.mem_cons, List.not_mem_nil, or_false] at h
        rcases h with rfl | rfl
        · exact hn
        · exact name2 l5 u5)
end

/-! ### may a drain or close stand here -/
def scanR (w : Str) : List Str → Bool
  | [] => false
  | x :: r => if x = "rescue" then true else if x = "retry" ∧ w = "close" then false else scanR w r
def mayRs (ws : List Str) (w : Str) : Bool := if ("each" : Str) ∈ ws then scanR w (ws.drop (ws.idxOf ("each" : Str))) else true
def spMay : Sp := fun vs H Q _ => ∃ (a : Addr) (ws : List Str) (z : Str), vs = [.ref a, .str z] ∧ H a = some (.lst (sV ws)) ∧ ws.length ≤ 1000 ∧ ∀ H', Same H H' → Q (.bl (mayRs ws z)) H'
theorem sV_get {l : List Str} {i : Nat} {x : V} (h : (sV l)[i]? = some x) : ∃ z, x = .str z ∧ l[i]? = some z := by
  rw [List.getElem?_map] at h
  cases e : l[i]? with
  | none => rw [e] at h; cases h
  | some z => rw [e] at h; exact ⟨z, (Option.some.inj h).symm, rfl⟩
theorem drop_get {α : Type} {l : List α} {i : Nat} {x : α} (h : l[i]? = some x) : l.drop i = x :: l.drop (i + 1) := by
  obtain ⟨hi, e⟩ := List.getElem?_eq_some_iff.mp h
  rw [List.drop_eq_getElem_cons hi, e]
theorem ne_each {l : List Str} {m : Nat} {z : Str} (h : m < l.idxOf ("each" : Str)) (e : l[m]? = some z) : ¬ z = "each" := by
  intro q
  subst q
  obtain ⟨hm, e⟩ := List.getElem?_eq_some_iff.mp e
  have q := List.not_of_lt_findIdx (p := (· == ("each" : Str))) (xs := l) h
  rw [e] at q
  simp at q
theorem bl_eq {a b : Bool} (h : a = b) {Q : VK} {H : Hp} (q : Q (.bl b) H) : Q (.bl a) H := h ▸ q
section
variable {P : Program} {w : World} {K : PySem.W.Frag} {mg : Str → Option Value} {base : Heap}
theorem c_l_may_reset (T : Tx K mg) : Cl P w K mg base 1 "_law_may_reset" spMay := by
  refine clD T.f_l_may_reset T.g_l_may_reset sc_l_may_reset (fun _ _ _ _ _ _ us hl => match us, hl with | [_, _], _ => rfl) (fun vs H Q E h => ?_) (fun cdv A outer s H vs Q E hr h => ?_)
  · obtain ⟨a, ws, z, rfl, _⟩ := h
    rfl
  · obtain ⟨a, ws, z, rfl, ha, hl, q⟩ := h
    refine ⟨_, (pss_cons (ps_if (pt_cmpR (op_notIn_seqK (K := K) rfl) pe_str (pv 0) (by rfl)) (pss_one (ps_ret pe_bl)) pss_nil)
      (pss_cons (ps_for PassesOwn.never rfl (pi_list (pe_slice (sl_listK (K := K) rfl) (pv 0) (po_some (pe_bmK (K := K) rfl PySem.F.plainAttrs_list PySem.F.slot_list_index PySem.F.type_list_index (mt_indexK (K := K) rfl) (pv 0) (pa_cons pe_str pa_nil))) po_none)) (pg_name (i := 2) sc_l_may_reset.nd rfl (by first | exact Or.inl rfl | exact Or.inr rfl)) (pss_cons (ps_if (pt_cmpR op_eq (pv 2) pe_str (nomark _)) (pss_one (ps_ret pe_bl)) pss_nil)
          (pss_one (ps_if (PW.pt (pw_and (pt_cmpR op_eq (pv 2) pe_str (nomark _)) (pw_and1 (pt_cmpR op_eq (pv 1) pe_str (nomark _))))) (pss_one (ps_ret pe_bl)) pss_nil))))
      (pss_one (ps_ret pe_bl)))), ?_⟩
    refine ⟨_, rfl, a, _, rfl, .inl (SqL.of ha), rfl, sV_all ws, _, rfl, ?_⟩
    show if (!inV (.str "each") (sV ws)) = true then _ else _
    rw [inV_sV]
    refine ite2 (fun h => ?_) (fun h => ?_)
    · have hn : ¬ ("each" : Str) ∈ ws := by simpa using h
      exact bl_eq (b := mayRs ws z) (by unfold mayRs; rw [if_neg hn]) (q H (Same.refl H))
    · have hm : ("each" : Str) ∈ ws := by simpa using h
      have hj : ws.idxOf ("each" : Str) < ws.length := List.idxOf_lt_length_iff.mpr hm
      have ez : ws[ws.idxOf ("each" : Str)]? = some "each" := by
        rw [List.getElem?_eq_getElem hj]
        exact congrArg some (List.getElem_idxOf hj)
      have eR : mayRs ws z = scanR z (ws.drop (ws.idxOf ("each" : Str))) := by unfold mayRs; rw [if_pos hm]
      refine ⟨_, rfl, _, rfl, .inl ⟨rfl, _, SqL.of ha⟩, a, sV ws, .str "each", ws.idxOf ("each" : Str), .str "each", rfl, rfl, SqL.of ha, rfl, sV_all ws, ?_, rfl, fun m y hm' ey => ?_, _, rfl, ?_⟩
      · rw [List.getElem?_map, ez] <;> rfl
      · obtain ⟨y, rfl, e⟩ := sV_get ey
        show (y == ("each" : Str)) = false
        exact beq_eq_false_iff_ne.mpr (ne_each hm' e)
      generalize ws.idxOf ("each" : Str) = j at hj ez eR
      refine ⟨a, sV ws, rfl, SqL.of ha, fun p np => new_at np fun H1 s1 h1 => ?_⟩
      have ec : cutV (sV ws) (some (j : Int)) none = sV (ws.drop j) := by
        unfold cutV
        rw [HT.sIx_none, HT.sIx_nat, List.length_map, Nat.min_eq_left (Nat.le_of_lt hj), ← List.map_drop]
        exact List.take_of_length_le (by simp)
      rw [ec] at h1
      generalize ws.drop j = l at h1 eR
      refine ⟨p, rfl, ⟨_, SqL.of h1⟩, for_list (xs := sV l) (fun i σ H' => H' = H1 ∧ (∃ x, σ = [some (.ref a), some (.str z), x]) ∧ scanR z (l.drop i) = scanR z l) ⟨rfl, ⟨_, rfl⟩, by rw [List.drop_zero]⟩ (fun i σ H' _ h => by rw [h.1]; exact SqL.of h1) (fun i x σ H' hx h => ?_) (fun σ H' h => ?_)⟩
      · obtain ⟨rfl, ⟨y, rfl⟩, e⟩ := h
        obtain ⟨x, rfl, ex⟩ := sV_get hx
        rw [drop_get ex] at e
        refine ⟨_, rfl, rfl, _, rfl, ?_⟩
        refine ite2 (fun h => ?_) (fun h => ?_)
        · have hx : x = "rescue" := V.str.inj (of_decide_eq_true h)
          refine bl_eq (b := mayRs ws z) ?_ (q _ s1)
          rw [eR, ← e]
          exact (if_pos hx).symm
        · have hx : ¬ x = "rescue" := fun q => h (decide_eq_true (congrArg V.str q))
          have e2 : scanR z (x :: l.drop (i + 1)) = if x = "retry" ∧ z = "close" then false else scanR z (l.drop (i + 1)) := if_neg hx
          rw [e2] at e
          refine ⟨_, rfl, rfl, _, rfl, ite2 (fun h2 => ⟨_, rfl, rfl, _, rfl, ite2 (fun h3 => ?_) (fun h3 => ?_)⟩) (fun h2 => ?_)⟩
          · refine bl_eq (b := mayRs ws z) ?_ (q _ s1)
            rw [eR, ← e]
            exact (if_pos ⟨V.str.inj (of_decide_eq_true h2), V.str.inj (of_decide_eq_true h3)⟩).symm
          · refine ⟨rfl, ⟨_, rfl⟩, ?_⟩
            rw [← e]
            exact (if_neg fun q => h3 (decide_eq_true (congrArg V.str q.2))).symm
          · refine ⟨rfl, ⟨_, rfl⟩, ?_⟩
            rw [← e]
            exact (if_neg fun q => h2 (decide_eq_true (congrArg V.str q.1))).symm
      · obtain ⟨rfl, ⟨y, rfl⟩, e⟩ := h
        refine bl_eq (b := mayRs ws z) ?_ (q _ s1)
        rw [eR, ← e, List.drop_eq_nil_of_le (by simp)]
        rfl
end

/-! ### plain rows -/
def plainSet : List (List Str) := [["ask", "read"], ["ask", "pause", "read"], ["begin", "finish", "read"], ["ask", "head", "body"], ["pause"], ["check"], ["begin", "pause", "finish", "head", "body"], ["ask", "ask", "read", "read"], ["check"]]
/-- all but one object stays, new ones may stand -/
def Off (D : Addr) (H H' : Hp) : Prop := ∀ a o, a ≠ D → H a = some o → H' a = some o
theorem Off.refl (D : Addr) (H : Hp) : Off D H H := fun _ _ _ e => e
theorem Off.put {D : Addr} {H H' : Hp} {o : HO} (f : Off D H H') : Off D H (upd H' D o) := fun a u n e => by
  rw [upd_ne n]
  exact f a u n e
theorem Off.new {D p : Addr} {H H' : Hp} {o : HO} (f : Off D H H') (np : H' p = none) : Off D H (upd H' p o) := fun a u n e => same_new np a u (f a u n e)
theorem Off.same {D : Addr} {H H1 H' : Hp} (f : Off D H H1) (e : Same H1 H') : Off D H H' := fun a u n q => e a u (f a u n q)
/-- a new list of texts, given back: what stood stands, the bag is drawn from n times at most -/
def NewStrs (b : Addr) (c : Nat) (H : Hp) (Q : VK) (G : List Str → Prop) : Prop :=
  ∀ (p : Addr) (l : List Str) (H' : Hp), H p = none → Go b c H H' → H' p = some (.lst (sV l)) → G l → Q (.ref p) H'
def spPlain : Sp := fun vs H Q _ => ∃ (b : Addr) (n c : Nat), vs = [.ref b, .int n] ∧ 1 ≤ n ∧ BagAt H b c ∧ c + 1 < 1000000000 ∧ NewStrs b (c + 1) H Q (fun l => l ∈ plainSet ∧ l.length ≤ n)
section
variable {P : Program} {w : World} {K : PySem.W.Frag} {mg : Str → Option Value} {base : Heap}
theorem c_l_plain (T : Tx K mg) : Cl P w K mg base 3 "_law_plain" spPlain := by
  have c_l_of := c_l_of (P := P) (w := w) (base := base) T
  refine clD T.f_l_plain T.g_l_plain sc_l_plain (fun _ _ _ _ _ _ us hl => match us, hl with | [_, _], _ => rfl) (fun vs H Q E h => ?_) (fun cdv A outer s H vs Q E hr h => ?_)
  · obtain ⟨b, n, c, rfl, _⟩ := h
    rfl
  · obtain ⟨b, n, c, rfl, hn, hb, hc, q⟩ := h
    refine ⟨_, (pss_cons (ps_set (i := 2) sc_l_plain.nd rfl (by first | exact Or.inl rfl | exact Or.inr rfl) (pe_lst (pa_cons (pe_lst (pa_cons pe_str (pa_cons pe_str pa_nil))) (pa_cons (pe_lst (pa_cons pe_str (pa_cons pe_str (pa_cons pe_str pa_nil)))) (pa_cons (pe_lst (pa_cons pe_str (pa_cons pe_str (pa_cons pe_str pa_nil)))) (pa_cons (pe_lst (pa_cons pe_str (pa_cons pe_str (pa_cons pe_str pa_nil)))) (pa_cons (pe_lst (pa_cons pe_str pa_nil)) pa_nil)))))))
      (pss_cons (ps_set (i := 2) sc_l_plain.nd rfl (by first | exact Or.inl rfl | exact Or.inr rfl) (pe_op op_cat (pv 2) (pe_lst (pa_cons (pe_lst (pa_cons pe_str pa_nil)) (pa_cons (pe_lst (pa_cons pe_str (pa_cons pe_str (pa_cons pe_str (pa_cons pe_str (pa_cons pe_str pa_nil)))))) (pa_cons (pe_lst (pa_cons pe_str (pa_cons pe_str (pa_cons pe_str (pa_cons pe_str pa_nil))))) (pa_cons (pe_lst (pa_cons pe_str pa_nil)) pa_nil)))))))
      (pss_one (ps_ret (pe_f c_l_of hr (by first | decide | omega) (pa_cons (pv 0) (pa_cons (pe_lc (own := [("_law_one", 3)]) (g := gName 3) rfl sc_l_plain.nd (pi_list (pv 2)) (blkOk_by (N := ["_law_bag_here", "_law_left", "_law_some", "_law_one"]) (sc := defScope s_l_plain) (by decide +kernel)) (fun _ _ _ _ _ => (pg_name (i := 3) sc_l_plain.nd rfl (by first | exact Or.inl rfl | exact Or.inr rfl))) (fun _ _ _ _ _ => (pts_one (pt_cmpR op_le (pe_callB (call_len_seqK (K := K) rfl) rfl T.b_len boot_len (pa_cons (pv 3) pa_nil)) (pv 1) (nomark _)))) (fun _ _ _ _ _ => (pv 3))) pa_nil))))))), ?_⟩
    refine ⟨by show 2 ≤ sizeLine; decide, fun p1 n1 => new_at n1 fun H1 s1 h1 => ⟨by show 3 ≤ sizeLine; decide, fun p2 n2 => new_at n2 fun H2 s2 h2 => ⟨by show 3 ≤ sizeLine; decide, fun p3 n3 => new_at n3 fun H3 s3 h3 =>
      ⟨by show 3 ≤ sizeLine; decide, fun p4 n4 => new_at n4 fun H4 s4 h4 => ⟨by show 1 ≤ sizeLine; decide, fun p5 n5 => new_at n5 fun H5 s5 h5 => ⟨by show 5 ≤ sizeLine; decide, fun pa na => new_at na fun Ha sa ha => ?_⟩⟩⟩⟩⟩⟩
    have sa0 : Same H Ha := ((((s1.trans s2).trans s3).trans s4).trans s5).trans sa
    refine ⟨_, rfl, by show 1 ≤ sizeLine; decide, fun p6 n6 => new_at n6 fun H6 s6 h6 => ⟨by show 5 ≤ sizeLine; decide, fun p7 n7 => new_at n7 fun H7 s7 h7 => ⟨by show 4 ≤ sizeLine; decide, fun p8 n8 => new_at n8 fun H8 s8 h8 =>
      ⟨by show 1 ≤ sizeLine; decide, fun p9 n9 => new_at n9 fun H9 s9 h9 => ⟨by show 4 ≤ sizeLine; decide, fun pb nb => new_at nb fun Hb sb hb' => ⟨pa, pb, _, _, rfl, rfl, sb _ _ (s9 _ _ (s8 _ _ (s7 _ _ (s6 _ _ ha)))), hb', by show 9 ≤ sizeLine; decide, fun pc nc => new_at nc fun Hc sc hc' => ?_⟩⟩⟩⟩⟩⟩
    have f1 : Same H1 Hc := ((((((((((s2.trans s3).trans s4).trans s5).trans sa).trans s6).trans s7).trans s8).trans s9).trans sb).trans sc)
    have f6 : Same H6 Hc := ((((s7.trans s8).trans s9).trans sb).trans sc)
    have e0 : Same H Hc := s1.trans f1
    have a1 := f1 _ _ h1
    have f2 : Same H2 Hc := ((((((((s3.trans s4).trans s5).trans sa).trans s6).trans s7).trans s8).trans s9).trans sb).trans sc
    have a2 := f2 _ _ h2
    have f3 : Same H3 Hc := (((((((s4.trans s5).trans sa).trans s6).trans s7).trans s8).trans s9).trans sb).trans sc
    have a3 := f3 _ _ h3
    have f4 : Same H4 Hc := ((((((s5.trans sa).trans s6).trans s7).trans s8).trans s9).trans sb).trans sc
    have a4 := f4 _ _ h4
    have f5 : Same H5 Hc := (((((sa.trans s6).trans s7).trans s8).trans s9).trans sb).trans sc
    have a5 := f5 _ _ h5
    have a6 := f6 _ _ h6
    have a7 := (((s8.trans s9).trans sb).trans sc) _ _ h7
    have a8 := ((s9.trans sb).trans sc) _ _ h8
    have a9 := (sb.trans sc) _ _ h9
    have m2 := s1.free n2
    have m3 := (s1.trans s2).free n3
    have m4 := ((s1.trans s2).trans s3).free n4
    have m5 := (((s1.trans s2).trans s3).trans s4).free n5
    have m6 := sa0.free n6
    have m7 := (sa0.trans s6).free n7
    have m8 := ((sa0.trans s6).trans s7).free n8
    have m9 := (((sa0.trans s6).trans s7).trans s8).free n9
    have all : ∀ (i : Nat) (x : V), [V.ref p1, .ref p2, .ref p3, .ref p4, .ref p5, .ref p6, .ref p7, .ref p8, .ref p9][i]? = some x → ∃ a l, x = .ref a ∧ H a = none ∧ Hc a = some (.lst (sV l)) ∧ plainSet[i]? = some l := fun i x h => by
      match i, h with
      | 0, h => exact ⟨p1, plainSet[0], (Option.some.inj h).symm, n1, a1, rfl⟩
      | 1, h => exact ⟨p2, plainSet[1], (Option.some.inj h).symm, m2, a2, rfl⟩
      | 2, h => exact ⟨p3, plainSet[2], (Option.some.inj h).symm, m3, a3, rfl⟩
      | 3, h => exact ⟨p4, plainSet[3], (Option.some.inj h).symm, m4, a4, rfl⟩
      | 4, h => exact ⟨p5, plainSet[4], (Option.some.inj h).symm, m5, a5, rfl⟩
      | 5, h => exact ⟨p6, plainSet[5], (Option.some.inj h).symm, m6, a6, rfl⟩
      | 6, h => exact ⟨p7, plainSet[6], (Option.some.inj h).symm, m7, a7, rfl⟩
      | 7, h => exact ⟨p8, plainSet[7], (Option.some.inj h).symm, m8, a8, rfl⟩
      | 8, h => exact ⟨p9, plainSet[8], (Option.some.inj h).symm, m9, a9, rfl⟩
    clear f1 f2 f3 f4 f5 f6 a1 a2 a3 a4 a5 a6 a7 a8 a9
    refine ⟨_, rfl, _, rfl, pc, rfl, ⟨_, SqL.of hc'⟩, fun D nD => ?_⟩
    have hne : ∀ {a : Addr} {o : HO}, Hc a = some o → a ≠ D := fun e => ne_of_none e nD
    refine lc_list (K := K) (a := pc) (xs := [V.ref p1, .ref p2, .ref p3, .ref p4, .ref p5, .ref p6, .ref p7, .ref p8, .ref p9])
      (fun i H' => Off D Hc H' ∧ ∃ acc, H' D = some (.lst acc) ∧ acc.length ≤ i ∧ (5 ≤ i → acc ≠ []) ∧ ∀ x ∈ acc, ∃ a l, x = .ref a ∧ H a = none ∧ Hc a = some (.lst (sV l)) ∧ l ∈ plainSet ∧ l.length ≤ n)
      ⟨(Off.refl D Hc).put, [], upd_same, Nat.le_refl 0, fun h => by omega, fun x h => by cases h⟩ (fun i H' _ h => SqL.of (h.1 _ _ (hne hc') hc')) (fun i x H' hx h => ?_) (fun H' h => ?_)
    · obtain ⟨f, acc, hD, hl, h5', hall⟩ := h
      obtain ⟨a, l, rfl, fa, ea, el⟩ := all i x hx
      have ml : l ∈ plainSet := List.mem_of_getElem? el
      have i9 : i < 9 := (List.getElem?_eq_some_iff.mp hx).1
      refine ⟨rfl, _, rfl, a, sV l, rfl, .inl (SqL.of (f _ _ (hne ea) ea)), _, rfl, _, _, rfl, rfl, _, rfl, ?_⟩
      have ll : (sV l).length = l.length := List.length_map ..
      refine ite2 (fun h1 => ?_) (fun h1 => ?_)
      · have h2 : l.length ≤ n := by
          have h3 := of_decide_eq_true h1
          rw [ll] at h3
          omega
        refine ⟨_, rfl, acc, hD, Nat.lt_of_le_of_lt hl (Nat.lt_trans i9 (by decide)), f.put, _, upd_same, by simp; omega, fun _ => by simp, fun x hx => ?_⟩
        rcases List.mem_append.mp hx with h | h
        · exact hall x h
        · have e : x = V.ref a := by simpa using h
          exact ⟨a, l, e, fa, ea, ml, h2⟩
      · refine ⟨f, acc, hD, Nat.le_succ_of_le hl, fun h6 => ?_, hall⟩
        by_cases h7 : 5 ≤ i
        · exact h5' h7
        · exfalso
          have e4 : i = 4 := by omega
          subst e4
          have e5 : l = (["pause"] : List Str) := (Option.some.inj el).symm
          subst e5
          refine h1 (decide_eq_true ?_)
          show ((1 : Nat) : Int) ≤ (n : Int)
          omega
    · obtain ⟨f, acc, hD, hl, h5', hall⟩ := h
      have fr : Same H H' := fun a o e => f a o (hne (e0 a o e)) (e0 a o e)
      have bH := hb.same fr
      have Db : D ≠ b := (hb.same e0).ne nD
      refine ⟨b, D, acc, c, rfl, Db, hD, h5' (by show 5 ≤ 9; decide), Nat.lt_of_le_of_lt (show acc.length ≤ 9 from hl) (by decide), bH, by omega, fun x H2 mx g => ?_⟩
      obtain ⟨a, l, rfl, fa, ea, ml, ln⟩ := hall x mx
      exact q a l H2 fa ((Go.of hb fr).mono (Nat.le_succ _) |>.trans g) (g.strs bH (f _ _ (hne ea) ea)) ⟨ml, ln⟩
end

/-! ### rows, and what may stand where, by the modes of the open blocks (outermost first) -/
inductive Rw where
  | one (w : Str) | each (n : Str) | retry (k : Str)
def Rw.text : Rw → Str
  | .one w => w
  | .each n => ("each " : Str) ++ n
  | .retry k => ("retry " : Str) ++ k
def Rw.word : Rw → Str
  | .one w => w
  | .each _ => "each"
  | .retry _ => "retry"
def midWords : List Str := ["else", "finally", "rescue"]
def openWords : List Str := ["each", "maybe", "try", "shield", "retry"]
def plainWords : List Str := ["ask", "begin", "finish", "read", "head", "body", "pause", "check", "drain", "close", "return"]
def oneWords : List Str := plainWords ++ midWords ++ (["maybe", "try", "shield", "end"] : List Str)
def Rw.ok (ns : List Str) : Rw → Prop
  | .one w => w ∈ oneWords
  | .each n => n ∈ ns
  | .retry k => k ∈ (["1", "2", "3"] : List Str)
/-- the modes behind a row, none if it may not stand there -/
def stp (ms : List Str) (w : Str) : Option (List Str) :=
  if w ∈ midWords then (if ms.getLast? = (some (if w = "else" then ("maybe" : Str) else ("try" : Str)) : Option Str) then some (ms.dropLast ++ [w]) else none)
  else if w ∈ openWords then (if ms.length < 5 ∧ (w = "each" → ("each" : Str) ∉ ms) ∧ (w = "retry" → ms.count ("retry" : Str) < 2) then some (ms ++ [w]) else none)
  else if w = "end" then (match ms.getLast? with
    | none => none
    | some m => if m = "try" then none else some ms.dropLast)
  else if w = "return" then (if ("finally" : Str) ∈ ms ∨ ("rescue" : Str) ∈ ms then none else some ms)
  else if w = "drain" ∨ w = "close" then (if mayRs ms w = true then some ms else none)
  else some ms
/-- .. behind several rows, never more than mx deep -/
def runM (mx : Nat) : List Str → List Str → Option (List Str)
  | ms, [] => some ms
  | ms, w :: r => match stp ms w with
    | none => none
    | some m => if m.length ≤ mx then runM mx m r else none
theorem runM_app (mx : Nat) : ∀ (a b ms : List Str), runM mx ms (a ++ b) = (runM mx ms a).bind fun m => runM mx m b
  | [], b, ms => rfl
  | w :: r, b, ms => by
    show (match stp ms w with
      | none => none
      | some m => if m.length ≤ mx then runM mx m (r ++ b) else none) = (match stp ms w with
      | none => none
      | some m => if m.length ≤ mx then runM mx m r else none).bind _
    cases stp ms w with
    | none => rfl
    | some m =>
      show (if m.length ≤ mx then runM mx m (r ++ b) else none) = (if m.length ≤ mx then runM mx m r else none).bind _
      by_cases h : m.length ≤ mx
      · rw [if_pos h, if_pos h]
        exact runM_app mx r b m
      · rw [if_neg h, if_neg h] <;> rfl
theorem runM_cons {mx : Nat} {ms m : List Str} {w : Str} {r : List Str} (h : stp ms w = some m) (hl : m.length ≤ mx) : runM mx ms (w :: r) = runM mx m r := by
  show (match stp ms w with
      | none => none
      | some m => if m.length ≤ mx then runM mx m r else none) = _
  rw [h]
  exact if_pos hl
/-- a stretch that is read from ms to ms -/
structure Seg (mx : Nat) (ns ms : List Str) (l : List Rw) : Prop where
  run : runM mx ms (l.map Rw.word) = some ms
  ok : ∀ r ∈ l, r.ok ns
theorem seg_nil {mx : Nat} {ns ms : List Str} : Seg mx ns ms [] := ⟨rfl, fun _ h => by cases h⟩
theorem seg_app {mx : Nat} {ns ms : List Str} {a b : List Rw} (x : Seg mx ns ms a) (y : Seg mx ns ms b) : Seg mx ns ms (a ++ b) := by
  refine ⟨?_, fun r h => ?_⟩
  · rw [List.map_append, runM_app, x.run]
    exact y.run
  · rcases List.mem_append.mp h with h | h
    · exact x.ok r h
    · exact y.ok r h
def softWords : List Str := ["ask", "read", "begin", "finish", "head", "body", "pause", "check"]
theorem stp_soft {w : Str} (h : w ∈ softWords) (ms : List Str) : stp ms w = some ms := by
  have h1 : ¬ w ∈ midWords := by
    intro q
    simp only [softWords, midWords, List.mem_cons, List.not_mem_nil, or_false] at h q
    rcases h with h | h | h | h | h | h | h | h <;> subst h <;> rcases q with q | q | q <;> exact absurd q (by decide +kernel)
  have h2 : ¬ w ∈ openWords := by
    intro q
    simp only [softWords, openWords, List.mem_cons, List.not_mem_nil, or_false] at h q
    rcases h with h | h | h | h | h | h | h | h <;> subst h <;> rcases q with q | q | q | q | q <;> exact absurd q (by decide +kernel)
  have h3 : ¬ w = "end" ∧ ¬ w = "return" ∧ ¬ (w = "drain" ∨ w = "close") := by
    simp only [softWords, List.mem_cons, List.not_mem_nil, or_false] at h
    rcases h with h | h | h | h | h | h | h | h <;> subst h <;> decide +kernel
  unfold stp
  rw [if_neg h1, if_neg h2, if_neg h3.1, if_neg h3.2.1, if_neg h3.2.2]
theorem soft_one {w : Str} (h : w ∈ softWords) : w ∈ oneWords := by
  have : ∀ w ∈ softWords, w ∈ oneWords := by decide +kernel
  exact this w h
theorem seg_soft1 {mx : Nat} {ns ms : List Str} {w : Str} (h : w ∈ softWords) (hm : ms.length ≤ mx) : Seg mx ns ms [.one w] := by
  refine ⟨runM_cons (stp_soft h ms) hm, fun r hr => ?_⟩
  have e : r = .one w := by simpa using hr
  subst e
  exact soft_one h
theorem seg_softs {mx : Nat} {ns ms : List Str} (hm : ms.length ≤ mx) : ∀ l : List Str, (∀ w ∈ l, w ∈ softWords) → Seg mx ns ms (l.map .one)
  | [], _ => seg_nil
  | w :: r, h => seg_app (a := [.one w]) (seg_soft1 (h w (List.mem_cons_self ..)) hm) (seg_softs hm r fun x hx => h x (List.mem_cons_of_mem _ hx))
theorem seg_stay {mx : Nat} {ns ms : List Str} {w : Str} (h : stp ms w = some ms) (ho : w ∈ oneWords) (hm : ms.length ≤ mx) : Seg mx ns ms [.one w] := by
  refine ⟨runM_cons h hm, fun r hr => ?_⟩
  have e : r = .one w := by simpa using hr
  subst e
  exact ho
theorem plain_soft : ∀ l ∈ plainSet, ∀ w ∈ l, w ∈ softWords := by decide +kernel
theorem last_app (ms : List Str) (x : Str) : (ms ++ [x]).getLast? = some x := by simp
theorem drop_app (ms : List Str) (x : Str) : (ms ++ [x]).dropLast = ms := by simp
theorem stp_end {ms : List Str} {x : Str} (h : ¬ x = "try") : stp (ms ++ [x]) "end" = some ms := by
  unfold stp
  rw [if_neg (by decide +kernel), if_neg (by decide +kernel), if_pos rfl, last_app, drop_app]
  exact if_neg h
theorem stp_open {ms : List Str} {w : Str} (hw : w ∈ openWords) (hl : ms.length < 5) (he : w = "each" → ("each" : Str) ∉ ms) (hr : w = "retry" → ms.count ("retry" : Str) < 2) : stp ms w = some (ms ++ [w]) := by
  have h1 : ¬ w ∈ midWords := by
    have : ∀ w ∈ openWords, ¬ w ∈ midWords := by decide +kernel
    exact this w hw
  unfold stp
  rw [if_neg h1, if_pos hw, if_pos ⟨hl, he, hr⟩]
theorem stp_mid {ms : List Str} {x w : Str} (hw : w ∈ midWords) (h : x = if w = "else" then ("maybe" : Str) else ("try" : Str)) : stp (ms ++ [x]) w = some (ms ++ [w]) := by
  unfold stp
  rw [if_pos hw, last_app, drop_app, if_pos (congrArg some h)]
/-- a block around a stretch: its row, the stretch, its end -/
theorem seg_block {mx : Nat} {ns ms : List Str} {r : Rw} {l : List Rw} (hw : r.word ∈ openWords) (ht : ¬ r.word = "try") (hl : ms.length < 5) (hm : ms.length + 1 ≤ mx) (he : r.word = "each" → ("each" : Str) ∉ ms) (hr : r.word = "retry" → ms.count ("retry" : Str) < 2)
    (ho : r.ok ns) (s : Seg mx ns (ms ++ [r.word]) l) : Seg mx ns ms ([r] ++ l ++ [.one "end"]) := by
  refine ⟨?_, fun q hq => ?_⟩
  · rw [List.map_append, List.map_append, runM_app, runM_app]
    have e1 : runM mx ms ([r].map Rw.word) = some (ms ++ [r.word]) := runM_cons (stp_open hw hl he hr) (by simp; exact hm)
    rw [e1]
    show (runM mx (ms ++ [r.word]) (l.map Rw.word)).bind _ = _
    rw [s.run]
    exact runM_cons (stp_end ht) (Nat.le_of_succ_le hm)
  · simp only [List.mem_append, List.mem_singleton] at hq
    rcases hq with (h | h) | h
    · rw [h]; exact ho
    · exact s.ok q h
    · rw [h]; exact (by decide +kernel : ("end" : Str) ∈ oneWords)
/-- a block of two parts -/
theorem seg_two {mx : Nat} {ns ms : List Str} {x w : Str} {l k : List Rw} (hx : x ∈ openWords) (hn : ¬ x = "each" ∧ ¬ x = "retry") (hw : w ∈ midWords) (h : x = if w = "else" then ("maybe" : Str) else ("try" : Str)) (hl : ms.length < 5) (hm : ms.length + 1 ≤ mx)
    (ho : x ∈ oneWords) (s : Seg mx ns (ms ++ [x]) l) (u : Seg mx ns (ms ++ [w]) k) : Seg mx ns ms ([.one x] ++ l ++ [.one w] ++ k ++ [.one "end"]) := by
  have hwt : ¬ w = "try" := by
    have : ∀ w ∈ midWords, ¬ w = "try" := by decide +kernel
    exact this w hw
  refine ⟨?_, fun q hq => ?_⟩
  · rw [List.map_append, List.map_append, List.map_append, List.map_append, runM_app, runM_app, runM_app, runM_app]
    have e1 : runM mx ms ([Rw.one x].map Rw.word) = some (ms ++ [x]) := runM_cons (stp_open hx hl (fun q => absurd q hn.1) (fun q => absurd q hn.2)) (by simp; exact hm)
    rw [e1]
    show (((runM mx (ms ++ [x]) (l.map Rw.word)).bind _).bind _).bind _ = _
    rw [s.run]
    show ((runM mx (ms ++ [x]) ([Rw.one w].map Rw.word)).bind _).bind _ = _
    have e2 : runM mx (ms ++ [x]) ([Rw.one w].map Rw.word) = some (ms ++ [w]) := runM_cons (stp_mid hw h) (by simp; exact hm)
    rw [e2]
    show (runM mx (ms ++ [w]) (k.map Rw.word)).bind _ = _
    rw [u.run]
    exact runM_cons (stp_end hwt) (Nat.le_of_succ_le hm)
  · simp only [List.mem_append, List.mem_singleton] at hq
    rcases hq with (((h | h) | h) | h) | h
    · rw [h]; exact ho
    · exact s.ok q h
    · rw [h]
      have : ∀ w ∈ midWords, w ∈ oneWords := by decide +kernel
      exact this w hw
    · exact u.ok q h
    · rw [h]; exact (by decide +kernel : ("end" : Str) ∈ oneWords)
/-- how deep a stretch of so many rows may go -/
def Deep (mx : Nat) (ms : List Str) (left : Nat) : Prop := ms.length ≤ mx ∧ (2 * ms.length + left ≤ 2 * mx + 2 ∨ mx = 5)
theorem Deep.less {mx : Nat} {ms : List Str} {a b : Nat} (d : Deep mx ms a) (h : b ≤ a) : Deep mx ms b := ⟨d.1, by have := d.2; omega⟩
theorem Deep.push {mx : Nat} {ms : List Str} {a b : Nat} (d : Deep mx ms a) (x : Str) (h : b + 2 ≤ a) (h4 : 4 ≤ a) (h5 : ms.length < 5) : Deep mx (ms ++ [x]) b ∧ ms.length + 1 ≤ mx := by
  have h1 := d.1
  have h2 := d.2
  have e : (ms ++ [x]).length = ms.length + 1 := by simp
  refine ⟨⟨?_, ?_⟩, ?_⟩
  · rw [e]; omega
  · rw [e]; omega
  · omega
theorem texts_app (a b : List Rw) : (a ++ b).map Rw.text = a.map Rw.text ++ b.map Rw.text := List.map_append ..
theorem texts_one (l : List Str) : (l.map Rw.one).map Rw.text = l := by
  rw [List.map_map]
  exact List.map_id' l

/-! ### the defs that make rows: what they are handed, what they hand back -/
structure Arg (H : Hp) (b nm ar : Addr) (c : Nat) (ns ws : List Str) : Prop where
  bag : BagAt H b c
  nm : H nm = some (.lst (sV ns))
  n0 : ns ≠ []
  n2 : ns.length ≤ 2
  ok : ∀ n ∈ ns, NameOk n
  ar : H ar = some (.lst (sV ws))
  a5 : ws.length ≤ 5
theorem Arg.go {H H' : Hp} {b nm ar : Addr} {c d : Nat} {ns ws : List Str} (a : Arg H b nm ar c ns ws) (g : Go b d H H') : Arg H' b nm ar d ns ws :=
  ⟨g.bag, g.strs a.bag a.nm, a.n0, a.n2, a.ok, g.strs a.bag a.ar, a.a5⟩
theorem Arg.same {H H' : Hp} {b nm ar : Addr} {c : Nat} {ns ws : List Str} (a : Arg H b nm ar c ns ws) (g : Same H H') : Arg H' b nm ar c ns ws := a.go (Go.of a.bag g)
theorem Arg.into {H H' : Hp} {b nm ar p : Addr} {c : Nat} {ns ws us : List Str} (a : Arg H b nm ar c ns ws) (g : Same H H') (h : H' p = some (.lst (sV us))) (h5 : us.length ≤ 5) : Arg H' b nm p c ns us :=
  ⟨a.bag.same g, g _ _ a.nm, a.n0, a.n2, a.ok, h, h5⟩
def gc : Nat → Nat
  | 0 => 1
  | n + 1 => 19 + 6 * gc n
def NewRows (b : Addr) (c : Nat) (H : Hp) (Q : VK) (G : List Rw → Prop) : Prop :=
  ∀ (p : Addr) (l : List Rw) (H' : Hp), H p = none → Go b c H H' → H' p = some (.lst (sV (l.map Rw.text))) → G l → Q (.ref p) H'
def spRows (mx cost z lo hi : Nat) (pre : List Str → Prop) : Sp := fun vs H Q _ => ∃ (b nm ar : Addr) (left c : Nat) (ns ws : List Str), vs = [.ref b, .ref nm, .int left, .ref ar] ∧ lo ≤ left ∧ left ≤ hi ∧ pre ws ∧ Arg H b nm ar c ns ws ∧
  c + cost < 1000000000 ∧ Deep mx ws left ∧ NewRows b (c + cost) H Q (fun l => (l.length ≤ left ∧ min z left ≤ l.length) ∧ Seg mx ns ws l)
def spGroup (mx n : Nat) : Sp := spRows mx (gc n) 1 0 (2 * n) fun _ => True
theorem sV_app (a b : List Str) : sV (a ++ b) = sV a ++ sV b := List.map_append ..
theorem sz_le {n m : Nat} (h : n ≤ m) (hm : m ≤ 100000) : n ≤ sizeLine := Nat.le_trans h (Nat.le_trans hm (by decide))
theorem str_may {ws : List Str} {x : Str} (hx : x = "drain" ∨ x = "close") (h : mayRs ws x = true) : stp ws x = some ws := by
  unfold stp
  have h1 : ¬ x ∈ midWords := by rcases hx with e | e <;> subst e <;> decide +kernel
  have h2 : ¬ x ∈ openWords := by rcases hx with e | e <;> subst e <;> decide +kernel
  have h3 : ¬ x = "end" := by rcases hx with e | e <;> subst e <;> decide +kernel
  have h4 : ¬ x = "return" := by rcases hx with e | e <;> subst e <;> decide +kernel
  rw [if_neg h1, if_neg h2, if_neg h3, if_neg h4, if_pos hx, if_pos h]
section
variable {P : Program} {w : World} {K : PySem.W.Frag} {mg : Str → Option Value} {base : Heap} {mx n : Nat}
theorem c_l_second (T : Tx K mg) (c_l_group : Cl P w K mg base (5 * n + 10) "_law_group" (spGroup mx n)) : Cl P w K mg base (5 * n + 12) "_law_second" (spRows mx (1 + gc n) 0 0 (2 * n) fun _ => True) := by
  have c_l_of := c_l_of (P := P) (w := w) (base := base) T
  have c_l_may_reset := c_l_may_reset (P := P) (w := w) (base := base) T
  refine clD T.f_l_second T.g_l_second sc_l_second (fun _ _ _ _ _ _ us hl => match us, hl with | [_, _, _, _], _ => rfl) (fun vs H Q E h => ?_) (fun cdv A outer s H vs Q E hr h => ?_)
  · obtain ⟨b, nm, ar, left, c, ns, ws, rfl, _⟩ := h
    rfl
  · obtain ⟨b, nm, ar, left, c, ns, ws, rfl, _, hle, _, a, hc, dp, q⟩ := h
    refine ⟨_, (pss_cons (ps_set (i := 4) sc_l_second.nd rfl (by first | exact Or.inl rfl | exact Or.inr rfl) (pe_op op_cat (pe_lc (own := [("_law_word", 5)]) (g := gName 5) rfl sc_l_second.nd (pi_list (pe_lst (pa_cons pe_str (pa_cons pe_str (pa_cons pe_str pa_nil))))) (blkOk_by (N := ["_law_bag_here", "_law_names_here", "_law_left", "_law_around", "_law_words", "_law_word"]) (sc := defScope s_l_second) (by decide +kernel)) (fun _ _ _ _ _ => (pg_name (i := 5) sc_l_second.nd rfl (by first | exact Or.inl rfl | exact Or.inr rfl))) (fun _ _ _ _ _ => (pts_one (pt_val (pe_f c_l_may_reset hr (by first | decide | omega) (pa_cons (pv 3) (pa_cons (pv 5) pa_nil)))))) (fun _ _ _ _ _ => (pv 5))) (pe_lst (pa_cons pe_str (pa_cons pe_str pa_nil)))))
      (pss_cons (ps_set (i := 5) sc_l_second.nd rfl (by first | exact Or.inl rfl | exact Or.inr rfl) (pe_f c_l_of hr (by first | decide | omega) (pa_cons (pv 0) (pa_cons (pe_op op_cat (pv 4) (pe_lst (pa_cons pe_str (pa_cons pe_str pa_nil)))) pa_nil))))
      (pss_cons (ps_if (pt_cmpR op_eq (pv 5) pe_str (nomark _)) (pss_one (ps_ret (pe_f c_l_group hr (by first | decide | omega) (pa_cons (pv 0) (pa_cons (pv 1) (pa_cons (pv 2) (pa_cons (pv 3) pa_nil))))))) pss_nil)
      (pss_one (ps_ret (pe_op op_rep (pe_lst (pa_cons (pv 5) pa_nil)) (pe_callTy call_int1 rfl T.b_int boot_int (pa_cons (pe_and (pe_cmpR op_ne (pv 5) pe_str (nomark _)) (pe_one (pe_cmpR op_gt (pv 2) pe_int (nomark _)))) pa_nil)))))))), ?_⟩
    refine ⟨by show 3 ≤ sizeLine; decide, fun p1 n1 => new_at n1 fun H1 s1 h1 => ⟨p1, rfl, ⟨_, SqL.of h1⟩, fun D nD => ?_⟩⟩
    have hne : ∀ {a : Addr} {o : HO}, H1 a = some o → a ≠ D := fun e => ne_of_none e nD
    refine lc_list (K := K) (a := p1) (xs := sV ["drain", "drain", "close"]) (fun i H' => Off D H1 H' ∧ ∃ l : List Str, H' D = some (.lst (sV l)) ∧ l.length ≤ i ∧ ∀ x ∈ l, (x = "drain" ∨ x = "close") ∧ mayRs ws x = true)
      ⟨(Off.refl D H1).put, [], upd_same, Nat.le_refl 0, fun x h => by cases h⟩ (fun i H' _ h => SqL.of (h.1 _ _ (hne h1) h1)) (fun i x H' hx h => ?_) (fun H' h => ?_)
    · obtain ⟨f, l, hD, hl, hall⟩ := h
      obtain ⟨x, rfl, ex⟩ := sV_get hx
      have hx2 : x = "drain" ∨ x = "close" := by
        have m := List.mem_of_getElem? ex
        simp only [List.mem_cons, List.not_mem_nil, or_false] at m
        rcases m with e | e | e
        · exact .inl e
        · exact .inl e
        · exact .inr e
      have i3 : i < 3 := (List.getElem?_eq_some_iff.mp ex).1
      have ar1 := s1 _ _ a.ar
      refine ⟨rfl, _, rfl, _, rfl, ar, ws, x, rfl, f _ _ (hne ar1) ar1, Nat.le_trans a.a5 (by decide), fun H2 s2 => ⟨_, rfl, ?_⟩⟩
      refine ite2 (fun h => ?_) (fun h => ?_)
      · refine ⟨_, rfl, sV l, s2 _ _ hD, Nat.lt_of_le_of_lt (by rw [List.length_map]; exact hl) (Nat.lt_trans i3 (by decide)), (f.same s2).put, l ++ [x], ?_, by simp; omega, fun y hy => ?_⟩
        · rw [upd_same, sV_app]; rfl
        · rcases List.mem_append.mp hy with h' | h'
          · exact hall y h'
          · have e : y = x := by simpa using h'
            subst e
            exact ⟨hx2, h⟩
      · exact ⟨f.same s2, l, s2 _ _ hD, Nat.le_succ_of_le hl, hall⟩
    · obtain ⟨f, l, hD, hl, hall⟩ := h
      have fr : Same H H' := fun a o e => f a o (hne (s1 a o e)) (s1 a o e)
      have hl3 : l.length ≤ 3 := hl
      refine ⟨by show 2 ≤ sizeLine; decide, fun p2 n2 => new_at n2 fun H2 s2 h2 => ⟨D, p2, _, _, rfl, rfl, s2 _ _ hD, h2, ?_, fun p3 n3 => new_at n3 fun H3 s3 h3 => ?_⟩⟩
      · exact sz_le (show (sV l).length + 2 ≤ 5 by rw [List.length_map]; omega) (by decide)
      refine ⟨_, rfl, _, rfl, by show 2 ≤ sizeLine; decide, fun p4 n4 => new_at n4 fun H4 s4 h4 => ⟨p3, p4, _, _, rfl, rfl, s4 _ _ h3, h4, ?_, fun p5 n5 => new_at n5 fun H5 s5 h5 => ?_⟩⟩
      · exact sz_le (show (sV l ++ [V.str "pause", V.str "check"]).length + 2 ≤ 7 by rw [List.length_append, List.length_map]; show l.length + 2 + 2 ≤ 7; omega) (by decide)
      have e05 : Same H H5 := (((fr.trans s2).trans s3).trans s4).trans s5
      have e04 : Same H H4 := ((fr.trans s2).trans s3).trans s4
      have a5 := a.same e05
      refine ⟨b, p5, _, c, rfl, (a.bag.same e04).ne n5, h5, by simp, ?_, a5.bag, by omega, fun x H6 mx g => ?_⟩
      · rw [List.length_append, List.length_append, List.length_map]
        show l.length + 2 + 2 < 1000000
        omega
      have hx : ∃ z : Str, x = .str z ∧ (((z = "drain" ∨ z = "close") ∧ mayRs ws z = true) ∨ z ∈ softWords ∨ z = "" ∨ z = "group") := by
        rcases List.mem_append.mp mx with m | m
        · rcases List.mem_append.mp m with m | m
          · obtain ⟨z, hz, e⟩ := List.mem_map.mp m
            exact ⟨z, e.symm, .inl (hall z hz)⟩
          · simp only [List.mem_cons, List.not_mem_nil, or_false] at m
            rcases m with e | e
            · exact ⟨_, e, .inr (.inl (by decide +kernel))⟩
            · exact ⟨_, e, .inr (.inl (by decide +kernel))⟩
        · simp only [List.mem_cons, List.not_mem_nil, or_false] at m
          rcases m with e | e
          · exact ⟨_, e, .inr (.inr (.inl rfl))⟩
          · exact ⟨_, e, .inr (.inr (.inr rfl))⟩
      obtain ⟨z, rfl, hz⟩ := hx
      have g06 : Go b (c + 1) H H6 := ((Go.of a.bag e05).mono (Nat.le_succ _)).trans g
      refine ⟨_, rfl, rfl, _, rfl, ite2 (fun hg => ?_) (fun hg => ?_)⟩
      · refine ⟨_, rfl, _, rfl, _, rfl, _, rfl, b, nm, ar, left, c + 1, ns, ws, rfl, Nat.zero_le _, hle, True.intro, a.go g06, by omega, dp, fun p l H7 np g7 h7 hl7 => q p l H7 (g06.free np) ?_ h7 ⟨⟨hl7.1.1, by simp⟩, hl7.2⟩⟩
        exact (g06.trans g7).mono (by omega)
      · have hng : ¬ z = "group" := fun e => hg (decide_eq_true (congrArg V.str e))
        refine ⟨_, rfl, by show 1 ≤ sizeLine; decide, fun p7 n7 => new_at n7 fun H7 s7 h7 => ⟨_, rfl, rfl, _, rfl, ?_⟩⟩
        have g07 : Go b (c + (1 + gc n)) H H7 := (g06.same s7).mono (by omega)
        refine ite2 (fun hy => ?_) (fun hy => ?_)
        · have hnz : ¬ z = "" := fun e => by
            subst e
            simp at hy
          refine ⟨_, rfl, _, _, rfl, rfl, .inr ⟨_, rfl, p7, _, _, rfl, rfl, h7, ?_⟩⟩
          by_cases h0 : (0 : Int) < (left : Int)
          · rw [decide_eq_true h0]
            refine ⟨by decide, by decide, by show 1 ≤ sizeLine; decide, fun p8 n8 => new_at n8 fun H8 s8 h8 => q p8 [.one z] H8 (g07.free n8) (g07.same s8) h8 ⟨?_, ?_⟩⟩
            · show 1 ≤ left ∧ min 0 left ≤ 1
              omega
            · rcases hz with ⟨e, m⟩ | e | e | e
              · exact seg_stay (str_may e m) (by rcases e with e | e <;> subst e <;> decide +kernel) dp.1
              · exact seg_soft1 e dp.1
              · exact absurd e hnz
              · exact absurd e hng
          · rw [decide_eq_false h0]
            exact ⟨by decide, by decide, by show 0 ≤ sizeLine; decide, fun p8 n8 => new_at n8 fun H8 s8 h8 => q p8 [] H8 (g07.free n8) (g07.same s8) h8 ⟨⟨Nat.zero_le _, by simp⟩, seg_nil⟩⟩
        · refine .inr ⟨_, rfl, p7, _, _, rfl, rfl, h7, by decide, by decide, by show 0 ≤ sizeLine; decide, fun p8 n8 => new_at n8 fun H8 s8 h8 => q p8 [] H8 (g07.free n8) (g07.same s8) h8 ⟨⟨Nat.zero_le _, by simp⟩, seg_nil⟩⟩
end

theorem name_len {n : Str} (h : NameOk n) : n.length ≤ 3 := by
  rw [len_tl]
  exact h.2.1
theorem mem_sV {x : V} {l : List Str} (h : x ∈ sV l) : ∃ z, x = .str z ∧ z ∈ l := by
  obtain ⟨z, hz, e⟩ := List.mem_map.mp h
  exact ⟨z, e.symm, hz⟩
theorem each_len {n : Str} (h : NameOk n) : ("each " : Str).length + n.length ≤ sizeLine := by
  have e : ("each " : Str).length = 5 := by decide +kernel
  rw [e]
  exact Nat.le_trans (Nat.add_le_add_left (name_len h) 5) (by decide)
theorem rows_len {l : List Rw} : (sV (l.map Rw.text)).length = l.length := by rw [List.length_map, List.length_map]
section
variable {P : Program} {w : World} {K : PySem.W.Frag} {mg : Str → Option Value} {base : Heap} {mx n : Nat}
theorem c_l_loop (T : Tx K mg) (hn : n ≤ 100) (c_l_group : Cl P w K mg base (5 * n + 10) "_law_group" (spGroup mx n)) : Cl P w K mg base (5 * n + 13) "_law_loop" (spRows mx (2 + gc n) 1 4 (2 * n + 2) fun ws => ws.length < 5 ∧ ("each" : Str) ∉ ws) := by
  have c_l_of := c_l_of (P := P) (w := w) (base := base) T
  have c_l_take := c_l_take (P := P) (w := w) (base := base) T
  refine clD T.f_l_loop T.g_l_loop sc_l_loop (fun _ _ _ _ _ _ us hl => match us, hl with | [_, _, _, _], _ => rfl) (fun vs H Q E h => ?_) (fun cdv A outer s H vs Q E hr h => ?_)
  · obtain ⟨b, nm, ar, left, c, ns, ws, rfl, _⟩ := h
    rfl
  · obtain ⟨b, nm, ar, left, c, ns, ws, rfl, hlo, hle, ⟨h5, hne⟩, a, hc, dp, q⟩ := h
    refine ⟨_, (pss_cons (ps_set (i := 4) sc_l_loop.nd rfl (by first | exact Or.inl rfl | exact Or.inr rfl) (pe_op op_add_str pe_str (pe_f c_l_of hr (by first | decide | omega) (pa_cons (pv 0) (pa_cons (pv 1) pa_nil)))))
      (pss_cons (ps_if (PW.pt (pw_and (pt_cmpR op_ge (pv 2) pe_int (nomark _)) (pw_and1 (pt_cmpR op_eq (pe_f c_l_take hr (by first | decide | omega) (pa_cons (pv 0) (pa_cons pe_int pa_nil))) pe_int (nomark _))))) (pss_one (ps_ret (pe_lst (pa_cons (pv 4) (pa_cons pe_str (pa_cons pe_str (pa_cons (pv 4) (pa_cons pe_str (pa_cons pe_str pa_nil))))))))) pss_nil)
      (pss_one (ps_ret (pe_op op_cat (pe_op op_cat (pe_lst (pa_cons (pv 4) pa_nil)) (pe_f c_l_group hr (by first | decide | omega) (pa_cons (pv 0) (pa_cons (pv 1) (pa_cons (pe_op op_sub (pv 2) pe_int) (pa_cons (pe_op op_cat (pv 3) (pe_lst (pa_cons pe_str pa_nil))) pa_nil)))))) (pe_lst (pa_cons pe_str pa_nil))))))), ?_⟩
    have hz : (sV ns).length < 1000000 := by
      rw [List.length_map]
      have := a.n2
      omega
    refine ⟨_, rfl, _, rfl, b, nm, sV ns, c, rfl, a.bag.ne_strs a.nm, a.nm, by simpa using a.n0, hz, a.bag, by omega, fun x H1 hx g1 => ?_⟩
    obtain ⟨z, rfl, mz⟩ := mem_sV hx
    refine ⟨_, _, rfl, rfl, each_len (a.ok z mz), ?_⟩
    have a1 := a.go g1
    obtain ⟨d2, hmx⟩ := dp.push (b := left - 2) ("each" : Str) (by omega) hlo h5
    have ewo : (Rw.each z).word ∈ openWords := (by decide +kernel : ("each" : Str) ∈ openWords)
    have blk : ∀ l, Seg mx ns (ws ++ [("each" : Str)]) l → Seg mx ns ws ([Rw.each z] ++ l ++ [Rw.one "end"]) := fun l s =>
      seg_block (r := .each z) ewo (by decide +kernel : ¬ ("each" : Str) = "try") h5 hmx (fun _ => hne) (fun e => absurd (show ("each" : Str) = "retry" from e) (by decide +kernel)) mz s
    have fin : ∀ (H2 : Hp) (d : Nat), Go b d H H2 → d + gc n ≤ c + (2 + gc n) → (tRet (tOp rCat (tOp rCat (tLst (tCons (tVar 4) tNil)) (tCall (spGroup mx n) [] E0 (tCons (tVar 0) (tCons (tVar 1) (tCons (tOp (rI0 fun i j => .int (i - j)) (tVar 2) (tC (.int 2))) (tCons (tOp rCat (tVar 3) (tLst (tCons (tC (.str "each")) tNil))) tNil)))))) (tLst (tCons (tC (.str "end")) tNil))))
        { nx := fun _ H' => Q .non H', rt := Q } [some (.ref b), some (.ref nm), some (.int left), some (.ref ar), some (.str (("each " : Str) ++ z))] H2 := fun H2 d g2 hd => by
      have a2 := a.go g2
      refine ⟨_, rfl, by show 1 ≤ sizeLine; decide, fun p3 n3 => new_at n3 fun H3 s3 h3 => ⟨_, rfl, _, rfl, _, rfl, _, _, rfl, rfl, _, rfl, by show 1 ≤ sizeLine; decide, fun p4 n4 => new_at n4 fun H4 s4 h4 => ⟨ar, p4, _, _, rfl, rfl, s4 _ _ (s3 _ _ a2.ar), h4, ?_, fun p5 n5 => new_at n5 fun H5 s5 h5 => ?_⟩⟩⟩
      · exact sz_le (show (sV ws).length + 1 ≤ 6 by rw [List.length_map]; omega) (by decide)
      have e25 : Same H2 H5 := (s3.trans s4).trans s5
      have g5 := g2.same e25
      refine ⟨b, nm, p5, left - 2, d, ns, ws ++ [("each" : Str)], ?_, Nat.zero_le _, by omega, True.intro, a2.into e25 (by rw [h5, sV_app] <;> rfl) (by simp; omega), by omega, d2, fun p6 l H6 n6 g6 h6 hl6 => ?_⟩
      · have e : ((left : Int) - 2) = ((left - 2 : Nat) : Int) := by omega
        show [V.ref b, V.ref nm, V.int ((left : Int) - 2), V.ref p5] = _
        rw [e]
      have n3b : p3 ≠ b := a2.bag.ne n3
      have h36 := g6.keep p3 _ n3b (s5 _ _ (s4 _ _ h3))
      refine ⟨p3, p6, _, _, rfl, rfl, h36, h6, ?_, fun p7 n7 => new_at n7 fun H7 s7 h7 => ⟨by show 1 ≤ sizeLine; decide, fun p8 n8 => new_at n8 fun H8 s8 h8 => ⟨p7, p8, _, _, rfl, rfl, s8 _ _ h7, h8, ?_, fun p9 n9 => new_at n9 fun H9 s9 h9 => ?_⟩⟩⟩
      · exact sz_le (show 1 + (sV (l.map Rw.text)).length ≤ 1000 by rw [rows_len]; have := hl6.1; omega) (by decide)
      · exact sz_le (show ([V.str (("each " : Str) ++ z)] ++ sV (l.map Rw.text)).length + 1 ≤ 1000 by rw [List.length_append, rows_len]; have := hl6.1; simp only [List.length_singleton]; omega) (by decide)
      have g9 : Go b (c + (2 + gc n)) H H9 := (((((g5.trans g6).same s7).same s8).same s9)).mono hd
      refine q p9 ([Rw.each z] ++ l ++ [Rw.one "end"]) H9 (((((g5.trans g6).same s7).same s8)).free n9) g9 ?_ ⟨?_, blk l hl6.2⟩
      · rw [h9, texts_app, texts_app, sV_app, sV_app] <;> rfl
      · have := hl6.1
        simp only [List.length_append, List.length_singleton]
        omega
    refine ⟨_, rfl, _, _, rfl, rfl, _, rfl, ite2 (fun h6 => ?_) (fun h6 => ?_)⟩
    · have h6 : (6 : Int) ≤ left := of_decide_eq_true h6
      refine ⟨_, rfl, b, 2, c + 1, rfl, by decide, by decide, a1.bag, by omega, fun r H2 r0 r1 g2 => ⟨rfl, _, rfl, ite2 (fun h0 => ?_) (fun h0 => ?_)⟩⟩
      · refine ⟨_, rfl, _, rfl, by show 6 ≤ sizeLine; decide, fun p3 n3 => new_at n3 fun H3 s3 h3 => q p3 [.each z, .one "ask", .one "end", .each z, .one "read", .one "end"] H3 ((g1.trans g2).free n3) (((g1.trans g2).same s3).mono (by omega)) h3 ⟨?_, ?_⟩⟩
        · show 6 ≤ left ∧ min 1 left ≤ 6
          omega
        · exact seg_app (blk [.one "ask"] (seg_soft1 (by decide +kernel) d2.1)) (blk [.one "read"] (seg_soft1 (by decide +kernel) d2.1))
      · exact fin H2 (c + 2) (g1.trans g2) (by omega)
    · exact fin H1 (c + 1) g1 (by omega)
end

theorem scan_drain : ∀ {l : List Str}, ("rescue" : Str) ∈ l → scanR "drain" l = true
  | x :: r, h => by
    by_cases e : x = "rescue"
    · exact if_pos e
    · have h2 : ("rescue" : Str) ∈ r := by
        rcases List.mem_cons.mp h with q | q
        · exact absurd q.symm e
        · exact q
      have hd : ¬ (x = "retry" ∧ ("drain" : Str) = "close") := fun q => absurd q.2 (by decide +kernel)
      show (if x = "rescue" then true else if x = "retry" ∧ ("drain" : Str) = "close" then false else scanR "drain" r) = true
      rw [if_neg e, if_neg hd]
      exact scan_drain h2
theorem may_last (ms : List Str) : mayRs (ms ++ [("rescue" : Str)]) "drain" = true := by
  unfold mayRs
  by_cases h : ("each" : Str) ∈ ms ++ [("rescue" : Str)]
  · rw [if_pos h]
    have hj := List.idxOf_lt_length_iff.mpr h
    rw [List.length_append, List.length_singleton] at hj
    refine scan_drain ?_
    rw [List.drop_append_of_le_length (by omega)]
    simp
  · rw [if_neg h]
section
variable {P : Program} {w : World} {K : PySem.W.Frag} {mg : Str → Option Value} {base : Heap} {mx n : Nat}
theorem c_l_try (T : Tx K mg) (hn : n ≤ 100) (c_l_group : Cl P w K mg base (5 * n + 10) "_law_group" (spGroup mx n)) : Cl P w K mg base (5 * n + 13) "_law_try" (spRows mx (2 + 2 * gc n) 1 4 (2 * n + 2) fun ws => ws.length < 5) := by
  have c_l_of := c_l_of (P := P) (w := w) (base := base) T
  have c_l_second := c_l_second T c_l_group
  refine clD T.f_l_try T.g_l_try sc_l_try (fun _ _ _ _ _ _ us hl => match us, hl with | [_, _, _, _], _ => rfl) (fun vs H Q E h => ?_) (fun cdv A outer s H vs Q E hr h => ?_)
  · obtain ⟨b, nm, ar, left, c, ns, ws, rfl, _⟩ := h
    rfl
  · obtain ⟨b, nm, ar, left, c, ns, ws, rfl, hlo, hle, hw5, a, hc, dp, q⟩ := h
    refine ⟨_, (pss_cons (ps_set (i := 4) sc_l_try.nd rfl (by first | exact Or.inl rfl | exact Or.inr rfl) (pe_f c_l_of hr (by first | decide | omega) (pa_cons (pv 0) (pa_cons (pe_lst (pa_cons pe_str (pa_cons pe_str pa_nil))) pa_nil))))
      (pss_cons (ps_set (i := 5) sc_l_try.nd rfl (by first | exact Or.inl rfl | exact Or.inr rfl) (pe_op op_cat (pe_op op_cat (pe_lst (pa_cons pe_str pa_nil)) (pe_f c_l_group hr (by first | decide | omega) (pa_cons (pv 0) (pa_cons (pv 1) (pa_cons (pe_op op_sub (pv 2) pe_int) (pa_cons (pe_op op_cat (pv 3) (pe_lst (pa_cons pe_str pa_nil))) pa_nil)))))) (pe_lst (pa_cons (pv 4) pa_nil))))
      (pss_one (ps_ret (pe_op op_cat (pe_op op_cat (pv 5) (pe_f c_l_second hr (by first | decide | omega) (pa_cons (pv 0) (pa_cons (pv 1) (pa_cons (pe_op op_sub (pe_op op_sub (pv 2) pe_int) (pe_callB (call_len_seqK (K := K) rfl) rfl T.b_len boot_len (pa_cons (pv 5) pa_nil))) (pa_cons (pe_op op_cat (pv 3) (pe_lst (pa_cons (pv 4) pa_nil))) pa_nil)))))) (pe_lst (pa_cons pe_str pa_nil))))))), ?_⟩
    refine ⟨_, rfl, by show 2 ≤ sizeLine; decide, fun p1 n1 => new_at n1 fun H1 s1 h1 => ?_⟩
    have a1 := a.same s1
    refine ⟨b, p1, _, c, rfl, a.bag.ne n1, h1, by simp, by show 2 < 1000000; decide, a1.bag, by omega, fun x H2 hx g2 => ?_⟩
    obtain ⟨z, rfl, hz⟩ : ∃ z : Str, x = .str z ∧ (z = "finally" ∨ z = "rescue") := by
      simp only [List.mem_cons, List.not_mem_nil, or_false] at hx
      rcases hx with e | e
      · exact ⟨_, e, .inl rfl⟩
      · exact ⟨_, e, .inr rfl⟩
    have g02 : Go b (c + 1) H H2 := (Go.of a.bag s1).trans g2
    have a2 := a.go g02
    obtain ⟨d2, hmx⟩ := dp.push (b := left - 4) ("try" : Str) (by omega) hlo hw5
    refine ⟨by show 1 ≤ sizeLine; decide, fun p3 n3 => new_at n3 fun H3 s3 h3 => ⟨_, rfl, _, rfl, _, rfl, _, _, rfl, rfl, _, rfl, by show 1 ≤ sizeLine; decide, fun p4 n4 => new_at n4 fun H4 s4 h4 => ⟨ar, p4, _, _, rfl, rfl, s4 _ _ (s3 _ _ a2.ar), h4, ?_, fun p5 n5 => new_at n5 fun H5 s5 h5 => ?_⟩⟩⟩
    · exact sz_le (show (sV ws).length + 1 ≤ 6 by rw [List.length_map]; omega) (by decide)
    have e25 : Same H2 H5 := (s3.trans s4).trans s5
    refine ⟨b, nm, p5, left - 4, c + 1, ns, ws ++ [("try" : Str)], ?_, Nat.zero_le _, by omega, True.intro, a2.into e25 (by rw [h5, sV_app] <;> rfl) (by simp; omega), by omega, d2, fun p6 l H6 n6 g6 h6 hl6 => ?_⟩
    · show [V.ref b, V.ref nm, V.int ((left : Int) - 4), V.ref p5] = _
      rw [show ((left : Int) - 4) = ((left - 4 : Nat) : Int) by omega]
    have n3b : p3 ≠ b := a2.bag.ne n3
    have h36 := g6.keep p3 _ n3b (s5 _ _ (s4 _ _ h3))
    refine ⟨p3, p6, _, _, rfl, rfl, h36, h6, ?_, fun p7 n7 => new_at n7 fun H7 s7 h7 => ⟨_, rfl, by show 1 ≤ sizeLine; decide, fun p8 n8 => new_at n8 fun H8 s8 h8 => ⟨p7, p8, _, _, rfl, rfl, s8 _ _ h7, h8, ?_, fun p9 n9 => new_at n9 fun H9 s9 h9 => ?_⟩⟩⟩
    · exact sz_le (show 1 + (sV (l.map Rw.text)).length ≤ 1000 by rw [rows_len]; have := hl6.1; omega) (by decide)
    · exact sz_le (show ([V.str "try"] ++ sV (l.map Rw.text)).length + 1 ≤ 1000 by rw [List.length_append, rows_len]; have := hl6.1; simp only [List.length_singleton]; omega) (by decide)
    have g09 : Go b (c + 1 + gc n) H H9 := ((((g02.same e25).trans g6).same s7).same s8).same s9
    have a9 := a.go g09
    have el : ([V.str "try"] ++ sV (l.map Rw.text) ++ [V.str z]).length = l.length + 2 := by
      rw [List.length_append, List.length_append, rows_len]
      simp only [List.length_singleton]
      omega
    have hl := hl6.1
    obtain ⟨d3, _⟩ := dp.push (b := left - 1 - (l.length + 2)) z (by omega) hlo hw5
    refine ⟨_, rfl, _, rfl, _, rfl, _, rfl, _, _, rfl, rfl, _, rfl, p9, _, rfl, .inl (SqL.of h9), _, _, rfl, rfl, _, rfl, _, rfl, by show 1 ≤ sizeLine; decide, fun p10 n10 => new_at n10 fun H10 s10 h10 => ⟨ar, p10, _, _, rfl, rfl, s10 _ _ a9.ar, h10, ?_, fun p11 n11 => new_at n11 fun H11 s11 h11 => ?_⟩⟩
    · exact sz_le (show (sV ws).length + 1 ≤ 6 by rw [List.length_map]; omega) (by decide)
    have e911 : Same H9 H11 := s10.trans s11
    refine ⟨b, nm, p11, left - 1 - (l.length + 2), c + 1 + gc n, ns, ws ++ [z], ?_, Nat.zero_le _, by omega, True.intro, a9.into e911 (by rw [h11, sV_app] <;> rfl) (by simp; omega), by omega, d3, fun p12 k H12 n12 g12 h12 hk => ?_⟩
    · show [V.ref b, V.ref nm, V.int ((left : Int) - 1 - ((([V.str "try"] ++ sV (l.map Rw.text) ++ [V.str z]).length : Nat) : Int)), V.ref p11] = _
      rw [el, show ((left : Int) - 1 - ((l.length + 2 : Nat) : Int)) = ((left - 1 - (l.length + 2) : Nat) : Int) by omega]
    have n9b : p9 ≠ b := ((((g02.same e25).trans g6).same s7).same s8).bag.ne n9
    have h912 := g12.keep p9 _ n9b (e911 _ _ h9)
    have hk1 := hk.1
    refine ⟨p9, p12, _, _, rfl, rfl, h912, h12, ?_, fun p13 n13 => new_at n13 fun H13 s13 h13 => ⟨by show 1 ≤ sizeLine; decide, fun p14 n14 => new_at n14 fun H14 s14 h14 => ⟨p13, p14, _, _, rfl, rfl, s14 _ _ h13, h14, ?_, fun p15 n15 => new_at n15 fun H15 s15 h15 => ?_⟩⟩⟩
    · exact sz_le (show ([V.str "try"] ++ sV (l.map Rw.text) ++ [V.str z]).length + (sV (k.map Rw.text)).length ≤ 1000 by rw [el, rows_len]; omega) (by decide)
    · exact sz_le (show ([V.str "try"] ++ sV (l.map Rw.text) ++ [V.str z] ++ sV (k.map Rw.text)).length + 1 ≤ 1000 by rw [List.length_append, el, rows_len]; omega) (by decide)
    have g14 : Go b (c + (2 + 2 * gc n)) H H14 := ((((g09.same e911).trans g12).same s13).same s14).mono (by omega)
    have hzm : z ∈ midWords := by rcases hz with e | e <;> subst e <;> decide +kernel
    have hze : ¬ z = "else" := by rcases hz with e | e <;> subst e <;> decide +kernel
    refine q p15 ([Rw.one "try"] ++ l ++ [Rw.one z] ++ k ++ [Rw.one "end"]) H15 (g14.free n15) (g14.same s15) ?_ ⟨?_, ?_⟩
    · rw [h15, texts_app, texts_app, texts_app, texts_app, sV_app, sV_app, sV_app, sV_app] <;> rfl
    · simp only [List.length_append, List.length_singleton]
      omega
    · exact seg_two (by decide +kernel) ⟨by decide +kernel, by decide +kernel⟩ hzm (by rw [if_neg hze]) hw5 hmx (by decide +kernel) hl6.2 hk.2
theorem c_l_retry (T : Tx K mg) (hn : n ≤ 100) (c_l_group : Cl P w K mg base (5 * n + 10) "_law_group" (spGroup mx n)) : Cl P w K mg base (5 * n + 13) "_law_retry" (spRows mx (1 + gc n) 1 7 (2 * n + 2) fun ws => ws.length < 4 ∧ ("retry" : Str) ∉ ws) := by
  have c_l_take := c_l_take (P := P) (w := w) (base := base) T
  refine clD T.f_l_retry T.g_l_retry sc_l_retry (fun _ _ _ _ _ _ us hl => match us, hl with | [_, _, _, _], _ => rfl) (fun vs H Q E h => ?_) (fun cdv A outer s H vs Q E hr h => ?_)
  · obtain ⟨b, nm, ar, left, c, ns, ws, rfl, _⟩ := h
    rfl
  · obtain ⟨b, nm, ar, left, c, ns, ws, rfl, hlo, hle, ⟨h4, hnr⟩, a, hc, dp, q⟩ := h
    refine ⟨_, (pss_cons (ps_set (i := 4) sc_l_retry.nd rfl (by first | exact Or.inl rfl | exact Or.inr rfl) (pe_lst (pa_cons (pe_op op_add_str pe_str (pe_callTy call_str_int rfl T.b_str boot_str (pa_cons (pe_op op_add pe_int (pe_f c_l_take hr (by first | decide | omega) (pa_cons (pv 0) (pa_cons pe_int pa_nil)))) pa_nil))) (pa_cons pe_str pa_nil))))
      (pss_cons (ps_set (i := 4) sc_l_retry.nd rfl (by first | exact Or.inl rfl | exact Or.inr rfl) (pe_op op_cat (pe_op op_cat (pv 4) (pe_f c_l_group hr (by first | decide | omega) (pa_cons (pv 0) (pa_cons (pv 1) (pa_cons (pe_op op_sub (pv 2) pe_int) (pa_cons (pe_op op_cat (pv 3) (pe_lst (pa_cons pe_str (pa_cons pe_str pa_nil)))) pa_nil)))))) (pe_lst (pa_cons pe_str (pa_cons pe_str (pa_cons pe_str (pa_cons pe_str pa_nil)))))))
      (pss_one (ps_ret (pv 4))))), ?_⟩
    refine ⟨_, rfl, b, 3, c, rfl, by decide, by decide, a.bag, by omega, fun r H1 r0 r1 g1 => ?_⟩
    obtain ⟨z, ez, mz⟩ : ∃ z : Str, (toString ((1 : Int) + r) : Str) = z ∧ z ∈ (["1", "2", "3"] : List Str) := by
      rcases (show r = 0 ∨ r = 1 ∨ r = 2 by omega) with e | e | e <;> subst e
      · exact ⟨"1", by decide +kernel, by decide +kernel⟩
      · exact ⟨"2", by decide +kernel, by decide +kernel⟩
      · exact ⟨"3", by decide +kernel, by decide +kernel⟩
    have zl : z.length ≤ 5 := by
      have : ∀ z ∈ (["1", "2", "3"] : List Str), z.length ≤ 5 := by decide +kernel
      exact this z mz
    refine ⟨_, _, rfl, rfl, _, rfl, ?_, _, _, rfl, rfl, ?_, by show 2 ≤ sizeLine; decide, fun p2 n2 => new_at n2 fun H2 s2 h2 => ?_⟩
    · rcases (show r = 0 ∨ r = 1 ∨ r = 2 by omega) with e | e | e <;> subst e <;> decide +kernel
    · rw [ez]
      have e : ("retry " : Str).length = 6 := by decide +kernel
      rw [e]
      exact Nat.le_trans (Nat.add_le_add_left zl 6) (by decide)
    rw [ez] at h2
    have a1 := a.go g1
    obtain ⟨d2, hm1⟩ := dp.push (b := left - 2) ("retry" : Str) (by omega) (by omega) (by omega)
    obtain ⟨d3, hm2⟩ := d2.push (b := left - 6) ("try" : Str) (by omega) (by omega) (by simp; omega)
    obtain ⟨d4, _⟩ := d2.push (b := left - 6) ("rescue" : Str) (by omega) (by omega) (by simp; omega)
    have ea : ws ++ [("retry" : Str)] ++ [("try" : Str)] = ws ++ (["retry", "try"] : List Str) := by rw [List.append_assoc] <;> rfl
    refine ⟨_, rfl, _, rfl, _, rfl, _, rfl, _, _, rfl, rfl, _, rfl, by show 2 ≤ sizeLine; decide, fun p4 n4 => new_at n4 fun H4 s4 h4 => ⟨ar, p4, _, _, rfl, rfl, s4 _ _ (s2 _ _ a1.ar), h4, ?_, fun p5 n5 => new_at n5 fun H5 s5 h5 => ?_⟩⟩
    · exact sz_le (show (sV ws).length + 2 ≤ 6 by rw [List.length_map]; omega) (by decide)
    have e15 : Same H1 H5 := (s2.trans s4).trans s5
    refine ⟨b, nm, p5, left - 6, c + 1, ns, ws ++ [("retry" : Str)] ++ [("try" : Str)], ?_, Nat.zero_le _, by omega, True.intro, a1.into e15 (by rw [h5, ea, sV_app] <;> rfl) (by simp; omega), by omega, d3, fun p6 l H6 n6 g6 h6 hl6 => ?_⟩
    · show [V.ref b, V.ref nm, V.int ((left : Int) - 6), V.ref p5] = _
      rw [show ((left : Int) - 6) = ((left - 6 : Nat) : Int) by omega]
    have n2b : p2 ≠ b := g1.bag.ne n2
    have h26 := g6.keep p2 _ n2b (s5 _ _ (s4 _ _ h2))
    have hl := hl6.1
    refine ⟨p2, p6, _, _, rfl, rfl, h26, h6, ?_, fun p7 n7 => new_at n7 fun H7 s7 h7 => ⟨by show 4 ≤ sizeLine; decide, fun p8 n8 => new_at n8 fun H8 s8 h8 => ⟨p7, p8, _, _, rfl, rfl, s8 _ _ h7, h8, ?_, fun p9 n9 => new_at n9 fun H9 s9 h9 => ⟨_, rfl, ?_⟩⟩⟩⟩
    · exact sz_le (show 2 + (sV (l.map Rw.text)).length ≤ 1000 by rw [rows_len]; omega) (by decide)
    · exact sz_le (show ([V.str (("retry " : Str) ++ z), V.str "try"] ++ sV (l.map Rw.text)).length + 4 ≤ 1000 by rw [List.length_append, rows_len]; simp only [List.length_cons, List.length_nil]; omega) (by decide)
    have g8 : Go b (c + (1 + gc n)) H H8 := ((((g1.same e15).trans g6).same s7).same s8).mono (by omega)
    refine q p9 ([Rw.retry z] ++ ([Rw.one "try"] ++ l ++ [Rw.one "rescue"] ++ [Rw.one "drain"] ++ [Rw.one "end"]) ++ [Rw.one "end"]) H9 (g8.free n9) (g8.same s9) ?_ ⟨?_, ?_⟩
    · rw [h9, texts_app, texts_app, texts_app, texts_app, texts_app, texts_app, sV_app, sV_app, sV_app, sV_app, sV_app, sV_app]
      simp only [List.append_assoc] <;> rfl
    · simp only [List.length_append, List.length_singleton]
      omega
    · have hd := may_last (ws ++ [("retry" : Str)])
      refine seg_block (r := .retry z) (by decide +kernel : ("retry" : Str) ∈ openWords) (by decide +kernel : ¬ ("retry" : Str) = "try") (by omega) hm1 (fun e => absurd (show ("retry" : Str) = "each" from e) (by decide +kernel)) (fun _ => ?_) mz ?_
      · rw [List.count_eq_zero.mpr hnr]
        decide
      · exact seg_two (ms := ws ++ [("retry" : Str)]) (by decide +kernel) ⟨by decide +kernel, by decide +kernel⟩ (by decide +kernel) (by rw [if_neg (by decide +kernel)]) (by simp; omega) hm2 (by decide +kernel) hl6.2 (seg_stay (str_may (.inl rfl) hd) (by decide +kernel) d4.1)
end

theorem st_ifp {c : TT} {t1 t2 : TS} {D : Ends} {σ : L2.St} {H : Hp} {b : Bool} (h : Ans c σ H b) (h1 : b = true → t1 D σ H) (h2 : b = false → t2 D σ H) : tIfS c t1 t2 D σ H := by
  cases b with
  | true => exact st_yes h (h1 rfl)
  | false => exact st_no h (h2 rfl)
theorem an_eqs {i : Nat} {σ : L2.St} {H : Hp} {z x : Str} (h : σ[i]? = some (some (.str z))) : Ans (tTest (tOp rEq (tVar i) (tC (.str x)))) σ H (decide (z = x)) := by
  refine ans_eq (val_var h) val_c rfl ?_
  by_cases e : z = x
  · rw [decide_eq_true e, decide_eq_true (congrArg V.str e)]
  · rw [decide_eq_false e, decide_eq_false fun q => e (V.str.inj q)]
theorem an_ge {i : Nat} {σ : L2.St} {H : Hp} {n m : Int} (h : σ[i]? = some (some (.int n))) : Ans (tTest (tOp (rI0 fun i j => .bl (decide (j ≤ i))) (tVar i) (tC (.int m)))) σ H (decide (m ≤ n)) := ans_cmp (val_var h) val_c fun _ q => ⟨_, _, rfl, rfl, q⟩
theorem an_val {i : Nat} {σ : L2.St} {H : Hp} {b : Bool} (h : σ[i]? = some (some (.bl b))) : Ans (tB (tVar i)) σ H b := ans_val (val_var h)
theorem an_nin {K : PySem.W.Frag} {i : Nat} {σ : L2.St} {H : Hp} {a : Addr} {x : Str} {l : List Str} (h : σ[i]? = some (some (.ref a))) (ha : H a = some (.lst (sV l))) : Ans (tTest (tOp (rIn K true) (tC (.str x)) (tVar i))) σ H (!decide (x ∈ l)) := by
  refine ans_cmp val_c (val_var h) fun Q q => ⟨a, _, rfl, .inl (SqL.of ha), rfl, sV_all l, ?_⟩
  show Q (.bl (!inV (.str x) (sV l))) H
  rw [inV_sV]
  exact q
theorem plain_ne : ∀ l ∈ plainSet, 1 ≤ l.length := by decide +kernel
def pieceWords : List Str := ["plain", "plain", "plain", "wrap", "loop", "loop", "maybe", "try", "try", "shield", "retry", "return"]
section
variable {P : Program} {w : World} {K : PySem.W.Frag} {mg : Str → Option Value} {base : Heap} {mx n : Nat}
theorem c_l_piece (T : Tx K mg) (hn : n ≤ 100) (c_l_group : Cl P w K mg base (5 * n + 10) "_law_group" (spGroup mx n)) : Cl P w K mg base (5 * n + 14) "_law_piece" (spRows mx (6 + 2 * gc n) 1 1 (2 * n + 2) fun _ => True) := by
  have c_l_of := c_l_of (P := P) (w := w) (base := base) T
  have c_l_take := c_l_take (P := P) (w := w) (base := base) T
  have c_l_plain := c_l_plain (P := P) (w := w) (base := base) T
  have c_l_loop := c_l_loop T hn c_l_group
  have c_l_try := c_l_try T hn c_l_group
  have c_l_retry := c_l_retry T hn c_l_group
  refine clD T.f_l_piece T.g_l_piece sc_l_piece (fun _ _ _ _ _ _ us hl => match us, hl with | [_, _, _, _], _ => rfl) (fun vs H Q E h => ?_) (fun cdv A outer s H vs Q E hr h => ?_)
  · obtain ⟨b, nm, ar, left, c, ns, ws, rfl, _⟩ := h
    rfl
  · obtain ⟨b, nm, ar, left, c, ns, ws, rfl, hlo, hle, _, a, hc, dp, q⟩ := h
    refine ⟨_, (pss_cons (ps_set (i := 4) sc_l_piece.nd rfl (by first | exact Or.inl rfl | exact Or.inr rfl) (pe_lst (pa_cons pe_str (pa_cons pe_str (pa_cons pe_str (pa_cons pe_str (pa_cons pe_str (pa_cons pe_str (pa_cons pe_str (pa_cons pe_str (pa_cons pe_str (pa_cons pe_str (pa_cons pe_str (pa_cons pe_str pa_nil))))))))))))))
      (pss_cons (ps_set (i := 5) sc_l_piece.nd rfl (by first | exact Or.inl rfl | exact Or.inr rfl) (pe_f c_l_of hr (by first | decide | omega) (pa_cons (pv 0) (pa_cons (pv 4) pa_nil))))
      (pss_cons (ps_set (i := 6) sc_l_piece.nd rfl (by first | exact Or.inl rfl | exact Or.inr rfl) (pe_and (pe_cmpR op_lt (pe_callB (call_len_seqK (K := K) rfl) rfl T.b_len boot_len (pa_cons (pv 3) pa_nil)) pe_int (nomark _)) (pe_one (pe_cmpR op_ge (pv 2) pe_int (nomark _)))))
      (pss_cons (ps_if (PW.pt (pw_and (pt_cmpR op_eq (pv 5) pe_str (nomark _)) (pw_and1 (pt_cmpR op_ge (pv 2) pe_int (nomark _))))) (pss_one (ps_ret (pe_op op_cat (pe_op op_cat (pe_lst (pa_cons pe_str pa_nil)) (pe_f c_l_group hr (by first | decide | omega) (pa_cons (pv 0) (pa_cons (pv 1) (pa_cons (pe_op op_sub (pv 2) pe_int) (pa_cons (pv 3) pa_nil)))))) (pe_lst (pa_cons pe_str pa_nil))))) pss_nil)
      (pss_cons (ps_if (PW.pt (pw_and (pt_cmpR op_eq (pv 5) pe_str (nomark _)) (pw_and (pt_val (pv 6)) (pw_and1 (pt_cmpR (op_notIn_seqK (K := K) rfl) pe_str (pv 3) (by rfl)))))) (pss_one (ps_ret (pe_f c_l_loop hr (by first | decide | omega) (pa_cons (pv 0) (pa_cons (pv 1) (pa_cons (pv 2) (pa_cons (pv 3) pa_nil))))))) pss_nil)
      (pss_cons (ps_if (PW.pt (pw_and (pt_cmpR op_eq (pv 5) pe_str (nomark _)) (pw_and1 (pt_val (pv 6))))) (pss_cons (ps_set (i := 7) sc_l_piece.nd rfl (by first | exact Or.inl rfl | exact Or.inr rfl) (pe_op op_cat (pe_lst (pa_cons pe_str pa_nil)) (pe_f c_l_group hr (by first | decide | omega) (pa_cons (pv 0) (pa_cons (pv 1) (pa_cons (pe_op op_sub (pv 2) pe_int) (pa_cons (pe_op op_cat (pv 3) (pe_lst (pa_cons pe_str pa_nil))) pa_nil)))))))
          (pss_cons (ps_if (pt_cmpR op_eq (pe_f c_l_take hr (by first | decide | omega) (pa_cons (pv 0) (pa_cons pe_int pa_nil))) pe_int (nomark _)) (pss_one (ps_set (i := 7) sc_l_piece.nd rfl (by first | exact Or.inl rfl | exact Or.inr rfl) (pe_op op_cat (pe_op op_cat (pv 7) (pe_lst (pa_cons pe_str pa_nil))) (pe_f c_l_group hr (by first | decide | omega) (pa_cons (pv 0) (pa_cons (pv 1) (pa_cons (pe_op op_sub (pe_op op_sub (pv 2) pe_int) (pe_callB (call_len_seqK (K := K) rfl) rfl T.b_len boot_len (pa_cons (pv 7) pa_nil))) (pa_cons (pe_op op_cat (pv 3) (pe_lst (pa_cons pe_str pa_nil))) pa_nil)))))))) pss_nil)
          (pss_one (ps_ret (pe_op op_cat (pv 7) (pe_lst (pa_cons pe_str pa_nil))))))) pss_nil)
      (pss_cons (ps_if (PW.pt (pw_and (pt_cmpR op_eq (pv 5) pe_str (nomark _)) (pw_and1 (pt_val (pv 6))))) (pss_one (ps_ret (pe_f c_l_try hr (by first | decide | omega) (pa_cons (pv 0) (pa_cons (pv 1) (pa_cons (pv 2) (pa_cons (pv 3) pa_nil))))))) pss_nil)
      (pss_cons (ps_if (PW.pt (pw_and (pt_cmpR op_eq (pv 5) pe_str (nomark _)) (pw_and1 (pt_val (pv 6))))) (pss_one (ps_ret (pe_op op_cat (pe_op op_cat (pe_lst (pa_cons pe_str pa_nil)) (pe_f c_l_group hr (by first | decide | omega) (pa_cons (pv 0) (pa_cons (pv 1) (pa_cons (pe_op op_sub (pv 2) pe_int) (pa_cons (pe_op op_cat (pv 3) (pe_lst (pa_cons pe_str pa_nil))) pa_nil)))))) (pe_lst (pa_cons pe_str pa_nil))))) pss_nil)
      (pss_cons (ps_if (PW.pt (pw_and (pt_cmpR op_eq (pv 5) pe_str (nomark _)) (pw_and (pt_cmpR op_ge (pv 2) pe_int (nomark _)) (pw_and (pt_cmpR op_lt (pe_callB (call_len_seqK (K := K) rfl) rfl T.b_len boot_len (pa_cons (pv 3) pa_nil)) pe_int (nomark _)) (pw_and1 (pt_cmpR (op_notIn_seqK (K := K) rfl) pe_str (pv 3) (by rfl))))))) (pss_one (ps_ret (pe_f c_l_retry hr (by first | decide | omega) (pa_cons (pv 0) (pa_cons (pv 1) (pa_cons (pv 2) (pa_cons (pv 3) pa_nil))))))) pss_nil)
      (pss_cons (ps_if (PW.pt (pw_and (pt_cmpR op_eq (pv 5) pe_str (nomark _)) (pw_and (pt_cmpR (op_notIn_seqK (K := K) rfl) pe_str (pv 3) (by rfl)) (pw_and (pt_cmpR (op_notIn_seqK (K := K) rfl) pe_str (pv 3) (by rfl)) (pw_and1 (pt_cmpR op_eq (pe_f c_l_take hr (by first | decide | omega) (pa_cons (pv 0) (pa_cons pe_int pa_nil))) pe_int (nomark _))))))) (pss_one (ps_ret (pe_lst (pa_cons pe_str pa_nil)))) pss_nil)
      (pss_one (ps_ret (pe_f c_l_plain hr (by first | decide | omega) (pa_cons (pv 0) (pa_cons (pv 2) pa_nil))))))))))))))), ?_⟩
    refine ⟨by show 12 ≤ sizeLine; decide, fun p1 n1 => new_at n1 fun H1 s1 h1 => ⟨_, rfl, _, rfl, b, p1, _, c, rfl, a.bag.ne n1, h1, by simp, by show 12 < 1000000; decide, a.bag.same s1, by omega, fun x H2 hx g2 => ?_⟩⟩
    obtain ⟨z, rfl, mz⟩ := mem_sV (l := pieceWords) hx
    have g02 : Go b (c + 1) H H2 := (Go.of a.bag s1).trans g2
    have a2 := a.go g02
    have q2 : NewRows b (c + (6 + 2 * gc n)) H2 Q (fun l => (l.length ≤ left ∧ min 1 left ≤ l.length) ∧ Seg mx ns ws l) := fun p l H' np g h => q p l H' (g02.free np) (g02.trans g) h
    have dp2 := dp
    clear hx mz s1 h1 g2
    generalize hop : (decide (ws.length < 5) && decide (4 ≤ left)) = op
    refine ⟨_, rfl, ar, _, rfl, .inl (SqL.of a2.ar), _, _, rfl, rfl, _, rfl, ?_⟩
    have key : ∀ (cnt : V → Hp → Prop), cnt (.bl op) H2 → (if decide (((sV ws).length : Int) < 5) = true then (tOp (rI0 fun i j => .bl (decide (j ≤ i))) (tVar 2) (tC (.int 4))) [some (.ref b), some (.ref nm), some (.int left), some (.ref ar), some (.ref p1), some (.str z), none, none] H2 cnt else cnt (.bl false) H2) := fun cnt hcnt => by
      rw [List.length_map]
      refine ite2 (fun h => ⟨_, rfl, _, _, rfl, rfl, ?_⟩) (fun h => ?_)
      · have h' : ws.length < 5 := by have := of_decide_eq_true h; omega
        rw [decide_eq_true h', Bool.true_and] at hop
        have e : decide ((4 : Int) ≤ (left : Int)) = decide (4 ≤ left) := decide_eq_decide.mpr (by omega)
        show cnt (.bl (decide ((4 : Int) ≤ (left : Int)))) H2
        rw [e, hop]
        exact hcnt
      · have h' : ¬ ws.length < 5 := fun q => h (decide_eq_true (by omega))
        rw [decide_eq_false h', Bool.false_and] at hop
        rw [hop]
        exact hcnt
    refine key _ ?_
    clear key
    have hopen : op = true → ws.length < 5 ∧ 4 ≤ left := fun e => by
      rw [e] at hop
      simpa using hop
    have eleft : ∀ k : Nat, k ≤ left → ((left : Int) - (k : Int)) = ((left - k : Nat) : Int) := fun k hk => by omega
    -- wrap
    refine st_ifp (ans_and2 (an_eqs rfl) (an_ge rfl)) (fun hb => ?_) (fun _ => ?_)
    · have h3 : 3 ≤ left := by
        have := (Bool.and_eq_true_iff.mp hb).2
        have := of_decide_eq_true this
        omega
      refine ⟨by show 1 ≤ sizeLine; decide, fun p3 n3 => new_at n3 fun H3 s3 h3' => ?_⟩
      refine ⟨_, rfl, _, rfl, _, rfl, _, _, rfl, rfl, _, rfl, b, nm, ar, left - 2, c + 1, ns, ws, ?_, Nat.zero_le _, by omega, True.intro, a2.same s3, by omega, dp.less (Nat.sub_le _ _), fun p4 l H4 n4 g4 h4 hl => ?_⟩
      · show [V.ref b, V.ref nm, V.int ((left : Int) - 2), V.ref ar] = _
        rw [show ((left : Int) - 2) = ((left - 2 : Nat) : Int) by omega]
      have hl1 := hl.1
      have n3b : p3 ≠ b := a2.bag.ne n3
      refine ⟨p3, p4, _, _, rfl, rfl, g4.keep _ _ n3b h3', h4, ?_, fun p5 n5 => new_at n5 fun H5 s5 h5 => ⟨by show 1 ≤ sizeLine; decide, fun p6 n6 => new_at n6 fun H6 s6 h6 => ⟨p5, p6, _, _, rfl, rfl, s6 _ _ h5, h6, ?_, fun p7 n7 => new_at n7 fun H7 s7 h7 => ?_⟩⟩⟩
      · exact sz_le (show 1 + (sV (l.map Rw.text)).length ≤ 1000 by rw [rows_len]; omega) (by decide)
      · exact sz_le (show ([V.str "ask"] ++ sV (l.map Rw.text)).length + 1 ≤ 1000 by rw [List.length_append, rows_len]; simp only [List.length_singleton]; omega) (by decide)
      have g6 : Go b (c + (6 + 2 * gc n)) H2 H6 := (((((Go.of a2.bag s3).trans g4).same s5).same s6)).mono (by omega)
      refine q2 p7 ([.one "ask"] ++ l ++ [.one "read"]) H7 (g6.free n7) (g6.same s7) ?_ ⟨?_, ?_⟩
      · rw [h7, texts_app, texts_app, sV_app, sV_app] <;> rfl
      · simp only [List.length_append, List.length_singleton]
        omega
      · exact seg_app (seg_app (seg_soft1 (by decide +kernel) dp.1) hl.2) (seg_soft1 (by decide +kernel) dp.1)
    -- loop
    refine st_ifp (ans_and2 (an_eqs rfl) (ans_and2 (an_val rfl) (an_nin rfl a2.ar))) (fun hb => ?_) (fun _ => ?_)
    · obtain ⟨_, hb2⟩ := Bool.and_eq_true_iff.mp hb
      obtain ⟨h1, h2⟩ := Bool.and_eq_true_iff.mp hb2
      obtain ⟨h5, h4⟩ := hopen h1
      have hne : ("each" : Str) ∉ ws := by simpa using h2
      exact ⟨_, rfl, _, rfl, _, rfl, _, rfl, b, nm, ar, left, c + 1, ns, ws, rfl, h4, hle, ⟨h5, hne⟩, a2, by omega, dp, fun p l H' np g h hl => q2 p l H' np (g.mono (by omega)) h hl⟩
    -- maybe
    refine st_ifp (ans_and2 (an_eqs rfl) (an_val rfl)) (fun hb => ?_) (fun _ => ?_)
    · obtain ⟨h5, h4⟩ := hopen (Bool.and_eq_true_iff.mp hb).2
      obtain ⟨d3, hmx⟩ := dp.push (b := left - 3) ("maybe" : Str) (by omega) h4 h5
      refine ⟨by show 1 ≤ sizeLine; decide, fun p3 n3 => new_at n3 fun H3 s3 h3 => ⟨_, rfl, _, rfl, _, rfl, _, _, rfl, rfl, _, rfl, by show 1 ≤ sizeLine; decide, fun p4 n4 => new_at n4 fun H4 s4 h4' => ⟨ar, p4, _, _, rfl, rfl, s4 _ _ (s3 _ _ a2.ar), h4', ?_, fun p5 n5 => new_at n5 fun H5 s5 h5' => ?_⟩⟩⟩
      · exact sz_le (show (sV ws).length + 1 ≤ 6 by rw [List.length_map]; omega) (by decide)
      have e25 : Same H2 H5 := (s3.trans s4).trans s5
      refine ⟨b, nm, p5, left - 3, c + 1, ns, ws ++ [("maybe" : Str)], ?_, Nat.zero_le _, by omega, True.intro, a2.into e25 (by rw [h5', sV_app] <;> rfl) (by simp; omega), by omega, d3, fun p6 l H6 n6 g6 h6 hl => ?_⟩
      · show [V.ref b, V.ref nm, V.int ((left : Int) - 3), V.ref p5] = _
        rw [show ((left : Int) - 3) = ((left - 3 : Nat) : Int) by omega]
      have hl1 := hl.1
      have n3b : p3 ≠ b := a2.bag.ne n3
      refine ⟨p3, p6, _, _, rfl, rfl, g6.keep p3 _ n3b (s5 _ _ (s4 _ _ h3)), h6, ?_, fun p7 n7 => new_at n7 fun H7 s7 h7 => ?_⟩
      · exact sz_le (show 1 + (sV (l.map Rw.text)).length ≤ 1000 by rw [rows_len]; omega) (by decide)
      have g27 : Go b (c + 1 + gc n) H2 H7 := ((Go.of (a2.bag) e25).trans g6).same s7
      have n7b : p7 ≠ b := (((Go.of (a2.bag) e25).trans g6)).bag.ne n7
      have a7 := a2.go g27
      refine ⟨_, rfl, b, 2, c + 1 + gc n, rfl, by decide, by decide, g27.bag, by omega, fun r H8 r0 r1 g8 => ⟨rfl, _, rfl, ite2 (fun _ => ?_) (fun _ => ?_)⟩⟩
      · have g28 : Go b (c + 2 + gc n) H2 H8 := (g27.trans g8).mono (by omega)
        have a8 := a2.go g28
        have h78 := g8.keep p7 _ n7b h7
        have el : ([V.str "maybe"] ++ sV (l.map Rw.text)).length = l.length + 1 := by
          rw [List.length_append, rows_len]
          simp only [List.length_singleton]
          omega
        obtain ⟨d4, _⟩ := dp.push (b := left - 2 - (l.length + 1)) ("else" : Str) (by omega) h4 h5
        refine ⟨_, rfl, by show 1 ≤ sizeLine; decide, fun p9 n9 => new_at n9 fun H9 s9 h9 => ⟨p7, p9, _, _, rfl, rfl, s9 _ _ h78, h9, ?_, fun p10 n10 => new_at n10 fun H10 s10 h10 => ?_⟩⟩
        · exact sz_le (show ([V.str "maybe"] ++ sV (l.map Rw.text)).length + 1 ≤ 1000 by rw [el]; omega) (by decide)
        have h710 : H10 p7 = some (.lst ([V.str "maybe"] ++ sV (l.map Rw.text))) := s10 _ _ (s9 _ _ h78)
        refine ⟨_, rfl, _, rfl, _, rfl, _, _, rfl, rfl, _, rfl, p7, _, rfl, .inl (SqL.of h710), _, _, rfl, rfl, _, rfl, by show 1 ≤ sizeLine; decide, fun p11 n11 => new_at n11 fun H11 s11 h11 => ⟨ar, p11, _, _, rfl, rfl, s11 _ _ (s10 _ _ (s9 _ _ a8.ar)), h11, ?_, fun p12 n12 => new_at n12 fun H12 s12 h12 => ?_⟩⟩
        · exact sz_le (show (sV ws).length + 1 ≤ 6 by rw [List.length_map]; omega) (by decide)
        have e812 : Same H8 H12 := ((s9.trans s10).trans s11).trans s12
        refine ⟨b, nm, p12, left - 2 - (l.length + 1), c + 2 + gc n, ns, ws ++ [("else" : Str)], ?_, Nat.zero_le _, by omega, True.intro, a8.into e812 (by rw [h12, sV_app] <;> rfl) (by simp; omega), by omega, d4, fun p13 k H13 n13 g13 h13 hk => ?_⟩
        · show [V.ref b, V.ref nm, V.int ((left : Int) - 2 - ((([V.str "maybe"] ++ sV (l.map Rw.text)).length : Nat) : Int)), V.ref p12] = _
          rw [el, show ((left : Int) - 2 - ((l.length + 1 : Nat) : Int)) = ((left - 2 - (l.length + 1) : Nat) : Int) by omega]
        have hk1 := hk.1
        have n10b : p10 ≠ b := (g28.same s9).bag.ne n10
        refine ⟨p10, p13, _, _, rfl, rfl, g13.keep _ _ n10b (s12 _ _ (s11 _ _ h10)), h13, ?_, fun p14 n14 => new_at n14 fun H14 s14 h14 => ?_⟩
        · exact sz_le (show ([V.str "maybe"] ++ sV (l.map Rw.text) ++ [V.str "else"]).length + (sV (k.map Rw.text)).length ≤ 1000 by rw [List.length_append, el, rows_len]; simp only [List.length_singleton]; omega) (by decide)
        have g14 : Go b (c + (6 + 2 * gc n)) H2 H14 := (((g28.same e812).trans g13).same s14).mono (by omega)
        refine ⟨_, rfl, by show 1 ≤ sizeLine; decide, fun p15 n15 => new_at n15 fun H15 s15 h15 => ⟨p14, p15, _, _, rfl, rfl, s15 _ _ h14, h15, ?_, fun p16 n16 => new_at n16 fun H16 s16 h16 => ?_⟩⟩
        · exact sz_le (show ([V.str "maybe"] ++ sV (l.map Rw.text) ++ [V.str "else"] ++ sV (k.map Rw.text)).length + 1 ≤ 1000 by rw [List.length_append, List.length_append, el, rows_len]; simp only [List.length_singleton]; omega) (by decide)
        refine q2 p16 ([.one "maybe"] ++ l ++ [.one "else"] ++ k ++ [.one "end"]) H16 ((g14.same s15).free n16) ((g14.same s15).same s16) ?_ ⟨?_, ?_⟩
        · rw [h16, texts_app, texts_app, texts_app, texts_app, sV_app, sV_app, sV_app, sV_app] <;> rfl
        · simp only [List.length_append, List.length_singleton]
          omega
        · exact seg_two (by decide +kernel) ⟨by decide +kernel, by decide +kernel⟩ (by decide +kernel) (by rw [if_pos rfl]) h5 hmx (by decide +kernel) hl.2 hk.2
      · have g28 : Go b (c + (6 + 2 * gc n)) H2 H8 := (g27.trans g8).mono (by omega)
        have h78 := g8.keep p7 _ n7b h7
        refine ⟨_, rfl, by show 1 ≤ sizeLine; decide, fun p15 n15 => new_at n15 fun H15 s15 h15 => ⟨p7, p15, _, _, rfl, rfl, s15 _ _ h78, h15, ?_, fun p16 n16 => new_at n16 fun H16 s16 h16 => ?_⟩⟩
        · exact sz_le (show ([V.str "maybe"] ++ sV (l.map Rw.text)).length + 1 ≤ 1000 by rw [List.length_append, rows_len]; simp only [List.length_singleton]; omega) (by decide)
        refine q2 p16 ([.one "maybe"] ++ l ++ [.one "end"]) H16 ((g28.same s15).free n16) ((g28.same s15).same s16) ?_ ⟨?_, ?_⟩
        · rw [h16, texts_app, texts_app, sV_app, sV_app] <;> rfl
        · simp only [List.length_append, List.length_singleton]
          omega
        · exact seg_block (r := .one "maybe") (by decide +kernel : ("maybe" : Str) ∈ openWords) (by decide +kernel : ¬ ("maybe" : Str) = "try") h5 hmx (fun e => absurd (show ("maybe" : Str) = "each" from e) (by decide +kernel)) (fun e => absurd (show ("maybe" : Str) = "retry" from e) (by decide +kernel)) (by decide +kernel : ("maybe" : Str) ∈ oneWords) hl.2
    -- try
    refine st_ifp (ans_and2 (an_eqs rfl) (an_val rfl)) (fun hb => ?_) (fun _ => ?_)
    · obtain ⟨h5, h4⟩ := hopen (Bool.and_eq_true_iff.mp hb).2
      exact ⟨_, rfl, _, rfl, _, rfl, _, rfl, b, nm, ar, left, c + 1, ns, ws, rfl, h4, hle, h5, a2, by omega, dp, fun p l H' np g h hl => q2 p l H' np (g.mono (by omega)) h hl⟩
    -- shield
    refine st_ifp (ans_and2 (an_eqs rfl) (an_val rfl)) (fun hb => ?_) (fun _ => ?_)
    · obtain ⟨h5, h4⟩ := hopen (Bool.and_eq_true_iff.mp hb).2
      obtain ⟨d3, hmx⟩ := dp.push (b := left - 2) ("shield" : Str) (by omega) h4 h5
      refine ⟨by show 1 ≤ sizeLine; decide, fun p3 n3 => new_at n3 fun H3 s3 h3 => ⟨_, rfl, _, rfl, _, rfl, _, _, rfl, rfl, _, rfl, by show 1 ≤ sizeLine; decide, fun p4 n4 => new_at n4 fun H4 s4 h4' => ⟨ar, p4, _, _, rfl, rfl, s4 _ _ (s3 _ _ a2.ar), h4', ?_, fun p5 n5 => new_at n5 fun H5 s5 h5' => ?_⟩⟩⟩
      · exact sz_le (show (sV ws).length + 1 ≤ 6 by rw [List.length_map]; omega) (by decide)
      have e25 : Same H2 H5 := (s3.trans s4).trans s5
      refine ⟨b, nm, p5, left - 2, c + 1, ns, ws ++ [("shield" : Str)], ?_, Nat.zero_le _, by omega, True.intro, a2.into e25 (by rw [h5', sV_app] <;> rfl) (by simp; omega), by omega, d3, fun p6 l H6 n6 g6 h6 hl => ?_⟩
      · show [V.ref b, V.ref nm, V.int ((left : Int) - 2), V.ref p5] = _
        rw [show ((left : Int) - 2) = ((left - 2 : Nat) : Int) by omega]
      have hl1 := hl.1
      have n3b : p3 ≠ b := a2.bag.ne n3
      refine ⟨p3, p6, _, _, rfl, rfl, g6.keep p3 _ n3b (s5 _ _ (s4 _ _ h3)), h6, ?_, fun p7 n7 => new_at n7 fun H7 s7 h7 => ⟨by show 1 ≤ sizeLine; decide, fun p8 n8 => new_at n8 fun H8 s8 h8 => ⟨p7, p8, _, _, rfl, rfl, s8 _ _ h7, h8, ?_, fun p9 n9 => new_at n9 fun H9 s9 h9 => ?_⟩⟩⟩
      · exact sz_le (show 1 + (sV (l.map Rw.text)).length ≤ 1000 by rw [rows_len]; omega) (by decide)
      · exact sz_le (show ([V.str "shield"] ++ sV (l.map Rw.text)).length + 1 ≤ 1000 by rw [List.length_append, rows_len]; simp only [List.length_singleton]; omega) (by decide)
      have g8 : Go b (c + (6 + 2 * gc n)) H2 H8 := (((((Go.of (a2.bag) e25).trans g6).same s7).same s8)).mono (by omega)
      refine q2 p9 ([.one "shield"] ++ l ++ [.one "end"]) H9 (g8.free n9) (g8.same s9) ?_ ⟨?_, ?_⟩
      · rw [h9, texts_app, texts_app, sV_app, sV_app] <;> rfl
      · simp only [List.length_append, List.length_singleton]
        omega
      · exact seg_block (r := .one "shield") (by decide +kernel : ("shield" : Str) ∈ openWords) (by decide +kernel : ¬ ("shield" : Str) = "try") h5 hmx (fun e => absurd (show ("shield" : Str) = "each" from e) (by decide +kernel)) (fun e => absurd (show ("shield" : Str) = "retry" from e) (by decide +kernel)) (by decide +kernel : ("shield" : Str) ∈ oneWords) hl.2
    -- retry
    refine st_ifp (ans_and2 (an_eqs rfl) (ans_and2 (an_ge rfl) (ans_and2 (ans_cmp (x := .int ((sV ws).length : Nat)) (b := decide (((sV ws).length : Int) < 4)) (fun Q q => ⟨_, rfl, ar, _, rfl, .inl (SqL.of a2.ar), q⟩) val_c fun _ q => ⟨_, _, rfl, rfl, q⟩) (an_nin rfl a2.ar)))) (fun hb => ?_) (fun _ => ?_)
    · obtain ⟨_, hb2⟩ := Bool.and_eq_true_iff.mp hb
      obtain ⟨h1, hb3⟩ := Bool.and_eq_true_iff.mp hb2
      obtain ⟨h2, h3⟩ := Bool.and_eq_true_iff.mp hb3
      have h7 := of_decide_eq_true h1
      have h4 := of_decide_eq_true h2
      rw [List.length_map] at h4
      have hnr : ("retry" : Str) ∉ ws := by simpa using h3
      exact ⟨_, rfl, _, rfl, _, rfl, _, rfl, b, nm, ar, left, c + 1, ns, ws, rfl, by omega, hle, ⟨by omega, hnr⟩, a2, by omega, dp, fun p l H' np g h hl => q2 p l H' np (g.mono (by omega)) h hl⟩
    -- return, else plain
    have plain : ∀ (H3 : Hp) (d : Nat) (σ : L2.St), σ[0]? = some (some (.ref b)) → σ[2]? = some (some (.int left)) → Go b (c + d) H2 H3 → d ≤ 2 → (tRet (tCall spPlain [] E0 (tCons (tVar 0) (tCons (tVar 2) tNil)))) { nx := fun _ H' => Q .non H', rt := Q } σ H3 := fun H3 d σ e0 e2 g hd => by
      refine ⟨_, e0, _, e2, b, left, c + d, rfl, hlo, g.bag, by omega, fun p l H' np g' h' hl => q2 p (l.map .one) H' (g.free np) ((g.trans g').mono (by omega)) (by rw [h', texts_one]) ⟨by rw [List.length_map]; have := plain_ne l hl.1; have := hl.2; omega, seg_softs dp.1 l (plain_soft l hl.1)⟩⟩
    refine ⟨_, rfl, rfl, _, rfl, ite2 (fun h0 => ⟨_, rfl, ar, _, rfl, .inl (SqL.of a2.ar), rfl, sV_all ws, _, rfl, ?_⟩) (fun _ => plain H2 1 _ rfl rfl (Go.refl a2.bag) (by decide))⟩
    refine ite2 (fun h1 => ⟨_, rfl, ar, _, rfl, .inl (SqL.of a2.ar), rfl, sV_all ws, _, rfl, ?_⟩) (fun _ => plain H2 1 _ rfl rfl (Go.refl a2.bag) (by decide))
    refine ite2 (fun h2 => ⟨_, rfl, b, 3, c + 1, rfl, by decide, by decide, a2.bag, by omega, fun r H3 r0 r1 g3 => ⟨rfl, _, rfl, ?_⟩⟩) (fun _ => plain H2 1 _ rfl rfl (Go.refl a2.bag) (by decide))
    refine ite2 (fun h3 => ?_) (fun _ => plain H3 2 _ rfl rfl (g3.mono (by omega)) (by decide))
    refine ⟨by show 1 ≤ sizeLine; decide, fun p4 n4 => new_at n4 fun H4 s4 h4 => q2 p4 [.one "return"] H4 (g3.free n4) ((g3.same s4).mono (by omega)) h4 ⟨⟨hlo, Nat.min_le_left ..⟩, seg_stay ?_ (by decide +kernel) dp.1⟩⟩
    have e1 : ("finally" : Str) ∉ ws := by
      have h1' : (!inV (.str "finally") (sV ws)) = true := h1
      rw [inV_sV] at h1'
      simpa using h1'
    have e2 : ("rescue" : Str) ∉ ws := by
      have h2' : (!inV (.str "rescue") (sV ws)) = true := h2
      rw [inV_sV] at h2'
      simpa using h2'
    unfold stp
    rw [if_neg (by decide +kernel), if_neg (by decide +kernel), if_neg (by decide +kernel), if_pos rfl, if_neg (fun q => q.elim e1 e2)]
end

theorem gc_ge (n : Nat) : 1 ≤ gc n := by
  cases n with
  | zero => exact Nat.le_refl 1
  | succ n => exact Nat.le_trans (by decide : 1 ≤ 19) (Nat.le_add_right _ _)
section
variable {P : Program} {w : World} {K : PySem.W.Frag} {mg : Str → Option Value} {base : Heap} {mx : Nat}
theorem group_zero (T : Tx K mg) : Cl P w K mg base (5 * 0 + 10) "_law_group" (spGroup mx 0) := by
  have c_l_take := c_l_take (P := P) (w := w) (base := base) T
  refine clD T.f_l_group T.g_l_group sc_l_group (fun _ _ _ _ _ _ us hl => match us, hl with | [_, _, _, _], _ => rfl) (fun vs H Q E h => ?_) (fun cdv A outer s H vs Q E hr h => ?_)
  · obtain ⟨b, nm, ar, left, c, ns, ws, rfl, _⟩ := h
    rfl
  · obtain ⟨b, nm, ar, left, c, ns, ws, rfl, hlo, hle, _, a, hc, dp, q⟩ := h
    have h0 : left = 0 := by omega
    subst h0
    have hc1 : c + 1 < 1000000000 := hc
    refine ⟨_, (pss_cons (ps_set (i := 4) sc_l_group.nd rfl (by first | exact Or.inl rfl | exact Or.inr rfl) (pe_lst pa_nil))
      (pss_cons (ps_for PassesOwn.never rfl (pi_range1 rfl T.b_range (pa_cons (pe_op op_add pe_int (pe_f c_l_take hr (by first | decide | omega) (pa_cons (pv 0) (pa_cons pe_int pa_nil)))) pa_nil)) (pg_name (i := 5) sc_l_group.nd rfl (by first | exact Or.inl rfl | exact Or.inr rfl)) (pss_one (ps_if (pt_cmpR op_gt (pv 2) (pe_callB (call_len_seqK (K := K) rfl) rfl T.b_len boot_len (pa_cons (pv 4) pa_nil)) (nomark _)) (pss_one ps_never) pss_nil)))
      (pss_one (ps_ret (pv 4))))), ?_⟩
    refine ⟨by show 0 ≤ sizeLine; decide, fun p1 n1 => new_at n1 fun H1 s1 h1 => ⟨_, rfl, b, 3, c, rfl, by decide, by decide, a.bag.same s1, by omega, fun r H2 r0 r1 g2 => ⟨_, _, rfl, rfl, _, rfl, by omega, by omega, ?_⟩⟩⟩
    have g02 : Go b (c + 1) H H2 := (Go.of a.bag s1).trans g2
    have h2 := g2.keep p1 _ (a.bag.ne n1) h1
    refine for_range (lo := 0) (n := ((1 : Int) + r).toNat) (fun i σ H' => H' = H2 ∧ ∃ x, σ = [some (.ref b), some (.ref nm), some (.int ((0 : Nat) : Int)), some (.ref ar), some (.ref p1), x]) ⟨rfl, _, rfl⟩ (fun i σ H' hi h => ?_) (fun σ H' h => ?_)
    · obtain ⟨rfl, x, rfl⟩ := h
      refine ⟨_, rfl, _, rfl, p1, [], rfl, .inl (SqL.of h2), _, _, rfl, rfl, _, rfl, iteF ⟨rfl, _, rfl⟩⟩
    · obtain ⟨rfl, x, rfl⟩ := h
      exact ⟨_, rfl, q p1 [] H' n1 g02 h2 ⟨⟨Nat.le_refl 0, by decide⟩, seg_nil⟩⟩
theorem group_succ (T : Tx K mg) {n : Nat} (hn : n ≤ 100) (g : Cl P w K mg base (5 * n + 10) "_law_group" (spGroup mx n)) : Cl P w K mg base (5 * (n + 1) + 10) "_law_group" (spGroup mx (n + 1)) := by
  have c_l_take := c_l_take (P := P) (w := w) (base := base) T
  have c_l_piece := c_l_piece T hn g
  refine clD (k := 5 * n + 14) T.f_l_group T.g_l_group sc_l_group (fun _ _ _ _ _ _ us hl => match us, hl with | [_, _, _, _], _ => rfl) (fun vs H Q E h => ?_) (fun cdv A outer s H vs Q E hr h => ?_)
  · obtain ⟨b, nm, ar, left, c, ns, ws, rfl, _⟩ := h
    rfl
  · obtain ⟨b, nm, ar, left, c, ns, ws, rfl, hlo, hle, _, a, hc, dp, q⟩ := h
    have eg : gc (n + 1) = 19 + 6 * gc n := rfl
    rw [eg] at hc q
    refine ⟨_, (pss_cons (ps_set (i := 4) sc_l_group.nd rfl (by first | exact Or.inl rfl | exact Or.inr rfl) (pe_lst pa_nil))
      (pss_cons (ps_for PassesOwn.never rfl (pi_range1 rfl T.b_range (pa_cons (pe_op op_add pe_int (pe_f c_l_take hr (by first | decide | omega) (pa_cons (pv 0) (pa_cons pe_int pa_nil)))) pa_nil)) (pg_name (i := 5) sc_l_group.nd rfl (by first | exact Or.inl rfl | exact Or.inr rfl)) (pss_one (ps_if (pt_cmpR op_gt (pv 2) (pe_callB (call_len_seqK (K := K) rfl) rfl T.b_len boot_len (pa_cons (pv 4) pa_nil)) (nomark _)) (pss_one (ps_set (i := 4) sc_l_group.nd rfl (by first | exact Or.inl rfl | exact Or.inr rfl) (pe_op op_cat (pv 4) (pe_f c_l_piece hr (by first | decide | omega) (pa_cons (pv 0) (pa_cons (pv 1) (pa_cons (pe_op op_sub (pv 2) (pe_callB (call_len_seqK (K := K) rfl) rfl T.b_len boot_len (pa_cons (pv 4) pa_nil))) (pa_cons (pv 3) pa_nil)))))))) pss_nil)))
      (pss_one (ps_ret (pv 4))))), ?_⟩
    refine ⟨by show 0 ≤ sizeLine; decide, fun p1 n1 => new_at n1 fun H1 s1 h1 => ⟨_, rfl, b, 3, c, rfl, by decide, by decide, a.bag.same s1, by omega, fun r H2 r0 r1 g2 => ⟨_, _, rfl, rfl, _, rfl, by omega, by omega, ?_⟩⟩⟩
    have g02 : Go b (c + 1) H H2 := (Go.of a.bag s1).trans g2
    have h2 := g2.keep p1 _ (a.bag.ne n1) h1
    have hr3 : ((1 : Int) + r).toNat ≤ 3 := by omega
    refine for_range (lo := 0) (n := ((1 : Int) + r).toNat) (fun i σ H' => ∃ (p : Addr) (l : List Rw) (x : Option V), σ = [some (.ref b), some (.ref nm), some (.int (left : Int)), some (.ref ar), some (.ref p), x] ∧ H p = none ∧ Go b (c + 1 + i * (6 + 2 * gc n)) H H' ∧ H' p = some (.lst (sV (l.map Rw.text))) ∧ (l.length ≤ left ∧ (1 ≤ i → min 1 left ≤ l.length)) ∧ Seg mx ns ws l)
      ⟨p1, [], _, rfl, n1, by rw [Nat.zero_mul]; exact g02, h2, ⟨Nat.zero_le _, fun h => absurd h (by decide)⟩, seg_nil⟩ (fun i σ H' hi h => ?_) (fun σ H' h => ?_)
    · obtain ⟨p, l, x, rfl, np, g3, h3, hl, sg⟩ := h
      have hc2 : c + 1 + i * (6 + 2 * gc n) + (6 + 2 * gc n) ≤ c + 1 + (i + 1) * (6 + 2 * gc n) := by rw [Nat.add_mul, Nat.one_mul]; omega
      have hi3 : (i + 1) * (6 + 2 * gc n) ≤ 3 * (6 + 2 * gc n) := Nat.mul_le_mul_right _ (by omega)
      refine ⟨_, rfl, _, rfl, p, _, rfl, .inl (SqL.of h3), _, _, rfl, rfl, _, rfl, ite2 (fun h => ?_) (fun h => ?_)⟩
      · have h4 : l.length < left := by
          have := of_decide_eq_true h
          rw [rows_len] at this
          omega
        have a3 := a.go g3
        refine ⟨_, rfl, _, rfl, _, rfl, _, rfl, _, rfl, p, _, rfl, .inl (SqL.of h3), _, _, rfl, rfl, _, rfl, b, nm, ar, left - l.length, c + 1 + i * (6 + 2 * gc n), ns, ws, ?_, by omega, by omega, True.intro, a3, by omega, dp.less (Nat.sub_le _ _), fun p5 k H5 n5 g5 h5 hk => ?_⟩
        · show [V.ref b, V.ref nm, V.int ((left : Int) - (((sV (l.map Rw.text)).length : Nat) : Int)), V.ref ar] = _
          rw [rows_len, show ((left : Int) - ((l.length : Nat) : Int)) = ((left - l.length : Nat) : Int) by omega]
        have hk1 := hk.1
        have npb : p ≠ b := a.bag.ne np
        refine ⟨p, p5, _, _, rfl, rfl, g5.keep p _ npb h3, h5, ?_, fun p6 n6 => new_at n6 fun H6 s6 h6 => ?_⟩
        · exact sz_le (show (sV (l.map Rw.text)).length + (sV (k.map Rw.text)).length ≤ 1000 by rw [rows_len, rows_len]; omega) (by decide)
        refine ⟨p6, l ++ k, _, rfl, (g3.trans g5).free n6, ((g3.trans g5).same s6).mono hc2, by rw [h6, texts_app, sV_app], by rw [List.length_append]; omega, seg_app sg hk.2⟩
      · exact ⟨p, l, _, rfl, np, g3.mono (by omega), h3, ⟨hl.1, fun _ => by have := hl.1; have h' : ¬ (((sV (l.map Rw.text)).length : Int) < left) := fun q => h (decide_eq_true q); rw [rows_len] at h'; omega⟩, sg⟩
    · obtain ⟨p, l, x, rfl, np, g3, h3, hl, sg⟩ := h
      have hi3 : ((1 : Int) + r).toNat * (6 + 2 * gc n) ≤ 3 * (6 + 2 * gc n) := Nat.mul_le_mul_right _ hr3
      exact ⟨_, rfl, q p l H' np (g3.mono (by omega)) h3 ⟨⟨hl.1, hl.2 (by omega)⟩, sg⟩⟩
theorem c_l_group (T : Tx K mg) : ∀ n : Nat, n ≤ 100 → Cl P w K mg base (5 * n + 10) "_law_group" (spGroup mx n)
  | 0, _ => group_zero T
  | n + 1, h => group_succ T (Nat.le_of_succ_le h) (c_l_group T n (Nat.le_of_succ_le h))
end

/-! ### data for == -/
structure Ls (d : PyData) (n : Nat) : Prop where
  can : d.canLay0 = true
  deep : d.depth ≤ n
theorem ls_all {n : Nat} : ∀ {ds : List PyData}, (∀ d ∈ ds, Ls d n) → PyData.canLayAll0 ds = true ∧ PyData.depthAll ds ≤ n
  | [], _ => ⟨by simp only [PyData.canLayAll0], by simp only [PyData.depthAll]; exact Nat.zero_le _⟩
  | d :: r, h => by
    obtain ⟨a, b⟩ := h d (List.mem_cons_self ..)
    obtain ⟨a', b'⟩ := ls_all (ds := r) fun x hx => h x (List.mem_cons_of_mem _ hx)
    refine ⟨by simp only [PyData.canLayAll0, a, a', Bool.and_self], ?_⟩
    simp only [PyData.depthAll]
    omega
theorem Ls.list {ds : List PyData} {n : Nat} (h : ∀ d ∈ ds, Ls d n) : Ls (.list ds) (n + 1) := by
  obtain ⟨a, b⟩ := ls_all h
  exact ⟨by simp only [PyData.canLay0]; exact a, by simp only [PyData.depth]; omega⟩
theorem Ls.tup {ds : List PyData} {n : Nat} (h : ∀ d ∈ ds, Ls d n) : Ls (.tuple ds) (n + 1) := by
  obtain ⟨a, b⟩ := ls_all h
  exact ⟨by simp only [PyData.canLay0]; exact a, by simp only [PyData.depth]; omega⟩
theorem Ls.int (i : Int) (n : Nat) : Ls (.int i) n := ⟨by simp only [PyData.canLay0], by simp only [PyData.depth]; exact Nat.zero_le _⟩
theorem Ls.str {x : Str} (h : PyData.strOk x = true) (n : Nat) : Ls (.str x) n := ⟨by simp only [PyData.canLay0]; exact h, by simp only [PyData.depth]; exact Nat.zero_le _⟩
theorem Ls.up {d : PyData} {n m : Nat} (h : Ls d n) (l : n ≤ m) : Ls d m := ⟨h.can, Nat.le_trans h.deep l⟩
theorem Ls.shaped {d : PyData} {n : Nat} (h : Ls d n) (l : n ≤ 64 := by decide) : SeqAt.shaped d = true := by
  show (d.canLay0 && decide (d.depth ≤ 64)) = true
  rw [h.can, decide_eq_true (Nat.le_trans h.deep l)] <;> rfl
theorem dpAll_map {α : Type} {K : PySem.W.Frag} {H : Hp} (f : α → V) (g : α → PyData) : ∀ (xs : List α), (∀ x ∈ xs, Dp K H (f x) (g x)) → DpAll K H (xs.map f) (xs.map g)
  | [], _ => .nil
  | x :: r, h => .cons (h x (List.mem_cons_self ..)) (dpAll_map f g r fun y hy => h y (List.mem_cons_of_mem _ hy))
theorem eqvAll_map {α : Type} [DecidableEq α] (g : α → PyData) (hg : ∀ a b, PyData.eqv (g a) (g b) = decide (a = b)) : ∀ xs ys : List α, PyData.eqvAll (xs.map g) (ys.map g) = decide (xs = ys)
  | [], [] => by simp only [List.map_nil, PyData.eqvAll, decide_true]
  | [], y :: ys => by simp only [List.map_nil, List.map_cons, PyData.eqvAll] <;> simp
  | x :: xs, [] => by simp only [List.map_nil, List.map_cons, PyData.eqvAll] <;> simp
  | x :: xs, y :: ys => by
    simp only [List.map_cons, PyData.eqvAll, hg, eqvAll_map g hg xs ys, List.cons.injEq, Bool.decide_and]
theorem eqv_int (a b : Int) : PyData.eqv (.int a) (.int b) = decide (a = b) := by
  simp only [PyData.eqv]
  rw [Bool.eq_iff_iff]
  simp
theorem eqv_str (a b : Str) : PyData.eqv (.str a) (.str b) = decide (a = b) := by
  simp only [PyData.eqv]
  rw [Bool.eq_iff_iff]
  simp
abbrev iV (l : List Int) : List V := l.map V.int
theorem iV_app (a b : List Int) : iV (a ++ b) = iV a ++ iV b := List.map_append ..
theorem dp_ints {K : PySem.W.Frag} {H : Hp} {a : Addr} {l : List Int} (h : H a = some (.lst (iV l))) : Dp K H (.ref a) (.list (l.map .int)) := .lst (SqL.of h) (dpAll_map _ _ l fun x _ => .int x)
theorem ls_ints (l : List Int) : Ls (.list (l.map .int)) 1 := .list fun d hd => by
  obtain ⟨x, _, rfl⟩ := List.mem_map.mp hd
  exact .int x 0
theorem eqv_ints (a b : List Int) : PyData.eqv (.list (a.map .int)) (.list (b.map .int)) = decide (a = b) := by
  simp only [PyData.eqv]
  exact eqvAll_map _ eqv_int a b
/-! ### a changed plain row -/
theorem runM_set {mx : Nat} {x y : Str} (hx : x ∈ softWords) (hy : y ∈ softWords) : ∀ (ws : List Str) (k : Nat) (ms : List Str), ws[k]? = some x → runM mx ms (ws.set k y) = runM mx ms ws
  | w :: r, 0, ms, h => by
    have e : w = x := Option.some.inj h
    subst e
    show (match stp ms y with
      | none => none
      | some m => if m.length ≤ mx then runM mx m r else none) = (match stp ms w with
      | none => none
      | some m => if m.length ≤ mx then runM mx m r else none)
    rw [stp_soft hx, stp_soft hy]
  | w :: r, k + 1, ms, h => by
    have h' : r[k]? = some x := by simpa using h
    show (match stp ms w with
      | none => none
      | some m => if m.length ≤ mx then runM mx m (r.set k y) else none) = (match stp ms w with
      | none => none
      | some m => if m.length ≤ mx then runM mx m r else none)
    cases stp ms w with
    | none => rfl
    | some m =>
      show (if m.length ≤ mx then runM mx m (r.set k y) else none) = if m.length ≤ mx then runM mx m r else none
      rw [runM_set hx hy r k m h']
theorem soft_text : ∀ {r : Rw}, r.text ∈ softWords → ∃ w, r = .one w ∧ w ∈ softWords
  | .one w, h => ⟨w, rfl, h⟩
  | .each n, h => by
    exfalso
    have e : (("each " : Str) ++ n).cps.toList.take 2 = [101, 97] := by
      rw [tl_cat]
      rfl
    have : ∀ w ∈ softWords, ¬ w.cps.toList.take 2 = [101, 97] := by decide +kernel
    exact this _ h e
  | .retry k, h => by
    exfalso
    have e : (("retry " : Str) ++ k).cps.toList.take 3 = [114, 101, 116] := by
      rw [tl_cat]
      rfl
    have : ∀ w ∈ softWords, ¬ w.cps.toList.take 3 = [114, 101, 116] := by decide +kernel
    exact this _ h e
theorem seg_set {mx : Nat} {ns ms : List Str} {l : List Rw} {k : Nat} {r : Rw} {y : Str} (s : Seg mx ns ms l) (h : l[k]? = some r) (hr : r.text ∈ softWords) (hy : y ∈ softWords) : Seg mx ns ms (l.set k (.one y)) := by
  obtain ⟨x, rfl, hx⟩ := soft_text hr
  refine ⟨?_, fun q hq => ?_⟩
  · rw [List.map_set]
    refine (runM_set (y := y) hx hy (l.map Rw.word) k ms ?_).trans s.run
    rw [List.getElem?_map, h] <;> rfl
  · rcases List.mem_or_eq_of_mem_set hq with h' | h'
    · exact s.ok q h'
    · subst h'
      exact soft_one hy
/-- rows of a function that is drawn -/
def GoodRows (mx : Nat) (l : List Rw) : Prop := ∃ ns : List Str, ns.length ≤ 2 ∧ (∀ n ∈ ns, NameOk n) ∧ Seg mx ns [] l
def spLawRows (mx n : Nat) : Sp := fun vs H Q _ => ∃ (b : Addr) (most odd c : Nat), vs = [.ref b, .int most, .int odd] ∧ most ≤ 2 * n ∧ Deep mx [] most ∧ 1 ≤ odd ∧ odd < 1000000 ∧ BagAt H b c ∧ c + (7 + gc n) < 1000000000 ∧
  NewRows b (c + (7 + gc n)) H Q (fun l => (l.length ≤ most ∧ min 1 most ≤ l.length) ∧ GoodRows mx l)
section
variable {P : Program} {w : World} {K : PySem.W.Frag} {mg : Str → Option Value} {base : Heap} {mx n : Nat}
theorem c_l_rows (T : Tx K mg) (hn : n ≤ 100) : Cl P w K mg base (5 * n + 11) "_law_rows" (spLawRows mx n) := by
  have c_l_of := c_l_of (P := P) (w := w) (base := base) T
  have c_l_take := c_l_take (P := P) (w := w) (base := base) T
  have c_l_names := c_l_names (P := P) (w := w) (base := base) T
  have c_l_group := c_l_group (P := P) (w := w) (base := base) (mx := mx) T n hn
  refine clD T.f_l_rows T.g_l_rows sc_l_rows (fun _ _ _ _ _ _ us hl => match us, hl with | [_, _, _], _ => rfl) (fun vs H Q E h => ?_) (fun cdv A outer s H vs Q E hr h => ?_)
  · obtain ⟨b, most, odd, c, rfl, _⟩ := h
    rfl
  · obtain ⟨b, most, odd, c, rfl, hm, dp, ho1, ho2, hb, hc, q⟩ := h
    refine ⟨_, (pss_cons (ps_set (i := 3) sc_l_rows.nd rfl (by first | exact Or.inl rfl | exact Or.inr rfl) (pe_f c_l_group hr (by first | decide | omega) (pa_cons (pv 0) (pa_cons (pe_f c_l_names hr (by first | decide | omega) (pa_cons (pv 0) pa_nil)) (pa_cons (pv 1) (pa_cons (pe_lst pa_nil) pa_nil))))))
      (pss_cons (ps_set (i := 4) sc_l_rows.nd rfl (by first | exact Or.inl rfl | exact Or.inr rfl) (pe_lst (pa_cons pe_str (pa_cons pe_str (pa_cons pe_str (pa_cons pe_str (pa_cons pe_str (pa_cons pe_str (pa_cons pe_str (pa_cons pe_str pa_nil))))))))))
      (pss_cons (ps_setLc (i := 5) (own := [("_law_k", 6), ("_law_row", 7)]) (g := gTup K 2 (gCons (gName 6) (gCons (gName 7) gNil))) rfl sc_l_rows.nd rfl rfl (sw_true rfl rfl rfl (by decide +kernel)) (pi_enum rfl T.b_enumerate (pa_cons (pv 3) pa_nil)) (blkOk_by (N := ["_law_bag_here", "_law_most", "_law_odd", "_law_rows_here", "_law_words", "_law_places", "_law_k", "_law_row"]) (sc := defScope s_l_rows) (by decide +kernel)) (fun _ _ _ _ _ => (pg_tup rfl (pgs_cons (pg_name (i := 6) sc_l_rows.nd rfl (by first | exact Or.inl rfl | exact Or.inr rfl)) (pgs_cons (pg_name (i := 7) sc_l_rows.nd rfl (by first | exact Or.inl rfl | exact Or.inr rfl)) pgs_nil)))) (fun _ _ _ _ _ => (pts_one (pt_cmpR (op_in_seqK (K := K) rfl) (pv 7) (pv 4) (by rfl)))) (fun _ _ _ _ _ => (pv 6)))
      (pss_cons (ps_if (PW.pt (pw_and (pt_cmpR (op_neDK (K := K) rfl hr.units) (pv 5) (pe_lst pa_nil) (nomark _)) (pw_and1 (pt_cmpR op_eq (pe_f c_l_take hr (by first | decide | omega) (pa_cons (pv 0) (pa_cons (pv 2) pa_nil))) pe_int (nomark _))))) (pss_one (ps_asg (pe_f c_l_of hr (by first | decide | omega) (pa_cons (pv 0) (pa_cons (pv 4) pa_nil))) (pg_sub (pv 3) (pe_f c_l_of hr (by first | decide | omega) (pa_cons (pv 0) (pa_cons (pv 5) pa_nil))) set_list))) pss_nil)
      (pss_one (ps_ret (pv 3))))))), ?_⟩
    refine ⟨_, rfl, _, rfl, b, c, rfl, hb, by omega, fun p1 ns H1 n1 g1 h1 hns0 hns2 hnok => ?_⟩
    refine ⟨_, rfl, by show 0 ≤ sizeLine; decide, fun p2 n2 => new_at n2 fun H2 s2 h2 => ?_⟩
    refine ⟨b, p1, p2, most, c + 4, ns, [], rfl, Nat.zero_le _, hm, True.intro, ⟨g1.bag.same s2, s2 _ _ h1, hns0, hns2, hnok, h2, Nat.zero_le _⟩, by omega, dp, fun p3 l H3 n3 g3 h3 hl => ?_⟩
    have g03 : Go b (c + 4 + gc n) H H3 := (g1.same s2).trans g3
    have f3 : H p3 = none := (g1.same s2).free n3
    refine ⟨by show 8 ≤ sizeLine; decide, fun p4 n4 => new_at n4 fun H4 s4 h4 => ?_⟩
    have h34 := s4 _ _ h3
    refine ⟨_, rfl, p3, _, rfl, SqL.of h34, fun D nD => ?_⟩
    have hne : ∀ {a : Addr} {o : HO}, H4 a = some o → a ≠ D := fun e => ne_of_none e nD
    have hl1 := hl.1
    refine lc_it (walk_enum (K := K) (a := p3) (xs := sV (l.map Rw.text))) (fun i H' => Off D H4 H' ∧ ∃ ks : List Int, H' D = some (.lst (iV ks)) ∧ ks.length ≤ i ∧ ∀ k ∈ ks, ∃ j : Nat, ∃ r, k = j ∧ l[j]? = some r ∧ r.text ∈ softWords)
      ⟨(Off.refl D H4).put, [], upd_same, Nat.le_refl 0, fun x h => by cases h⟩ (fun i H' _ h => SqL.of (h.1 _ _ (hne h34) h34)) (fun i x H5 H6 hi h y => ?_) (fun H5 h => ?_)
    · obtain ⟨f, ks, hD, hk, hall⟩ := h
      obtain ⟨T', x, y', rfl, nT, rfl, ex, ey⟩ := y
      have ex : x = .int (i : Nat) := (Option.some.inj ex).symm
      subst ex
      obtain ⟨z, rfl, ez⟩ := sV_get ey
      obtain ⟨r, er, ert⟩ : ∃ r, l[i]? = some r ∧ r.text = z := by
        rw [List.getElem?_map] at ez
        cases e : l[i]? with
        | none => rw [e] at ez; cases ez
        | some r => rw [e] at ez; exact ⟨r, rfl, Option.some.inj ez⟩
      refine new_at nT fun H7 s7 h7 => ?_
      have f7 := f.same s7
      have hD7 := s7 _ _ hD
      refine ⟨T', _, rfl, SqT.of h7, rfl, _, _, rfl, _, _, rfl, rfl, rfl, ?_⟩
      refine ⟨_, rfl, _, rfl, p4, _, rfl, .inl (SqL.of (f7 _ _ (hne h4) h4)), rfl, sV_all softWords, _, rfl, ?_⟩
      show if inV (.str z) (sV softWords) = true then _ else _
      rw [inV_sV]
      refine ite2 (fun hz => ?_) (fun hz => ?_)
      · refine ⟨_, rfl, iV ks, hD7, ?_, f7.put, ks ++ [(i : Int)], ?_, by simp; omega, fun k hk' => ?_⟩
        · rw [List.length_map]
          rw [List.length_map, List.length_map] at hi
          exact Nat.lt_of_le_of_lt (show ks.length ≤ 1000 by omega) (by decide)
        · rw [upd_same, iV_app]; rfl
        · rcases List.mem_append.mp hk' with h' | h'
          · exact hall k h'
          · have e : k = (i : Int) := by simpa using h'
            exact ⟨i, r, e, er, by rw [ert]; exact of_decide_eq_true hz⟩
      · exact ⟨f7, ks, hD7, Nat.le_succ_of_le hk, hall⟩
    · obtain ⟨f, ks, hD, hk, hall⟩ := h
      rw [rows_len] at hk
      have fr : Same H3 H5 := fun a o e => f a o (hne (s4 a o e)) (s4 a o e)
      have h35 := fr _ _ h3
      have g05 : Go b (c + 4 + gc n) H H5 := g03.same fr
      have p3b : p3 ≠ b := hb.ne f3
      have Db : D ≠ b := (g03.same s4).bag.ne nD
      have out : ∀ (H' : Hp), Go b (c + (7 + gc n)) H H' → ∀ l' : List Rw, H' p3 = some (.lst (sV (l'.map Rw.text))) → (l'.length ≤ most ∧ min 1 most ≤ l'.length) → Seg mx ns [] l' → Q (.ref p3) H' := fun H' g l' h' hl' sg => q p3 l' H' f3 g h' ⟨hl', ns, hns2, hnok, sg⟩
      refine ⟨_, rfl, by show 0 ≤ sizeLine; decide, fun p6 n6 => new_at n6 fun H6 s6 h6 => ?_⟩
      have hD6 := s6 _ _ hD
      refine ⟨_, _, dp_ints hD6, dp_ints (l := []) h6, (ls_ints ks).shaped, (ls_ints []).shaped, _, rfl, ?_⟩
      rw [eqv_ints]
      have g06 := g05.same s6
      have h36 := s6 _ _ h35
      refine ite2 (fun hks => ?_) (fun hks => ?_)
      · have hk0 : ks ≠ [] := by simpa using hks
        refine ⟨_, rfl, _, rfl, b, odd, c + 4 + gc n, rfl, by omega, by omega, g06.bag, by omega, fun r H7 r0 r1 g7 => ⟨rfl, _, rfl, ite2 (fun _ => ?_) (fun _ => ?_)⟩⟩
        · have g07 := g06.trans g7
          have h37 := g7.keep _ _ p3b h36
          have h47 := g7.keep p4 _ (g03.bag.ne n4) (s6 _ _ (f _ _ (hne h4) h4))
          have hD7 := g7.keep D _ Db hD6
          refine ⟨_, rfl, _, rfl, b, p4, sV softWords, c + 4 + gc n + 1, rfl, g03.bag.ne n4, h47, by simp [softWords], by show 8 < 1000000; decide, g07.bag, by omega, fun x H8 hx g8 => ?_⟩
          obtain ⟨y, rfl, hy⟩ := mem_sV hx
          have g08 := g07.trans g8
          refine ⟨_, rfl, _, rfl, _, rfl, b, D, iV ks, c + 4 + gc n + 1 + 1, rfl, Db, g8.keep D _ Db hD7, by simpa using hk0, ?_, g08.bag, by omega, fun x H9 hx9 g9 => ?_⟩
          · rw [List.length_map]
            omega
          obtain ⟨k, hk9, rfl⟩ := List.mem_map.mp hx9
          obtain ⟨j, r9, rfl, er, et⟩ := hall k hk9
          have h39 := g9.keep p3 _ p3b (g8.keep p3 _ p3b h37)
          have hj : j < l.length := (List.getElem?_eq_some_iff.mp er).1
          refine ⟨p3, _, _, j, rfl, rfl, h39, ?_, ⟨_, rfl, ?_⟩⟩
          · have e : (sV (l.map Rw.text)).length = l.length := rows_len
            unfold ixN
            rw [e, if_pos (by omega), if_pos (by omega)] <;> rfl
          · have g9' : Go b (c + (7 + gc n)) H H9 := (g08.trans g9).mono (by omega)
            refine out _ ⟨fun a o na e => ?_, ?_⟩ (l.set j (.one y)) ?_ (by rw [List.length_set]; exact hl1) (seg_set hl.2 er et hy)
            · rw [upd_ne (ne_of_none e f3)]
              exact g9'.keep a o na e
            · obtain ⟨xs, e, v⟩ := g9'.bag
              exact ⟨xs, by rw [upd_ne p3b.symm]; exact e, v⟩
            · rw [upd_same, List.map_set]; show _ = some (HO.lst (((l.map Rw.text).set j (Rw.one y).text).map V.str)); rw [List.map_set]; rfl
        · have h37 := g7.keep _ _ p3b h36
          exact ⟨_, rfl, out H7 ((g06.trans g7).mono (by omega)) l h37 hl1 hl.2⟩
      · exact ⟨_, rfl, out H6 (g06.mono (by omega)) l h36 hl1 hl.2⟩
end

/-! ### what a Reader knows, by the modes of its open blocks -/
structure RS where
  words : List Str
  stack : List (Nat × Str)
  openers : List (Option Nat)
  mids : List (Nat × Nat)
  ends : List (Nat × Nat)
def RS.none0 : RS := ⟨[], [], [], [], []⟩
def RS.modes (st : RS) : List Str := st.stack.map (·.2)
def baseW (m : Str) : Str := if m = "else" then "maybe" else if m = "finally" ∨ m = "rescue" then "try" else m
structure OkB (words : List Str) (mids : List (Nat × Nat)) (o : Nat) (m : Str) : Prop where
  base : words[o]? = some (baseW m)
  kind : m ∈ openWords ∨ m ∈ midWords
  inn : m ∈ midWords → ∃ r, mids.lookup o = some r ∧ words[r]? = some m
  out : ¬ m ∈ midWords → mids.lookup o = none
structure Good (st : RS) : Prop where
  ok : ∀ p ∈ st.stack, OkB st.words st.mids p.1 p.2
  nd : (st.stack.map (·.1)).Nodup
  mkk : ∀ p ∈ st.mids, p.1 < st.words.length
  ek : ∀ p ∈ st.ends, p.1 < st.words.length ∧ p.1 ∉ st.stack.map (·.1)
def RS.top (st : RS) : Option Nat := st.stack.getLast?.map (·.1)
def RS.take (st : RS) (w : Str) : RS where
  words := st.words ++ [w]
  openers := st.openers ++ [st.top]
  stack := if w ∈ openWords then st.stack ++ [(st.words.length, w)] else if w ∈ midWords then st.stack.dropLast ++ [(st.top.getD 0, w)] else if w = "end" then st.stack.dropLast else st.stack
  mids := if w ∈ midWords then st.mids ++ [(st.top.getD 0, st.words.length)] else st.mids
  ends := if w = "end" then st.ends ++ [(st.top.getD 0, st.words.length)] else st.ends
theorem lookup_app {α : Type} {k o : Nat} {v : α} : ∀ {l : List (Nat × α)}, o ≠ k → (l ++ [(k, v)]).lookup o = l.lookup o
  | [], h => by
    show (match o == k with
      | true => some v
      | false => none) = none
    rw [beq_eq_false_iff_ne.mpr h]
  | (x, y) :: r, h => by
    show (match o == x with
      | true => some y
      | false => (r ++ [(k, v)]).lookup o) = (match o == x with
      | true => some y
      | false => r.lookup o)
    rw [lookup_app h]
theorem lookup_last {α : Type} {k : Nat} {v : α} : ∀ {l : List (Nat × α)}, l.lookup k = none → (l ++ [(k, v)]).lookup k = some v
  | [], _ => by
    show (match k == k with
      | true => some v
      | false => none) = some v
    rw [beq_self_eq_true]
  | (x, y) :: r, h => by
    have h' : (match k == x with
      | true => some y
      | false => r.lookup k) = none := h
    show (match k == x with
      | true => some y
      | false => (r ++ [(k, v)]).lookup k) = some v
    cases e : k == x with
    | true => rw [e] at h'; cases h'
    | false => rw [e] at h'; exact lookup_last h'
theorem lookup_none {α : Type} {k : Nat} : ∀ {l : List (Nat × α)}, (∀ p ∈ l, p.1 ≠ k) → l.lookup k = none
  | [], _ => rfl
  | (x, y) :: r, h => by
    show (match k == x with
      | true => some y
      | false => r.lookup k) = none
    rw [beq_eq_false_iff_ne.mpr (fun e => h (x, y) (List.mem_cons_self ..) e.symm)]
    exact lookup_none fun p hp => h p (List.mem_cons_of_mem _ hp)
theorem get_app {α : Type} {l : List α} {i : Nat} {x y : α} (h : l[i]? = some x) : (l ++ [y])[i]? = some x := by
  obtain ⟨hi, e⟩ := List.getElem?_eq_some_iff.mp h
  rw [List.getElem?_append_left hi]
  exact h
theorem OkB.words {ws : List Str} {ms : List (Nat × Nat)} {o : Nat} {m w : Str} (h : OkB ws ms o m) : OkB (ws ++ [w]) ms o m :=
  ⟨get_app h.base, h.kind, fun q => let ⟨r, a, b⟩ := h.inn q; ⟨r, a, get_app b⟩, h.out⟩
theorem OkB.lt {ws : List Str} {ms : List (Nat × Nat)} {o : Nat} {m : Str} (h : OkB ws ms o m) : o < ws.length := (List.getElem?_eq_some_iff.mp h.base).1
theorem last_cases {α : Type} (l : List α) : l = [] ∨ ∃ k x, l = k ++ [x] := by
  rcases List.eq_nil_or_concat l with h | ⟨k, x, h⟩
  · exact .inl h
  · exact .inr ⟨k, x, by simpa using h⟩
/-- what the three kinds of words do to the modes -/
theorem stp_open_inv {ms m : List Str} {w : Str} (hw : w ∈ openWords) (h : stp ms w = some m) : m = ms ++ [w] ∧ ms.length < 5 ∧ (w = "each" → ("each" : Str) ∉ ms) ∧ (w = "retry" → ms.count ("retry" : Str) < 2) := by
  have h1 : ¬ w ∈ midWords := by
    have : ∀ w ∈ openWords, ¬ w ∈ midWords := by decide +kernel
    exact this w hw
  unfold stp at h
  rw [if_neg h1, if_pos hw] at h
  split at h
  · rename_i c
    exact ⟨(Option.some.inj h).symm, c⟩
  · cases h
theorem stp_mid_inv {ms m : List Str} {w : Str} (hw : w ∈ midWords) (h : stp ms w = some m) : ∃ (k : List Str) (x : Str), ms = k ++ [x] ∧ x = (if w = "else" then ("maybe" : Str) else ("try" : Str)) ∧ m = k ++ [w] := by
  unfold stp at h
  rw [if_pos hw] at h
  by_cases c : ms.getLast? = (some (if w = "else" then ("maybe" : Str) else ("try" : Str)) : Option Str)
  · rw [if_pos c] at h
    rcases last_cases ms with e | ⟨k, x, e⟩
    · subst e
      cases c
    · subst e
      rw [last_app] at c
      rw [drop_app] at h
      exact ⟨k, x, rfl, Option.some.inj c, (Option.some.inj h).symm⟩
  · rw [if_neg c] at h
    cases h
theorem stp_end_inv {ms m : List Str} (h : stp ms "end" = some m) : ∃ (k : List Str) (x : Str), ms = k ++ [x] ∧ ¬ x = "try" ∧ m = k := by
  unfold stp at h
  rw [if_neg (by decide +kernel), if_neg (by decide +kernel), if_pos rfl] at h
  rcases last_cases ms with e | ⟨k, x, e⟩
  · subst e
    cases h
  · subst e
    rw [last_app, drop_app] at h
    have h' : (if x = "try" then none else some k) = some m := h
    split at h'
    · cases h'
    · rename_i c
      exact ⟨k, x, rfl, c, (Option.some.inj h').symm⟩
theorem stp_rest_inv {ms m : List Str} {w : Str} (h1 : ¬ w ∈ midWords) (h2 : ¬ w ∈ openWords) (h3 : ¬ w = "end") (h : stp ms w = some m) : m = ms ∧ (w = "return" → ("finally" : Str) ∉ ms ∧ ("rescue" : Str) ∉ ms) ∧ (w = "drain" ∨ w = "close" → mayRs ms w = true) := by
  unfold stp at h
  rw [if_neg h1, if_neg h2, if_neg h3] at h
  split at h
  · rename_i c
    split at h
    · cases h
    · rename_i c2
      refine ⟨(Option.some.inj h).symm, fun _ => ⟨fun q => c2 (.inl q), fun q => c2 (.inr q)⟩, fun q => ?_⟩
      subst c
      rcases q with q | q <;> exact absurd q (by decide +kernel)
  · rename_i c
    split at h
    · split at h
      · rename_i c2
        exact ⟨(Option.some.inj h).symm, fun q => absurd q c, fun _ => c2⟩
      · cases h
    · rename_i c2
      exact ⟨(Option.some.inj h).symm, fun q => absurd q c, fun q => absurd q c2⟩
theorem base_open {w : Str} (h : w ∈ openWords) : baseW w = w := by
  have : ∀ w ∈ openWords, baseW w = w := by decide +kernel
  exact this w h
theorem open_not_mid {w : Str} (h : w ∈ openWords) : ¬ w ∈ midWords := by
  have : ∀ w ∈ openWords, ¬ w ∈ midWords := by decide +kernel
  exact this w h
theorem Good.none0 : Good RS.none0 := ⟨(fun p h => by cases h), List.nodup_nil, (fun p h => by cases h), (fun p h => by cases h)⟩
theorem take_mids_no {st : RS} {w : Str} (h : ¬ w ∈ midWords) : (st.take w).mids = st.mids := if_neg h
theorem take_good {st : RS} {w : Str} {m : List Str} (g : Good st) (h : stp st.modes w = some m) : Good (st.take w) ∧ (st.take w).modes = m := by
  have top_of : ∀ {k : List (Nat × Str)} {x : Nat × Str}, st.stack = k ++ [x] → st.top = some x.1 := fun {k x} e => by
    unfold RS.top
    rw [e]
    simp
  by_cases ho : w ∈ openWords
  · obtain ⟨rfl, h5, _, _⟩ := stp_open_inv ho h
    have hm := open_not_mid ho
    have he : ¬ w = "end" := by
      have : ∀ w ∈ openWords, ¬ w = "end" := by decide +kernel
      exact this w ho
    have es : (st.take w).stack = st.stack ++ [(st.words.length, w)] := if_pos ho
    have em : (st.take w).mids = st.mids := if_neg hm
    have ee : (st.take w).ends = st.ends := if_neg he
    have ew : (st.take w).words = st.words ++ [w] := rfl
    refine ⟨⟨fun p hp => ?_, ?_, fun p hp => ?_, fun p hp => ?_⟩, ?_⟩
    · rw [es] at hp
      rw [em, ew]
      rcases List.mem_append.mp hp with q | q
      · exact (g.ok p q).words
      · have e : p = (st.words.length, w) := by simpa using q
        subst e
        refine ⟨?_, .inl ho, fun q => absurd q hm, fun _ => lookup_none fun p hp => Nat.ne_of_lt (g.mkk p hp)⟩
        show (st.words ++ [w])[st.words.length]? = some (baseW w)
        rw [base_open ho]
        simp
    · rw [es, List.map_append]
      refine List.nodup_append.mpr ⟨g.nd, by simp, fun a ha b hb => ?_⟩
      have e : b = st.words.length := by simpa using hb
      obtain ⟨p, hp, rfl⟩ := List.mem_map.mp ha
      have := (g.ok p hp).lt
      omega
    · rw [em] at hp
      rw [ew, List.length_append]
      exact Nat.lt_succ_of_lt (g.mkk p hp)
    · rw [ee] at hp
      obtain ⟨a, b⟩ := g.ek p hp
      refine ⟨by rw [ew, List.length_append]; exact Nat.lt_succ_of_lt a, ?_⟩
      rw [es, List.map_append, List.mem_append]
      rintro (q | q)
      · exact b q
      · have e : p.1 = st.words.length := by simpa using q
        omega
    · show (st.take w).stack.map (·.2) = st.stack.map (·.2) ++ [w]
      rw [es, List.map_append] <;> rfl
  · by_cases hm : w ∈ midWords
    · obtain ⟨k, x, e1, e2, rfl⟩ := stp_mid_inv hm h
      have he : ¬ w = "end" := by
        have : ∀ w ∈ midWords, ¬ w = "end" := by decide +kernel
        exact this w hm
      rcases last_cases st.stack with e | ⟨ks, ⟨o, y⟩, e⟩
      · unfold RS.modes at e1
        rw [e] at e1
        exact absurd (congrArg List.length e1) (by simp)
      have e3 : k = ks.map (·.2) ∧ x = y := by
        unfold RS.modes at e1
        rw [e, List.map_append] at e1
        have := List.append_inj' e1 rfl
        exact ⟨this.1.symm, (List.cons.inj this.2).1.symm⟩
      have tp := top_of e
      have es : (st.take w).stack = ks ++ [(o, w)] := by
        refine (if_neg ho).trans ((if_pos hm).trans ?_)
        rw [tp, e]
        simp
      have em : (st.take w).mids = st.mids ++ [(o, st.words.length)] := by
        refine (if_pos hm).trans ?_
        rw [tp] <;> rfl
      have ee : (st.take w).ends = st.ends := if_neg he
      have ew : (st.take w).words = st.words ++ [w] := rfl
      have okt := g.ok (o, y) (by rw [e]; simp)
      have xm : ¬ x ∈ midWords ∧ baseW x = baseW w := by
        rw [e2]
        have : ∀ w ∈ midWords, ¬ (if w = "else" then ("maybe" : Str) else ("try" : Str)) ∈ midWords ∧ baseW (if w = "else" then ("maybe" : Str) else ("try" : Str)) = baseW w := by decide +kernel
        exact this w hm
      have nd : (ks.map (·.1) ++ [o]).Nodup := by
        have := g.nd
        rw [e, List.map_append] at this
        exact this
      have nk : o ∉ ks.map (·.1) := by
        have := (List.nodup_append.mp nd).2.2
        exact fun q => this o q o (by simp) rfl
      refine ⟨⟨fun p hp => ?_, ?_, fun p hp => ?_, fun p hp => ?_⟩, ?_⟩
      · rw [es] at hp
        rw [em, ew]
        rcases List.mem_append.mp hp with q | q
        · have h0 := (g.ok p (by rw [e]; exact List.mem_append_left _ q)).words (w := w)
          have hne : p.1 ≠ o := fun z => nk (z ▸ List.mem_map_of_mem q)
          refine ⟨h0.base, h0.kind, fun z => ?_, fun z => ?_⟩
          · rw [lookup_app hne]
            exact h0.inn z
          · rw [lookup_app hne]
            exact h0.out z
        · have e5 : p = (o, w) := by simpa using q
          subst e5
          have h0 := okt.words (w := w)
          refine ⟨?_, .inr hm, fun _ => ⟨st.words.length, lookup_last (okt.out (by rw [← e3.2]; exact xm.1)), by simp⟩, fun z => absurd hm z⟩
          rw [← xm.2, e3.2]
          exact h0.base
      · rw [es, List.map_append]
        exact nd
      · rw [em] at hp
        rw [ew, List.length_append]
        rcases List.mem_append.mp hp with q | q
        · exact Nat.lt_succ_of_lt (g.mkk p q)
        · have e5 : p = (o, st.words.length) := by simpa using q
          rw [e5]
          exact Nat.lt_succ_of_lt okt.lt
      · rw [ee] at hp
        obtain ⟨a, b⟩ := g.ek p hp
        refine ⟨by rw [ew, List.length_append]; exact Nat.lt_succ_of_lt a, ?_⟩
        rw [es, List.map_append]
        rw [e, List.map_append] at b
        exact b
      · show (st.take w).stack.map (·.2) = _
        rw [es, List.map_append, e3.1] <;> rfl
    · by_cases he : w = "end"
      · subst he
        obtain ⟨k, x, e1, e2, rfl⟩ := stp_end_inv h
        rcases last_cases st.stack with e | ⟨ks, ⟨o, y⟩, e⟩
        · unfold RS.modes at e1
          rw [e] at e1
          exact absurd (congrArg List.length e1) (by simp)
        have e3 : m = ks.map (·.2) ∧ x = y := by
          unfold RS.modes at e1
          rw [e, List.map_append] at e1
          have := List.append_inj' e1 rfl
          exact ⟨this.1.symm, (List.cons.inj this.2).1.symm⟩
        have tp := top_of e
        have es : (st.take "end").stack = ks := by
          have q : (st.take "end").stack = st.stack.dropLast := by
            unfold RS.take
            dsimp only
            rw [if_neg ho, if_neg hm, if_pos rfl]
          rw [q, e]
          simp
        have em : (st.take "end").mids = st.mids := take_mids_no hm
        have ee : (st.take "end").ends = st.ends ++ [(o, st.words.length)] := by
          unfold RS.take
          dsimp only
          rw [if_pos rfl, tp] <;> rfl
        have ew : (st.take "end").words = st.words ++ [("end" : Str)] := rfl
        have okt := g.ok (o, y) (by rw [e]; simp)
        have nd : (ks.map (·.1) ++ [o]).Nodup := by
          have := g.nd
          rw [e, List.map_append] at this
          exact this
        refine ⟨⟨fun p hp => ?_, ?_, fun p hp => ?_, fun p hp => ?_⟩, ?_⟩
        · rw [es] at hp
          rw [em, ew]
          exact (g.ok p (by rw [e]; exact List.mem_append_left _ hp)).words
        · rw [es]
          exact (List.nodup_append.mp nd).1
        · rw [em] at hp
          rw [ew, List.length_append]
          exact Nat.lt_succ_of_lt (g.mkk p hp)
        · rw [ee] at hp
          rw [ew, List.length_append, es]
          rcases List.mem_append.mp hp with q | q
          · obtain ⟨a, b⟩ := g.ek p q
            rw [e, List.map_append] at b
            exact ⟨Nat.lt_succ_of_lt a, fun z => b (List.mem_append_left _ z)⟩
          · have e5 : p = (o, st.words.length) := by simpa using q
            rw [e5]
            refine ⟨Nat.lt_succ_of_lt okt.lt, fun z => ?_⟩
            exact (List.nodup_append.mp nd).2.2 o z o (by simp) rfl
        · show (st.take "end").stack.map (·.2) = _
          rw [es, e3.1]
      · obtain ⟨rfl, _, _⟩ := stp_rest_inv hm ho he h
        have es : (st.take w).stack = st.stack := by
          exact (if_neg ho).trans ((if_neg hm).trans (if_neg he))
        have em : (st.take w).mids = st.mids := if_neg hm
        have ee : (st.take w).ends = st.ends := if_neg he
        have ew : (st.take w).words = st.words ++ [w] := rfl
        refine ⟨⟨fun p hp => ?_, ?_, fun p hp => ?_, fun p hp => ?_⟩, ?_⟩
        · rw [es] at hp
          rw [em, ew]
          exact (g.ok p hp).words
        · rw [es]
          exact g.nd
        · rw [em] at hp
          rw [ew, List.length_append]
          exact Nat.lt_succ_of_lt (g.mkk p hp)
        · rw [ee] at hp
          obtain ⟨a, b⟩ := g.ek p hp
          rw [ew, List.length_append, es]
          exact ⟨Nat.lt_succ_of_lt a, b⟩
        · show (st.take w).stack.map (·.2) = _
          rw [es] <;> rfl
def rdAll (st : RS) (ws : List Str) : RS := ws.foldl RS.take st
theorem rdAll_good {mx : Nat} : ∀ {ws : List Str} {st : RS} {m : List Str}, Good st → runM mx st.modes ws = some m → Good (rdAll st ws) ∧ (rdAll st ws).modes = m
  | [], st, m, g, h => ⟨g, Option.some.inj h⟩
  | w :: r, st, m, g, h => by
    have h' : (match stp st.modes w with
      | none => none
      | some m => if m.length ≤ mx then runM mx m r else none) = some m := h
    cases e : stp st.modes w with
    | none => rw [e] at h'; cases h'
    | some k =>
      rw [e] at h'
      have h2 : (if k.length ≤ mx then runM mx k r else none) = some m := h'
      split at h2
      · obtain ⟨g2, e2⟩ := take_good g e
        exact rdAll_good (ws := r) (st := st.take w) g2 (by rw [e2]; exact h2)
      · cases h2
theorem rdAll_words : ∀ (ws : List Str) (st : RS), (rdAll st ws).words = st.words ++ ws
  | [], st => by simp [rdAll]
  | w :: r, st => by
    show (rdAll (st.take w) r).words = _
    rw [rdAll_words r (st.take w)]
    show (st.words ++ [w]) ++ r = _
    simp
theorem rdAll_openers : ∀ (ws : List Str) (st : RS), (rdAll st ws).openers.length = st.openers.length + ws.length
  | [], st => by simp [rdAll]
  | w :: r, st => by
    show (rdAll (st.take w) r).openers.length = _
    rw [rdAll_openers r (st.take w)]
    show (st.openers ++ [st.top]).length + r.length = _
    simp
    omega

/-! ### a Reader in the heap -/
@[elab_as_elim] theorem put_at {H : Hp} {a : Addr} {o : HO} {R : Hp → Prop} (h : ∀ H', Off a H H' → (∀ b, H' b = none → H b = none) → H' a = some o → R H') : R (upd H a o) := by
  refine h _ (fun b u n e => by rw [upd_ne n]; exact e) (fun b e => ?_) upd_same
  by_cases q : b = a
  · subst q
    rw [upd_same] at e
    cases e
  · rw [upd_ne q] at e
    exact e
def kN (l : List (Nat × Nat)) : List (Key × V) := l.map fun p => (Sum.inl (p.1 : Int), V.int (p.2 : Int))
theorem valV_kN (k : Nat) : ∀ l : List (Nat × Nat), valV (kN l) (Sum.inl (k : Int)) = (l.lookup k).map (fun (v : Nat) => V.int (v : Int))
  | [] => rfl
  | (x, y) :: r => by
    by_cases h : k = x
    · subst h
      have e : ((k, y) :: r : List (Nat × Nat)).lookup k = some y := by rw [List.lookup_cons, beq_self_eq_true]
      rw [e]
      exact valV_pos rfl
    · have e : ((x, y) :: r : List (Nat × Nat)).lookup k = r.lookup k := by rw [List.lookup_cons, beq_eq_false_iff_ne.mpr h]
      rw [e, ← valV_kN k r]
      exact valV_neg (fun q => h (Int.ofNat.inj (Sum.inl.inj q)).symm)
theorem putK_kN {l : List (Nat × Nat)} {k v : Nat} (h : l.lookup k = none) : putK (kN l) (Sum.inl (k : Int)) (V.int (v : Int)) = kN (l ++ [(k, v)]) := by
  rw [putK_new _ (by rw [valV_kN, h] <;> rfl)]
  unfold kN
  rw [List.map_append] <;> rfl
def oV : Option Nat → V
  | some n => .int (n : Int)
  | none => .non
structure RA where
  r : Addr
  dx : Addr
  w : Addr
  s : Addr
  o : Addr
  m : Addr
  e : Addr
abbrev rdFs (a : RA) : List (Str × V) := [("words", .ref a.w), ("stack", .ref a.s), ("openers", .ref a.o), ("middles", .ref a.m), ("ends", .ref a.e)]
abbrev nV (l : List Nat) : List V := l.map fun (n : Nat) => V.int (n : Int)
structure RdAt (C : Addr) (H : Hp) (a : RA) (st : RS) : Prop where
  ins : H a.r = some (.ins C a.dx (rdFs a))
  hw : H a.w = some (.lst (sV st.words))
  hs : H a.s = some (.lst (nV (st.stack.map (·.1))))
  ho : H a.o = some (.lst (st.openers.map oV))
  hm : H a.m = some (.dK (kN st.mids))
  he : H a.e = some (.dK (kN st.ends))
  ws : a.w ≠ a.s
  wo : a.w ≠ a.o
  so : a.s ≠ a.o
  me : a.m ≠ a.e
theorem RdAt.same {C : Addr} {H H' : Hp} {a : RA} {st : RS} (h : RdAt C H a st) (e : Same H H') : RdAt C H' a st :=
  ⟨e _ _ h.ins, e _ _ h.hw, e _ _ h.hs, e _ _ h.ho, e _ _ h.hm, e _ _ h.he, h.ws, h.wo, h.so, h.me⟩
theorem at_word {l : List Str} {o : Nat} {w : Str} (h : l[o]? = some w) : atI (sV l) (o : Int) = some (V.str w) := atI_nat (by rw [List.getElem?_map, h] <;> rfl)
theorem dec_str2 (a b : Str) : decide (V.str a = V.str b) = decide (a = b) := decide_eq_decide.mpr ⟨fun q => V.str.inj q, fun q => congrArg V.str q⟩
theorem RS.top_some {st : RS} {k : List (Nat × Str)} {x : Nat × Str} (e : st.stack = k ++ [x]) : st.top = some x.1 := by
  unfold RS.top
  rw [e]
  simp
theorem stack_last {st : RS} {k : List (Nat × Str)} {x : Nat × Str} (e : st.stack = k ++ [x]) : atI (nV (st.stack.map (·.1))) (-1) = some (V.int (x.1 : Int)) := by
  have e2 : nV (st.stack.map (·.1)) = nV (k.map (·.1)) ++ [V.int (x.1 : Int)] := by
    rw [e]
    simp
  rw [e2]
  exact atI_last _ _
abbrev rdr (K : PySem.W.Frag) : Addr := He.ga K ("Reader" : Str)
/-- a method of the Reader that reads: how it answers -/
def spRd (K : PySem.W.Frag) (pre : RS → List V → Prop) (res : RS → List V → V) : Sp := fun vs H Q _ => ∃ (a : RA) (st : RS) (xs : List V), vs = .ref a.r :: xs ∧ RdAt (rdr K) H a st ∧ Good st ∧ pre st xs ∧ ∀ H', Same H H' → Q (res st xs) H'
section
variable {P : Program} {w : World} {K : PySem.W.Frag} {mg : Str → Option Value} {base : Heap}
theorem c_Readeru_initu (T : Tx K mg) : Mkr P w K mg base 1 "Reader" (rdr K) (fun vs H Q _ => ∃ (r dx : Addr), vs = [.ref r] ∧ H r = some (.ins (rdr K) dx []) ∧
    ∀ (a : RA) (H' : Hp), a.r = r → (∀ b o, b ≠ r → H b = some o → H' b = some o) → (∀ b, b ≠ r → H' b = none → H b = none) → RdAt (rdr K) H' a RS.none0 → (∀ b ∈ [a.w, a.s, a.o, a.m, a.e], H b = none) → Q .non H') := by
  refine mkD T.f_Readeru_initu T.g_Reader T.m_Readeru_initu sc_Readeru_initu (fun _ _ _ _ _ _ us hl => match us, hl with | [_], _ => rfl) (fun vs H Q E h => ?_) (fun cdv A outer s H vs Q E hr h => ?_)
  · obtain ⟨r, dx, rfl, _⟩ := h
    rfl
  · obtain ⟨r, dx, rfl, hi, q⟩ := h
    refine ⟨_, (pss_cons (ps_fld (pv 0) (pe_lst pa_nil) rfl)
      (pss_cons (ps_fld (pv 0) (pe_lst pa_nil) rfl)
      (pss_cons (ps_fld (pv 0) (pe_lst pa_nil) rfl)
      (pss_cons (ps_fld (pv 0) pe_dnewK rfl)
      (pss_one (ps_fld (pv 0) pe_dnewK rfl)))))), ?_⟩
    refine ⟨by show 0 ≤ sizeLine; decide, fun p1 n1 => new_at n1 fun H1 s1 h1 => ⟨_, rfl, r, _, dx, _, rfl, s1 _ _ hi, T.c_Reader, T.n_Reader_words, by show 0 < 1000; decide, put_at fun G1 f1 b1 i1 => ?_⟩⟩
    refine ⟨by show 0 ≤ sizeLine; decide, fun p2 n2 => new_at n2 fun H2 s2 h2 => ⟨_, rfl, r, _, dx, _, rfl, s2 _ _ i1, T.c_Reader, T.n_Reader_stack, by show 1 < 1000; decide, put_at fun G2 f2 b2 i2 => ?_⟩⟩
    refine ⟨by show 0 ≤ sizeLine; decide, fun p3 n3 => new_at n3 fun H3 s3 h3 => ⟨_, rfl, r, _, dx, _, rfl, s3 _ _ i2, T.c_Reader, T.n_Reader_openers, by show 2 < 1000; decide, put_at fun G3 f3 b3 i3 => ?_⟩⟩
    refine fun p4 n4 => new_at n4 fun H4 s4 h4 => ⟨_, rfl, r, _, dx, _, rfl, s4 _ _ i3, T.c_Reader, T.n_Reader_middles, by show 3 < 1000; decide, put_at fun G4 f4 b4 i4 => ?_⟩
    refine fun p5 n5 => new_at n5 fun H5 s5 h5 => ⟨_, rfl, r, _, dx, _, rfl, s5 _ _ i4, T.c_Reader, T.n_Reader_ends, by show 4 < 1000; decide, put_at fun G5 f5 b5 i5 => ?_⟩
    have r1 := none_ne hi n1
    have r2 := none_ne i1 n2
    have r3 := none_ne i2 n3
    have r4 := none_ne i3 n4
    have r5 := none_ne i4 n5
    have k5 : ∀ b o, b ≠ r → G4 b = some o → G5 b = some o := fun b o n e => f5 b o n (s5 _ _ e)
    have k4 : ∀ b o, b ≠ r → G3 b = some o → G5 b = some o := fun b o n e => k5 b o n (f4 b o n (s4 _ _ e))
    have k3 : ∀ b o, b ≠ r → G2 b = some o → G5 b = some o := fun b o n e => k4 b o n (f3 b o n (s3 _ _ e))
    have k2 : ∀ b o, b ≠ r → G1 b = some o → G5 b = some o := fun b o n e => k3 b o n (f2 b o n (s2 _ _ e))
    have k1 : ∀ b o, b ≠ r → H b = some o → G5 b = some o := fun b o n e => k2 b o n (f1 b o n (s1 _ _ e))
    have a1 := k2 p1 _ r1 (f1 _ _ r1 h1)
    have a2 := k3 p2 _ r2 (f2 _ _ r2 h2)
    have a3 := k4 p3 _ r3 (f3 _ _ r3 h3)
    have a4 := k5 p4 _ r4 (f4 _ _ r4 h4)
    have a5 := f5 p5 _ r5 h5
    have m1 : ∀ b, G1 b = none → H b = none := fun b e => s1.free (b1 b e)
    have m2 : ∀ b, G2 b = none → G1 b = none := fun b e => s2.free (b2 b e)
    have m3 : ∀ b, G3 b = none → G2 b = none := fun b e => s3.free (b3 b e)
    have m4 : ∀ b, G4 b = none → G3 b = none := fun b e => s4.free (b4 b e)
    refine q ⟨r, dx, p1, p2, p3, p4, p5⟩ G5 rfl k1 (fun b n e => s1.free (b1 b (s2.free (b2 b (s3.free (b3 b (s4.free (b4 b (s5.free (b5 b e)))))))))) ⟨i5, a1, a2, a3, a4, a5, ?_, ?_, ?_, ?_⟩ (fun b hb => ?_)
    · exact ne_of_none (f1 _ _ r1 h1) n2
    · exact ne_of_none (f2 _ _ r1 (s2 _ _ (f1 _ _ r1 h1))) n3
    · exact ne_of_none (f2 _ _ r2 h2) n3
    · exact ne_of_none (f4 _ _ r4 h4) n5
    · simp only [List.mem_cons, List.not_mem_nil, or_false] at hb
      rcases hb with e | e | e | e | e <;> subst e
      · exact n1
      · exact m1 _ n2
      · exact m1 _ (m2 _ n3)
      · exact m1 _ (m2 _ (m3 _ n4))
      · exact m1 _ (m2 _ (m3 _ (m4 _ n5)))
end

theorem sec_eq {ws : List Str} {ms : List (Nat × Nat)} {o : Nat} {m : Str} (h : OkB ws ms o m) : (decide (baseW m = "try") && (ms.lookup o).isSome) = decide (m = "finally" ∨ m = "rescue") := by
  by_cases hm : m ∈ midWords
  · obtain ⟨r, e, _⟩ := h.inn hm
    rw [e]
    have : ∀ m ∈ midWords, (decide (baseW m = "try") && (some r).isSome) = decide (m = "finally" ∨ m = "rescue") := by
      have q : ∀ m ∈ midWords, decide (baseW m = "try") = decide (m = "finally" ∨ m = "rescue") := by decide +kernel
      intro m hm
      rw [q m hm]
      exact Bool.and_true _
    exact this m hm
  · rw [h.out hm]
    have e : ¬ (m = "finally" ∨ m = "rescue") := by
      rintro (e | e) <;> subst e <;> exact hm (by decide +kernel)
    rw [decide_eq_false e]
    exact Bool.and_false _
theorem base_each {ws : List Str} {ms : List (Nat × Nat)} {o : Nat} {m : Str} (h : OkB ws ms o m) {x : Str} (hx : x = "each" ∨ x = "retry") : decide (baseW m = x) = decide (m = x) := by
  have q : ∀ m ∈ openWords, decide (baseW m = "each") = decide (m = "each") ∧ decide (baseW m = "retry") = decide (m = "retry") := by decide +kernel
  have q2 : ∀ m ∈ midWords, decide (baseW m = "each") = decide (m = "each") ∧ decide (baseW m = "retry") = decide (m = "retry") := by decide +kernel
  rcases h.kind with k | k
  · rcases hx with e | e <;> subst e
    · exact (q m k).1
    · exact (q m k).2
  · rcases hx with e | e <;> subst e
    · exact (q2 m k).1
    · exact (q2 m k).2
theorem rd_words (a : RA) : (rdFs a).lookup ("words" : Str) = some (.ref a.w) := rfl
theorem rd_stack (a : RA) : (rdFs a).lookup ("stack" : Str) = some (.ref a.s) := rfl
theorem rd_openers (a : RA) : (rdFs a).lookup ("openers" : Str) = some (.ref a.o) := rfl
theorem rd_middles (a : RA) : (rdFs a).lookup ("middles" : Str) = some (.ref a.m) := rfl
theorem rd_ends (a : RA) : (rdFs a).lookup ("ends" : Str) = some (.ref a.e) := rfl
/-- a question about an open block -/
def spBlk (K : PySem.W.Frag) (res : Str → Bool) : Sp := fun vs H Q _ => ∃ (a : RA) (st : RS) (o : Nat) (m : Str), vs = [.ref a.r, .int o] ∧ RdAt (rdr K) H a st ∧ Good st ∧ (o, m) ∈ st.stack ∧ Q (.bl (res m)) H
def spOpw (K : PySem.W.Frag) : Sp := fun vs H Q _ => ∃ (a : RA) (st : RS) (k : List (Nat × Str)) (x : Nat × Str), vs = [.ref a.r] ∧ RdAt (rdr K) H a st ∧ Good st ∧ st.stack = k ++ [x] ∧ Q (.str (baseW x.2)) H
/-- the place of the open loop -/
def loopV (ms : List Str) : V := if ("each" : Str) ∈ ms then .int ((ms.idxOf ("each" : Str) : Nat) : Int) else .non
theorem stack_get {st : RS} {i : Nat} {x : V} (h : (nV (st.stack.map (·.1)))[i]? = some x) : ∃ o m, x = .int (o : Nat) ∧ st.stack[i]? = some (o, m) ∧ st.modes[i]? = some m := by
  rw [List.getElem?_map, List.getElem?_map] at h
  cases e : st.stack[i]? with
  | none => rw [e] at h; cases h
  | some p =>
    rw [e] at h
    refine ⟨p.1, p.2, (Option.some.inj h).symm, rfl, ?_⟩
    unfold RS.modes
    rw [List.getElem?_map, e] <;> rfl
theorem modes_len (st : RS) : st.modes.length = st.stack.length := by unfold RS.modes; rw [List.length_map]
theorem idx_first {x : Str} : ∀ {l : List Str} {i : Nat}, l[i]? = some x → x ∉ l.take i → l.idxOf x = i
  | y :: r, 0, h, _ => by
    have e : y = x := Option.some.inj h
    subst e
    exact List.idxOf_cons_self
  | y :: r, i + 1, h, hn => by
    have h1 : ¬ y = x := fun e => hn (by rw [e]; simp)
    have ih := idx_first (l := r) (i := i) (by simpa using h) fun z => hn (by simp [z])
    rw [List.idxOf_cons, ih, beq_eq_false_iff_ne.mpr h1]
    rfl
section
variable {P : Program} {w : World} {K : PySem.W.Frag} {mg : Str → Option Value} {base : Heap}
theorem c_Reader_is_second (T : Tx K mg) : Mt P w K mg base 1 (rdr K) "is_second" (spBlk K fun m => decide (m = "finally" ∨ m = "rescue")) := by
  refine mtD T.f_Reader_is_second T.c_Reader T.m_Reader_is_second sc_Reader_is_second (fun _ _ _ _ _ _ us hl => match us, hl with | [_, _], _ => rfl) (fun vs H Q E h => ?_) (fun cdv A outer s H vs Q E hr h => ?_)
  · obtain ⟨a, st, o, m, rfl, _⟩ := h
    rfl
  · obtain ⟨a, st, o, m, rfl, R, g, hm, q⟩ := h
    have k : OkB st.words st.mids o m := g.ok _ hm
    refine ⟨_, (pss_one (ps_ret (pe_and (pe_cmpR op_eq (pe_ix (ix_listK (K := K) rfl) (pe_fldK (K := K) rfl (pv 0) rfl) (pv 1) (fun _ _ => rfl)) pe_str (nomark _)) (pe_one (pe_cmp (pc_din (hu_of hr) (pv 1) (pe_fldK (K := K) rfl (pv 0) rfl))))))), ?_⟩
    refine ⟨_, rfl, a.r, _, a.dx, _, _, rfl, R.ins, T.c_Reader, T.n_Reader_words, rd_words a, _, rfl, a.w, _, _, _, rfl, rfl, SqL.of R.hw, at_word k.base, rfl, _, rfl, ?_⟩
    rw [dec_str2]
    refine ite2 (fun h => ⟨_, rfl, _, rfl, a.r, _, a.dx, _, _, rfl, R.ins, T.c_Reader, T.n_Reader_middles, rd_middles a, a.m, _, rfl, DGet.k (k := Sum.inl (o : Int)) R.hm, ?_⟩) (fun h => ?_)
    · rw [valV_kN, Option.isSome_map]
      have z := sec_eq k
      rw [h, Bool.true_and] at z
      exact bl_eq z q
    · have z := sec_eq k
      rw [Bool.eq_false_iff.mpr h, Bool.false_and] at z
      exact bl_eq z q
theorem c_Reader_is_rescue (T : Tx K mg) : Mt P w K mg base 2 (rdr K) "is_rescue" (spBlk K fun m => decide (m = "rescue")) := by
  have c_Reader_is_second := c_Reader_is_second (P := P) (w := w) (base := base) T
  refine mtD T.f_Reader_is_rescue T.c_Reader T.m_Reader_is_rescue sc_Reader_is_rescue (fun _ _ _ _ _ _ us hl => match us, hl with | [_, _], _ => rfl) (fun vs H Q E h => ?_) (fun cdv A outer s H vs Q E hr h => ?_)
  · obtain ⟨a, st, o, m, rfl, _⟩ := h
    rfl
  · obtain ⟨a, st, o, m, rfl, R, g, hm, q⟩ := h
    have k : OkB st.words st.mids o m := g.ok _ hm
    refine ⟨_, (pss_one (ps_ret (pe_and (pe_m c_Reader_is_second hr (by first | decide | omega) (pv 0) (pa_cons (pv 1) pa_nil)) (pe_one (pe_cmpR op_eq (pe_ix (ix_listK (K := K) rfl) (pe_fldK (K := K) rfl (pv 0) rfl) (pe_dget (hu_of hr) (pe_fldK (K := K) rfl (pv 0) rfl) (pv 1) (fun _ _ => rfl)) (fun _ _ => rfl)) pe_str (nomark _)))))), ?_⟩
    refine ⟨_, rfl, a.r, a.dx, _, rfl, R.ins, rfl, _, rfl, a, st, o, m, rfl, R, g, hm, _, rfl, ?_⟩
    refine ite2 (fun h => ?_) (fun h => ?_)
    · have h2 := of_decide_eq_true h
      have hmid : m ∈ midWords := by rcases h2 with e | e <;> subst e <;> decide +kernel
      obtain ⟨r, e1, e2⟩ := k.inn hmid
      refine ⟨_, rfl, a.r, _, a.dx, _, _, rfl, R.ins, T.c_Reader, T.n_Reader_words, rd_words a, _, rfl, a.r, _, a.dx, _, _, rfl, R.ins, T.c_Reader, T.n_Reader_middles, rd_middles a, _, rfl, a.m, V.int (r : Int), rfl, ?_, a.w, _, _, _, rfl, rfl, SqL.of R.hw, at_word e2, rfl, ?_⟩
      · have d := DGet.k (k := Sum.inl (o : Int)) R.hm
        rw [valV_kN, e1] at d
        exact d
      · rw [dec_str2]
        exact q
    · have h2 : ¬ (m = "finally" ∨ m = "rescue") := fun z => h (decide_eq_true z)
      refine bl_eq ?_ q
      exact (decide_eq_false fun z => h2 (.inr z)).symm
theorem c_Reader_opener_word (T : Tx K mg) : Mt P w K mg base 1 (rdr K) "opener_word" (spOpw K) := by
  refine mtD T.f_Reader_opener_word T.c_Reader T.m_Reader_opener_word sc_Reader_opener_word (fun _ _ _ _ _ _ us hl => match us, hl with | [_], _ => rfl) (fun vs H Q E h => ?_) (fun cdv A outer s H vs Q E hr h => ?_)
  · obtain ⟨a, st, k, x, rfl, _⟩ := h
    rfl
  · obtain ⟨a, st, k, x, rfl, R, g, e, q⟩ := h
    refine ⟨_, (pss_one (ps_ret (pe_ifExp (pt_truthK (K := K) rfl (pe_fldK (K := K) rfl (pv 0) rfl) (by intro _; rfl)) (pe_ix (ix_listK (K := K) rfl) (pe_fldK (K := K) rfl (pv 0) rfl) (pe_ix (ix_listK (K := K) rfl) (pe_fldK (K := K) rfl (pv 0) rfl) (pe_un un_neg pe_int) (fun _ _ => rfl)) (fun _ _ => rfl)) pe_non))), ?_⟩
    refine ⟨_, rfl, a.r, _, a.dx, _, _, rfl, R.ins, T.c_Reader, T.n_Reader_stack, rd_stack a, true, .inl ⟨_, SqL.of R.hs, by rw [e]; simp⟩, ?_⟩
    exact ⟨_, rfl, a.r, _, a.dx, _, _, rfl, R.ins, T.c_Reader, T.n_Reader_words, rd_words a, _, rfl, a.r, _, a.dx, _, _, rfl, R.ins, T.c_Reader, T.n_Reader_stack, rd_stack a, _, rfl, a.s, _, _, _, rfl, rfl, SqL.of R.hs, stack_last e, a.w, _, _, _, rfl, rfl, SqL.of R.hw, at_word (g.ok x (by rw [e]; simp)).base, q⟩
theorem c_Reader_loop_place (T : Tx K mg) : Mt P w K mg base 1 (rdr K) "loop_place" (fun vs H Q _ => ∃ (a : RA) (st : RS), vs = [.ref a.r] ∧ RdAt (rdr K) H a st ∧ Good st ∧ ∀ H', Same H H' → Q (loopV st.modes) H') := by
  refine mtD T.f_Reader_loop_place T.c_Reader T.m_Reader_loop_place sc_Reader_loop_place (fun _ _ _ _ _ _ us hl => match us, hl with | [_], _ => rfl) (fun vs H Q E h => ?_) (fun cdv A outer s H vs Q E hr h => ?_)
  · obtain ⟨a, st, rfl, _⟩ := h
    rfl
  · obtain ⟨a, st, rfl, R, g, q⟩ := h
    refine ⟨_, (pss_cons (ps_for PassesOwn.never rfl (pi_enum rfl T.b_enumerate (pa_cons (pe_fldK (K := K) rfl (pv 0) rfl) pa_nil)) (pg_tup rfl (pgs_cons (pg_name (i := 1) sc_Reader_loop_place.nd rfl (by first | exact Or.inl rfl | exact Or.inr rfl)) (pgs_cons (pg_name (i := 2) sc_Reader_loop_place.nd rfl (by first | exact Or.inl rfl | exact Or.inr rfl)) pgs_nil))) (pss_one (ps_if (pt_cmpR op_eq (pe_ix (ix_listK (K := K) rfl) (pe_fldK (K := K) rfl (pv 0) rfl) (pv 2) (fun _ _ => rfl)) pe_str (nomark _)) (pss_one (ps_ret (pv 1))) pss_nil)))
      (pss_one (ps_ret pe_non))), ?_⟩
    refine ⟨_, rfl, a.r, _, a.dx, _, _, rfl, R.ins, T.c_Reader, T.n_Reader_stack, rd_stack a, a.s, _, rfl, SqL.of R.hs, ?_⟩
    refine for_it (walk_enum (K := K) (a := a.s) (xs := nV (st.stack.map (·.1)))) (fun i σ H' => Same H H' ∧ (∃ x y, σ = [some (.ref a.r), x, y]) ∧ ("each" : Str) ∉ st.modes.take i) ⟨Same.refl H, ⟨_, _, rfl⟩, by simp⟩ (fun i σ H' _ h => SqL.of (h.1 _ _ R.hs)) (fun i x σ H1 H2 hi h y => ?_) (fun σ H1 h => ?_)
    · obtain ⟨s1, ⟨x1, y1, rfl⟩, hn⟩ := h
      obtain ⟨T', x, y', rfl, nT, rfl, ex, ey⟩ := y
      have ex : x = .int (i : Nat) := (Option.some.inj ex).symm
      subst ex
      obtain ⟨o, m, rfl, es, em⟩ := stack_get ey
      have k : OkB st.words st.mids o m := g.ok _ (List.mem_of_getElem? es)
      refine new_at nT fun H3 s3 h3 => ?_
      have R3 := R.same (s1.trans s3)
      refine ⟨T', _, rfl, SqT.of h3, rfl, _, _, rfl, _, _, rfl, rfl, ?_⟩
      refine ⟨_, rfl, a.r, _, a.dx, _, _, rfl, R3.ins, T.c_Reader, T.n_Reader_words, rd_words a, _, rfl, a.w, _, _, _, rfl, rfl, SqL.of R3.hw, at_word k.base, rfl, _, rfl, ?_⟩
      rw [dec_str2, base_each k (.inl rfl)]
      refine ite2 (fun h => ?_) (fun h => ?_)
      · have hm := of_decide_eq_true h
        subst hm
        have e1 : st.modes.idxOf ("each" : Str) = i := by
          exact idx_first em hn
        have e2 : loopV st.modes = .int (i : Nat) := by
          unfold loopV
          rw [if_pos (List.mem_of_getElem? em), e1]
        have z := q H3 (s1.trans s3)
        rw [e2] at z
        exact ⟨_, rfl, z⟩
      · refine ⟨s1.trans s3, ⟨_, _, rfl⟩, ?_⟩
        rw [List.take_succ, em]
        intro z
        rcases List.mem_append.mp z with z | z
        · exact hn z
        · have e : ("each" : Str) = m := by simpa using z
          exact h (decide_eq_true e.symm)
    · obtain ⟨s1, _, hn⟩ := h
      have e : (nV (st.stack.map (·.1))).length = st.modes.length := by rw [List.length_map, List.length_map, modes_len]
      rw [e, List.take_length] at hn
      have e2 : loopV st.modes = .non := by
        unfold loopV
        rw [if_neg hn]
      have z := q H1 s1
      rw [e2] at z
      exact z
end

theorem scan_map {w : Str} : ∀ (l : List Str) (m : Str), scanR w (m :: l) = if m = "rescue" then true else if m = "retry" ∧ w = "close" then false else scanR w l := fun _ _ => rfl
abbrev mayK (ms : List Str) (w : Str) : Prop := ms.length < 5 ∧ (w = "each" → ("each" : Str) ∉ ms) ∧ (w = "retry" → ms.count ("retry" : Str) < 2)
theorem count_filter (x : Str) : ∀ l : List Str, (l.filter fun y => decide (y = x)).length = l.count x
  | [] => rfl
  | y :: r => by
    rw [List.filter_cons, List.count_cons, ← count_filter x r]
    by_cases h : y = x
    · subst h
      simp
    · simp [h]
section
variable {P : Program} {w : World} {K : PySem.W.Frag} {mg : Str → Option Value} {base : Heap}
theorem c_Reader_may_reset (T : Tx K mg) : Mt P w K mg base 3 (rdr K) "may_reset" (fun vs H Q _ => ∃ (a : RA) (st : RS) (z : Str), vs = [.ref a.r, .str z] ∧ RdAt (rdr K) H a st ∧ Good st ∧ st.stack.length ≤ 100 ∧ ∀ H', Same H H' → Q (.bl (mayRs st.modes z)) H') := by
  have c_Reader_loop_place := c_Reader_loop_place (P := P) (w := w) (base := base) T
  have c_Reader_is_rescue := c_Reader_is_rescue (P := P) (w := w) (base := base) T
  refine mtD T.f_Reader_may_reset T.c_Reader T.m_Reader_may_reset sc_Reader_may_reset (fun _ _ _ _ _ _ us hl => match us, hl with | [_, _], _ => rfl) (fun vs H Q E h => ?_) (fun cdv A outer s H vs Q E hr h => ?_)
  · obtain ⟨a, st, z, rfl, _⟩ := h
    rfl
  · obtain ⟨a, st, z, rfl, R, g, hz, q⟩ := h
    refine ⟨_, (pss_cons (ps_set (i := 2) sc_Reader_may_reset.nd rfl (by first | exact Or.inl rfl | exact Or.inr rfl) (pe_m0 c_Reader_loop_place hr (by first | decide | omega) (pv 0)))
      (pss_cons (ps_if (pt_cmpR op_isN (pv 2) pe_non (nomark _)) (pss_one (ps_ret pe_bl)) pss_nil)
      (pss_cons (ps_for PassesOwn.never rfl (pi_list (pe_slice (sl_listK (K := K) rfl) (pe_fldK (K := K) rfl (pv 0) rfl) (po_some (pe_op op_add (pv 2) pe_int)) po_none)) (pg_name (i := 3) sc_Reader_may_reset.nd rfl (by first | exact Or.inl rfl | exact Or.inr rfl)) (pss_cons (ps_if (PW.pt (pw_and (pt_cmpR op_eq (pv 1) pe_str (nomark _)) (pw_and1 (pt_cmpR op_eq (pe_ix (ix_listK (K := K) rfl) (pe_fldK (K := K) rfl (pv 0) rfl) (pv 3) (fun _ _ => rfl)) pe_str (nomark _))))) (pss_one (ps_ret pe_bl)) pss_nil)
          (pss_one (ps_if (pt_val (pe_m c_Reader_is_rescue hr (by first | decide | omega) (pv 0) (pa_cons (pv 3) pa_nil))) (pss_one (ps_ret pe_bl)) pss_nil))))
      (pss_one (ps_ret pe_bl))))), ?_⟩
    refine ⟨_, rfl, a.r, a.dx, _, rfl, R.ins, rfl, a, st, rfl, R, g, fun H1 s1 => ?_⟩
    have R1 := R.same s1
    by_cases he : ("each" : Str) ∈ st.modes
    · have e1 : loopV st.modes = .int ((st.modes.idxOf ("each" : Str) : Nat) : Int) := if_pos he
      have eR : mayRs st.modes z = scanR z (st.modes.drop (st.modes.idxOf ("each" : Str) + 1)) := by
        unfold mayRs
        rw [if_pos he]
        have hj := List.idxOf_lt_length_iff.mpr he
        have ez : st.modes[st.modes.idxOf ("each" : Str)]? = some "each" := by
          rw [List.getElem?_eq_getElem hj]
          exact congrArg some (List.getElem_idxOf hj)
        rw [drop_get ez, scan_map, if_neg (by decide +kernel), if_neg fun q => absurd q.1 (by decide +kernel)]
      rw [e1]
      have hj := List.idxOf_lt_length_iff.mpr he
      generalize st.modes.idxOf ("each" : Str) = j at eR hj
      refine ⟨_, rfl, rfl, _, rfl, iteF ?_⟩
      refine ⟨_, rfl, a.r, _, a.dx, _, _, rfl, R1.ins, T.c_Reader, T.n_Reader_stack, rd_stack a, _, rfl, _, _, rfl, rfl, _, rfl, a.s, _, rfl, SqL.of R1.hs, fun p np => new_at np fun H2 s2 h2 => ?_⟩
      have ec : cutV (nV (st.stack.map (·.1))) (some ((j : Int) + 1)) none = nV ((st.stack.drop (j + 1)).map (·.1)) := by
        unfold cutV
        rw [HT.sIx_none, show ((j : Int) + 1) = ((j + 1 : Nat) : Int) by omega, HT.sIx_nat, List.length_map, List.length_map, Nat.min_eq_left (by rw [modes_len] at hj; omega), ← List.map_drop, ← List.map_drop]
        exact List.take_of_length_le (by simp)
      rw [ec] at h2
      have R2 := R1.same s2
      have em : st.modes.drop (j + 1) = (st.stack.drop (j + 1)).map (·.2) := by
        unfold RS.modes
        rw [List.map_drop]
      rw [em] at eR
      have hsub : ∀ x ∈ st.stack.drop (j + 1), x ∈ st.stack := fun x hx => List.mem_of_mem_drop hx
      generalize st.stack.drop (j + 1) = l at h2 eR hsub
      refine ⟨p, rfl, ⟨_, SqL.of h2⟩, for_list (xs := nV (l.map (·.1))) (fun i σ H' => H' = H2 ∧ (∃ x y, σ = [some (.ref a.r), some (.str z), x, y]) ∧ scanR z ((l.map (·.2)).drop i) = scanR z (l.map (·.2))) ⟨rfl, ⟨_, _, rfl⟩, by rw [List.drop_zero]⟩ (fun i σ H' _ h => by rw [h.1]; exact SqL.of h2) (fun i x σ H' hx h => ?_) (fun σ H' h => ?_)⟩
      · obtain ⟨rfl, ⟨x1, y1, rfl⟩, e⟩ := h
        obtain ⟨o, m, rfl, es, em⟩ : ∃ (o : Nat) (m : Str), x = .int (o : Nat) ∧ l[i]? = some (o, m) ∧ (l.map (·.2))[i]? = some m := by
          rw [List.getElem?_map, List.getElem?_map] at hx
          cases e : l[i]? with
          | none => rw [e] at hx; cases hx
          | some p =>
            rw [e] at hx
            exact ⟨p.1, p.2, (Option.some.inj hx).symm, rfl, by rw [List.getElem?_map, e] <;> rfl⟩
        have ms := hsub _ (List.mem_of_getElem? es)
        have k : OkB st.words st.mids o m := g.ok _ ms
        rw [drop_get em, scan_map] at e
        have second : ∀ (D : Ends) (v : Option V), ¬ (m = "retry" ∧ z = "close") → (m = "rescue" → D.rt (.bl true) H') → (¬ m = "rescue" → D.nx [some (.ref a.r), some (.str z), v, some (.int (o : Nat))] H') →
            tIfS (tB (tMeth (rdr K) "is_rescue" (spBlk K fun m => decide (m = "rescue")) [] E0 (tVar 0) (tCons (tVar 3) tNil))) (tRet (tC (.bl true))) tNext D [some (.ref a.r), some (.str z), v, some (.int (o : Nat))] H' := fun D v _ h1 h2 => by
          refine ⟨_, rfl, a.r, a.dx, _, rfl, R2.ins, rfl, _, rfl, a, st, o, m, rfl, R2, g, ms, _, rfl, ite2 (fun h => h1 (of_decide_eq_true h)) (fun h => h2 fun e => h (decide_eq_true e))⟩
        have goOn : ∀ v, ¬ (m = "retry" ∧ z = "close") → ¬ m = "rescue" → (H' = H' ∧ (∃ x y, [some (V.ref a.r), some (.str z), v, some (.int (o : Nat))] = [some (.ref a.r), some (.str z), x, y]) ∧ scanR z ((l.map (·.2)).drop (i + 1)) = scanR z (l.map (·.2))) := fun v h1 h2 => by
          refine ⟨rfl, ⟨_, _, rfl⟩, ?_⟩
          rw [if_neg h2, if_neg h1] at e
          exact e
        have found : m = "rescue" → Q (.bl true) H' := fun h => by
          refine bl_eq (b := mayRs st.modes z) ?_ (q _ (s1.trans s2))
          rw [if_pos h] at e
          rw [eR]
          exact e
        refine ⟨_, rfl, rfl, _, rfl, ite2 (fun h => ?_) (fun h => ?_)⟩
        · have hz2 := V.str.inj (of_decide_eq_true h)
          refine ⟨_, rfl, a.r, _, a.dx, _, _, rfl, R2.ins, T.c_Reader, T.n_Reader_words, rd_words a, _, rfl, a.w, _, _, _, rfl, rfl, SqL.of R2.hw, at_word k.base, rfl, _, rfl, ?_⟩
          rw [dec_str2, base_each k (.inr rfl)]
          refine ite2 (fun h3 => ?_) (fun h3 => ?_)
          · have hm := of_decide_eq_true h3
            refine bl_eq (b := mayRs st.modes z) ?_ (q _ (s1.trans s2))
            rw [if_neg (by rw [hm]; decide +kernel), if_pos ⟨hm, hz2⟩] at e
            rw [eR]
            exact e
          · have hno : ¬ (m = "retry" ∧ z = "close") := fun q => h3 (decide_eq_true q.1)
            exact second _ _ hno found (goOn _ hno)
        · have hno : ¬ (m = "retry" ∧ z = "close") := fun q => h (decide_eq_true (congrArg V.str q.2))
          exact second _ _ hno found (goOn _ hno)
      · obtain ⟨rfl, _, e⟩ := h
        refine bl_eq (b := mayRs st.modes z) ?_ (q _ (s1.trans s2))
        rw [eR, ← e, List.drop_eq_nil_of_le (by simp)] <;> rfl
    · have e1 : loopV st.modes = .non := if_neg he
      rw [e1]
      refine ⟨_, rfl, rfl, _, rfl, iteT ?_⟩
      refine bl_eq (b := mayRs st.modes z) ?_ (q _ s1)
      unfold mayRs
      rw [if_neg he]
theorem c_Reader_may_middle (T : Tx K mg) : Mt P w K mg base 2 (rdr K) "may_middle" (fun vs H Q _ => ∃ (a : RA) (st : RS) (z : Str) (m : List Str), vs = [.ref a.r, .str z] ∧ RdAt (rdr K) H a st ∧ Good st ∧ z ∈ midWords ∧ stp st.modes z = some m ∧ Q (.bl true) H) := by
  have c_Reader_opener_word := c_Reader_opener_word (P := P) (w := w) (base := base) T
  refine mtD T.f_Reader_may_middle T.c_Reader T.m_Reader_may_middle sc_Reader_may_middle (fun _ _ _ _ _ _ us hl => match us, hl with | [_, _], _ => rfl) (fun vs H Q E h => ?_) (fun cdv A outer s H vs Q E hr h => ?_)
  · obtain ⟨a, st, z, m, rfl, _⟩ := h
    rfl
  · obtain ⟨a, st, z, m, rfl, R, g, hz, hst, q⟩ := h
    obtain ⟨k, x, e1, e2, _⟩ := stp_mid_inv hz hst
    obtain ⟨ks, p, e, ex⟩ : ∃ ks p, st.stack = ks ++ [p] ∧ x = p.2 := by
      rcases last_cases st.stack with e | ⟨ks, p, e⟩
      · unfold RS.modes at e1
        rw [e] at e1
        exact absurd (congrArg List.length e1) (by simp)
      · refine ⟨ks, p, e, ?_⟩
        unfold RS.modes at e1
        rw [e, List.map_append] at e1
        exact (List.cons.inj (List.append_inj' e1 rfl).2).1.symm
    have kk := g.ok p (by rw [e]; simp)
    have hx : ¬ x ∈ midWords ∧ baseW x = x ∧ x = (if z = "else" then ("maybe" : Str) else ("try" : Str)) := by
      refine ⟨?_, ?_, e2⟩
      · rw [e2]
        have : ∀ w ∈ midWords, ¬ (if w = "else" then ("maybe" : Str) else ("try" : Str)) ∈ midWords := by decide +kernel
        exact this z hz
      · rw [e2]
        have : ∀ w ∈ midWords, baseW (if w = "else" then ("maybe" : Str) else ("try" : Str)) = (if w = "else" then ("maybe" : Str) else ("try" : Str)) := by decide +kernel
        exact this z hz
    refine ⟨_, (pss_cons (ps_set (i := 2) sc_Reader_may_middle.nd rfl (by first | exact Or.inl rfl | exact Or.inr rfl) (pe_ifExp (pt_cmpR op_eq (pv 1) pe_str (nomark _)) pe_str pe_str))
      (pss_one (ps_ret (pe_and (pe_cmpR op_eq (pe_m0 c_Reader_opener_word hr (by first | decide | omega) (pv 0)) (pv 2) (nomark _)) (pe_one (pe_cmp (pc_dnotin (hu_of hr) (pe_ix (ix_listK (K := K) rfl) (pe_fldK (K := K) rfl (pv 0) rfl) (pe_un un_neg pe_int) (fun _ _ => rfl)) (pe_fldK (K := K) rfl (pv 0) rfl)))))))), ?_⟩
    have fin : ∀ y : Str, y = x → (tRet (tAndV (tOp rEq (tMeth (rdr K) "opener_word" (spOpw K) [] E0 (tVar 0) tNil) (tVar 2)) (tDNotIn (tOp (rIxL K) (tFld K (tVar 0) "stack") (tUn (rU fun i => .int (-i)) (tC (.int 1)))) (tFld K (tVar 0) "middles")))) { nx := fun _ H' => Q .non H', rt := Q } [some (.ref a.r), some (.str z), some (.str y)] H := fun y hy => by
      refine ⟨_, rfl, a.r, a.dx, _, rfl, R.ins, rfl, a, st, ks, p, rfl, R, g, e, _, rfl, rfl, _, rfl, ?_⟩
      rw [dec_str2, decide_eq_true (by rw [hy, ← ex]; exact hx.2.1)]
      refine iteT ⟨_, rfl, a.r, _, a.dx, _, _, rfl, R.ins, T.c_Reader, T.n_Reader_stack, rd_stack a, _, rfl, a.s, _, _, _, rfl, rfl, SqL.of R.hs, stack_last e, _, rfl, a.r, _, a.dx, _, _, rfl, R.ins, T.c_Reader, T.n_Reader_middles, rd_middles a, a.m, _, rfl, DGet.k (k := Sum.inl (p.1 : Int)) R.hm, ?_⟩
      rw [valV_kN, kk.out (by rw [← ex]; exact hx.1)]
      exact q
    refine ⟨_, rfl, rfl, _, rfl, ite2 (fun h => ?_) (fun h => ?_)⟩
    · refine fin "maybe" ?_
      rw [hx.2.2, if_pos (V.str.inj (of_decide_eq_true h))]
    · refine fin "try" ?_
      rw [hx.2.2, if_neg fun q => h (decide_eq_true (congrArg V.str q))]
end

theorem nat_ge (a b : Nat) : decide ((b : Int) ≤ (a : Int)) = decide (b ≤ a) := decide_eq_decide.mpr (by omega)
def spOpen (K : PySem.W.Frag) : Sp := fun vs H Q _ => ∃ (a : RA) (st : RS) (z : Str), vs = [.ref a.r, .str z] ∧ RdAt (rdr K) H a st ∧ Good st ∧ mayK st.modes z ∧ ∀ H', Same H H' → Q (.bl true) H'
def spFits (K : PySem.W.Frag) : Sp := fun vs H Q _ => ∃ (a : RA) (st : RS) (z : Str) (m : List Str), vs = [.ref a.r, .str z] ∧ RdAt (rdr K) H a st ∧ Good st ∧ st.stack.length ≤ 100 ∧ stp st.modes z = some m ∧ ∀ H', Same H H' → Q (.bl true) H'
theorem tup_strs {K : PySem.W.Frag} {H : Hp} {a : Addr} {l : List String} (h : SqT K H a (l.map fun z => V.str (Str.ofString z))) {ss : List Str} (e : l.map Str.ofString = ss) : SqT K H a (sV ss) := by
  subst e
  unfold sV
  rw [List.map_map]
  exact h
section
variable {P : Program} {w : World} {K : PySem.W.Frag} {mg : Str → Option Value} {base : Heap}
theorem c_Reader_may_open (T : Tx K mg) : Mt P w K mg base 2 (rdr K) "may_open" (spOpen K) := by
  have c_Reader_loop_place := c_Reader_loop_place (P := P) (w := w) (base := base) T
  refine mtD T.f_Reader_may_open T.c_Reader T.m_Reader_may_open sc_Reader_may_open (fun _ _ _ _ _ _ us hl => match us, hl with | [_, _], _ => rfl) (fun vs H Q E h => ?_) (fun cdv A outer s H vs Q E hr h => ?_)
  · obtain ⟨a, st, z, rfl, _⟩ := h
    rfl
  · obtain ⟨a, st, z, rfl, R, g, ⟨h5, he, hrt⟩, q⟩ := h
    obtain ⟨t5, k_MOST_DEEP⟩ := T.k_MOST_DEEP
    refine ⟨_, (pss_cons (ps_if (PW.pt (pw_or (pt_cmpR op_ge (pe_callB (call_len_seqK (K := K) rfl) rfl T.b_len boot_len (pa_cons (pe_fldK (K := K) rfl (pv 0) rfl) pa_nil)) (pe_glob (v := .int 5) rfl k_MOST_DEEP ⟨_, rfl⟩) (nomark _)) (pw_or1 (PW.pt (pw_and (pt_cmpR op_eq (pv 1) pe_str (nomark _)) (pw_and1 (pt_cmpR op_notN (pe_m0 c_Reader_loop_place hr (by first | decide | omega) (pv 0)) pe_non (nomark _)))))))) (pss_one (ps_ret pe_bl)) pss_nil)
      (pss_one (ps_ret (pe_or (pe_cmpR op_ne (pv 1) pe_str (nomark _)) (pe_one (pe_cmpR op_lt (pe_callB (call_len_seqK (K := K) rfl) rfl T.b_len boot_len (pa_cons (pe_lc (own := [("one", 2)]) (g := gName 2) rfl sc_Reader_may_open.nd (pi_list (pe_fldK (K := K) rfl (pv 0) rfl)) (blkOk_by (N := ["self", "word", "one"]) (sc := defScope s_Reader_may_open) (by decide +kernel)) (fun _ _ _ _ _ => (pg_name (i := 2) sc_Reader_may_open.nd rfl (by first | exact Or.inl rfl | exact Or.inr rfl))) (fun _ _ _ _ _ => (pts_one (pt_cmpR op_eq (pe_ix (ix_listK (K := K) rfl) (pe_fldK (K := K) rfl (pv 0) rfl) (pv 2) (fun _ _ => rfl)) pe_str (nomark _)))) (fun _ _ _ _ _ => (pv 2))) pa_nil)) pe_int (nomark _))))))), ?_⟩
    have tail : ∀ (H1 : Hp), Same H H1 → (tRet (tOrV (tOp rNe (tVar 1) (tC (.str "retry"))) (tOp (rI0 fun i j => .bl (decide (i < j))) (tCB (rLenK K) (tCons (tLc (iList K (tFld K (tVar 0) "stack")) (gName 2) (tTest (tOp rEq (tOp (rIxL K) (tFld K (tVar 0) "words") (tVar 2)) (tC (.str "retry")))) (tVar 2) [2]) tNil)) (tC (.int 2)))))
        { nx := fun _ H' => Q .non H', rt := Q } [some (.ref a.r), some (.str z), none] H1 := fun H1 s1 => by
      have R1 := R.same s1
      refine ⟨_, rfl, rfl, _, rfl, ite2 (fun _ => q H1 s1) (fun hz => ?_)⟩
      have hz2 : z = "retry" := by
        apply Classical.byContradiction
        intro c
        refine hz ?_
        rw [dec_str2, decide_eq_false c] <;> rfl
      refine ⟨_, rfl, a.r, _, a.dx, _, _, rfl, R1.ins, T.c_Reader, T.n_Reader_stack, rd_stack a, a.s, rfl, ⟨_, SqL.of R1.hs⟩, fun D nD => ?_⟩
      have hne : ∀ {b : Addr} {o : HO}, H1 b = some o → b ≠ D := fun e => ne_of_none e nD
      refine lc_list (K := K) (a := a.s) (xs := nV (st.stack.map (·.1))) (fun i H' => Off D H1 H' ∧ ∃ acc, H' D = some (.lst acc) ∧ acc.length = ((st.modes.take i).filter fun y => decide (y = ("retry" : Str))).length ∧ acc.length ≤ i)
        ⟨(Off.refl D H1).put, [], upd_same, rfl, Nat.le_refl 0⟩ (fun i H' _ h => SqL.of (h.1 _ _ (hne R1.hs) R1.hs)) (fun i x H' hx h => ?_) (fun H' h => ?_)
      · obtain ⟨f, acc, hD, hl, hli⟩ := h
        obtain ⟨o, m, rfl, es, em⟩ := stack_get hx
        have k : OkB st.words st.mids o m := g.ok _ (List.mem_of_getElem? es)
        have hi : i < 5 := by
          have := (List.getElem?_eq_some_iff.mp em).1
          omega
        refine ⟨rfl, _, rfl, a.r, _, a.dx, _, _, rfl, f _ _ (hne R1.ins) R1.ins, T.c_Reader, T.n_Reader_words, rd_words a, _, rfl, a.w, _, _, _, rfl, rfl, SqL.of (f _ _ (hne R1.hw) R1.hw), at_word k.base, rfl, _, rfl, ?_⟩
        rw [dec_str2, base_each k (.inr rfl)]
        have et : st.modes.take (i + 1) = st.modes.take i ++ [m] := by rw [List.take_succ, em] <;> rfl
        refine ite2 (fun h => ?_) (fun h => ?_)
        · refine ⟨_, rfl, acc, hD, Nat.lt_of_le_of_lt hli (Nat.lt_trans hi (by decide)), f.put, _, upd_same, ?_, by simp; omega⟩
          rw [et, List.filter_append, List.length_append, List.length_append, hl]
          have : ([m].filter fun y => decide (y = ("retry" : Str))).length = 1 := by rw [List.filter_cons, if_pos h] <;> rfl
          rw [this] <;> rfl
        · refine ⟨f, acc, hD, ?_, Nat.le_succ_of_le hli⟩
          rw [et, List.filter_append, List.length_append, hl]
          have : ([m].filter fun y => decide (y = ("retry" : Str))).length = 0 := by rw [List.filter_cons, if_neg h] <;> rfl
          rw [this] <;> rfl
      · obtain ⟨f, acc, hD, hl, hli⟩ := h
        have fr : Same H1 H' := fun b o e => f b o (hne e) e
        have el : (nV (st.stack.map (·.1))).length = st.modes.length := by rw [List.length_map, List.length_map, modes_len]
        rw [el, List.take_length, count_filter] at hl
        refine ⟨D, acc, rfl, .inl (SqL.of hD), _, _, rfl, rfl, ?_⟩
        have hc := hrt hz2
        refine bl_eq (b := true) (decide_eq_true ?_) (q _ (s1.trans fr))
        rw [hl]
        omega
    refine ⟨_, rfl, a.r, _, a.dx, _, _, rfl, R.ins, T.c_Reader, T.n_Reader_stack, rd_stack a, a.s, _, rfl, .inl (SqL.of R.hs), _, _, rfl, rfl, _, rfl, ?_⟩
    have el : (nV (st.stack.map (·.1))).length = st.modes.length := by rw [List.length_map, List.length_map, modes_len]
    rw [el, decide_eq_false (by omega : ¬ (5 : Int) ≤ (st.modes.length : Int))]
    refine iteF ⟨_, rfl, rfl, _, rfl, ite2 (fun h => ?_) (fun h => ?_)⟩
    · have hz2 : z = "each" := V.str.inj (of_decide_eq_true h)
      refine ⟨_, rfl, a.r, a.dx, _, rfl, R.ins, rfl, a, st, rfl, R, g, fun H1 s1 => ?_⟩
      have e1 : loopV st.modes = .non := if_neg (he hz2)
      rw [e1]
      exact ⟨rfl, _, rfl, tail H1 s1⟩
    · exact tail H (Same.refl H)
theorem c_Reader_fits (T : Tx K mg) : Mt P w K mg base 4 (rdr K) "fits" (spFits K) := by
  have c_Reader_is_second := c_Reader_is_second (P := P) (w := w) (base := base) T
  have c_Reader_opener_word := c_Reader_opener_word (P := P) (w := w) (base := base) T
  have c_Reader_may_middle := c_Reader_may_middle (P := P) (w := w) (base := base) T
  have c_Reader_may_open := c_Reader_may_open (P := P) (w := w) (base := base) T
  have c_Reader_may_reset := c_Reader_may_reset (P := P) (w := w) (base := base) T
  refine mtD T.f_Reader_fits T.c_Reader T.m_Reader_fits sc_Reader_fits (fun _ _ _ _ _ _ us hl => match us, hl with | [_, _], _ => rfl) (fun vs H Q E h => ?_) (fun cdv A outer s H vs Q E hr h => ?_)
  · obtain ⟨a, st, z, m, rfl, _⟩ := h
    rfl
  · obtain ⟨a, st, z, m, rfl, R, g, hz, hst, q⟩ := h
    refine ⟨_, (pss_cons (ps_if (pt_cmpR (op_in_seqK (K := K) rfl) (pv 1) (pe_glob (v := .ref (He.ga K ("MIDDLE" : Str))) rfl T.g_MIDDLE rfl) (by rfl)) (pss_one (ps_ret (pe_m c_Reader_may_middle hr (by first | decide | omega) (pv 0) (pa_cons (pv 1) pa_nil)))) pss_nil)
      (pss_cons (ps_if (pt_cmpR (op_in_seqK (K := K) rfl) (pv 1) (pe_glob (v := .ref (He.ga K ("OPENING" : Str))) rfl T.g_OPENING rfl) (by rfl)) (pss_one (ps_ret (pe_m c_Reader_may_open hr (by first | decide | omega) (pv 0) (pa_cons (pv 1) pa_nil)))) pss_nil)
      (pss_cons (ps_if (pt_cmpR op_eq (pv 1) pe_str (nomark _)) (pss_cons (ps_set (i := 2) sc_Reader_fits.nd rfl (by first | exact Or.inl rfl | exact Or.inr rfl) (pe_m0 c_Reader_opener_word hr (by first | decide | omega) (pv 0)))
          (pss_one (ps_ret (pe_and (pe_cmpR op_notN (pv 2) pe_non (nomark _)) (pe_one (pe_or (pe_cmpR op_ne (pv 2) pe_str (nomark _)) (pe_one (pe_cmp (pc_din (hu_of hr) (pe_ix (ix_listK (K := K) rfl) (pe_fldK (K := K) rfl (pv 0) rfl) (pe_un un_neg pe_int) (fun _ _ => rfl)) (pe_fldK (K := K) rfl (pv 0) rfl)))))))))) pss_nil)
      (pss_cons (ps_if (pt_cmpR op_eq (pv 1) pe_str (nomark _)) (pss_one (ps_ret (pe_not (pe_callB (cr_anyK (K := K) rfl rfl) rfl T.b_any boot_any (pa_cons (pe_lc (own := [("opener", 2)]) (g := gName 2) (tt := tYes) rfl sc_Reader_fits.nd (pi_list (pe_fldK (K := K) rfl (pv 0) rfl)) (blkOk_by (N := ["self", "word", "opener"]) (sc := defScope s_Reader_fits) (by decide +kernel)) (fun _ _ _ _ _ => (pg_name (i := 2) sc_Reader_fits.nd rfl (by first | exact Or.inl rfl | exact Or.inr rfl))) (fun _ _ _ _ _ => pts_nil) (fun _ _ _ _ _ => (pe_m c_Reader_is_second hr (by first | decide | omega) (pv 0) (pa_cons (pv 2) pa_nil)))) pa_nil))))) pss_nil)
      (pss_one (ps_ret (pe_or (pe_cmpR (op_notIn_seqK (K := K) rfl) (pv 1) (pe_tup (pa_cons pe_str (pa_cons pe_str pa_nil))) (by rfl)) (pe_one (pe_m c_Reader_may_reset hr (by first | decide | omega) (pv 0) (pa_cons (pv 1) pa_nil)))))))))), ?_⟩
    have tM : SqT K H (He.ga K ("MIDDLE" : Str)) (sV midWords) := tup_strs (T.t_MIDDLE H) rfl
    have tO : SqT K H (He.ga K ("OPENING" : Str)) (sV openWords) := tup_strs (T.t_OPENING H) rfl
    refine ⟨_, rfl, _, _, rfl, .inr tM, rfl, sV_all midWords, _, rfl, ?_⟩
    show if inV (.str z) (sV midWords) = true then _ else _
    rw [inV_sV]
    refine ite2 (fun h => ?_) (fun h => ?_)
    · exact ⟨_, rfl, a.r, a.dx, _, rfl, R.ins, rfl, _, rfl, a, st, z, m, rfl, R, g, of_decide_eq_true h, hst, q H (Same.refl H)⟩
    have hm : ¬ z ∈ midWords := fun c => h (decide_eq_true c)
    refine ⟨_, rfl, _, _, rfl, .inr tO, rfl, sV_all openWords, _, rfl, ?_⟩
    show if inV (.str z) (sV openWords) = true then _ else _
    rw [inV_sV]
    refine ite2 (fun h => ?_) (fun h => ?_)
    · obtain ⟨_, c1, c2, c3⟩ := stp_open_inv (of_decide_eq_true h) hst
      exact ⟨_, rfl, a.r, a.dx, _, rfl, R.ins, rfl, _, rfl, a, st, z, rfl, R, g, ⟨c1, c2, c3⟩, q⟩
    have ho : ¬ z ∈ openWords := fun c => h (decide_eq_true c)
    refine ⟨_, rfl, rfl, _, rfl, ite2 (fun h => ?_) (fun h => ?_)⟩
    · have hz2 : z = "end" := V.str.inj (of_decide_eq_true h)
      subst hz2
      obtain ⟨k, x, e1, e2, _⟩ := stp_end_inv hst
      obtain ⟨ks, p, e, ex⟩ : ∃ ks p, st.stack = ks ++ [p] ∧ x = p.2 := by
        rcases last_cases st.stack with e | ⟨ks, p, e⟩
        · unfold RS.modes at e1
          rw [e] at e1
          exact absurd (congrArg List.length e1) (by simp)
        · refine ⟨ks, p, e, ?_⟩
          unfold RS.modes at e1
          rw [e, List.map_append] at e1
          exact (List.cons.inj (List.append_inj' e1 rfl).2).1.symm
      have kk : OkB st.words st.mids p.1 p.2 := g.ok p (by rw [e]; simp)
      refine ⟨_, rfl, a.r, a.dx, _, rfl, R.ins, rfl, a, st, ks, p, rfl, R, g, e, _, rfl, rfl, _, rfl, iteT ⟨_, rfl, rfl, _, rfl, ite2 (fun _ => q H (Same.refl H)) (fun hb => ?_)⟩⟩
      have hb2 : baseW p.2 = "try" := by
        apply Classical.byContradiction
        intro c
        refine hb ?_
        rw [dec_str2, decide_eq_false c] <;> rfl
      have hpm : p.2 ∈ midWords := by
        apply Classical.byContradiction
        intro c
        rcases kk.kind with k | k
        · have := base_open k
          rw [this] at hb2
          exact e2 (ex.trans hb2)
        · exact c k
      obtain ⟨r, e3, _⟩ := kk.inn hpm
      refine ⟨_, rfl, a.r, _, a.dx, _, _, rfl, R.ins, T.c_Reader, T.n_Reader_stack, rd_stack a, _, rfl, a.s, _, _, _, rfl, rfl, SqL.of R.hs, stack_last e, _, rfl, a.r, _, a.dx, _, _, rfl, R.ins, T.c_Reader, T.n_Reader_middles, rd_middles a, a.m, _, rfl, DGet.k (k := Sum.inl (p.1 : Int)) R.hm, ?_⟩
      rw [valV_kN, e3]
      exact q H (Same.refl H)
    have he : ¬ z = "end" := fun c => h (decide_eq_true (congrArg V.str c))
    obtain ⟨_, c1, c2⟩ := stp_rest_inv hm ho he hst
    refine ⟨_, rfl, rfl, _, rfl, ite2 (fun h => ?_) (fun h => ?_)⟩
    · have hz2 : z = "return" := V.str.inj (of_decide_eq_true h)
      obtain ⟨f1, f2⟩ := c1 hz2
      refine ⟨_, rfl, a.r, _, a.dx, _, _, rfl, R.ins, T.c_Reader, T.n_Reader_stack, rd_stack a, a.s, rfl, ⟨_, SqL.of R.hs⟩, fun D nD => ?_⟩
      have hne : ∀ {b : Addr} {o : HO}, H b = some o → b ≠ D := fun e => ne_of_none e nD
      refine lc_list (K := K) (a := a.s) (xs := nV (st.stack.map (·.1))) (fun i H' => Off D H H' ∧ ∃ n, H' D = some (.lst ((List.replicate n false).map V.bl)) ∧ n ≤ i)
        ⟨(Off.refl D H).put, 0, upd_same, Nat.le_refl 0⟩ (fun i H' _ h => SqL.of (h.1 _ _ (hne R.hs) R.hs)) (fun i x H' hx h => ?_) (fun H' h => ?_)
      · obtain ⟨f, n, hD, hn⟩ := h
        obtain ⟨o, m', rfl, es, em⟩ := stack_get hx
        have hi : i < 100 := by
          have := (List.getElem?_eq_some_iff.mp es).1
          omega
        have R' : RdAt (rdr K) H' a st := ⟨f _ _ (hne R.ins) R.ins, f _ _ (hne R.hw) R.hw, f _ _ (hne R.hs) R.hs, f _ _ (hne R.ho) R.ho, f _ _ (hne R.hm) R.hm, f _ _ (hne R.he) R.he, R.ws, R.wo, R.so, R.me⟩
        have mm := List.mem_of_getElem? em
        have hno : decide (m' = "finally" ∨ m' = "rescue") = false := decide_eq_false fun c => by
          rcases c with c | c
          · exact f1 (c ▸ mm)
          · exact f2 (c ▸ mm)
        refine ⟨rfl, _, rfl, a.r, a.dx, _, rfl, R'.ins, rfl, _, rfl, a, st, o, m', rfl, R', g, List.mem_of_getElem? es, _, hD, ?_, f.put, n + 1, ?_, by omega⟩
        · rw [List.length_map, List.length_replicate]
          exact Nat.lt_of_le_of_lt hn (Nat.lt_trans hi (by decide))
        · rw [upd_same, List.replicate_succ', List.map_append]
          show some (HO.lst (_ ++ [V.bl (decide (m' = "finally" ∨ m' = "rescue"))])) = _
          rw [hno] <;> rfl
      · obtain ⟨f, n, hD, hn⟩ := h
        have fr : Same H H' := fun b o e => f b o (hne e) e
        refine ⟨D, _, rfl, SqL.of hD, _, rfl, ?_⟩
        have e : (List.replicate n false).any id = false := by
          rw [List.any_eq_false]
          intro x hx
          rw [List.eq_of_mem_replicate hx]
          decide
        rw [e]
        exact q H' fr
    refine ⟨_, rfl, by show 2 ≤ sizeLine; decide, fun p np => new_at np fun H1 s1 h1 => ⟨p, _, rfl, .inr (SqT.of h1), rfl, sV_all ["drain", "close"], _, rfl, ?_⟩⟩
    show if (!inV (.str z) (sV ["drain", "close"])) = true then _ else _
    rw [inV_sV]
    refine ite2 (fun h => ?_) (fun h => ?_)
    · exact q H1 s1
    · have hd : z = "drain" ∨ z = "close" := by
        apply Classical.byContradiction
        intro c
        refine h ?_
        rw [decide_eq_false (fun m => c (by simpa using m))] <;> rfl
      refine ⟨_, rfl, a.r, a.dx, _, rfl, (R.same s1).ins, rfl, _, rfl, a, st, z, rfl, R.same s1, g, hz, fun H2 s2 => ?_⟩
      rw [c2 hd]
      exact q H2 (s1.trans s2)
end

structure RS.Le (st : RS) (n : Nat) : Prop where
  w : st.words.length ≤ n
  s : st.stack.length ≤ n
  o : st.openers.length ≤ n
  m : st.mids.length ≤ n
  e : st.ends.length ≤ n
theorem RS.Le.take {st : RS} {n : Nat} (h : st.Le n) (z : Str) : (st.take z).Le (n + 1) := by
  have h1 := h.w
  have h2 := h.s
  have h3 := h.o
  have h4 := h.m
  have h5 := h.e
  refine ⟨?_, ?_, ?_, ?_, ?_⟩
  · show (st.words ++ [z]).length ≤ _
    rw [List.length_append, List.length_singleton]; omega
  · unfold RS.take
    dsimp only
    split
    · rw [List.length_append, List.length_singleton]; omega
    split
    · rw [List.length_append, List.length_singleton, List.length_dropLast]; omega
    split
    · rw [List.length_dropLast]; omega
    · omega
  · show (st.openers ++ [st.top]).length ≤ _
    rw [List.length_append, List.length_singleton]; omega
  · unfold RS.take
    dsimp only
    split
    · rw [List.length_append, List.length_singleton]; omega
    · omega
  · unfold RS.take
    dsimp only
    split
    · rw [List.length_append, List.length_singleton]; omega
    · omega
theorem rdAll_le : ∀ (ws : List Str) {st : RS} {n : Nat}, st.Le n → (rdAll st ws).Le (n + ws.length)
  | [], st, n, h => h
  | w :: r, st, n, h => by
    have := rdAll_le r (h.take w)
    rw [show n + (w :: r).length = n + 1 + r.length by simp; omega]
    exact this
def RA.five (a : RA) : List Addr := [a.w, a.s, a.o, a.m, a.e]
def spTakeR (K : PySem.W.Frag) : Sp := fun vs H Q _ => ∃ (a : RA) (st : RS) (z : Str) (m : List Str), vs = [.ref a.r, .str z] ∧ RdAt (rdr K) H a st ∧ Good st ∧ st.Le 900 ∧ stp st.modes z = some m ∧
  ∀ H', (∀ b o, b ∉ a.five → H b = some o → H' b = some o) → RdAt (rdr K) H' a (st.take z) → Q .non H'
theorem stk_last {st : RS} {k : List (Nat × Str)} {x : Nat × Str} (e : st.stack = k ++ [x]) : (nV (st.stack.map (·.1)))[(nV (st.stack.map (·.1))).length - 1]? = some (V.int (x.1 : Int)) ∧ (nV (st.stack.map (·.1))).dropLast = nV (k.map (·.1)) := by
  have e2 : nV (st.stack.map (·.1)) = nV (k.map (·.1)) ++ [V.int (x.1 : Int)] := by
    rw [e]
    simp
  rw [e2]
  simp
theorem modes_last {st : RS} {k : List Str} {x : Str} (e1 : st.modes = k ++ [x]) : ∃ ks p, st.stack = ks ++ [p] ∧ x = p.2 := by
  rcases last_cases st.stack with e | ⟨ks, p, e⟩
  · unfold RS.modes at e1
    rw [e] at e1
    exact absurd (congrArg List.length e1) (by simp)
  · refine ⟨ks, p, e, ?_⟩
    unfold RS.modes at e1
    rw [e, List.map_append] at e1
    exact (List.cons.inj (List.append_inj' e1 rfl).2).1.symm
theorem tcE {v v' : V} (e : v' = v) {σ : L2.St} {H : Hp} {Q : VK} (h : Q v' H) : tC v σ H Q := e ▸ h
theorem kN_len (l : List (Nat × Nat)) : (kN l).length = l.length := List.length_map ..
section
variable {P : Program} {w : World} {K : PySem.W.Frag} {mg : Str → Option Value} {base : Heap}
theorem c_Reader_take (T : Tx K mg) : Mt P w K mg base 1 (rdr K) "take" (spTakeR K) := by
  refine mtD T.f_Reader_take T.c_Reader T.m_Reader_take sc_Reader_take (fun _ _ _ _ _ _ us hl => match us, hl with | [_, _], _ => rfl) (fun vs H Q E h => ?_) (fun cdv A outer s H vs Q E hr h => ?_)
  · obtain ⟨a, st, z, m, rfl, _⟩ := h
    rfl
  · obtain ⟨a, st, z, m, rfl, R, g, le, hst, q⟩ := h
    refine ⟨_, (pss_cons (ps_set (i := 2) sc_Reader_take.nd rfl (by first | exact Or.inl rfl | exact Or.inr rfl) (pe_callB (call_len_seqK (K := K) rfl) rfl T.b_len boot_len (pa_cons (pe_fldK (K := K) rfl (pv 0) rfl) pa_nil)))
      (pss_cons (ps_expr (pe_bmK (K := K) rfl PySem.F.plainAttrs_list PySem.F.slot_list_append PySem.F.type_list_append mt_append (pe_fldK (K := K) rfl (pv 0) rfl) (pa_cons (pe_ifExp (pt_truthK (K := K) rfl (pe_fldK (K := K) rfl (pv 0) rfl) (by intro _; rfl)) (pe_ix (ix_listK (K := K) rfl) (pe_fldK (K := K) rfl (pv 0) rfl) (pe_un un_neg pe_int) (fun _ _ => rfl)) pe_non) pa_nil)))
      (pss_cons (ps_expr (pe_bmK (K := K) rfl PySem.F.plainAttrs_list PySem.F.slot_list_append PySem.F.type_list_append mt_append (pe_fldK (K := K) rfl (pv 0) rfl) (pa_cons (pv 1) pa_nil)))
      (pss_one (ps_if (pt_cmpR (op_in_seqK (K := K) rfl) (pv 1) (pe_glob (v := .ref (He.ga K ("OPENING" : Str))) rfl T.g_OPENING rfl) (by rfl)) (pss_one (ps_expr (pe_bmK (K := K) rfl PySem.F.plainAttrs_list PySem.F.slot_list_append PySem.F.type_list_append mt_append (pe_fldK (K := K) rfl (pv 0) rfl) (pa_cons (pv 2) pa_nil)))) (pss_one (ps_if (pt_cmpR (op_in_seqK (K := K) rfl) (pv 1) (pe_glob (v := .ref (He.ga K ("MIDDLE" : Str))) rfl T.g_MIDDLE rfl) (by rfl)) (pss_one (ps_dput (hu_of hr) (pe_fldK (K := K) rfl (pv 0) rfl) (pe_ix (ix_listK (K := K) rfl) (pe_fldK (K := K) rfl (pv 0) rfl) (pe_un un_neg pe_int) (fun _ _ => rfl)) (pv 2) rfl)) (pss_one (ps_if (pt_cmpR op_eq (pv 1) pe_str (nomark _)) (pss_one (ps_dput (hu_of hr) (pe_fldK (K := K) rfl (pv 0) rfl) (pe_bm0K (K := K) rfl PySem.F.plainAttrs_list PySem.F.slot_list_pop PySem.F.type_list_pop mt_pop (pe_fldK (K := K) rfl (pv 0) rfl)) (pv 2) rfl)) pss_nil))))))))), ?_⟩
    have tO : ∀ H, SqT K H (He.ga K ("OPENING" : Str)) (sV openWords) := fun H => tup_strs (T.t_OPENING H) rfl
    have tM : ∀ H, SqT K H (He.ga K ("MIDDLE" : Str)) (sV midWords) := fun H => tup_strs (T.t_MIDDLE H) rfl
    have rw_ : a.r ≠ a.w := ne_of R.ins R.hw (by intro e; cases e)
    have rs_ : a.r ≠ a.s := ne_of R.ins R.hs (by intro e; cases e)
    have ro_ : a.r ≠ a.o := ne_of R.ins R.ho (by intro e; cases e)
    have rm_ : a.r ≠ a.m := ne_of R.ins R.hm (by intro e; cases e)
    have re_ : a.r ≠ a.e := ne_of R.ins R.he (by intro e; cases e)
    have wm_ : a.w ≠ a.m := ne_of R.hw R.hm (by intro e; cases e)
    have we_ : a.w ≠ a.e := ne_of R.hw R.he (by intro e; cases e)
    have sm_ : a.s ≠ a.m := ne_of R.hs R.hm (by intro e; cases e)
    have se_ : a.s ≠ a.e := ne_of R.hs R.he (by intro e; cases e)
    have om_ : a.o ≠ a.m := ne_of R.ho R.hm (by intro e; cases e)
    have oe_ : a.o ≠ a.e := ne_of R.ho R.he (by intro e; cases e)
    have l1 := le.w
    have l2 := le.s
    have l3 := le.o
    have l4 := le.m
    have l5 := le.e
    refine ⟨_, rfl, a.r, _, a.dx, _, _, rfl, R.ins, T.c_Reader, T.n_Reader_words, rd_words a, a.w, _, rfl, .inl (SqL.of R.hw), ?_⟩
    refine ⟨_, rfl, a.r, _, a.dx, _, _, rfl, R.ins, T.c_Reader, T.n_Reader_openers, rd_openers a, .inl ⟨rfl, _, SqL.of R.ho⟩, _, rfl, a.r, _, a.dx, _, _, rfl, R.ins, T.c_Reader, T.n_Reader_stack, rd_stack a, ?_⟩
    obtain ⟨tp, htp⟩ : ∃ x, x = oV st.top := ⟨_, rfl⟩
    refine (fun (rest : ?R) => ?_) ?_
    case refine_1 =>
      rcases last_cases st.stack with e | ⟨ks, p, e⟩
      · refine ⟨false, .inl ⟨_, SqL.of R.hs, by rw [e] <;> rfl⟩, ?_⟩
        have e2 : V.non = tp := by
          rw [htp]
          unfold RS.top
          rw [e] <;> rfl
        refine iteF (tcE e2.symm ?_)
        exact rest
      · refine ⟨true, .inl ⟨_, SqL.of R.hs, by rw [e]; simp⟩, _, rfl, a.r, _, a.dx, _, _, rfl, R.ins, T.c_Reader, T.n_Reader_stack, rd_stack a, _, rfl, a.s, _, _, _, rfl, rfl, SqL.of R.hs, stack_last e, ?_⟩
        have e2 : V.int (p.1 : Int) = tp := by
          rw [htp, RS.top_some e] <;> rfl
        rw [e2]
        exact rest
    subst htp
    refine ⟨a.o, _, _, rfl, rfl, R.ho, by rw [List.length_map]; exact Nat.lt_of_le_of_lt l3 (by decide), put_at fun H1 f1 b1 i1 => ?_⟩
    refine ⟨_, rfl, a.r, _, a.dx, _, _, rfl, f1 _ _ ro_ R.ins, T.c_Reader, T.n_Reader_words, rd_words a, .inl ⟨rfl, _, SqL.of (f1 _ _ R.wo R.hw)⟩, _, rfl, a.w, _, _, rfl, rfl, f1 _ _ R.wo R.hw, by rw [List.length_map]; exact Nat.lt_of_le_of_lt l1 (by decide), put_at fun H2 f2 b2 i2 => ?_⟩
    have hr2 := f2 _ _ rw_ (f1 _ _ ro_ R.ins)
    have hs2 := f2 _ _ R.ws.symm (f1 _ _ R.so R.hs)
    have hm2 := f2 _ _ wm_.symm (f1 _ _ om_.symm R.hm)
    have he2 := f2 _ _ we_.symm (f1 _ _ oe_.symm R.he)
    have ho2 := f2 _ _ R.wo.symm i1
    have f02 : ∀ b o, b ∉ a.five → H b = some o → H2 b = some o := fun b o hn e => by
      have hn1 : b ≠ a.w ∧ b ≠ a.o := by
        refine ⟨fun c => hn ?_, fun c => hn ?_⟩ <;> subst c <;> simp [RA.five]
      exact f2 _ _ hn1.1 (f1 _ _ hn1.2 e)
    have ow2 : (sV st.words ++ [V.str z]) = sV (st.words ++ [z]) := by rw [sV_app] <;> rfl
    have oo2 : (st.openers.map oV ++ [oV st.top]) = (st.openers ++ [st.top]).map oV := by rw [List.map_append] <;> rfl
    rw [ow2] at i2
    rw [oo2] at ho2
    refine ⟨_, rfl, _, _, rfl, .inr (tO H2), rfl, sV_all openWords, _, rfl, ?_⟩
    show if inV (.str z) (sV openWords) = true then _ else _
    rw [inV_sV]
    refine ite2 (fun h => ?_) (fun h => ?_)
    · have ho : z ∈ openWords := of_decide_eq_true h
      have hm := open_not_mid ho
      have he : ¬ z = "end" := by
        have : ∀ w ∈ openWords, ¬ w = "end" := by decide +kernel
        exact this z ho
      refine ⟨_, rfl, a.r, _, a.dx, _, _, rfl, hr2, T.c_Reader, T.n_Reader_stack, rd_stack a, .inl ⟨rfl, _, SqL.of hs2⟩, _, rfl, a.s, _, _, rfl, rfl, hs2, by rw [List.length_map, List.length_map]; exact Nat.lt_of_le_of_lt l2 (by decide), put_at fun H3 f3 b3 i3 => ?_⟩
      refine q H3 (fun b o hn e => f3 _ _ (fun c => hn (by subst c; simp [RA.five])) (f02 b o hn e)) ⟨f3 _ _ rs_ hr2, f3 _ _ R.ws i2, ?_, f3 _ _ R.so.symm ho2, ?_, ?_, R.ws, R.wo, R.so, R.me⟩
      · rw [i3]
        unfold RS.take
        dsimp only
        rw [if_pos ho]
        simp [nV]
      · rw [f3 _ _ sm_.symm hm2]
        unfold RS.take
        dsimp only
        rw [if_neg hm]
      · rw [f3 _ _ se_.symm he2]
        unfold RS.take
        dsimp only
        rw [if_neg he]
    have ho : ¬ z ∈ openWords := fun c => h (decide_eq_true c)
    refine ⟨_, rfl, _, _, rfl, .inr (tM H2), rfl, sV_all midWords, _, rfl, ?_⟩
    show if inV (.str z) (sV midWords) = true then _ else _
    rw [inV_sV]
    refine ite2 (fun h => ?_) (fun h => ?_)
    · have hm : z ∈ midWords := of_decide_eq_true h
      have he : ¬ z = "end" := by
        have : ∀ w ∈ midWords, ¬ w = "end" := by decide +kernel
        exact this z hm
      obtain ⟨k, x, e1, e2, _⟩ := stp_mid_inv hm hst
      obtain ⟨ks, p, e, ex⟩ := modes_last e1
      have kk := g.ok p (by rw [e]; simp)
      have hxm : ¬ x ∈ midWords := by
        rw [e2]
        have : ∀ w ∈ midWords, ¬ (if w = "else" then ("maybe" : Str) else ("try" : Str)) ∈ midWords := by decide +kernel
        exact this z hm
      have lk := kk.out (by rw [← ex]; exact hxm)
      refine ⟨_, rfl, _, rfl, a.r, _, a.dx, _, _, rfl, hr2, T.c_Reader, T.n_Reader_middles, rd_middles a, _, rfl, a.r, _, a.dx, _, _, rfl, hr2, T.c_Reader, T.n_Reader_stack, rd_stack a, _, rfl, a.s, _, _, _, rfl, rfl, SqL.of hs2, stack_last e, a.m, _, rfl, DPut.k (k := Sum.inl (p.1 : Int)) hm2 (by rw [kN_len]; exact Nat.lt_of_le_of_lt l4 (by decide)), put_at fun H3 f3 b3 i3 => ?_⟩
      refine q H3 (fun b o hn e => f3 _ _ (fun c => hn (by subst c; simp [RA.five])) (f02 b o hn e)) ⟨f3 _ _ rm_ hr2, f3 _ _ wm_ i2, ?_, f3 _ _ om_ ho2, ?_, ?_, R.ws, R.wo, R.so, R.me⟩
      · rw [f3 _ _ sm_ hs2]
        unfold RS.take
        dsimp only
        rw [if_neg ho, if_pos hm, RS.top_some e, e]
        simp
      · rw [i3]
        unfold RS.take
        dsimp only
        rw [if_pos hm, RS.top_some e]
        show some (HO.dK (putK (kN st.mids) (Sum.inl (p.1 : Int)) (V.int ((sV st.words).length : Nat)))) = _
        rw [List.length_map, putK_kN lk] <;> rfl
      · rw [f3 _ _ R.me.symm he2]
        unfold RS.take
        dsimp only
        rw [if_neg he]
    have hm : ¬ z ∈ midWords := fun c => h (decide_eq_true c)
    refine ⟨_, rfl, rfl, _, rfl, ite2 (fun h => ?_) (fun h => ?_)⟩
    · have he : z = "end" := V.str.inj (of_decide_eq_true h)
      subst he
      obtain ⟨k, x, e1, e2, _⟩ := stp_end_inv hst
      obtain ⟨ks, p, e, ex⟩ := modes_last e1
      have lk : st.ends.lookup p.1 = none := lookup_none fun y hy c => (g.ek y hy).2 (by rw [c, e]; simp)
      obtain ⟨sl, sd⟩ := stk_last e
      refine ⟨_, rfl, _, rfl, a.r, _, a.dx, _, _, rfl, hr2, T.c_Reader, T.n_Reader_ends, rd_ends a, _, rfl, a.r, _, a.dx, _, _, rfl, hr2, T.c_Reader, T.n_Reader_stack, rd_stack a, .inl ⟨rfl, _, SqL.of hs2⟩, a.s, _, _, rfl, rfl, hs2, sl, put_at fun H3 f3 b3 i3 => ?_⟩
      have he3 := f3 _ _ se_.symm he2
      refine ⟨a.e, _, rfl, DPut.k (k := Sum.inl (p.1 : Int)) he3 (by rw [kN_len]; exact Nat.lt_of_le_of_lt l5 (by decide)), put_at fun H4 f4 b4 i4 => ?_⟩
      rw [sd] at i3
      refine q H4 (fun b o hn e => f4 _ _ (fun c => hn (by subst c; simp [RA.five])) (f3 _ _ (fun c => hn (by subst c; simp [RA.five])) (f02 b o hn e))) ⟨f4 _ _ re_ (f3 _ _ rs_ hr2), f4 _ _ we_ (f3 _ _ R.ws i2), ?_, f4 _ _ oe_ (f3 _ _ R.so.symm ho2), ?_, ?_, R.ws, R.wo, R.so, R.me⟩
      · rw [f4 _ _ se_ i3]
        unfold RS.take
        dsimp only
        rw [if_neg ho, if_neg hm, if_pos rfl, e]
        simp
      · rw [f4 _ _ R.me (f3 _ _ sm_.symm hm2)]
        unfold RS.take
        dsimp only
        rw [if_neg hm]
      · rw [i4]
        unfold RS.take
        dsimp only
        rw [if_pos rfl, RS.top_some e]
        show some (HO.dK (putK (kN st.ends) (Sum.inl (p.1 : Int)) (V.int ((sV st.words).length : Nat)))) = _
        rw [List.length_map, putK_kN lk] <;> rfl
    have he : ¬ z = "end" := fun c => h (decide_eq_true (congrArg V.str c))
    refine q H2 f02 ⟨hr2, i2, ?_, ho2, ?_, ?_, R.ws, R.wo, R.so, R.me⟩
    · rw [hs2]
      unfold RS.take
      dsimp only
      rw [if_neg ho, if_neg hm, if_neg he]
    · rw [hm2]
      unfold RS.take
      dsimp only
      rw [if_neg hm]
    · rw [he2]
      unfold RS.take
      dsimp only
      rw [if_neg he]
end

/-! ### sets of texts: made by a comprehension, sorted -/
structure TsAt (P : Program) (w : World) (h : Heap) (a : Addr) (l : List Str) : Prop where
  at_ : ∃ D : Froz.SD, h.get? a = some (Froz.sObj "set" D) ∧ Froz.TxOk P w D l ∧ Ris D.2.2.place.toList ∧ (w.params.followText "set-order" = true ∨ D.2.2.led = true)
  nd : l.Nodup
  sz : l.length < scanBound
section
variable {P : Program} {w : World}
theorem TsAt.keep {h h' : Heap} {a : Addr} {l : List Str} (R : TsAt P w h a l) (k : ∀ o, h.get? a = some o → h'.get? a = some o) : TsAt P w h' a l :=
  let ⟨D, e, r⟩ := R.at_
  ⟨⟨D, k _ e, r⟩, R.nd, R.sz⟩
def TsO (P : Program) (w : World) (a : Addr) (l : List Str) : HO := .ext fun h => TsAt P w h a l
theorem TsAt.obj {H : Hp} {h : Heap} {a : Addr} {l : List Str} (R : TsAt P w h a l) : ObjOk P w H h a (TsO P w a l) :=
  let ⟨_, e, _⟩ := R.at_
  ⟨R, ⟨_, e⟩, fun _ _ p k => p.keep k⟩
theorem ts_fresh (h : Heap) : TsAt P w (h.push { cls := .type "set", dict := none, data := .set #[] 0 (.fresh 0 0 (!w.params.followText "set-order")) }) h.objs.size [] := by
  refine ⟨⟨(#[], 0, .fresh 0 0 (!w.params.followText "set-order")), Heap.get?_push_size _ rfl, .nil (by rfl), List.Pairwise.nil, ?_⟩, List.nodup_nil, by decide⟩
  show w.params.followText "set-order" = true ∨ (!w.params.followText "set-order") = true
  cases w.params.followText "set-order" <;> simp
theorem tail_ris {ep : Nat} {es : Array (Int × Value)} {t : SetTable} {b : Bool} (r : Ris t.place.toList) : Ris (Froz.tailTx ep es t b).2.2.place.toList := by
  unfold Froz.tailTx
  split
  · exact relayAll_ris _ _ _
  · exact r
theorem tail_led {ep : Nat} {es : Array (Int × Value)} {t : SetTable} {b : Bool} (r : t.led = true) : (Froz.tailTx ep es t b).2.2.led = true := by
  unfold Froz.tailTx
  split
  · exact (relayAll_led _ _ _).trans r
  · exact r
theorem add_ris {h : Int} {v : Value} {D : Froz.SD} (r : Ris D.2.2.place.toList) : Ris (Froz.addTx h v D).2.2.place.toList := by
  refine tail_ris ?_
  have h1 := layNew_ris D.2.2 D.1 h v r
  split <;> exact h1
theorem add_led {h : Int} {v : Value} {D : Froz.SD} (r : D.2.2.led = true) : (Froz.addTx h v D).2.2.led = true := by
  refine tail_led ?_
  have h1 := (layNew_led D.2.2 D.1 h v).trans r
  split <;> exact h1
variable {A : Around} {E : Value → Shared → Prop} {s : Shared}
theorem ts_had {a : Addr} {l : List Str} {k : Str} {u : Tok} {Q : Bool → Shared → Prop} (R : TsAt P w s.heap a l) (hk : k ∈ l) (q : Q false s) : wpAny (model P w) A (setAddHashed a (.str k u) (hashStr w k)) Q E s := by
  obtain ⟨D, e, ok, _, _⟩ := R.at_
  have kk : (strKind P w).is k (.str k u) = true := Froz.is_str k u
  have hb : D.1.size < scanBound := by rw [ok.sz]; exact R.sz
  unfold setAddHashed setAddHashedIn
  refine wpAny_holding (wpAny_bind (wpAny_setState_of e (show (Froz.sObj "set" D).data = .set D.1 D.2.1 D.2.2 from rfl) ok.fit ?_))
  dsimp only
  rw [byScan_of (knd := strKind P w) (show (Value.str k u).scannable = true from rfl) hb ok.el, if_pos rfl]
  unfold setAddByScan
  refine wpAny_bind (wpAny_bind (wpAny_rule (wpAny_bind (wpAny_setScan_of (knd := strKind P w) kk e (show (Froz.sObj "set" D).data = .set D.1 D.2.1 D.2.2 from rfl) ok.fit ok.el ?_))))
  obtain ⟨x, hx, px⟩ := (ok.mem k).mp hk
  cases f : List.findIdx? (fun e => (strKind P w).is k e.2) D.1.toList with
  | some j => exact wpAny_pure (wpAny_pure q)
  | none =>
    have c := List.findIdx?_eq_none_iff.mp f x hx
    rw [px] at c
    cases c
def addL (l : List Str) (k : Str) : List Str := if k ∈ l then l else k :: l
theorem ts_add {a : Addr} {l : List Str} {k : Str} {u : Tok} {Q : Value → Shared → Prop} (R : TsAt P w s.heap a l) (room : l.length + 1 < scanBound)
    (q : ∀ h' tk, (∀ b, b ≠ a → h'.get? b = s.heap.get? b) → TsAt P w h' a (addL l k) → Q .none { s with heap := h', toks := tk }) :
    wpAny (model P w) A (call (.builtin "set.add") [.ref a, .str k u]) Q E s := by
  have ⟨D, e, ok, rs, ld⟩ := R.at_
  have ty : s.TypeIs (.ref a) "set" := ⟨_, e, rfl⟩
  refine wpAny_call_entry F.slot_set_add ty F.entry_set_add ?_ (F.args_set_add_2 _ _)
  unfold Builtin.«set.add» Builtin.Frozenset.oneOther Builtin.Frozenset.addrOf setAdd
  simp only [List.isEmpty_nil, bind_assoc]
  refine wpAny_bind (wpAny_pure (wpAny_bind (wpAny_pure (wpAny_bind (wpAny_holding (wpAny_bind ((strKind P w).pyHash (Froz.is_str k u) ?_)))))))
  by_cases hk : k ∈ l
  · have el : addL l k = l := if_pos hk
    rw [el] at q
    exact ts_had (s := { s with toks := s.toks + 1 }) R hk (wpAny_pure ⟨_, rfl, q s.heap (s.toks + 1) (fun _ _ => rfl) R⟩)
  · have el : addL l k = k :: l := if_neg hk
    rw [el] at q
    refine Froz.add_x (s := { s with toks := s.toks + 1 }) e ok hk room (wpAny_pure ⟨_, rfl, q _ (s.toks + 1) (fun b n => Heap.get?_update_other _ _ (Ne.symm n)) ⟨⟨_, Froz.get_upd _ e rfl, Froz.add_ok u ok, add_ris rs, ld.imp id add_led⟩, List.nodup_cons.mpr ⟨hk, R.nd⟩, room⟩⟩)
end

theorem perm_in : ∀ {l m : List Str}, l.Nodup → (∀ x ∈ l, x ∈ m) → m.length = l.length → l.Perm m
  | [], m, _, _, e => by
    cases m with
    | nil => exact .nil
    | cons _ _ => cases e
  | x :: l, m, d, h, e => by
    obtain ⟨dx, dl⟩ := List.nodup_cons.mp d
    have mx := h x (List.mem_cons_self ..)
    have q := List.perm_cons_erase mx
    have el : (m.erase x).length = l.length := by
      rw [List.length_erase_of_mem mx, e, List.length_cons] <;> rfl
    refine .trans (.cons x (perm_in dl (fun y hy => ?_) el)) q.symm
    exact (List.mem_erase_of_ne (by intro c; subst c; exact dx hy)).mpr (h y (List.mem_cons_of_mem _ hy))
theorem str_list : ∀ {vs : List Value}, (∀ v ∈ vs, ∃ x t, v = Value.str x t) → ∃ ys : List Str, StrsAre vs ys ∧ ys.length = vs.length ∧ ∀ x t, Value.str x t ∈ vs → x ∈ ys
  | [], _ => ⟨[], .nil, rfl, fun _ _ h => by cases h⟩
  | v :: r, h => by
    obtain ⟨x, t, rfl⟩ := h v (List.mem_cons_self ..)
    obtain ⟨ys, a, b, c⟩ := str_list fun u hu => h u (List.mem_cons_of_mem _ hu)
    refine ⟨x :: ys, .cons _ _ a, congrArg (· + 1) b, fun y u hy => ?_⟩
    rcases List.mem_cons.mp hy with e | e
    · cases e
      exact List.mem_cons_self ..
    · exact List.mem_cons_of_mem _ (c y u e)
theorem ts_out {P : Program} {w : World} {D : Froz.SD} {l : List Str} {out : List Value} (ok : Froz.TxOk P w D l) (nd : l.Nodup) (p : out.Perm (D.1.toList.map (·.2))) : ∃ ys : List Str, StrsAre out ys ∧ ys.Perm l := by
  have each : ∀ v ∈ out, ∃ x t, v = Value.str x t := fun v hv => by
    obtain ⟨e, he, q⟩ := List.mem_map.mp (p.mem_iff.mp hv)
    obtain ⟨⟨k, hk, _⟩, _⟩ := ok.el e he
    obtain ⟨t, ev⟩ := Value.isStrOf_shape (x := k) (v := e.2) hk
    exact ⟨k, t, by rw [← q]; exact ev⟩
  obtain ⟨ys, a, b, c⟩ := str_list each
  refine ⟨ys, a, (perm_in nd (fun x hx => ?_) ?_).symm⟩
  · obtain ⟨e, he, hk⟩ := (ok.mem x).mp hx
    obtain ⟨t, ev⟩ := Value.isStrOf_shape (x := x) (v := e.2) hk
    refine c x t (p.mem_iff.mpr ?_)
    rw [← ev]
    exact List.mem_map_of_mem he
  · rw [b, p.length_eq, List.length_map, Array.length_toList]
    exact ok.sz
section
variable {X : Cx}
/-- sorted of a set of fewer than 64 texts -/
def rSortTs (P : Program) (w : World) : List V → Hp → VK → Prop := fun xs H Q => ∃ (a : Addr) (l : List Str), xs = [.ref a] ∧ H a = some (TsO P w a l) ∧ l.length < 64 ∧
  ∀ (ys : List Str) (p : Addr), ys.Perm l → sortedS ys = true → H p = none → Q (.ref p) (upd H p (.lst (ys.map V.str)))
theorem cr_sortTs (hc : X.calm = true) : CallR X (.builtin "sorted") (rSortTs X.prog X.w) := by
  intro pins s σ H xs us Q I r h
  obtain ⟨a, l, rfl, ha, l64, q⟩ := h
  rw [Vals.ref1 r]
  have R : TsAt X.prog X.w s.heap a l := (I.hok a _ ha).1
  obtain ⟨D, e, ok, rs, ld⟩ := R.at_
  have hb : D.1.size < scanBound := by rw [ok.sz]; exact R.sz
  refine Calls.call_function_entry kind_sorted plain_sorted entry_sorted (args_sorted1 _) ?_
  unfold Builtin.«sorted»
  refine wpAny_bind (m := checkCount "sorted" 1 1 _) (wpAny_pure (wpAny_bind (collect_set (A := X.A.in1) (I.ok.hd hc) ⟨_, e, rfl, rfl⟩ ok.fit hb rs ld fun s1 vs k1 z1 g1 o1 pm => ?_)))
  obtain ⟨zs, sv, pz⟩ := ts_out ok R.nd pm
  have lz : vs.length = l.length := by rw [pm.length_eq, List.length_map, Array.length_toList]; exact ok.sz
  refine wpAny_bind (wpAny_newList ?_ (by rw [lz, sizeLine_eq]; omega))
  have hL : (s1.heap.push (seqObj "list" vs.toArray 0)).get? s1.heap.objs.size = some (seqObj "list" vs.toArray 0) := Heap.get?_push_size _ rfl
  refine wpAny_bind (wpAny_holding (wpAny_call_entry slot_list_sort ⟨_, hL, rfl⟩ entry_list_sort
    (list_sort_treeK strKind_oneLt (s := { s1 with heap := s1.heap.push (seqObj "list" vs.toArray 0) }) hL sv.keysOf (fun _ _ _ e => keyKind_strs (by rw [← e]; exact sv)) (by rw [lz]; exact l64) fun st hp hs => ⟨_, rfl, ?_⟩) (args_list_sort _)))
  obtain ⟨ys, y1, y2, y3⟩ := sorted_out_str sv hp hs
  obtain ⟨c, hc'⟩ := sortedHeap_at (vs := vs) (out := (arrOf st).map (·.2)) hL
  have hlen : (ys.map V.str).length ≤ sizeLine := by
    rw [List.length_map, y2.length_eq, pz.length_eq, sizeLine_eq]
    omega
  have hn : H s1.heap.objs.size = none := I.hok.fresh z1
  have kp : ∀ b u, s.heap.get? b = some u → (sortedHeap (s1.heap.push (seqObj "list" vs.toArray 0)) s1.heap.objs.size vs ((arrOf st).map (·.2))).get? b = some u := fun b u eb => by
    have lt := Heap.lt_size (k1 b u eb)
    rw [sortedHeap_old (Nat.ne_of_lt lt) (by rw [size_push']; exact Nat.lt_succ_of_lt lt)]
    exact Heap.get?_push_of_some _ (k1 b u eb)
  obtain ⟨sh, sg, sd, st', so⟩ := s1
  obtain rfl : sg = s.gens := g1
  obtain rfl : so = s.os := o1
  have J : Inv X pins σ (upd H sh.objs.size (.lst (ys.map V.str))) { s with heap := sortedHeap (sh.push (seqObj "list" vs.toArray 0)) sh.objs.size vs ((arrOf st).map (·.2)), drawn := sd, toks := st' } :=
    I.call (ch := []) (Un.laid kp z1 hn) (I.hok.laid kp z1 ⟨hlen, ((arrOf st).map (·.2)).toList, c, vals_of_strs y1, by rw [Array.toArray_toList]; exact hc'⟩) I.bare (fun _ z => nomatch z)
  exact wpAny_pure ⟨_, rfl, .ref sh.objs.size, _, J, rfl, q ys _ (y2.trans pz) y3 hn⟩
end

section
variable {X : Cx}
theorem tsAdd_ok {pins : List (Addr × Obj)} {σ : L2.St} {H : Hp} {s : Shared} {E : Value → Shared → Prop} {D : Addr} {l : List Str} {y : Str} {u : Tok} {Q : Value → Shared → Prop} (I : Inv X pins σ H s) (hD : H D = some (TsO X.prog X.w D l)) (room : l.length + 1 < scanBound)
    (q : ∀ s', Inv X pins σ (upd H D (TsO X.prog X.w D (addL l y))) s' → Q .none s') : wpAny (model X.prog X.w) X.A (call (.builtin "set.add") [.ref D, .str y u]) Q E s := by
  have R : TsAt X.prog X.w s.heap D l := (I.hok D _ hD).1
  refine ts_add R room fun h' tk ne new => ?_
  obtain ⟨Z, eZ, _⟩ := new.at_
  exact q _ (I.write (e := D) (t' := tk) (by rw [hD]; trivial) (.inl rfl) (fun b u hb hu => (ne b hb).trans hu) ⟨_, eZ⟩ new.obj)
/-- what a set comprehension of texts does: D the new set -/
def tScT (P : Program) (w : World) (wi : TI) (g : TG) (tt : TT) (te : TE) (vs : List Nat) : TE := fun σ H Q => wi σ H fun J H1 => ∀ D, H1 D = none →
  ∃ W : Nat → Nat → Hp → Prop, (∃ m, W 0 m (upd H1 D (TsO P w D []))) ∧ ∀ i m G, W i m G →
    (J.stop i G ∧ Q (.ref D) G) ∨ (J.go i G ∧ ∃ Nx : Hp → Prop, (∀ G', Nx G' → ∃ k, k < m ∧ W (i + 1) k G') ∧ ∀ x G', J.yld i G x G' → g x (wipe σ vs) G' fun σ2 G2 => wipe σ2 vs = wipe σ vs ∧ tt σ2 G2 fun b G3 =>
      if b = true then te σ2 G3 fun y G4 => ∃ (c : Str) (l : List Str), y = .str c ∧ G4 D = some (TsO P w D l) ∧ l.length + 1 < scanBound ∧ Nx (upd G4 D (TsO P w D (addL l c))) else Nx G3)
theorem pe_scK {elt tg iter : Expr} {ifs : List Expr} {scope : Scope} {own : List (PySem.Str × Nat)} {pos : Pos} {wi : TI} {g : TG} {tt : TT} {te : TE} (calm : X.calm = true) (nd : X.N.Nodup) (hi : PI X tg iter wi) (ok : BlkOk X.N X.env.scope scope own)
    (hg : ∀ (s : Shared) (H : Hp) (C : Addr) (cl : List (PySem.Str × Addr)) (fp : List Addr), PG (X.blk s H scope (compEnvC scope cl C X.env) fp) tg g)
    (ht : ∀ (s : Shared) (H : Hp) (C : Addr) (cl : List (PySem.Str × Addr)) (fp : List Addr), PTs (X.blk s H scope (compEnvC scope cl C X.env) fp) ifs tt)
    (he : ∀ (s : Shared) (H : Hp) (C : Addr) (cl : List (PySem.Str × Addr)) (fp : List Addr), PE (X.blk s H scope (compEnvC scope cl C X.env) fp) elt te) (hs : ∀ x, foldedSetIterable iter X.env x = pure x := by intro _; rfl) :
    PE X (.SetComp elt [⟨tg, iter, ifs, 0⟩] scope pos) (tScT X.prog X.w wi g tt te (own.map (·.2))) := by
  refine ⟨fun pins s σ H Q I h => ?_⟩
  rw [PpSet.eval_SetComp]
  have free : ∀ y ∈ scope.names, y.2 = .free → ∃ c, X.env.cells.lookup y.1 = some c := fun y hy e => (ok.free y hy e).elim (fun k => I.ok.has _ (.inl k)) fun k => I.ok.has _ (.inr k)
  refine wpAny_comprehension_free (use := none) rfl hs (closure_ok free) ok.kind (fun y hy e => by rw [ok.uniq y hy, e]) (thn (hi.run pins s σ H _ I h) fun _ _ hx => thn hx fun _ s2 h2 => ?_)
  obtain ⟨it, fp, tn, J, H2, rfl, I2, T, st2, f2, q⟩ := h2
  refine PpSet.newSet_ok (newEnv_comp ?_)
  have nD : H2 s2.heap.objs.size = none := I2.hok.fresh (Nat.le_refl _)
  obtain ⟨W, ⟨m0, w0⟩, turn⟩ := q _ nD
  have low : ∀ b ∈ fp, b < s2.heap.objs.size := fun b hb => (T.obj _ _ st2 b hb).elim fun _ e => Heap.lt_size e.1
  have I3 : Inv X pins σ (upd H2 s2.heap.objs.size (TsO X.prog X.w s2.heap.objs.size [])) { s2 with heap := s2.heap.push { cls := .type "set", dict := none, data := .set #[] 0 (.fresh 0 0 (!X.w.params.followText "set-order")) } } :=
    I2.laid (t' := s2.toks) (fun _ _ e => Heap.get?_push_of_some _ e) (Nat.le_refl _) (ts_fresh s2.heap).obj
  generalize es3 : ({ s2 with heap := s2.heap.push { cls := .type "set", dict := none, data := .set #[] 0 (.fresh 0 0 (!X.w.params.followText "set-order")) } } : Shared) = s3 at I3
  have grown : ∀ b o, s2.heap.get? b = some o → s3.heap.get? b = some o := fun b o e => by subst es3; exact Heap.get?_push_of_some _ e
  have ls : s2.heap.objs.size < s3.heap.objs.size := by
    subst es3
    show _ < (s2.heap.push _).objs.size
    rw [Heap.size_push]
    exact Nat.lt_succ_self _
  generalize eD : s2.heap.objs.size = D at I3 nD w0 low turn ls ⊢
  have f3 : ∀ b ∈ fp, FpOk X pins (upd H2 D (TsO X.prog X.w D [])) b ∧ b < s3.heap.objs.size := fun b hb =>
    ⟨⟨(upd_ne (Nat.ne_of_lt (low b hb))).trans (f2 b hb).1, (f2 b hb).2⟩, Nat.lt_trans (low b hb) ls⟩
  generalize upd H2 D (TsO X.prog X.w D []) = G0 at I3 w0 f3
  have st3 : tn 0 s3.heap := T.keep _ _ _ st2 fun b _ => grown b
  have I4 := block_start I3 ok nd f3
  have pg := hg s3 G0 s3.heap.objs.size (cellsFrom (s3.heap.objs.size + 1) scope.names (cloFrom X.env.cells scope.names [])) fp
  have pt := ht s3 G0 s3.heap.objs.size (cellsFrom (s3.heap.objs.size + 1) scope.names (cloFrom X.env.cells scope.names [])) fp
  have pe := he s3 G0 s3.heap.objs.size (cellsFrom (s3.heap.objs.size + 1) scope.names (cloFrom X.env.cells scope.names [])) fp
  have nfp : ∀ b ∈ fp, G0 b = none := fun b hb => (f3 b hb).1.1
  have lC : (compEnvC scope (cellsFrom (s3.heap.objs.size + 1) scope.names (cloFrom X.env.cells scope.names [])) s3.heap.objs.size X.env).locals = s3.heap.objs.size := rfl
  show codeAny _ _ (.compStart _ 0 (.ref it) (.ref D) (compEnvC scope (cellsFrom (s3.heap.objs.size + 1) scope.names (cloFrom X.env.cells scope.names [])) s3.heap.objs.size X.env)) (compPost (model X.prog X.w) X.A X.xe none (EP X pins σ Q) (.ref D) s3.heap.objs.size) { s3 with heap := pushCells (s3.heap.push { cls := .type "dict", data := .dict #[] }) scope.names }
  generalize compEnvC scope (cellsFrom (s3.heap.objs.size + 1) scope.names (cloFrom X.env.cells scope.names [])) s3.heap.objs.size X.env = ce at I4 pg pt pe lC ⊢
  have st4 : tn 0 ({ s3 with heap := pushCells (s3.heap.push { cls := .type "dict", data := .dict #[] }) scope.names } : Shared).heap := T.keep _ _ _ st3 fun b _ o e => pushCells_keeps _ _ _ _ (Heap.get?_push_of_some _ e)
  generalize ({ s3 with heap := pushCells (s3.heap.push { cls := .type "dict", data := .dict #[] }) scope.names } : Shared) = s4 at I4 st4 ⊢
  have own_fp : ∀ {σ' : L2.St} {G : Hp} {s' : Shared}, Inv (X.blk s3 G0 scope ce fp) [] σ' G s' → (∀ b ∈ fp, G b = none) → ∀ b ∈ fp, FpOk (X.blk s3 G0 scope ce fp) [] G b := fun I' hn b hb =>
    ⟨hn b hb, (I'.ok.exf b hb).1, I'.ok.exfs b hb, .inl hb, fun x c e => (I'.ok.exf b hb).2 x c e, fun p hp => by cases hp⟩
  refine PpSet.codeAny_compStart_set ?A (T.self X.A 0 _ _ _ st4 ?A)
  refine PpSet.compLoopS_any (fun n s' => ∃ i G, Inv (X.blk s3 G0 scope ce fp) [] (wipe σ (own.map (·.2))) G s' ∧ tn i s'.heap ∧ (∀ b ∈ fp, G b = none) ∧ W i n G) ?_ m0 ⟨0, G0, I4, st4, nfp, w0⟩
  rintro n s5 ⟨i, G5, I5, st5, n5, w5⟩
  rcases turn i n G5 w5 with ⟨stop, fin⟩ | ⟨go, Nx, hNx, step⟩
  · refine thnF (T.done (X.blk s3 G0 scope ce fp) rfl rfl rfl calm i [] s5 _ G5 (fun _ _ => False) I5 (own_fp I5 n5) st5 stop) fun r s6 ⟨er, I6⟩ => ?_
    subst er
    have fr : G5 ce.locals = none := I6.free
    obtain ⟨m, ns, _⟩ := I6.loc
    have ns : s6.heap.Ns ce.locals m := ns
    rw [lC] at fr ns
    have I7 : Inv X pins σ G5 s6 := I3.call' (ch := fp) I6.os I6.base I6.hok I6.bare fun b hb => ⟨(f3 b hb).1.2.2.2.1, (f3 b hb).1.2.1, (f3 b hb).1.2.2.2.2.1, (f3 b hb).1.2.2.2.2.2⟩
    obtain ⟨a0, a1, a2, a3, a4, a5⟩ := I3.fpOk (Nat.le_refl _) fr
    exact ⟨m, ns, fun h'' sb => ⟨.ref D, G5, I7.turned (t' := s6.toks) (fun b o hb e => (sb.2 b hb).trans e) a0 a1 a3 a4 a5, rfl, fin⟩⟩
  · refine thnF (T.item (X.blk s3 G0 scope ce fp) rfl rfl rfl calm i [] s5 _ G5 (fun _ _ => False) I5 (own_fp I5 n5) st5 go) fun r s6 ⟨u, er, h6⟩ => ?_
    subst er
    refine thnF h6 fun _ s7 ⟨x, G7, I7, r7, y7, st7, n7⟩ => ?_
    refine thnF (pg.run _ s7 _ G7 x u _ (I7.pinned (own_fp I7 n7) (T.obj _ _ st7)) r7 (step x G7 y7)) fun _ s8 ⟨σ8, G8, I8, w8, q8⟩ => ?_
    refine thnF (pt.run _ s8 σ8 G8 _ I8 q8) fun b s9 ⟨G9, I9, q9⟩ => ?_
    have back : ∀ {s' : Shared} {G : Hp}, Inv (X.blk s3 G0 scope ce fp) ([] ++ pinsAt fp s7.heap) σ8 G s' → Nx G → ∃ m, m < n ∧ ∃ i G, Inv (X.blk s3 G0 scope ce fp) [] (wipe σ (own.map (·.2))) G s' ∧ tn i s'.heap ∧ (∀ b ∈ fp, G b = none) ∧ W i m G := fun {s' G} J nx => by
      obtain ⟨k, lt, wk⟩ := hNx G nx
      have held : ∀ b ∈ fp, ∀ o, s7.heap.get? b = some o → s'.heap.get? b = some o ∧ G b = none := fun b hb o e =>
        let z := J.pin (b, o) (List.mem_append_right _ (List.mem_append_right _ (mem_pinsAt hb e)))
        ⟨z.1, z.2.1⟩
      refine ⟨k, lt, i + 1, G, (J.unpinned (pins := [])).weak (by rw [← w8, wipe_length]) (fun j v e => ?_), T.keep _ _ _ st7 fun b hb o e => (held b hb o e).1, fun b hb => ?_, wk⟩
      · rw [← w8] at e
        exact (wipe_some e).1
      · obtain ⟨o, e, _⟩ := T.obj _ _ st7 b hb
        exact (held b hb o e).2
    cases b with
    | false => exact back I9 (show Nx G9 from q9)
    | true =>
      refine thnF (pe.run _ s9 σ8 G9 _ I9 q9) fun z s10 ⟨y, G10, I10, r10, c, l, ey, hD, room, nx⟩ => ?_
      subst ey
      obtain ⟨tk, rfl⟩ := (show ∃ t, z = Value.str c t from r10)
      exact tsAdd_ok (X := X.blk s3 G0 scope ce fp) I10 hD room fun s11 I11 => back I11 nx
end

/-! ### is a row one -/
def Rw.parts : Rw → List Str
  | .one w => [w]
  | .each n => ["each", n]
  | .retry k => ["retry", k]
def Rw.good : Rw → Prop
  | .one w => w ∈ oneWords
  | .each n => NameOk n
  | .retry k => k ∈ (["1", "2", "3"] : List Str)
theorem Rw.ok.good {ns : List Str} (h : ∀ n ∈ ns, NameOk n) : ∀ {r : Rw}, r.ok ns → r.good
  | .one _, q => q
  | .each n, q => h n q
  | .retry _, q => q
def abcS : Str := "abcdefghijklmnopqrstuvwxyz"
theorem abc_mem {c : Nat} (h1 : 97 ≤ c) (h2 : c ≤ 122) : c ∈ abcS.cps.toList := by
  have e : ∀ m : Nat, m < 26 → (97 + m) ∈ abcS.cps.toList := by decide +kernel
  have := e (c - 97) (by omega)
  rw [show 97 + (c - 97) = c by omega] at this
  exact this
theorem name_ne {n : Str} (h : NameOk n) : ¬ n = "" := fun e => h.1 (by rw [e]; decide +kernel)
section
variable {P : Program} {w : World} {K : PySem.W.Frag} {mg : Str → Option Value} {base : Heap}
theorem c_is_made_of (T : Tx K mg) : Cl P w K mg base 1 "is_made_of" (fun vs H Q _ => ∃ (n : Str), vs = [.str n, .str abcS] ∧ NameOk n ∧ ∀ H', Same H H' → Q (.bl true) H') := by
  refine clD T.f_is_made_of T.g_is_made_of sc_is_made_of (fun _ _ _ _ _ _ us hl => match us, hl with | [_, _], _ => rfl) (fun vs H Q E h => ?_) (fun cdv A outer s H vs Q E hr h => ?_)
  · obtain ⟨n, rfl, _⟩ := h
    rfl
  · obtain ⟨n, rfl, hn, q⟩ := h
    refine ⟨_, (pss_one (ps_ret (pe_and (pe_cmpR op_ne (pv 0) pe_str (nomark _)) (pe_one (pe_callB (cr_allK (K := K) rfl rfl) rfl T.b_all boot_all (pa_cons (pe_lc (own := [("character", 2)]) (g := gName 2) (tt := tYes) rfl sc_is_made_of.nd (pi_str (pv 0)) (blkOk_by (N := ["text", "characters", "character"]) (sc := defScope s_is_made_of) (by decide +kernel)) (fun _ _ _ _ _ => (pg_name (i := 2) sc_is_made_of.nd rfl (by first | exact Or.inl rfl | exact Or.inr rfl))) (fun _ _ _ _ _ => pts_nil) (fun _ _ _ _ _ => (pe_cmpR op_in_sign (pv 2) (pv 1) (by rfl)))) pa_nil)))))), ?_⟩
    refine ⟨_, rfl, rfl, _, rfl, ?_⟩
    rw [dec_str2, decide_eq_false (name_ne hn)]
    refine iteT ⟨_, rfl, _, rfl, fun D nD => ?_⟩
    have hne : ∀ {b : Addr} {o : HO}, H b = some o → b ≠ D := fun e => ne_of_none e nD
    have zs : n.cps.size = n.cps.toList.length := (Array.length_toList ..).symm
    have z3 := hn.2.1
    refine lc_it (walk_str (z := n)) (fun i H' => Off D H H' ∧ H' D = some (.lst ((List.replicate i true).map V.bl))) ⟨(Off.refl D H).put, upd_same⟩ (fun _ _ _ _ => trivial) (fun i x H1 H2 hi h y => ?_) (fun H1 h => ?_)
    · obtain ⟨f, hD⟩ := h
      obtain ⟨rfl, c, ec, rfl⟩ := y
      have mc : c ∈ n.cps.toList := by
        rw [← Array.getElem?_toList] at ec
        exact List.mem_of_getElem? ec
      obtain ⟨c1, c2⟩ := hn.2.2 c mc
      refine ⟨rfl, _, rfl, _, rfl, c, abcS, rfl, rfl, _, hD, ?_, f.put, ?_⟩
      · rw [List.length_map, List.length_replicate]
        exact Nat.lt_of_lt_of_le hi (by rw [zs]; exact Nat.le_trans z3 (by decide))
      · rw [upd_same, List.replicate_succ', List.map_append, decide_eq_true (abc_mem c1 c2)] <;> rfl
    · obtain ⟨f, hD⟩ := h
      have fr : Same H H1 := fun b o e => f b o (hne e) e
      refine ⟨D, _, rfl, SqL.of hD, ?_⟩
      have e : (List.replicate n.cps.size true).all id = true := by
        rw [List.all_eq_true]
        intro x hx
        rw [List.eq_of_mem_replicate hx] <;> rfl
      rw [e]
      exact q H1 fr
theorem c_is_list_name (T : Tx K mg) : Cl P w K mg base 2 "is_list_name" (fun vs H Q _ => ∃ (n : Str), vs = [.str n] ∧ NameOk n ∧ ∀ H', Same H H' → Q (.bl true) H') := by
  have c_is_made_of := c_is_made_of (P := P) (w := w) (base := base) T
  obtain ⟨tl, k_LETTERS⟩ := T.k_LETTERS
  refine clD T.f_is_list_name T.g_is_list_name sc_is_list_name (fun _ _ _ _ _ _ us hl => match us, hl with | [_], _ => rfl) (fun vs H Q E h => ?_) (fun cdv A outer s H vs Q E hr h => ?_)
  · obtain ⟨n, rfl, _⟩ := h
    rfl
  · obtain ⟨n, rfl, hn, q⟩ := h
    refine ⟨_, (pss_one (ps_ret (pe_and (pe_cmpR op_le (pe_callB call_len_str rfl T.b_len boot_len (pa_cons (pv 0) pa_nil)) pe_int (nomark _)) (pe_one (pe_f c_is_made_of hr (by first | decide | omega) (pa_cons (pv 0) (pa_cons (pe_glob (v := .str "abcdefghijklmnopqrstuvwxyz") rfl k_LETTERS ⟨_, rfl⟩) pa_nil))))))), ?_⟩
    have z3 := hn.2.1
    rw [← len_tl] at z3
    refine ⟨_, rfl, _, rfl, sz_le (Nat.le_trans z3 (by decide : 3 ≤ 1000)) (by decide), _, _, rfl, rfl, _, rfl, ?_⟩
    rw [decide_eq_true (by omega : (n.length : Int) ≤ 3)]
    exact iteT ⟨_, rfl, n, rfl, hn, q⟩
theorem c_is_row (T : Tx K mg) : Cl P w K mg base 3 "is_row" (fun vs H Q _ => ∃ (p : Addr) (r : Rw), vs = [.ref p] ∧ H p = some (.lst (sV r.parts)) ∧ r.good ∧ ∀ H', Same H H' → Q (.bl true) H') := by
  have c_is_list_name := c_is_list_name (P := P) (w := w) (base := base) T
  refine clD T.f_is_row T.g_is_row sc_is_row (fun _ _ _ _ _ _ us hl => match us, hl with | [_], _ => rfl) (fun vs H Q E h => ?_) (fun cdv A outer s H vs Q E hr h => ?_)
  · obtain ⟨p, r, rfl, _⟩ := h
    rfl
  · obtain ⟨p, r, rfl, hp, hg, q⟩ := h
    refine ⟨_, (pss_cons (ps_if (pt_cmpR op_eq (pe_callB (call_len_seqK (K := K) rfl) rfl T.b_len boot_len (pa_cons (pv 0) pa_nil)) pe_int (nomark _)) (pss_one (ps_ret (pe_or (pe_and (pe_cmpR op_eq (pe_ix (ix_listK (K := K) rfl) (pv 0) pe_int (fun _ _ => rfl)) pe_str (nomark _)) (pe_one (pe_f c_is_list_name hr (by first | decide | omega) (pa_cons (pe_ix (ix_listK (K := K) rfl) (pv 0) pe_int (fun _ _ => rfl)) pa_nil)))) (pe_one (pe_and (pe_cmpR op_eq (pe_ix (ix_listK (K := K) rfl) (pv 0) pe_int (fun _ _ => rfl)) pe_str (nomark _)) (pe_one (pe_cmpR (op_in_seqK (K := K) rfl) (pe_ix (ix_listK (K := K) rfl) (pv 0) pe_int (fun _ _ => rfl)) (pe_tup (pa_cons pe_str (pa_cons pe_str (pa_cons pe_str pa_nil)))) (by rfl)))))))) pss_nil)
      (pss_one (ps_ret (pe_and (pe_cmpR op_eq (pe_callB (call_len_seqK (K := K) rfl) rfl T.b_len boot_len (pa_cons (pv 0) pa_nil)) pe_int (nomark _)) (pe_one (pe_cmpR (op_in_seqK (K := K) rfl) (pe_ix (ix_listK (K := K) rfl) (pv 0) pe_int (fun _ _ => rfl)) (pe_tup (StX.pa_star (pe_glob (v := .ref (He.ga K ("PLAIN" : Str))) rfl T.g_PLAIN rfl) (StX.pa_star (pe_glob (v := .ref (He.ga K ("MIDDLE" : Str))) rfl T.g_MIDDLE rfl) (pa_cons pe_str (pa_cons pe_str (pa_cons pe_str (pa_cons pe_str pa_nil))))))) (by rfl))))))), ?_⟩
    have at0 : ∀ {x y : Str}, SqL K H p (sV [x, y]) → atI (sV [x, y]) 0 = some (V.str x) := fun _ => rfl
    cases r with
    | one z =>
      have tP : SqT K H (He.ga K ("PLAIN" : Str)) (sV plainWords) := tup_strs (T.t_PLAIN H) rfl
      have tM : SqT K H (He.ga K ("MIDDLE" : Str)) (sV midWords) := tup_strs (T.t_MIDDLE H) rfl
      refine ⟨_, rfl, p, _, rfl, .inl (SqL.of hp), rfl, _, rfl, iteF ?_⟩
      refine ⟨_, rfl, p, _, rfl, .inl (SqL.of hp), rfl, _, rfl, iteT ?_⟩
      refine ⟨_, rfl, p, _, _, _, rfl, rfl, SqL.of hp, rfl, _, _, rfl, .inl tP, _, _, rfl, .inl tM, by show 18 ≤ sizeLine; decide, fun p1 n1 => new_at n1 fun H1 s1 h1 => ⟨p1, _, rfl, .inr (SqT.of h1), rfl, sV_all oneWords, ?_⟩⟩
      show Q (.bl (inV (.str z) (sV oneWords))) H1
      rw [inV_sV, decide_eq_true (show z ∈ oneWords from hg)]
      exact q H1 s1
    | each n =>
      refine ⟨_, rfl, p, _, rfl, .inl (SqL.of hp), rfl, _, rfl, iteT ?_⟩
      refine ⟨_, rfl, p, _, _, _, rfl, rfl, SqL.of hp, rfl, rfl, _, rfl, iteT ⟨_, rfl, p, _, _, _, rfl, rfl, SqL.of hp, rfl, n, rfl, hg, fun H1 s1 => ⟨_, rfl, iteT (q H1 s1)⟩⟩⟩
    | retry k =>
      refine ⟨_, rfl, p, _, rfl, .inl (SqL.of hp), rfl, _, rfl, iteT ?_⟩
      refine ⟨_, rfl, p, _, _, _, rfl, rfl, SqL.of hp, rfl, rfl, _, rfl, iteF ⟨_, rfl, iteF ?_⟩⟩
      refine ⟨_, rfl, p, _, _, _, rfl, rfl, SqL.of hp, rfl, rfl, _, rfl, iteT ⟨_, rfl, p, _, _, _, rfl, rfl, SqL.of hp, rfl, by show 3 ≤ sizeLine; decide, fun p1 n1 => new_at n1 fun H1 s1 h1 => ⟨p1, _, rfl, .inr (SqT.of h1), rfl, sV_all ["1", "2", "3"], ?_⟩⟩⟩
      show Q (.bl (inV (.str k) (sV ["1", "2", "3"]))) H1
      rw [inV_sV, decide_eq_true (show k ∈ (["1", "2", "3"] : List Str) from hg)]
      exact q H1 s1
end

/-! ### texts of rows -/
def lineS : Str := "\n"
def blankS : Str := " "
theorem joinL_len (sep : List Nat) : ∀ ps : List (List Nat), (TL.joinL sep ps).length ≤ (ps.map (·.length)).sum + ps.length * sep.length
  | [] => Nat.zero_le _
  | [p] => by
    show p.length ≤ (p.length + 0) + 1 * sep.length
    omega
  | p :: q :: r => by
    have ih := joinL_len sep (q :: r)
    show (p ++ (sep ++ TL.joinL sep (q :: r))).length ≤ p.length + ((q :: r).map (·.length)).sum + ((q :: r).length + 1) * sep.length
    rw [List.length_append, List.length_append, Nat.add_mul, Nat.one_mul]
    omega
theorem sp_abc {c : Nat} (h1 : 97 ≤ c) (h2 : c ≤ 122) : Unicode.isSpace c = false := by
  have e : ∀ m : Nat, m < 26 → Unicode.isSpace (97 + m) = false := by decide +kernel
  have := e (c - 97) (by omega)
  rw [show 97 + (c - 97) = c by omega] at this
  exact this
theorem parts_ok : ∀ {r : Rw}, r.good → ∀ p ∈ r.parts, p.cps.toList ≠ [] ∧ (∀ c ∈ p.cps.toList, Unicode.isSpace c = false) ∧ p.cps.toList.length ≤ 8
  | .one w, h, p, hp => by
    have e : p = w := by simpa [Rw.parts] using hp
    subst e
    have : ∀ w ∈ oneWords, w.cps.toList ≠ [] ∧ (∀ c ∈ w.cps.toList, Unicode.isSpace c = false) ∧ w.cps.toList.length ≤ 8 := by decide +kernel
    exact this p h
  | .each n, h, p, hp => by
    have hn : NameOk n := h
    rcases List.mem_cons.mp hp with e | hp
    · subst e
      decide +kernel
    · have e : p = n := by simpa using hp
      subst e
      exact ⟨hn.1, fun c hc => sp_abc (hn.2.2 c hc).1 (hn.2.2 c hc).2, Nat.le_trans hn.2.1 (by decide)⟩
  | .retry k, h, p, hp => by
    rcases List.mem_cons.mp hp with e | hp
    · subst e
      decide +kernel
    · have e : p = k := by simpa using hp
      subst e
      have : ∀ w ∈ (["1", "2", "3"] : List Str), w.cps.toList ≠ [] ∧ (∀ c ∈ w.cps.toList, Unicode.isSpace c = false) ∧ w.cps.toList.length ≤ 8 := by decide +kernel
      exact this p h
theorem parts_ne (r : Rw) : r.parts ≠ [] := by cases r <;> exact fun h => by cases h
theorem parts_len (r : Rw) : r.parts.length ≤ 2 := by cases r <;> simp [Rw.parts]
theorem tl_text : ∀ r : Rw, r.text.cps.toList = TL.joinL [32] (r.parts.map TL.tl)
  | .one _ => rfl
  | .each n => by
    show (("each " : Str) ++ n).cps.toList = _
    rw [tl_cat]
    rfl
  | .retry k => by
    show (("retry " : Str) ++ k).cps.toList = _
    rw [tl_cat]
    rfl
theorem words_text {r : Rw} (h : r.good) : Txt.words r.text = r.parts := by
  refine TL.map_tl_inj ?_
  rw [TL.words_tl]
  have e : TL.tl r.text = TL.joinL [32] (r.parts.map TL.tl) := tl_text r
  rw [e]
  have := TL.wfold_join (r.parts.map TL.tl) [] (fun z => parts_ne r (List.map_eq_nil_iff.mp z)) fun p hp => by
    obtain ⟨z, hz, rfl⟩ := List.mem_map.mp hp
    exact ⟨(parts_ok h z hz).1, (parts_ok h z hz).2.1⟩
  rw [this, List.nil_append]
theorem join_parts (r : Rw) : Txt.join blankS r.parts = r.text := by
  refine TL.ext_tl ?_
  rw [TL.join_eq, TL.tl_join]
  exact (tl_text r).symm
theorem text_len {r : Rw} (h : r.good) : r.text.cps.toList.length ≤ 20 := by
  rw [tl_text]
  refine Nat.le_trans (joinL_len _ _) ?_
  have q := fun p hp => (parts_ok h p hp).2.2
  cases r with
  | one w =>
    have := q w (by simp [Rw.parts])
    show w.cps.toList.length + 0 + 1 * 1 ≤ 20
    omega
  | each n =>
    have := q n (by simp [Rw.parts])
    show 4 + (n.cps.toList.length + 0) + 2 * 1 ≤ 20
    omega
  | retry n =>
    have := q n (by simp [Rw.parts])
    show 5 + (n.cps.toList.length + 0) + 2 * 1 ≤ 20
    omega
theorem text_line {r : Rw} (h : r.good) : 10 ∉ r.text.cps.toList := by
  have l32 : ∀ ps : List (List Nat), (∀ p ∈ ps, (10 : Nat) ∉ p) → (10 : Nat) ∉ TL.joinL [32] ps := by
    intro ps
    induction ps with
    | nil => intro _ z; cases z
    | cons p r ih =>
      intro hp
      cases r with
      | nil => exact hp p (List.mem_singleton.mpr rfl)
      | cons q r =>
        intro z
        have z' : (10 : Nat) ∈ p ++ ([32] ++ TL.joinL [32] (q :: r)) := z
        rcases List.mem_append.mp z' with z | z
        · exact hp p (List.mem_cons_self ..) z
        · rcases List.mem_append.mp z with z | z
          · exact absurd (List.mem_singleton.mp z) (by decide)
          · exact ih (fun p' hp' => hp p' (List.mem_cons_of_mem _ hp')) z
  rw [tl_text]
  refine l32 _ fun p hp z => ?_
  obtain ⟨y, hy, rfl⟩ := List.mem_map.mp hp
  have := (parts_ok h y hy).2.1 10 z
  exact absurd this (by decide +kernel)
def textOf (l : List Rw) : Str := Txt.join lineS (l.map Rw.text)
theorem split_text {l : List Rw} (h0 : l ≠ []) (h : ∀ r ∈ l, r.good) : Txt.split (textOf l) lineS = l.map Rw.text := by
  refine TL.split_join (s := 10) (S := []) rfl (by decide +kernel) (fun z => h0 (List.map_eq_nil_iff.mp z)) fun p hp => ?_
  obtain ⟨r, hr, rfl⟩ := List.mem_map.mp hp
  exact text_line (h r hr)
theorem sum_le {α : Type} (f : α → Nat) (m : Nat) : ∀ l : List α, (∀ x ∈ l, f x ≤ m) → (l.map f).sum ≤ l.length * m
  | [], _ => Nat.zero_le _
  | x :: r, h => by
    have h1 := h x (List.mem_cons_self ..)
    have h2 := sum_le f m r fun y hy => h y (List.mem_cons_of_mem _ hy)
    rw [List.map_cons, List.sum_cons, List.length_cons, Nat.add_mul, Nat.one_mul]
    omega
theorem texts_sum {l : List Rw} (h : ∀ r ∈ l, r.good) : ((l.map Rw.text).map (·.length)).sum ≤ l.length * 20 := by
  rw [List.map_map]
  refine sum_le _ 20 l fun r hr => ?_
  show r.text.length ≤ 20
  rw [len_tl]
  exact text_len (h r hr)
theorem textOf_len {l : List Rw} (h : ∀ r ∈ l, r.good) : (textOf l).length ≤ l.length * 21 := by
  rw [len_tl]
  have e : (textOf l).cps.toList = TL.joinL [10] ((l.map Rw.text).map TL.tl) := by
    show TL.tl (Txt.join lineS (l.map Rw.text)) = _
    rw [TL.join_eq, TL.tl_join]
    rfl
  rw [e]
  refine Nat.le_trans (joinL_len _ _) ?_
  have := texts_sum h
  have e2 : (((l.map Rw.text).map TL.tl).map (·.length)).sum = ((l.map Rw.text).map (·.length)).sum := by
    rw [List.map_map]
    refine congrArg List.sum (List.map_congr_left fun x _ => ?_)
    exact (len_tl x).symm
  rw [e2, List.length_map, List.length_map]
  show _ + l.length * 1 ≤ _
  omega

/-! ### a Function in the heap -/
structure FA where
  f : Addr
  dx : Addr
  ls : Addr
  rs : Addr
  ws : Addr
  ns : Addr
  ts : Addr
  os : Addr
  ms : Addr
  es : Addr
abbrev fnC (K : PySem.W.Frag) : Addr := He.ga K ("Function" : Str)
abbrev fnFs (a : FA) : List (Str × V) := [("lists", .ref a.ls), ("rows", .ref a.rs), ("words", .ref a.ws), ("names", .ref a.ns), ("tries", .ref a.ts), ("openers", .ref a.os), ("middles", .ref a.ms), ("ends", .ref a.es)]
def FA.eight (a : FA) : List Addr := [a.ls, a.rs, a.ws, a.ns, a.ts, a.os, a.ms, a.es]
def nmV : Rw → V
  | .each n => .str n
  | _ => .non
def tyV3 (k : Str) : Int := if k = "1" then 1 else if k = "2" then 2 else 3
def trV : Rw → V
  | .retry k => .int (tyV3 k)
  | _ => .non
def rdOf (l : List Rw) : RS := rdAll RS.none0 (l.map Rw.word)
def midK (st : RS) : List (Nat × Nat) → List (Key × V) := fun es => es.foldl (fun kv p => putK kv (Sum.inl (p.1 : Int)) (oV (st.mids.lookup p.1))) []
structure FnAt (C : Addr) (H : Hp) (a : FA) (l : List Rw) : Prop where
  ins : H a.f = some (.ins C a.dx (fnFs a))
  rs : H a.rs = some (.tup (sV (l.map Rw.text)))
  ws : H a.ws = some (.tup (sV (l.map Rw.word)))
  ns : H a.ns = some (.tup (l.map nmV))
  ts : H a.ts = some (.tup (l.map trV))
  os : H a.os = some (.tup ((rdOf l).openers.map oV))
  ms : H a.ms = some (.dK (midK (rdOf l) (rdOf l).ends))
  es : H a.es = some (.dK (kN (rdOf l).ends))
  ls : ∃ ys : List Str, H a.ls = some (.tup (sV ys)) ∧ sortedS ys = true ∧ ys.Nodup ∧ ∀ x : Str, x ∈ ys ↔ Rw.each x ∈ l
/-- rows that make a function -/
structure Rows (l : List Rw) : Prop where
  ne : l ≠ []
  few : l.length ≤ 24
  good : ∀ r ∈ l, r.good
  ns : ∃ ns : List Str, ns.length ≤ 3 ∧ ∀ n : Str, Rw.each n ∈ l → n ∈ ns
  run : runM 5 [] (l.map Rw.word) = some []
theorem nodup_le : ∀ {l m : List Str}, l.Nodup → (∀ x ∈ l, x ∈ m) → l.length ≤ m.length
  | [], _, _, _ => Nat.zero_le _
  | x :: l, m, d, h => by
    obtain ⟨dx, dl⟩ := List.nodup_cons.mp d
    have mx := h x (List.mem_cons_self ..)
    have ih := nodup_le (l := l) (m := m.erase x) dl fun y hy => (List.mem_erase_of_ne (by intro c; subst c; exact dx hy)).mpr (h y (List.mem_cons_of_mem _ hy))
    rw [List.length_erase_of_mem mx] at ih
    have := List.length_pos_of_mem mx
    show l.length + 1 ≤ _
    omega
theorem runM_up {a b : Nat} (h : a ≤ b) : ∀ {ws : List Str} {ms m : List Str}, runM a ms ws = some m → runM b ms ws = some m
  | [], _, _, e => e
  | w :: r, ms, m, e => by
    have e' : (match stp ms w with
      | none => none
      | some m => if m.length ≤ a then runM a m r else none) = some m := e
    show (match stp ms w with
      | none => none
      | some m => if m.length ≤ b then runM b m r else none) = some m
    cases q : stp ms w with
    | none => rw [q] at e'; cases e'
    | some k =>
      rw [q] at e'
      have e2 : (if k.length ≤ a then runM a k r else none) = some m := e'
      split at e2
      · rename_i c
        show (if k.length ≤ b then runM b k r else none) = some m
        rw [if_pos (Nat.le_trans c h)]
        exact runM_up h e2
      · cases e2
theorem runM_len {mx : Nat} : ∀ {ws : List Str} {ms m : List Str}, ms.length ≤ mx → runM mx ms ws = some m → m.length ≤ mx
  | [], _, _, h, e => by
    cases e
    exact h
  | w :: r, ms, m, h, e => by
    have e' : (match stp ms w with
      | none => none
      | some m => if m.length ≤ mx then runM mx m r else none) = some m := e
    cases q : stp ms w with
    | none => rw [q] at e'; cases e'
    | some k =>
      rw [q] at e'
      have e2 : (if k.length ≤ mx then runM mx k r else none) = some m := e'
      split at e2
      · rename_i c
        exact runM_len c e2
      · cases e2
/-- the reader's state behind the first i rows, and the step at row i -/
theorem run_at {l : List Rw} (R : Rows l) {i : Nat} {r : Rw} (hi : l[i]? = some r) : ∃ st : RS, st = rdAll RS.none0 ((l.map Rw.word).take i) ∧ Good st ∧ st.Le i ∧ st.stack.length ≤ 5 ∧ (∃ m, stp st.modes r.word = some m) ∧ st.take r.word = rdAll RS.none0 ((l.map Rw.word).take (i + 1)) := by
  have ew : (l.map Rw.word)[i]? = some r.word := by rw [List.getElem?_map, hi] <;> rfl
  have es : l.map Rw.word = (l.map Rw.word).take i ++ (l.map Rw.word).drop i := (List.take_append_drop ..).symm
  have ed : (l.map Rw.word).drop i = r.word :: (l.map Rw.word).drop (i + 1) := drop_get ew
  have run := R.run
  rw [es, runM_app] at run
  cases e : runM 5 [] ((l.map Rw.word).take i) with
  | none => rw [e] at run; cases run
  | some m =>
    rw [e] at run
    have run2 : runM 5 m ((l.map Rw.word).drop i) = some [] := run
    obtain ⟨g, em⟩ := rdAll_good (mx := 5) (ws := (l.map Rw.word).take i) Good.none0 e
    have ml := runM_len (mx := 5) (Nat.zero_le _) e
    have le : (rdAll RS.none0 ((l.map Rw.word).take i)).Le i := by
      have q := rdAll_le ((l.map Rw.word).take i) (st := RS.none0) (n := 0) ⟨Nat.le_refl _, Nat.le_refl _, Nat.le_refl _, Nat.le_refl _, Nat.le_refl _⟩
      have hl : 0 + ((l.map Rw.word).take i).length ≤ i := by rw [Nat.zero_add]; exact List.length_take_le ..
      exact ⟨Nat.le_trans q.w hl, Nat.le_trans q.s hl, Nat.le_trans q.o hl, Nat.le_trans q.m hl, Nat.le_trans q.e hl⟩
    refine ⟨_, rfl, g, le, ?_, ?_, ?_⟩
    · rw [← modes_len, em]
      exact ml
    · rw [em]
      rw [ed] at run2
      have run3 : (match stp m r.word with
        | none => none
        | some m => if m.length ≤ 5 then runM 5 m ((l.map Rw.word).drop (i + 1)) else none) = some [] := run2
      cases q : stp m r.word with
      | none => rw [q] at run3; cases run3
      | some k => exact ⟨k, rfl⟩
    · have e2 : (l.map Rw.word).take (i + 1) = (l.map Rw.word).take i ++ [r.word] := by rw [List.take_succ, ew] <;> rfl
      rw [e2]
      unfold rdAll
      rw [List.foldl_append] <;> rfl
theorem run_end {l : List Rw} (R : Rows l) : (rdOf l).stack = [] ∧ (rdOf l).words = l.map Rw.word := by
  obtain ⟨_, em⟩ := rdAll_good (mx := 5) (ws := l.map Rw.word) Good.none0 R.run
  have h2 : (rdOf l).modes.length = 0 := by
    show (rdAll RS.none0 (l.map Rw.word)).modes.length = 0
    rw [em] <;> rfl
  rw [modes_len] at h2
  exact ⟨List.length_eq_zero_iff.mp h2, by
    unfold rdOf
    rw [rdAll_words] <;> rfl⟩

theorem scT_it {P : Program} {w : World} {J : It} {n : Nat} {G : Hp → Prop} {Y : Nat → Hp → V → Hp → Prop} (W : Walk J n G Y) {g : TG} {tt : TT} {te : TE} {vs : List Nat} {σ : L2.St} {H1 : Hp} {D : Addr} {Qd : Hp → Prop} (Pv : Nat → Hp → Prop)
    (h0 : Pv 0 (upd H1 D (TsO P w D []))) (hG : ∀ i H, i ≤ n → Pv i H → G H)
    (hs : ∀ i x H H', i < n → Pv i H → Y i H x H' → g x (wipe σ vs) H' fun σ2 G2 => wipe σ2 vs = wipe σ vs ∧ tt σ2 G2 fun b G3 =>
      if b = true then te σ2 G3 fun y G4 => ∃ (c : Str) (l : List Str), y = .str c ∧ G4 D = some (TsO P w D l) ∧ l.length + 1 < scanBound ∧ Pv (i + 1) (upd G4 D (TsO P w D (addL l c))) else Pv (i + 1) G3) (hd : ∀ H, Pv n H → Qd H) :
    ∃ W : Nat → Nat → Hp → Prop, (∃ m, W 0 m (upd H1 D (TsO P w D []))) ∧ ∀ i m H, W i m H →
      (J.stop i H ∧ Qd H) ∨ (J.go i H ∧ ∃ Nx : Hp → Prop, (∀ G', Nx G' → ∃ k, k < m ∧ W (i + 1) k G') ∧ ∀ x G', J.yld i H x G' → g x (wipe σ vs) G' fun σ2 G2 => wipe σ2 vs = wipe σ vs ∧ tt σ2 G2 fun b G3 =>
        if b = true then te σ2 G3 fun y G4 => ∃ (c : Str) (l : List Str), y = .str c ∧ G4 D = some (TsO P w D l) ∧ l.length + 1 < scanBound ∧ Nx (upd G4 D (TsO P w D (addL l c))) else Nx G3) := by
  refine ⟨fun i m H => n - i = m ∧ i ≤ n ∧ Pv i H, ⟨n - 0, rfl, Nat.zero_le _, h0⟩, fun i m H ⟨em, le, p⟩ => ?_⟩
  have q := hG i H le p
  by_cases lt : i < n
  · exact .inr ⟨W.goes i H lt q, Pv (i + 1), fun G' p' => ⟨n - (i + 1), by omega, rfl, lt, p'⟩, fun x G' y => hs i x H G' lt p (W.yields i H x G' lt q y)⟩
  · have e : i = n := Nat.le_antisymm le (Nat.le_of_not_lt lt)
    subst e
    exact .inl ⟨W.stops H q, hd H p⟩
theorem addL_nodup {l : List Str} {x : Str} (h : l.Nodup) : (addL l x).Nodup := by
  unfold addL
  split
  · exact h
  · rename_i c
    exact List.nodup_cons.mpr ⟨c, h⟩
theorem addL_mem {l : List Str} {x y : Str} : y ∈ addL l x ↔ y ∈ l ∨ y = x := by
  unfold addL
  split
  · rename_i c
    exact ⟨.inl, fun h => h.elim id fun e => e ▸ c⟩
  · rw [List.mem_cons]
    exact Or.comm
/-- the parts of the rows, each a list of texts -/
def PartsAt (H : Hp) (ps : List Addr) (l : List Rw) : Prop := ps.length = l.length ∧ ∀ (i : Nat) (r : Rw), l[i]? = some r → ∃ p, ps[i]? = some p ∧ H p = some (.lst (sV r.parts))
theorem PartsAt.same {H H' : Hp} {ps : List Addr} {l : List Rw} (h : PartsAt H ps l) (s : ∀ p o, p ∈ ps → H p = some o → H' p = some o) : PartsAt H' ps l := ⟨h.1, fun i r e => let ⟨p, a, b⟩ := h.2 i r e; ⟨p, a, s p _ (List.mem_of_getElem? a) b⟩⟩
/-- a comprehension over the parts of the rows -/
theorem lc_rows {K : PySem.W.Frag} {D : Addr} {ps : List Addr} {l : List Rw} {H1 : Hp} (hD : H1 D = some (.lst (ps.map V.ref))) (pa : PartsAt H1 ps l) (few : l.length ≤ 24) {te : TE} {vs : List Nat} {k : Nat} {σ : L2.St} {Dn : Addr} (nD : H1 Dn = none) {Qd : Hp → Prop} (f : Rw → V)
    (hw : ∀ v, wipe ((wipe σ vs).set k (some v)) vs = wipe σ vs)
    (hs : ∀ (G : Hp) (r : Rw) (p : Addr) (Q : VK), Same H1 G → r ∈ l → G p = some (.lst (sV r.parts)) → (∀ G', Same G G' → Q (f r) G') → te ((wipe σ vs).set k (some (.ref p))) G Q) (hd : ∀ G, Same H1 G → G Dn = some (.lst (l.map f)) → Qd G) :
    ∃ W : Nat → Nat → Hp → Prop, (∃ m, W 0 m (upd H1 Dn (.lst []))) ∧ ∀ i m H, W i m H →
      ((Itl K D).stop i H ∧ Qd H) ∨ ((Itl K D).go i H ∧ ∃ Nx : Hp → Prop, (∀ H', Nx H' → ∃ m', m' < m ∧ W (i + 1) m' H') ∧ ∀ x H', (Itl K D).yld i H x H' → gName k x (wipe σ vs) H' fun σ2 H2 => wipe σ2 vs = wipe σ vs ∧ tYes σ2 H2 fun b H3 =>
        if b = true then te σ2 H3 fun y H4 => ∃ acc, H4 Dn = some (.lst acc) ∧ acc.length < sizeLine ∧ Nx (upd H4 Dn (.lst (acc ++ [y]))) else Nx H3) := by
  have hne : ∀ {b : Addr} {o : HO}, H1 b = some o → b ≠ Dn := fun e => ne_of_none e nD
  refine lc_list (K := K) (a := D) (xs := ps.map V.ref) (fun i G => Off Dn H1 G ∧ G Dn = some (.lst ((l.take i).map f))) ⟨(Off.refl Dn H1).put, upd_same⟩ (fun i G _ h => SqL.of (h.1 _ _ (hne hD) hD)) (fun i x G hx h => ?_) (fun G h => ?_)
  · obtain ⟨fo, hG⟩ := h
    have hi : i < l.length := by
      have := (List.getElem?_eq_some_iff.mp hx).1
      rw [List.length_map, pa.1] at this
      exact this
    have er : l[i]? = some l[i] := List.getElem?_eq_getElem hi
    generalize l[i] = r at er
    obtain ⟨p, ep, hp⟩ := pa.2 i r er
    have ex : x = .ref p := by
      rw [List.getElem?_map, ep] at hx
      exact (Option.some.inj hx).symm
    subst ex
    have fs : Same H1 G := fun b o e => fo b o (hne e) e
    refine ⟨hw _, ?_⟩
    show te _ G _
    refine hs G r p _ fs (List.mem_of_getElem? er) (fs _ _ hp) fun G' s' => ⟨_, s' _ _ hG, ?_, (fo.same s').put, ?_⟩
    · rw [List.length_map]
      exact Nat.lt_of_le_of_lt (List.length_take_le ..) (Nat.lt_of_lt_of_le hi (Nat.le_trans few (by decide)))
    · rw [upd_same, List.take_succ, er, List.map_append] <;> rfl
  · obtain ⟨fo, hG⟩ := h
    rw [List.length_map, pa.1, List.take_length] at hG
    exact hd G (fun b o e => fo b o (hne e) e) hG
theorem word_each {r : Rw} (h : r.good) (e : r.word = "each") : ∃ n, r = .each n := by
  cases r with
  | one w =>
    have e' : w = "each" := e
    subst e'
    exact absurd (show ("each" : Str) ∈ oneWords from h) (by decide +kernel)
  | each n => exact ⟨n, rfl⟩
  | retry k => exact absurd (show ("retry" : Str) = "each" from e) (by decide +kernel)
theorem word_retry {r : Rw} (h : r.good) (e : r.word = "retry") : ∃ n, r = .retry n := by
  cases r with
  | one w =>
    have e' : w = "retry" := e
    subst e'
    exact absurd (show ("retry" : Str) ∈ oneWords from h) (by decide +kernel)
  | each n => exact absurd (show ("each" : Str) = "retry" from e) (by decide +kernel)
  | retry k => exact ⟨k, rfl⟩
theorem Off.free {r p : Addr} {H G : Hp} (f : Off r H G) (n : p ≠ r) (np : G p = none) : H p = none := by
  cases e : H p with
  | none => rfl
  | some o =>
    rw [f p o n e] at np
    cases np
theorem Off.trans {r : Addr} {H G K : Hp} (f : Off r H G) (g : Off r G K) : Off r H K := fun a o n e => g a o n (f a o n e)
theorem Off.of {r : Addr} {H G : Hp} (f : Same H G) : Off r H G := fun a o _ e => f a o e
/-- what stays while the fields are set -/
structure Bd (C r D : Addr) (ps : List Addr) (l : List Rw) (a : RA) (H G : Hp) : Prop where
  off : Off r H G
  rd : RdAt C G a (rdOf l)
  hD : G D = some (.lst (ps.map V.ref))
  pa : PartsAt G ps l
  neD : D ≠ r
  nps : r ∉ ps
  na : r ∉ a.r :: a.five
theorem Bd.same {C r D : Addr} {ps : List Addr} {l : List Rw} {a : RA} {H G G' : Hp} (b : Bd C r D ps l a H G) (s : Same G G') : Bd C r D ps l a H G' :=
  ⟨b.off.same s, b.rd.same s, s _ _ b.hD, b.pa.same fun p o _ e => s _ _ e, b.neD, b.nps, b.na⟩
theorem Bd.put {C r D : Addr} {ps : List Addr} {l : List Rw} {a : RA} {H G G' : Hp} (b : Bd C r D ps l a H G) (f : Off r G G') : Bd C r D ps l a H G' := by
  have na : ∀ x ∈ a.r :: a.five, x ≠ r := fun x hx c => b.na (c ▸ hx)
  refine ⟨b.off.trans f, ⟨f _ _ (na _ (by simp [RA.five])) b.rd.ins, f _ _ (na _ (by simp [RA.five])) b.rd.hw, f _ _ (na _ (by simp [RA.five])) b.rd.hs, f _ _ (na _ (by simp [RA.five])) b.rd.ho, f _ _ (na _ (by simp [RA.five])) b.rd.hm, f _ _ (na _ (by simp [RA.five])) b.rd.he, b.rd.ws, b.rd.wo, b.rd.so, b.rd.me⟩, f _ _ b.neD b.hD, b.pa.same fun p o hp e => f _ _ (fun c => b.nps (c ▸ hp)) e, b.neD, b.nps, b.na⟩
theorem dc_it {J : It} {n : Nat} {G : Hp → Prop} {Y : Nat → Hp → V → Hp → Prop} (W : Walk J n G Y) {g : TG} {tt : TT} {tk tv : TE} {vs : List Nat} {σ : L2.St} {H1 : Hp} {D : Addr} {Qd : Hp → Prop} (Pv : Nat → Hp → Prop)
    (h0 : Pv 0 (upd H1 D (.dK []))) (hG : ∀ i H, i ≤ n → Pv i H → G H)
    (hs : ∀ i x H H', i < n → Pv i H → Y i H x H' → g x (wipe σ vs) H' fun σ2 G2 => wipe σ2 vs = wipe σ vs ∧ tt σ2 G2 fun b G3 =>
      if b = true then tk σ2 G3 fun y G4 => tv σ2 G4 fun z G5 => ∃ kvs k, y = kV k ∧ G5 D = some (.dK kvs) ∧ kvs.length < sizeLine ∧ Pv (i + 1) (upd G5 D (.dK (putK kvs k z))) else Pv (i + 1) G3) (hd : ∀ H, Pv n H → Qd H) :
    ∃ W : Nat → Nat → Hp → Prop, (∃ m, W 0 m (upd H1 D (.dK []))) ∧ ∀ i m H, W i m H →
      (J.stop i H ∧ Qd H) ∨ (J.go i H ∧ ∃ Nx : Hp → Prop, (∀ G', Nx G' → ∃ k, k < m ∧ W (i + 1) k G') ∧ ∀ x G', J.yld i H x G' → g x (wipe σ vs) G' fun σ2 G2 => wipe σ2 vs = wipe σ vs ∧ tt σ2 G2 fun b G3 =>
        if b = true then tk σ2 G3 fun y G4 => tv σ2 G4 fun z G5 => ∃ kvs k, y = kV k ∧ G5 D = some (.dK kvs) ∧ kvs.length < sizeLine ∧ Nx (upd G5 D (.dK (putK kvs k z))) else Nx G3) := by
  refine ⟨fun i m H => n - i = m ∧ i ≤ n ∧ Pv i H, ⟨n - 0, rfl, Nat.zero_le _, h0⟩, fun i m H ⟨em, le, p⟩ => ?_⟩
  have q := hG i H le p
  by_cases lt : i < n
  · exact .inr ⟨W.goes i H lt q, Pv (i + 1), fun G' p' => ⟨n - (i + 1), by omega, rfl, lt, p'⟩, fun x G' y => hs i x H G' lt p (W.yields i H x G' lt q y)⟩
  · have e : i = n := Nat.le_antisymm le (Nat.le_of_not_lt lt)
    subst e
    exact .inl ⟨W.stops H q, hd H p⟩
theorem int3 {k : Str} (h : k ∈ (["1", "2", "3"] : List Str)) : PySem.intText? k = some (tyV3 k) ∧ k.length ≤ 640 := by
  have : ∀ k ∈ (["1", "2", "3"] : List Str), PySem.intText? k = some (tyV3 k) ∧ k.length ≤ 640 := by decide +kernel
  exact this k h
theorem parts_sum {r : Rw} (h : r.good) : (r.parts.map (·.length)).sum + r.parts.length * blankS.length ≤ 16777216 := by
  have h1 := sum_le (fun p : Str => p.length) 8 r.parts fun p hp => by
    rw [len_tl]
    exact (parts_ok h p hp).2.2
  have h2 := parts_len r
  have h3 : blankS.length = 1 := by decide +kernel
  rw [h3]
  omega
theorem take_fold {α β : Type} (f : β → α → β) (b : β) {l : List α} {i : Nat} {x : α} (h : l[i]? = some x) : (l.take (i + 1)).foldl f b = f ((l.take i).foldl f b) x := by
  rw [List.take_succ, h, List.foldl_append] <;> rfl
theorem putK_le {κ : Type} [DecidableEq κ] (k : κ) (v : V) (kvs : List (κ × V)) : (putK kvs k v).length ≤ kvs.length + 1 := by
  unfold putK
  split
  · rw [List.length_map]
    exact Nat.le_succ _
  · rw [List.length_append]
    exact Nat.le_refl _
theorem midK_len (st : RS) (es : List (Nat × Nat)) : (midK st es).length ≤ es.length := by
  have gen : ∀ (es : List (Nat × Nat)) (kv : List (Key × V)), (es.foldl (fun kv p => putK kv (Sum.inl (p.1 : Int)) (oV (st.mids.lookup p.1))) kv).length ≤ kv.length + es.length := by
    intro es
    induction es with
    | nil => intro kv; exact Nat.le_refl _
    | cons p r ih =>
      intro kv
      refine Nat.le_trans (ih (putK kv (Sum.inl (p.1 : Int)) (oV (st.mids.lookup p.1)))) ?_
      have := putK_le (Sum.inl (p.1 : Int)) (oV (st.mids.lookup p.1)) kv
      rw [List.length_cons]
      omega
  have := gen es []
  simpa [midK] using this
def spFn (K : PySem.W.Frag) : Sp := fun vs H Q _ => ∃ (r dx : Addr) (l : List Rw), vs = [.ref r, .str (textOf l)] ∧ H r = some (.ins (fnC K) dx []) ∧ Rows l ∧
  ∀ (a : FA) (H' : Hp), a.f = r → Off r H H' → FnAt (fnC K) H' a l → (∀ b ∈ a.eight, H b = none) → Q .non H'
section
variable {P : Program} {w : World} {K : PySem.W.Frag} {mg : Str → Option Value} {base : Heap}
theorem c_Functionu_initu (T : Tx K mg) : Mkr P w K mg base 5 "Function" (fnC K) (spFn K) := by
  have k_Reader := c_Readeru_initu (P := P) (w := w) (base := base) T
  have c_is_row := c_is_row (P := P) (w := w) (base := base) T
  have c_Reader_fits := c_Reader_fits (P := P) (w := w) (base := base) T
  have c_Reader_take := c_Reader_take (P := P) (w := w) (base := base) T
  obtain ⟨t1, k_MOST_ROWS⟩ := T.k_MOST_ROWS
  obtain ⟨t2, k_MOST_LISTS⟩ := T.k_MOST_LISTS
  refine mkD T.f_Functionu_initu T.g_Function T.m_Functionu_initu sc_Functionu_initu (fun _ _ _ _ _ _ us hl => match us, hl with | [_, _], _ => rfl) (fun vs H Q E h => ?_) (fun cdv A outer s H vs Q E hr h => ?_)
  · obtain ⟨r, dx, l, rfl, _⟩ := h
    rfl
  · obtain ⟨r, dx, l, rfl, hi0, R, q⟩ := h
    refine ⟨_, (pss_cons (ps_if (pt_not (pt_val (pe_callB (call_isiK2 (K := K) rfl) rfl T.b_isinstance boot_isinstance (pa_cons (pv 1) (pa_cons (pe_bltn (v := .ty "str") rfl T.b_str boot_str rfl) pa_nil))))) (pss_one ps_never) pss_nil)
      (pss_cons (ps_setLc (i := 2) (own := [("row", 3)]) (g := gName 3) (tt := tYes) rfl sc_Functionu_initu.nd rfl rfl (sw_true rfl rfl rfl (by decide +kernel)) (pi_list (pe_split (pv 1) pe_str)) (blkOk_by (N := ["self", "text", "parts", "row", "reader", "words", "opener"]) (sc := defScope s_Functionu_initu) (by decide +kernel)) (fun _ _ _ _ _ => (pg_name (i := 3) sc_Functionu_initu.nd rfl (by first | exact Or.inl rfl | exact Or.inr rfl))) (fun _ _ _ _ _ => pts_nil) (fun _ _ _ _ _ => (pe_words (pv 3))))
      (pss_cons (ps_if (pt_cmpR op_gt (pe_callB (call_len_seqK (K := K) rfl) rfl T.b_len boot_len (pa_cons (pv 2) pa_nil)) (pe_glob (v := .int 24) rfl k_MOST_ROWS ⟨_, rfl⟩) (nomark _)) (pss_one ps_never) pss_nil)
      (pss_cons (ps_set (i := 4) sc_Functionu_initu.nd rfl (by first | exact Or.inl rfl | exact Or.inr rfl) (pe_k0 k_Reader hr (by first | decide | omega)))
      (pss_cons (ps_for PassesOwn.never rfl (pi_enum rfl T.b_enumerate (pa_cons (pv 2) pa_nil)) (pg_tup rfl (pgs_cons (pg_name (i := 3) sc_Functionu_initu.nd rfl (by first | exact Or.inl rfl | exact Or.inr rfl)) (pgs_cons (pg_name (i := 5) sc_Functionu_initu.nd rfl (by first | exact Or.inl rfl | exact Or.inr rfl)) pgs_nil))) (pss_cons (ps_if (PW.pt (pw_or (pt_not (pt_val (pe_f c_is_row hr (by first | decide | omega) (pa_cons (pv 5) pa_nil)))) (pw_or1 (pt_not (pt_val (pe_m c_Reader_fits hr (by first | decide | omega) (pv 4) (pa_cons (pe_ix (ix_listK (K := K) rfl) (pv 5) pe_int (fun _ _ => rfl)) pa_nil))))))) (pss_one ps_never) pss_nil)
          (pss_one (ps_expr (pe_m c_Reader_take hr (by first | decide | omega) (pv 4) (pa_cons (pe_ix (ix_listK (K := K) rfl) (pv 5) pe_int (fun _ _ => rfl)) pa_nil))))))
      (pss_cons (ps_if (pt_truthK (K := K) rfl (pe_fldK (K := K) rfl (pv 4) rfl) (by intro _; rfl)) (pss_one ps_never) pss_nil)
      (pss_cons (ps_fld (pv 0) (pe_callTy (call_tuple_ofK (K := K) rfl) rfl T.b_tuple boot_tuple (pa_cons (pe_callB (cr_sortTs rfl) rfl T.b_sorted boot_sorted (pa_cons (pe_scK (own := [("words", 5)]) (g := gName 5) rfl sc_Functionu_initu.nd (pi_list (pv 2)) (blkOk_by (N := ["self", "text", "parts", "row", "reader", "words", "opener"]) (sc := defScope s_Functionu_initu) (by decide +kernel)) (fun _ _ _ _ _ => (pg_name (i := 5) sc_Functionu_initu.nd rfl (by first | exact Or.inl rfl | exact Or.inr rfl))) (fun _ _ _ _ _ => (pts_one (pt_cmpR op_eq (pe_ix (ix_listK (K := K) rfl) (pv 5) pe_int (fun _ _ => rfl)) pe_str (nomark _)))) (fun _ _ _ _ _ => (pe_ix (ix_listK (K := K) rfl) (pv 5) pe_int (fun _ _ => rfl)))) pa_nil)) pa_nil)) rfl)
      (pss_cons (ps_if (pt_cmpR op_gt (pe_callB (call_len_seqK (K := K) rfl) rfl T.b_len boot_len (pa_cons (pe_fldK (K := K) rfl (pv 0) rfl) pa_nil)) (pe_glob (v := .int 3) rfl k_MOST_LISTS ⟨_, rfl⟩) (nomark _)) (pss_one ps_never) pss_nil)
      (pss_cons (ps_fld (pv 0) (pe_callTy (call_tuple_ofK (K := K) rfl) rfl T.b_tuple boot_tuple (pa_cons (pe_lc (own := [("words", 5)]) (g := gName 5) (tt := tYes) rfl sc_Functionu_initu.nd (pi_list (pv 2)) (blkOk_by (N := ["self", "text", "parts", "row", "reader", "words", "opener"]) (sc := defScope s_Functionu_initu) (by decide +kernel)) (fun _ _ _ _ _ => (pg_name (i := 5) sc_Functionu_initu.nd rfl (by first | exact Or.inl rfl | exact Or.inr rfl))) (fun _ _ _ _ _ => pts_nil) (fun _ _ _ _ _ => (pe_joinK (K := K) rfl pe_str (pv 5)))) pa_nil)) rfl)
      (pss_cons (ps_fld (pv 0) (pe_callTy (call_tuple_ofK (K := K) rfl) rfl T.b_tuple boot_tuple (pa_cons (pe_fldK (K := K) rfl (pv 4) rfl) pa_nil)) rfl)
      (pss_cons (ps_fld (pv 0) (pe_callTy (call_tuple_ofK (K := K) rfl) rfl T.b_tuple boot_tuple (pa_cons (pe_lc (own := [("words", 5)]) (g := gName 5) (tt := tYes) rfl sc_Functionu_initu.nd (pi_list (pv 2)) (blkOk_by (N := ["self", "text", "parts", "row", "reader", "words", "opener"]) (sc := defScope s_Functionu_initu) (by decide +kernel)) (fun _ _ _ _ _ => (pg_name (i := 5) sc_Functionu_initu.nd rfl (by first | exact Or.inl rfl | exact Or.inr rfl))) (fun _ _ _ _ _ => pts_nil) (fun _ _ _ _ _ => (pe_ifExp (pt_cmpR op_eq (pe_ix (ix_listK (K := K) rfl) (pv 5) pe_int (fun _ _ => rfl)) pe_str (nomark _)) (pe_ix (ix_listK (K := K) rfl) (pv 5) pe_int (fun _ _ => rfl)) pe_non))) pa_nil)) rfl)
      (pss_cons (ps_fld (pv 0) (pe_callTy (call_tuple_ofK (K := K) rfl) rfl T.b_tuple boot_tuple (pa_cons (pe_lc (own := [("words", 5)]) (g := gName 5) (tt := tYes) rfl sc_Functionu_initu.nd (pi_list (pv 2)) (blkOk_by (N := ["self", "text", "parts", "row", "reader", "words", "opener"]) (sc := defScope s_Functionu_initu) (by decide +kernel)) (fun _ _ _ _ _ => (pg_name (i := 5) sc_Functionu_initu.nd rfl (by first | exact Or.inl rfl | exact Or.inr rfl))) (fun _ _ _ _ _ => pts_nil) (fun _ _ _ _ _ => (pe_ifExp (pt_cmpR op_eq (pe_ix (ix_listK (K := K) rfl) (pv 5) pe_int (fun _ _ => rfl)) pe_str (nomark _)) (pe_callTy call_int_str rfl T.b_int boot_int (pa_cons (pe_ix (ix_listK (K := K) rfl) (pv 5) pe_int (fun _ _ => rfl)) pa_nil)) pe_non))) pa_nil)) rfl)
      (pss_cons (ps_fld (pv 0) (pe_callTy (call_tuple_ofK (K := K) rfl) rfl T.b_tuple boot_tuple (pa_cons (pe_fldK (K := K) rfl (pv 4) rfl) pa_nil)) rfl)
      (pss_cons (ps_fld (pv 0) (pe_lock (pe_dc (own := [("opener", 6)]) (g := gName 6) (tt := tYes) rfl sc_Functionu_initu.nd (pi_keys (pe_fldK (K := K) rfl (pv 4) rfl)) (blkOk_by (N := ["self", "text", "parts", "row", "reader", "words", "opener"]) (sc := defScope s_Functionu_initu) (by decide +kernel)) (fun _ _ _ _ _ => (pg_name (i := 6) sc_Functionu_initu.nd rfl (by first | exact Or.inl rfl | exact Or.inr rfl))) (fun _ _ _ _ _ => pts_nil) (fun _ _ _ _ _ => (pv 6)) (fun _ _ _ _ _ => (pe_dget2 (hu_of hr) (pe_fldK (K := K) rfl (pv 4) rfl) (pv 6) pe_non ⟨rfl, rfl, rfl, rfl⟩)))) rfl)
      (pss_one (ps_fld (pv 0) (pe_fldK (K := K) rfl (pv 4) rfl) rfl)))))))))))))))), ?_⟩
    have few := R.few
    refine ⟨_, rfl, _, _, .type "str", .type "str", true, rfl, .ty "str", .base (.str _), rfl, _, rfl, iteF ?_⟩
    refine ⟨_, rfl, ⟨_, rfl⟩, _, _, rfl, rfl, by decide +kernel, ?_, fun p1 n1 => new_at n1 fun H1 s1 h1 => ?_⟩
    · exact sz_le (show (textOf l).length + 2 ≤ 1000 by have := textOf_len R.good; omega) (by decide)
    have e1 : (Txt.split (textOf l) ("\n" : Str)).map V.str = sV (l.map Rw.text) := by
      rw [show ("\n" : Str) = lineS from rfl, split_text R.ne R.good]
    rw [e1] at h1
    refine ⟨p1, rfl, ⟨_, SqL.of h1⟩, fun D nD => ?_⟩
    have hne : ∀ {b : Addr} {o : HO}, H1 b = some o → b ≠ D := fun e => ne_of_none e nD
    refine lc_list (K := K) (a := p1) (xs := sV (l.map Rw.text)) (fun i H' => Off D H1 H' ∧ ∃ ps : List Addr, H' D = some (.lst (ps.map V.ref)) ∧ D ∉ ps ∧ ps.length = i ∧ PartsAt H' ps (l.take i))
      ⟨(Off.refl D H1).put, [], upd_same, (fun h => by cases h), rfl, rfl, fun i r e => by simp at e⟩ (fun i H' _ h => SqL.of (h.1 _ _ (hne h1) h1)) (fun i x H2 hx h => ?_) (fun H2 h => ?_)
    · obtain ⟨f, ps, hD, nps, lps, pa⟩ := h
      obtain ⟨z, rfl, ez⟩ := sV_get hx
      obtain ⟨rw1, er, rfl⟩ : ∃ r, l[i]? = some r ∧ r.text = z := by
        rw [List.getElem?_map] at ez
        cases e : l[i]? with
        | none => rw [e] at ez; cases ez
        | some r => rw [e] at ez; exact ⟨r, rfl, Option.some.inj ez⟩
      have hi : i < l.length := (List.getElem?_eq_some_iff.mp er).1
      have gd := R.good _ (List.mem_of_getElem? er)
      refine ⟨rfl, _, rfl, ⟨_, rfl⟩, _, rfl, rfl, ?_, fun p3 n3 => new_at n3 fun H3 s3 h3 => ?_⟩
      · exact sz_le (show rw1.text.length + 2 ≤ 1000 by have := text_len gd; rw [len_tl]; omega) (by decide)
      rw [words_text gd] at h3
      have hD3 := s3 _ _ hD
      have p3D : p3 ≠ D := none_ne hD n3
      refine ⟨_, hD3, ?_, (f.same s3).put, ps ++ [p3], ?_, ?_, by simp [lps], ?_⟩
      · rw [List.length_map, lps]
        exact Nat.lt_of_lt_of_le hi (Nat.le_trans few (by decide))
      · rw [upd_same, List.map_append] <;> rfl
      · intro h
        rcases List.mem_append.mp h with h | h
        · exact nps h
        · exact p3D (List.mem_singleton.mp h).symm
      · have et : l.take (i + 1) = l.take i ++ [rw1] := by rw [List.take_succ, er] <;> rfl
        rw [et]
        refine ⟨by rw [List.length_append, List.length_append, pa.1] <;> rfl, fun j r e => ?_⟩
        by_cases hj : j < (l.take i).length
        · rw [List.getElem?_append_left hj] at e
          obtain ⟨p, a1, a2⟩ := pa.2 j r e
          refine ⟨p, get_app a1, ?_⟩
          rw [upd_ne (by intro c; subst c; exact nps (List.mem_of_getElem? a1))]
          exact s3 _ _ a2
        · rw [List.getElem?_append_right (Nat.le_of_not_lt hj)] at e
          have j0 : j - (l.take i).length = 0 := by
            have := (List.getElem?_eq_some_iff.mp e).1
            simp only [List.length_singleton] at this
            omega
          rw [j0] at e
          have er2 : r = rw1 := (Option.some.inj e).symm
          subst er2
          refine ⟨p3, ?_, ?_⟩
          · rw [List.getElem?_append_right (by rw [pa.1]; omega), pa.1, j0] <;> rfl
          · rw [upd_ne p3D]
            exact h3
    · obtain ⟨f, ps, hD, nps, lps, pa⟩ := h
      rw [rows_len] at lps pa
      rw [List.take_length] at pa
      have s12 : Same H1 H2 := fun b o e => f b o (hne e) e
      have s02 : Same H H2 := s1.trans s12
      have lpv : (ps.map V.ref).length = l.length := by rw [List.length_map, lps]
      refine ⟨_, rfl, D, _, rfl, .inl (SqL.of hD), _, _, rfl, rfl, _, rfl, ite2 (fun h => absurd (of_decide_eq_true h) (by rw [lpv]; omega)) (fun _ => ?_)⟩
      refine fun x dx2 nx ndx hxd => ⟨x, dx2, rfl, upd_same, fun a H4 ea kp fr RA nw => ⟨rfl, ?_⟩⟩
      subst ea
      have s24 : Same H2 H4 := fun b o e => by
        have b1 : b ≠ a.r := ne_of_none e nx
        have b2 : b ≠ dx2 := ne_of_none e ndx
        refine kp b o b1 ?_
        rw [upd_ne b1, upd_ne b2]
        exact e
      have s04 := s02.trans s24
      have new5 : ∀ b ∈ a.five, H2 b = none := fun b hb => by
        have e := nw b hb
        have b1 : b ≠ a.r := fun c => by rw [c, upd_same] at e; cases e
        have b2 : b ≠ dx2 := fun c => by rw [upd_ne b1, c, upd_same] at e; cases e
        rw [upd_ne b1, upd_ne b2] at e
        exact e
      have old5 : ∀ b o, H2 b = some o → b ∉ a.five := fun b o e c => by
        rw [new5 b c] at e
        cases e
      have nm0 : ∀ r : Rw, atI (sV r.parts) 0 = some (V.str r.word) := fun r => by cases r <;> rfl
      refine ⟨_, rfl, D, _, rfl, SqL.of (s24 _ _ hD), ?_⟩
      refine for_it (walk_enum (K := K) (a := D) (xs := ps.map V.ref)) (fun i σ G => Same H2 G ∧ RdAt (rdr K) G a (rdAll RS.none0 ((l.map Rw.word).take i)) ∧ ∃ x y, σ = [some (.ref r), some (.str (textOf l)), some (.ref D), x, some (.ref a.r), y, none])
        ⟨s24, RA, _, _, rfl⟩ (fun i σ G _ h => SqL.of (h.1 _ _ hD)) (fun i x σ G1 G2 hi h y => ?_) (fun σ G1 h => ?_)
      · obtain ⟨g1, R1, x1, y1, rfl⟩ := h
        obtain ⟨T', x, y', rfl, nT, rfl, ex, ey⟩ := y
        have ex : x = .int (i : Nat) := (Option.some.inj ex).symm
        subst ex
        rw [lpv] at hi
        have er : l[i]? = some l[i] := List.getElem?_eq_getElem hi
        generalize l[i] = rw1 at er
        obtain ⟨p, ep, hp⟩ := pa.2 i rw1 er
        have ey2 : y' = .ref p := by
          have ey : (ps.map V.ref)[i]? = some y' := ey
          rw [List.getElem?_map, ep] at ey
          exact (Option.some.inj ey).symm
        subst ey2
        obtain ⟨st, est, gst, lst, l5, ⟨m, hst⟩, etk⟩ := run_at R er
        rw [← est] at R1
        refine new_at nT fun G3 u3 h3 => ?_
        have hp3 := u3 _ _ (g1 _ _ hp)
        refine ⟨T', _, rfl, SqT.of h3, rfl, _, _, rfl, _, _, rfl, rfl, ?_⟩
        refine ⟨_, rfl, p, rw1, rfl, hp3, R.good _ (List.mem_of_getElem? er), fun G4 u4 => ⟨_, rfl, iteF ?_⟩⟩
        have R4 := R1.same (u3.trans u4)
        have hp4 := u4 _ _ hp3
        refine ⟨_, rfl, a.r, a.dx, _, rfl, R4.ins, rfl, _, rfl, p, _, _, _, rfl, rfl, SqL.of hp4, nm0 rw1, a, st, _, m, rfl, R4, gst, Nat.le_trans l5 (by decide), hst, fun G5 u5 => ⟨_, rfl, iteF ?_⟩⟩
        have R5 := R4.same u5
        have hp5 := u5 _ _ hp4
        have h25 : Same H2 G5 := ((g1.trans u3).trans u4).trans u5
        have i24 : i < 24 := by omega
        refine ⟨_, rfl, a.r, a.dx, _, rfl, R5.ins, rfl, _, rfl, p, _, _, _, rfl, rfl, SqL.of hp5, nm0 rw1, a, st, _, m, rfl, R5, gst, ?_, hst, fun G6 k6 R6 => ⟨fun b o e => k6 b o (old5 b o e) (h25 b o e), ?_, _, _, rfl⟩⟩
        · exact ⟨Nat.le_trans lst.w (by omega), Nat.le_trans lst.s (by omega), Nat.le_trans lst.o (by omega), Nat.le_trans lst.m (by omega), Nat.le_trans lst.e (by omega)⟩
        · rw [← etk]
          exact R6
      · obtain ⟨g1, R1, x1, y1, rfl⟩ := h
        rw [lpv, show l.length = (l.map Rw.word).length from (List.length_map ..).symm, List.take_length] at R1
        have R1 : RdAt (rdr K) G1 a (rdOf l) := R1
        obtain ⟨stk, wds⟩ := run_end R
        refine ⟨_, rfl, a.r, _, a.dx, _, _, rfl, R1.ins, T.c_Reader, T.n_Reader_stack, rd_stack a, false, .inl ⟨_, SqL.of R1.hs, by rw [stk] <;> rfl⟩, iteF ?_⟩
        have hD1 := g1 _ _ hD
        have pa1 : PartsAt G1 ps l := pa.same fun p o _ e => g1 _ _ e
        -- the names of the lists
        refine ⟨_, rfl, D, rfl, ⟨_, SqL.of hD1⟩, fun D3 nD3 => ?_⟩
        have hne3 : ∀ {b : Addr} {o : HO}, G1 b = some o → b ≠ D3 := fun e => ne_of_none e nD3
        refine scT_it (walk_list (K := K) (a := D) (xs := ps.map V.ref)) (fun i G => Off D3 G1 G ∧ ∃ sl : List Str, G D3 = some (TsO P w D3 sl) ∧ sl.Nodup ∧ sl.length ≤ i ∧ ∀ x : Str, x ∈ sl ↔ Rw.each x ∈ l.take i)
          ⟨(Off.refl D3 G1).put, [], upd_same, List.nodup_nil, Nat.le_refl 0, fun x => by simp⟩ (fun i G _ h => SqL.of (h.1 _ _ (hne3 hD1) hD1)) (fun i x G2 G3 hi h y => ?_) (fun G2 h => ?_)
        · obtain ⟨fo, sl, hS, snd, sle, smem⟩ := h
          obtain ⟨eG, hx⟩ := y
          subst eG
          rw [lpv] at hi
          have er : l[i]? = some l[i] := List.getElem?_eq_getElem hi
          generalize l[i] = rw1 at er
          obtain ⟨p, ep, hp⟩ := pa1.2 i rw1 er
          have ex : x = .ref p := by
            rw [List.getElem?_map, ep] at hx
            exact (Option.some.inj hx).symm
          subst ex
          have gd := R.good _ (List.mem_of_getElem? er)
          have hp3 := fo _ _ (hne3 hp) hp
          refine ⟨rfl, _, rfl, p, _, _, _, rfl, rfl, SqL.of hp3, nm0 rw1, rfl, _, rfl, ?_⟩
          rw [dec_str2]
          have et : l.take (i + 1) = l.take i ++ [rw1] := by rw [List.take_succ, er] <;> rfl
          refine ite2 (fun h => ?_) (fun h => ?_)
          · obtain ⟨n, en⟩ := word_each gd (of_decide_eq_true h)
            subst en
            refine ⟨_, rfl, p, _, _, _, rfl, rfl, SqL.of hp3, rfl, n, sl, rfl, hS, ?_, fo.put, _, upd_same, addL_nodup snd, ?_, fun y => ?_⟩
            · have : sl.length + 1 ≤ 1000 := by omega
              exact Nat.lt_of_le_of_lt this (by decide)
            · unfold addL
              split
              · exact Nat.le_succ_of_le sle
              · exact Nat.succ_le_succ sle
            · rw [addL_mem, smem y, et, List.mem_append, List.mem_singleton]
              exact ⟨fun h => h.imp id fun e => by rw [e], fun h => h.imp id fun e => by cases e; rfl⟩
          · refine ⟨fo, sl, hS, snd, Nat.le_succ_of_le sle, fun y => ?_⟩
            rw [smem y, et, List.mem_append, List.mem_singleton]
            refine ⟨.inl, fun h' => h'.elim id fun e => ?_⟩
            subst e
            exact absurd rfl (fun c => h (decide_eq_true c))
        · obtain ⟨fo, sl, hS, snd, sle, smem⟩ := h
          rw [lpv] at smem
          rw [List.take_length] at smem
          have sl3 : sl.length ≤ 3 := by
            obtain ⟨ns, n3, nm⟩ := R.ns
            exact Nat.le_trans (nodup_le snd fun x hx => nm x ((smem x).mp hx)) n3
          have s2 : Same G1 G2 := fun b o e => fo b o (hne3 e) e
          refine ⟨D3, sl, rfl, hS, by omega, fun ys p4 pm srt n4 => new_at n4 fun G4 s4 h4 => ⟨p4, _, rfl, .inl ⟨SqL.of h4, fun p5 n5 => new_at n5 fun G5 s5 h5 => ?_⟩⟩⟩
          have neD : D ≠ r := by
            have e := s02 _ _ hi0
            exact ne_of hD e (by intro c; cases c)
          have nps2 : r ∉ ps := fun c => by
            obtain ⟨i, hi⟩ := List.getElem?_of_mem c
            have hil : i < l.length := by
              have := (List.getElem?_eq_some_iff.mp hi).1
              omega
            obtain ⟨p, ep, hp⟩ := pa.2 i l[i] (List.getElem?_eq_getElem hil)
            rw [hi] at ep
            cases ep
            rw [s02 _ _ hi0] at hp
            cases hp
          have hr2 := s02 _ _ hi0
          have na : r ∉ a.r :: a.five := fun c => by
            rcases List.mem_cons.mp c with c | c
            · exact (ne_of_none hr2 nx) c
            · exact old5 _ _ hr2 c
          have B1 : Bd (rdr K) r D ps l a H G1 := ⟨Off.of (s02.trans g1), R1, hD1, pa1, neD, nps2, na⟩
          have B5 := (B1.same s2).same (s4.trans s5)
          have hi5 := s5 _ _ (s4 _ _ (s2 _ _ (g1 _ _ hr2)))
          have hr4 := s4 _ _ (s2 _ _ (g1 _ _ hr2))
          have r5 := none_ne hr4 n5
          refine ⟨_, rfl, r, _, dx, _, rfl, hi5, T.c_Function, T.n_Function_lists, by show 0 < 1000; decide, put_at fun G6 f6 b6 i6 => ?_⟩
          have B6 := B5.put f6
          have o5 := f6 _ _ r5 h5
          refine ⟨_, rfl, r, _, dx, _, _, rfl, i6, T.c_Function, T.n_Function_lists, rfl, p5, _, rfl, .inr (SqT.of o5), _, _, rfl, rfl, _, rfl, ite2 (fun h => absurd (of_decide_eq_true h) (by rw [List.length_map, pm.length_eq]; omega)) (fun _ => ?_)⟩
          refine ⟨_, rfl, D, rfl, ⟨_, SqL.of B6.hD⟩, fun D7 n7 => lc_rows B6.hD B6.pa few n7 (fun r => V.str r.text) (fun _ => rfl) (fun G rw1 p Q s mr hp k => ?_) (fun G7 s7 h7 => ⟨D7, _, rfl, .inl ⟨SqL.of h7, fun p8 n8 => new_at n8 fun G8 s8 h8 => ?_⟩⟩)⟩
          · refine ⟨⟨_, rfl⟩, _, rfl, blankS, p, rw1.parts, rfl, rfl, .inl (SqL.of hp), parts_sum (R.good _ mr), ?_⟩
            rw [join_parts]
            exact k G (Same.refl G)
          have B8 := (B6.same s7).same s8
          have r8 := none_ne (s7 _ _ i6) n8
          refine ⟨_, rfl, r, _, dx, _, rfl, s8 _ _ (s7 _ _ i6), T.c_Function, T.n_Function_rows, by show 1 < 1000; decide, put_at fun G9 f9 b9 i9 => ?_⟩
          have B9 := B8.put f9
          have o5 := f9 _ _ r5 (s8 _ _ (s7 _ _ o5))
          have o8 := f9 _ _ r8 h8
          -- words
          refine ⟨_, rfl, a.r, _, a.dx, _, _, rfl, B9.rd.ins, T.c_Reader, T.n_Reader_words, rd_words a, a.w, _, rfl, .inl ⟨SqL.of B9.rd.hw, fun p10 n10 => new_at n10 fun G10 s10 h10 => ⟨_, rfl, r, _, dx, _, rfl, s10 _ _ i9, T.c_Function, T.n_Function_words, by show 2 < 1000; decide, put_at fun G11 f11 b11 i11 => ?_⟩⟩⟩
          have r10 := none_ne i9 n10
          have B11 := (B9.same s10).put f11
          have o5 := f11 _ _ r5 (s10 _ _ o5)
          have o8 := f11 _ _ r8 (s10 _ _ o8)
          have o10 := f11 _ _ r10 h10
          -- names
          refine ⟨_, rfl, D, rfl, ⟨_, SqL.of B11.hD⟩, fun D12 n12 => lc_rows B11.hD B11.pa few n12 nmV (fun _ => rfl) (fun G rw1 p Q s mr hp k => ?_) (fun G12 s12 h12 => ⟨D12, _, rfl, .inl ⟨SqL.of h12, fun p13 n13 => new_at n13 fun G13 s13 h13 => ?_⟩⟩)⟩
          · have gd := R.good _ mr
            refine ⟨_, rfl, p, _, _, _, rfl, rfl, SqL.of hp, nm0 rw1, rfl, _, rfl, ?_⟩
            rw [dec_str2]
            refine ite2 (fun h => ?_) (fun h => ?_)
            · obtain ⟨n, en⟩ := word_each gd (of_decide_eq_true h)
              subst en
              exact ⟨_, rfl, p, _, _, _, rfl, rfl, SqL.of hp, rfl, k G (Same.refl G)⟩
            · have e : nmV rw1 = .non := by
                cases rw1 with
                | each n => exact absurd (decide_eq_true (p := Rw.word (.each n) = "each") rfl) h
                | one w => rfl
                | retry w => rfl
              have z := k G (Same.refl G)
              rw [e] at z
              exact z
          have r13 := none_ne (s12 _ _ i11) n13
          have B13 := (B11.same s12).same s13
          refine ⟨_, rfl, r, _, dx, _, rfl, s13 _ _ (s12 _ _ i11), T.c_Function, T.n_Function_names, by show 3 < 1000; decide, put_at fun G14 f14 b14 i14 => ?_⟩
          have B14 := B13.put f14
          have k1114 : ∀ b o, b ≠ r → G11 b = some o → G14 b = some o := fun b o n e => f14 _ _ n (s13 _ _ (s12 _ _ e))
          have o5 := k1114 _ _ r5 o5
          have o8 := k1114 _ _ r8 o8
          have o10 := k1114 _ _ r10 o10
          have o13 := f14 _ _ r13 h13
          -- tries
          refine ⟨_, rfl, D, rfl, ⟨_, SqL.of B14.hD⟩, fun D15 n15 => lc_rows B14.hD B14.pa few n15 trV (fun _ => rfl) (fun G rw1 p Q s mr hp k => ?_) (fun G15 s15 h15 => ⟨D15, _, rfl, .inl ⟨SqL.of h15, fun p16 n16 => new_at n16 fun G16 s16 h16 => ?_⟩⟩)⟩
          · have gd := R.good _ mr
            refine ⟨_, rfl, p, _, _, _, rfl, rfl, SqL.of hp, nm0 rw1, rfl, _, rfl, ?_⟩
            rw [dec_str2]
            refine ite2 (fun h => ?_) (fun h => ?_)
            · obtain ⟨n, en⟩ := word_retry gd (of_decide_eq_true h)
              subst en
              exact ⟨_, rfl, p, _, _, _, rfl, rfl, SqL.of hp, rfl, n, tyV3 n, rfl, (int3 gd).1, (int3 gd).2, k G (Same.refl G)⟩
            · have e : trV rw1 = .non := by
                cases rw1 with
                | retry n => exact absurd (decide_eq_true (p := Rw.word (.retry n) = "retry") rfl) h
                | one w => rfl
                | each w => rfl
              have z := k G (Same.refl G)
              rw [e] at z
              exact z
          have r16 := none_ne (s15 _ _ i14) n16
          have B16 := (B14.same s15).same s16
          refine ⟨_, rfl, r, _, dx, _, rfl, s16 _ _ (s15 _ _ i14), T.c_Function, T.n_Function_tries, by show 4 < 1000; decide, put_at fun G17 f17 b17 i17 => ?_⟩
          have B17 := B16.put f17
          have k1417 : ∀ b o, b ≠ r → G14 b = some o → G17 b = some o := fun b o n e => f17 _ _ n (s16 _ _ (s15 _ _ e))
          have o5 := k1417 _ _ r5 o5
          have o8 := k1417 _ _ r8 o8
          have o10 := k1417 _ _ r10 o10
          have o13 := k1417 _ _ r13 o13
          have o16 := f17 _ _ r16 h16
          -- openers
          refine ⟨_, rfl, a.r, _, a.dx, _, _, rfl, B17.rd.ins, T.c_Reader, T.n_Reader_openers, rd_openers a, a.o, _, rfl, .inl ⟨SqL.of B17.rd.ho, fun p18 n18 => new_at n18 fun G18 s18 h18 => ⟨_, rfl, r, _, dx, _, rfl, s18 _ _ i17, T.c_Function, T.n_Function_openers, by show 5 < 1000; decide, put_at fun G19 f19 b19 i19 => ?_⟩⟩⟩
          have r18 := none_ne i17 n18
          have B19 := (B17.same s18).put f19
          have k1719 : ∀ b o, b ≠ r → G17 b = some o → G19 b = some o := fun b o n e => f19 _ _ n (s18 _ _ e)
          have o5 := k1719 _ _ r5 o5
          have o8 := k1719 _ _ r8 o8
          have o10 := k1719 _ _ r10 o10
          have o13 := k1719 _ _ r13 o13
          have o16 := k1719 _ _ r16 o16
          have o18 := f19 _ _ r18 h18
          -- middles
          have re_ : a.r ≠ a.e := ne_of B19.rd.ins B19.rd.he (by intro e; cases e)
          refine ⟨a.e, _, B19.rd.he, trivial, fun od => put_at fun GL fL bL iL => ?_⟩
          have insL := fL _ _ re_ B19.rd.ins
          have hmL := fL _ _ B19.rd.me B19.rd.hm
          have elen : (rdOf l).ends.length ≤ 24 := by
            have q := rdAll_le (l.map Rw.word) (st := RS.none0) (n := 0) ⟨Nat.le_refl _, Nat.le_refl _, Nat.le_refl _, Nat.le_refl _, Nat.le_refl _⟩
            have := q.e
            rw [List.length_map, Nat.zero_add] at this
            exact Nat.le_trans this few
          refine ⟨_, rfl, a.r, _, a.dx, _, _, rfl, insL, T.c_Reader, T.n_Reader_ends, rd_ends a, a.e, od, rfl, .inl ⟨_, iL, fun D20 n20 => ?_⟩⟩
          have hne20 : ∀ {b : Addr} {o : HO}, GL b = some o → b ≠ D20 := fun e => ne_of_none e n20
          refine dc_it (walk_keys (d := a.e) (o := od) (kvs := kN (rdOf l).ends)) (fun i G => Off D20 GL G ∧ G D20 = some (.dK (midK (rdOf l) ((rdOf l).ends.take i)))) ⟨(Off.refl D20 GL).put, upd_same⟩ (fun i G _ h => h.1 _ _ (hne20 iL) iL) (fun i x G G2 hi h y => ?_) (fun G h => ?_)
          · obtain ⟨fo, hG⟩ := h
            obtain ⟨rfl, kk, v, ek, rfl⟩ := y
            obtain ⟨e0, ee, ekk⟩ : ∃ e0, (rdOf l).ends[i]? = some e0 ∧ kk = Sum.inl (e0.1 : Int) := by
              unfold kN at ek
              rw [List.getElem?_map] at ek
              cases e : (rdOf l).ends[i]? with
              | none => rw [e] at ek; cases ek
              | some e0 =>
                rw [e] at ek
                refine ⟨e0, rfl, ?_⟩
                exact (congrArg Prod.fst (Option.some.inj ek)).symm
            subst ekk
            refine ⟨rfl, _, rfl, _, rfl, a.r, _, a.dx, _, _, rfl, fo _ _ (hne20 insL) insL, T.c_Reader, T.n_Reader_middles, rd_middles a, a.m, rfl, .inl ⟨_, .inl (fo _ _ (hne20 hmL) hmL)⟩, _, rfl, _, DGet.k (k := Sum.inl (e0.1 : Int)) (fo _ _ (hne20 hmL) hmL), _, _, rfl, hG, ?_, fo.put, ?_⟩
            · refine Nat.lt_of_le_of_lt (Nat.le_trans (midK_len _ _) (Nat.le_trans (List.length_take_le' ..) elen)) (by decide)
            · rw [upd_same]
              have e2 : midK (rdOf l) ((rdOf l).ends.take (i + 1)) = putK (midK (rdOf l) ((rdOf l).ends.take i)) (Sum.inl (e0.1 : Int)) (oV ((rdOf l).mids.lookup e0.1)) := take_fold _ _ ee
              rw [e2, valV_kN]
              cases (rdOf l).mids.lookup e0.1 <;> rfl
          · obtain ⟨fo, hG⟩ := h
            have len : (kN (rdOf l).ends).length = (rdOf l).ends.length := kN_len _
            rw [len, List.take_length] at hG
            have iG := fo _ _ (hne20 iL) iL
            refine ⟨iG, put_at fun G21 f21 b21 i21 => ?_⟩
            have Dae : D20 ≠ a.e := none_ne iL n20
            have h21 := f21 _ _ Dae hG
            have k1921 : ∀ b o, b ≠ a.e → G19 b = some o → G21 b = some o := fun b o n e => f21 _ _ n (fo _ _ (hne20 (fL _ _ n e)) (fL _ _ n e))
            have s1921 : Same G19 G21 := fun b o e => by
              by_cases c : b = a.e
              · subst c
                rw [B19.rd.he] at e
                cases e
                exact i21
              · exact k1921 b o c e
            have B21 := B19.same s1921
            have r20 : D20 ≠ r := none_ne (fL _ _ (ne_of i19 B19.rd.he (by intro e; cases e)) i19) n20
            refine ⟨_, rfl, r, _, dx, _, rfl, s1921 _ _ i19, T.c_Function, T.n_Function_middles, by show 6 < 1000; decide, put_at fun G22 f22 b22 i22 => ?_⟩
            have B22 := B21.put f22
            refine ⟨_, rfl, a.r, _, a.dx, _, _, rfl, B22.rd.ins, T.c_Reader, T.n_Reader_ends, rd_ends a, _, rfl, r, _, dx, _, rfl, i22, T.c_Function, T.n_Function_ends, by show 7 < 1000; decide, put_at fun G23 f23 b23 i23 => ?_⟩
            have B23 := B22.put f23
            have k1923 : ∀ b o, b ≠ r → G19 b = some o → G23 b = some o := fun b o n e => f23 _ _ n (f22 _ _ n (s1921 _ _ e))
            have e8 : G23 p8 = some (.tup (sV (l.map Rw.text))) := by
              show _ = some (HO.tup ((l.map Rw.text).map V.str))
              rw [List.map_map]
              exact k1923 _ _ r8 o8
            have e10 : G23 p10 = some (.tup (sV (l.map Rw.word))) := by
              rw [← wds]
              exact k1923 _ _ r10 o10
            refine q ⟨r, dx, p5, p8, p10, p13, p16, p18, D20, a.e⟩ G23 rfl B23.off ⟨i23, e8, e10, k1923 _ _ r13 o13, k1923 _ _ r16 o16, k1923 _ _ r18 o18, f23 _ _ r20 (f22 _ _ r20 h21), B23.rd.he, ys, k1923 _ _ r5 o5, srt, pm.nodup_iff.mpr snd, fun x => pm.mem_iff.trans (smem x)⟩ (fun b hb => ?_)
            simp only [FA.eight, List.mem_cons, List.not_mem_nil, or_false] at hb
            rcases hb with e | e | e | e | e | e | e | e <;> subst e
            · exact ((B1.same s2).same s4).off.free r5 n5
            · exact (B6.same s7).off.free r8 n8
            · exact B9.off.free r10 n10
            · exact (B11.same s12).off.free r13 n13
            · exact (B14.same s15).off.free r16 n16
            · exact B17.off.free r18 n18
            · exact B19.off.free r20 (bL _ n20)
            · exact s02.free (new5 _ (by unfold Ow.RA.five; simp))
end

/-! ### shields: which rows wait, the rows with some of them shielded -/
def OpsOk (st : RS) : Prop := st.openers.length = st.words.length ∧ ∀ (i k : Nat), st.openers[i]? = some (some k) → k < i
theorem ops_take {st : RS} (g : Good st) (h : OpsOk st) (w : Str) : OpsOk (st.take w) := by
  refine ⟨?_, fun i k e => ?_⟩
  · show (st.openers ++ [st.top]).length = (st.words ++ [w]).length
    rw [List.length_append, List.length_append, h.1] <;> rfl
  · have e' : (st.openers ++ [st.top])[i]? = some (some k) := e
    by_cases hi : i < st.openers.length
    · rw [List.getElem?_append_left hi] at e'
      exact h.2 i k e'
    · rw [List.getElem?_append_right (Nat.le_of_not_lt hi)] at e'
      have h0 : i - st.openers.length = 0 := by
        have := (List.getElem?_eq_some_iff.mp e').1
        simp only [List.length_singleton] at this
        omega
      rw [h0] at e'
      have et : st.top = some k := Option.some.inj e'
      rcases last_cases st.stack with q | ⟨ks, p, q⟩
      · unfold RS.top at et
        rw [q] at et
        cases et
      · rw [RS.top_some q] at et
        have lt := (g.ok p (by rw [q]; simp)).lt
        have ek : p.1 = k := Option.some.inj et
        have := h.1
        omega
theorem ops_all {mx : Nat} : ∀ {ws : List Str} {st : RS} {m : List Str}, Good st → OpsOk st → runM mx st.modes ws = some m → OpsOk (rdAll st ws)
  | [], st, m, _, o, _ => o
  | w :: r, st, m, g, o, h => by
    have h' : (match stp st.modes w with
      | none => none
      | some m => if m.length ≤ mx then runM mx m r else none) = some m := h
    cases e : stp st.modes w with
    | none => rw [e] at h'; cases h'
    | some k =>
      rw [e] at h'
      have h2 : (if k.length ≤ mx then runM mx k r else none) = some m := h'
      split at h2
      · obtain ⟨g2, e2⟩ := take_good g e
        exact ops_all (ws := r) (st := st.take w) g2 (ops_take g o w) (by rw [e2]; exact h2)
      · cases h2
theorem rows_ops {l : List Rw} (R : Rows l) : (rdOf l).openers.length = l.length ∧ ∀ (i k : Nat), (rdOf l).openers[i]? = some (some k) → k < i := by
  have q : OpsOk (rdOf l) := ops_all (mx := 5) (ws := l.map Rw.word) Good.none0 ⟨rfl, fun i k e => by cases e⟩ R.run
  refine ⟨?_, q.2⟩
  rw [q.1, (run_end R).2, List.length_map]
def shO (os : List (Option Nat)) (ws : List Str) : Nat → Option Nat → Bool
  | 0, _ => false
  | _ + 1, none => false
  | n + 1, some o => if ws[o]? = some ("shield" : Str) then true else shO os ws n (os[o]?.getD none)
def shRow (l : List Rw) (i : Nat) : Bool := shO (rdOf l).openers (l.map Rw.word) (i + 1) ((rdOf l).openers[i]?.getD none)
def waitWords : List Str := ["read", "head", "body", "finish", "pause"]
def isWait (l : List Rw) (i : Nat) : Bool := match l[i]? with
  | some r => decide (r.word ∈ waitWords) && !shRow l i
  | none => false
def waitsOf (l : List Rw) : List Nat := (List.range l.length).filter (isWait l)
def shFrom (rows : List Nat) : Nat → List Rw → List Rw
  | _, [] => []
  | k, r :: t => (if k ∈ rows then [.one "shield", r, .one "end"] else [r]) ++ shFrom rows (k + 1) t
theorem shFrom_app (rows : List Nat) : ∀ (a b : List Rw) (k : Nat), shFrom rows k (a ++ b) = shFrom rows k a ++ shFrom rows (k + a.length) b
  | [], b, k => rfl
  | r :: t, b, k => by
    show (if k ∈ rows then _ else _) ++ shFrom rows (k + 1) (t ++ b) = _
    rw [shFrom_app rows t b (k + 1), ← List.append_assoc, show k + 1 + t.length = k + (r :: t).length by simp; omega] <;> rfl
theorem shFrom_mem {rows : List Nat} : ∀ {l : List Rw} {k : Nat} {r : Rw}, r ∈ shFrom rows k l → r ∈ l ∨ r = .one "shield" ∨ r = .one "end"
  | q :: t, k, r, h => by
    have h' : r ∈ (if k ∈ rows then [Rw.one "shield", q, .one "end"] else [q]) ++ shFrom rows (k + 1) t := h
    rcases List.mem_append.mp h' with h | h
    · split at h
      · simp only [List.mem_cons, List.not_mem_nil, or_false] at h
        rcases h with e | e | e
        · exact .inr (.inl e)
        · exact .inl (by rw [e]; exact List.mem_cons_self ..)
        · exact .inr (.inr e)
      · exact .inl (by rw [List.mem_singleton.mp h]; exact List.mem_cons_self ..)
    · exact (shFrom_mem h).imp (List.mem_cons_of_mem _) id
theorem shFrom_len : ∀ {l : List Rw} {k : Nat} {rows : List Nat}, (shFrom rows k l).length ≤ l.length + 2 * rows.length
  | [], _, _ => Nat.zero_le _
  | r :: t, k, rows => by
    show ((if k ∈ rows then [Rw.one "shield", r, .one "end"] else [r]) ++ shFrom rows (k + 1) t).length ≤ t.length + 1 + 2 * rows.length
    rw [List.length_append]
    split
    · rename_i h
      have e : ∀ (l : List Rw) (j : Nat), k < j → shFrom rows j l = shFrom (rows.erase k) j l := by
        intro l
        induction l with
        | nil => intro j _; rfl
        | cons q t ih =>
          intro j hj
          show (if j ∈ rows then _ else _) ++ shFrom rows (j + 1) t = (if j ∈ rows.erase k then _ else _) ++ shFrom (rows.erase k) (j + 1) t
          rw [ih (j + 1) (Nat.lt_succ_of_lt hj)]
          have em : j ∈ rows.erase k ↔ j ∈ rows := List.mem_erase_of_ne (by omega)
          by_cases c : j ∈ rows
          · rw [if_pos c, if_pos (em.mpr c)]
          · rw [if_neg c, if_neg fun z => c (em.mp z)]
      rw [e t (k + 1) (Nat.lt_succ_self k)]
      have ih := shFrom_len (l := t) (k := k + 1) (rows := rows.erase k)
      rw [List.length_erase_of_mem h] at ih
      have := List.length_pos_of_mem h
      show 3 + _ ≤ _
      omega
    · have ih := shFrom_len (l := t) (k := k + 1) (rows := rows)
      show 1 + _ ≤ _
      omega
theorem run_shield {mx : Nat} (h4 : mx ≤ 4) (rows : List Nat) : ∀ (l : List Rw) (k : Nat) (ms m : List Str), ms.length ≤ mx → (∀ i r, l[i]? = some r → k + i ∈ rows → r.word ∈ softWords) → runM mx ms (l.map Rw.word) = some m → runM 5 ms ((shFrom rows k l).map Rw.word) = some m
  | [], _, _, _, _, _, h => h
  | r :: t, k, ms, m, hl, hs, h => by
    have h' : (match stp ms r.word with
      | none => none
      | some m => if m.length ≤ mx then runM mx m (t.map Rw.word) else none) = some m := h
    cases e : stp ms r.word with
    | none => rw [e] at h'; cases h'
    | some q =>
      rw [e] at h'
      have h2 : (if q.length ≤ mx then runM mx q (t.map Rw.word) else none) = some m := h'
      split at h2
      · rename_i c
        have ih := run_shield h4 rows t (k + 1) q m c (fun i r' e' hi => hs (i + 1) r' (by simpa using e') (by rw [show k + (i + 1) = k + 1 + i by omega]; exact hi)) h2
        show runM 5 ms (((if k ∈ rows then [Rw.one "shield", r, .one "end"] else [r]) ++ shFrom rows (k + 1) t).map Rw.word) = some m
        rw [List.map_append, runM_app]
        by_cases hk : k ∈ rows
        · have sf := hs 0 r rfl hk
          have eq : q = ms := by
            rw [stp_soft sf] at e
            exact (Option.some.inj e).symm
          subst eq
          rw [if_pos hk]
          have o := stp_open (ms := q) (w := "shield") (by decide +kernel) (by omega) (fun c => absurd c (by decide +kernel)) (fun c => absurd c (by decide +kernel))
          have e1 : runM 5 q (([Rw.one "shield", r, .one "end"] : List Rw).map Rw.word) = some q := by
            show runM 5 q [("shield" : Str), r.word, "end"] = some q
            rw [runM_cons o (by simp; omega), runM_cons (stp_soft sf _) (by simp; omega), runM_cons (stp_end (by decide +kernel)) (by omega)] <;> rfl
          rw [e1]
          exact ih
        · rw [if_neg hk]
          have e1 : runM 5 ms (([r] : List Rw).map Rw.word) = some q := runM_cons e (by omega)
          rw [e1]
          exact ih
      · cases h2
/-- rows that may be shielded -/
structure Deep4 (l : List Rw) : Prop where
  rows : Rows l
  run : runM 4 [] (l.map Rw.word) = some []
theorem wait_word {l : List Rw} {i : Nat} (h : i ∈ waitsOf l) : ∃ r, l[i]? = some r ∧ r.word ∈ waitWords := by
  have h2 := (List.mem_filter.mp h).2
  unfold isWait at h2
  cases e : l[i]? with
  | none => rw [e] at h2; cases h2
  | some r =>
    rw [e] at h2
    exact ⟨r, rfl, of_decide_eq_true (Bool.and_eq_true_iff.mp h2).1⟩
theorem wait_soft : ∀ w ∈ waitWords, w ∈ softWords := by decide +kernel
theorem rows_shield {l : List Rw} (D : Deep4 l) {rows : List Nat} (h : ∀ i ∈ rows, i ∈ waitsOf l) (few : l.length + 2 * rows.length ≤ 24) : Rows (shFrom rows 0 l) := by
  refine ⟨?_, Nat.le_trans shFrom_len few, fun r hr => ?_, ?_, ?_⟩
  · cases l with
    | nil => exact absurd rfl D.rows.ne
    | cons r t =>
      intro c
      have c' : (if 0 ∈ rows then [Rw.one "shield", r, .one "end"] else [r]) ++ shFrom rows 1 t = [] := c
      split at c' <;> cases c'
  · rcases shFrom_mem hr with e | e | e
    · exact D.rows.good r e
    · subst e; exact (by decide +kernel : ("shield" : Str) ∈ oneWords)
    · subst e; exact (by decide +kernel : ("end" : Str) ∈ oneWords)
  · obtain ⟨ns, n3, nm⟩ := D.rows.ns
    refine ⟨ns, n3, fun n hn => ?_⟩
    rcases shFrom_mem hn with e | e | e
    · exact nm n e
    · cases e
    · cases e
  · refine run_shield (Nat.le_refl 4) rows l 0 [] [] (Nat.zero_le _) (fun i r e hi => ?_) D.run
    rw [Nat.zero_add] at hi
    obtain ⟨r', e', w⟩ := wait_word (h i hi)
    rw [e] at e'
    cases e'
    exact wait_soft _ w

/-! ### enumerate over a tuple -/
theorem draws_tup {prog : Program} {w : World} {A : Around} (hh : A.handled = none) (it l : Addr) (hne : l ≠ it) (items : Array Value) :
    Draws prog w A it [it, l] items.size (fun i v => items[i]? = some v) (fun i h => h.IsTupleIter it l i ∧ h.IsTuple l items) where
  live := fun _ _ st => st.1.elim fun o e => ⟨o, e.1⟩
  frame := fun _ _ _ st k => ⟨st.1.at fun o e => k it (List.mem_cons_self ..) o e, let ⟨o, e, r⟩ := st.2; ⟨o, k l (by simp) o e, r⟩⟩
  item := fun i s Q E hi st q => RZ.nextOf_tuple_item st.1 st.2 (x := items[i]) (Array.getElem?_eq_getElem hi) fun h' a b => q _ h' s.toks (Array.getElem?_eq_getElem hi) ⟨a, st.2.extBut b.extBut hne⟩ b
  done := fun s Q E st q => RZ.nextOf_tuple_end hh st.1 st.2 (Array.getElem?_eq_none (Nat.le_refl _)) q
open AutoSeq1 (wpAny_loadPart') in
theorem enum_new_tup (l : Addr) (items : Array Value) (n : Nat) (dct : Option Addr) (sl : Array (Option Value)) :
    Meets (Builtin.«enumerate.__new__» ⟨[.type "enumerate", .ref l], []⟩) (fun _ R s => s.heap.get? l = some { cls := .type "tuple", dict := dct, data := .seq items n, slots := sl } ∧
      R (.ok (.ret (.ref (s.heap.push { cls := .type "tuple_iterator", data := .fields #[.ref l, .int 0 0] }).objs.size)))
        { s with heap := (s.heap.push { cls := .type "tuple_iterator", data := .fields #[.ref l, .int 0 0] }).push { cls := .type "enumerate", data := .fields #[.none, .bool false, .ref s.heap.objs.size, rawInt 0, .none, .none] } }) :=
  .of_wp fun prog w A R s h => by
    obtain ⟨hp, g, d, tk, os⟩ := s
    obtain ⟨hl, h⟩ := h
    have sb := sub_enumerate
    have tup : Heap.IsTuple (Shared.heap ⟨hp, g, d, tk, os⟩) l items := ⟨_, hl, rfl, n, rfl⟩
    wp_walk using wpAny_loadPart' hl
    refine wpAny_stack_any fun st => wpAny_pure ?_
    split
    · rename_i c _ _ _ _ _
      cases (c == Value.type "enumerate") <;> (wp_walk using wpAny_loadPart' hl, wpAny_pyIter_tuple tup; exact ⟨_, rfl, h⟩)
    · wp_walk using wpAny_loadPart' hl, wpAny_pyIter_tuple tup
      exact ⟨_, rfl, h⟩
section
variable {prog : Program} {w : World} {A : Around} {E : Value → Shared → Prop} {s : Shared}
theorem call_enum_tup {l : Addr} {items : Array Value} {Q : Value → Shared → Prop} (tup : s.heap.IsTuple l items)
    (h : ∀ h', IsEnum h' (s.heap.objs.size + 1) s.heap.objs.size 0 .none → h'.IsTupleIter s.heap.objs.size l 0 → (∀ b o, s.heap.get? b = some o → h'.get? b = some o) → Q (.ref (s.heap.objs.size + 1)) { s with heap := h' }) :
    wpAny (model prog w) A (call (.type "enumerate") [.ref l]) Q E s := by
  obtain ⟨⟨c, dct, dt, sl⟩, hl, hc, n, hd⟩ := tup
  obtain rfl : c = .type "tuple" := hc
  obtain rfl : dt = .seq items n := hd
  refine callType_new F.called_enumerate (by decide) (F.typeCall_enumerate_1 _) (F.newCall_enumerate_1 _) (fun obj => F.args_object_init_2 obj _) F.entry_enumerate_new (enum_new_tup l items n dct sl) ⟨hl, ?_⟩
  generalize eo : ({ cls := .type "tuple_iterator", data := .fields #[.ref l, .int 0 0] } : Obj) = o1
  have sz : (s.heap.push o1).objs.size = s.heap.objs.size + 1 := Heap.size_push ..
  show _ ∧ _
  rw [sz]
  have en := Heap.get?_push_size (s.heap.push o1) (o := { cls := .type "enumerate", data := .fields #[.none, .bool false, .ref s.heap.objs.size, rawInt 0, .none, .none] }) rfl
  rw [sz] at en
  have i1 : (s.heap.push o1).get? s.heap.objs.size = some o1 := Heap.get?_push_size _ (by subst eo; rfl)
  exact ⟨⟨_, en, rfl⟩, h _ en ⟨o1, Heap.get?_push_of_some _ i1, by subst eo; rfl, by subst eo; rfl⟩ fun b o e => Heap.get?_push_of_some _ (Heap.get?_push_of_some _ e)⟩
end
/-- the tuple at a, each item in a new pair -/
def IteT (K : PySem.W.Frag) (a : Addr) : It :=
  ⟨fun i H => ∃ (xs : List V) (x : V), SqT K H a xs ∧ xs[i]? = some x, fun i H v H' => ∃ T x, v = .ref T ∧ H T = none ∧ H' = upd H T (.tup [.int (i : Nat), x]) ∧ ∀ xs, SqT K H a xs → xs[i]? = some x, fun i H => ∃ xs : List V, SqT K H a xs ∧ xs.length = i⟩
theorem turn_enumT {P : Program} {w : World} {K : PySem.W.Frag} {elts : List Expr} {kk : Nat} {tpos : Pos} (a e it : Addr) :
    Turn P w K (.Tuple elts kk tpos) (IteT K a) [e, it] e (fun i h => (∃ old, IsEnum h e it ((i : Nat) : Int) old) ∧ h.IsTupleIter it a i ∧ e ≠ it) where
  mem := List.mem_cons_self ..
  obj := fun i h st b hb => by
    obtain ⟨⟨_, en⟩, ⟨o, ho, _, hd⟩, _⟩ := st
    rcases List.mem_cons.mp hb with z | z
    · subst z
      exact ⟨_, en, fun v c => nomatch c⟩
    · rw [List.mem_singleton.mp z]
      exact ⟨o, ho, fun v c => by rw [hd] at c; cases c⟩
  keep := fun i h h' st k => ⟨st.1.elim fun old en => ⟨old, k e (List.mem_cons_self ..) _ en⟩, st.2.1.at fun o c => k it (by simp) o c, st.2.2⟩
  item := by
    intro X hP hw hK hc i pins s σ H E I hf st hg
    subst hP hw hK
    obtain ⟨⟨old, en⟩, ti, ne⟩ := st
    obtain ⟨xs, x, hq, hx⟩ := hg
    obtain ⟨its, rv, tp, _⟩ := I.tuple hq
    have tup : s.heap.IsTuple a its.toArray := tp
    obtain ⟨u, hu, ru⟩ := rv.get hx
    have lt : i < its.toArray.size := by
      rw [List.size_toArray]
      exact (List.getElem?_eq_some_iff.mp hu).1
    have ait : a ≠ it := fun c => by
      obtain ⟨o1, e1, c1, _⟩ := tup
      obtain ⟨o2, e2, c2, _⟩ := ti
      rw [c, e2] at e1
      have eo : o2 = o1 := Option.some.inj e1
      rw [eo] at c2
      exact absurd (Value.type.inj (c1.symm.trans c2)) (by decide)
    have ae : e ≠ a := fun c => by
      obtain ⟨o1, e1, c1, _⟩ := tup
      rw [← c] at e1
      have e2 : s.heap.get? e = some _ := en
      rw [e2] at e1
      have eo := Option.some.inj e1
      rw [← eo] at c1
      exact absurd (Value.type.inj c1) (by decide)
    have el := Heap.lt_size (show s.heap.get? e = some _ from en)
    have il : it < s.heap.objs.size := ti.elim fun o c => Heap.lt_size c.1
    refine wpAny_pyNext_enum_itemD (draws_tup (A := X.A.in1) (I.ok.hd hc) it a ait its.toArray) en ⟨ti, tup⟩ lt ne (by simp [ne, ae]) fun y h' tk hy out st' hT hsz hk => ?_
    have hyu : y = u := by
      have hy : its.toArray[i]? = some y := hy
      rw [List.getElem?_toArray, hu] at hy
      exact (Option.some.inj hy).symm
    subst hyu
    refine ⟨_, rfl, wpAny_letOwnedTupleGo_enum (s := { s with heap := h', toks := tk + 1 }) out fun h2 en2 sb => ?_⟩
    have hT2 : h2.get? s.heap.objs.size = some { cls := .type "tuple", data := .seq #[.int i tk, y] } := (sb.2 _ (Nat.ne_of_gt el)).trans hT
    have new : ObjOk X.prog X.w (upd H s.heap.objs.size (.tup [.int (i : Nat), x])) h2 s.heap.objs.size (.tup [.int (i : Nat), x]) :=
      ⟨by show 2 ≤ sizeLine; decide, [.int i tk, y], .cons ⟨_, rfl⟩ (.cons ru .nil), ⟨_, hT2, rfl, _, rfl⟩⟩
    have J : Inv X pins σ (upd H s.heap.objs.size (.tup [.int (i : Nat), x])) { s with heap := h2, toks := tk + 1 } :=
      I.turnedNew (ch := [e, it]) (fun b o hb q => (sb.2 b (by intro z; subst z; exact hb (by simp))).trans (hk b o (by intro z; subst z; exact hb (by simp)) (by intro z; subst z; exact hb (by simp)) q)) hf (Nat.le_refl _) new
    refine ⟨.ref s.heap.objs.size, _, J, rfl, ⟨_, x, rfl, I.hok.fresh (Nat.le_refl _), rfl, fun ys hy => by rw [I.tuple_inj hy hq]; exact hx⟩, ⟨⟨y, ?_⟩, st'.1.at fun o q => (sb.2 it (Ne.symm ne)).trans q, ne⟩, fun b hb => ?_⟩
    · rw [show ((i + 1 : Nat) : Int) = (i : Int) + 1 by omega]
      exact en2
    · have bl : b < s.heap.objs.size := by
        rcases List.mem_cons.mp hb with z | z
        · rw [z]; exact el
        · rw [List.mem_singleton.mp z]; exact il
      exact (upd_ne (Nat.ne_of_lt bl)).trans (hf b hb).1
  done := by
    intro X hP hw hK hc i pins s σ H E I hf st hg
    subst hP hw hK
    obtain ⟨⟨old, en⟩, ti, ne⟩ := st
    obtain ⟨xs, hq, hx⟩ := hg
    obtain ⟨its, rv, tp, _⟩ := I.tuple hq
    obtain ⟨f0, f1, f2, f3, f4, f5⟩ := hf it (by simp)
    have tup : s.heap.IsTuple a its.toArray := tp
    have ait : a ≠ it := fun c => by
      obtain ⟨o1, e1, c1, _⟩ := tup
      obtain ⟨o2, e2, c2, _⟩ := ti
      rw [c, e2] at e1
      have eo : o2 = o1 := Option.some.inj e1
      rw [eo] at c2
      exact absurd (Value.type.inj (c1.symm.trans c2)) (by decide)
    have len := rv.length
    have hi : i = its.toArray.size := by
      rw [List.size_toArray]
      omega
    subst hi
    exact wpAny_pyNext_enum_endD (draws_tup (A := X.A.in1) (I.ok.hd hc) it a ait its.toArray) en ⟨ti, tup⟩ fun h' eb => ⟨rfl, I.turned (t' := s.toks) (fun b o hb q => eb b o hb q) f0 f1 f3 f4 f5⟩
  self := fun A i s Q E st h => st.1.elim fun _ en => wpAny_pyIter_enum en h
def iEnumT (K : PySem.W.Frag) (ta : TA) : TI := fun σ H R => ta σ H fun vs H1 => ∃ a xs, vs = [.ref a] ∧ SqT K H1 a xs ∧ R (IteT K a) H1
theorem pi_enumT {X : Cx} {e : Expr} {ta : TA} {p pos tpos : Pos} {elts : List Expr} {kk : Nat} (hg : Gl X "enumerate") (hm : X.mg "enumerate" = none) (ha : PA X [e] ta) (hs : starEach [e] X.env = [(false, eval e X.env)] := by rfl) :
    PI X (.Tuple elts kk tpos) (.Call (.Name "enumerate" p) [e] [] pos) (iEnumT X.K ta) := by
  refine ⟨fun pins s σ H R I h => Call_ (ld_blt I hg hm boot_enumerate (PyProof.Rows.callWith_type1 (thn (ha.run pos pins s σ H _ I h) fun us s1 ⟨vs, H1, I1, r1, q1⟩ => ?_) hs rfl))⟩
  obtain ⟨a, xs, rfl, hq, q⟩ := q1
  rw [Vals.ref1 r1]
  obtain ⟨its, rv, tp, _⟩ := I1.tuple hq
  refine call_enum_tup (items := its.toArray) tp fun h' en ti hk => wpAny_pyIter_enum en ⟨s1.heap.objs.size + 1, [s1.heap.objs.size + 1, s1.heap.objs.size], _, _, H1, rfl, I1.kept (t' := s1.toks) hk, turn_enumT a (s1.heap.objs.size + 1) s1.heap.objs.size, ⟨⟨.none, en⟩, ti, Nat.succ_ne_self _⟩, fun b hb => ?_, q⟩
  have le : s1.heap.objs.size ≤ b := by
    rcases List.mem_cons.mp hb with z | z
    · rw [z]; exact Nat.le_succ _
    · rw [List.mem_singleton.mp z]; exact Nat.le_refl _
  exact I1.fpOk le (I1.hok.fresh le)
theorem walk_enumT {K : PySem.W.Frag} {a : Addr} {xs : List V} : Walk (IteT K a) xs.length (fun H => SqT K H a xs) (YPair (fun i => some (.int (i : Nat))) (fun i => xs[i]?)) :=
  ⟨fun i _ hi q => ⟨xs, xs[i], q, List.getElem?_eq_getElem hi⟩, fun _ q => ⟨xs, q, rfl⟩, fun i _ v _ _ q y => let ⟨T, x, h1, h2, h3, h4⟩ := y; ⟨T, .int (i : Nat), x, h1, h2, h3, rfl, h4 xs q⟩⟩

/-- what the methods that read need of a Function -/
structure FnR (C : Addr) (H : Hp) (a : FA) (l : List Rw) : Prop where
  ins : H a.f = some (.ins C a.dx (fnFs a))
  rs : H a.rs = some (.tup (sV (l.map Rw.text)))
  ws : H a.ws = some (.tup (sV (l.map Rw.word)))
  os : H a.os = some (.tup ((rdOf l).openers.map oV))
theorem FnAt.r {C : Addr} {H : Hp} {a : FA} {l : List Rw} (h : FnAt C H a l) : FnR C H a l := ⟨h.ins, h.rs, h.ws, h.os⟩
theorem FnR.same {C : Addr} {H H' : Hp} {a : FA} {l : List Rw} (h : FnR C H a l) (s : Same H H') : FnR C H' a l := ⟨s _ _ h.ins, s _ _ h.rs, s _ _ h.ws, s _ _ h.os⟩
theorem FnR.off {C D : Addr} {H H' : Hp} {a : FA} {l : List Rw} (h : FnR C H a l) (hd : ∀ o, H D = some o → (∃ xs, o = .lst xs) ∨ (∃ kvs, o = .dT kvs) ∨ (∃ kvs, o = .dK kvs)) (f : Off D H H') : FnR C H' a l := by
  have n : ∀ {b : Addr} {o : HO}, H b = some o → (∀ xs, o ≠ .lst xs) → (∀ xs, o ≠ .dT xs) → (∀ xs, o ≠ .dK xs) → b ≠ D := fun e h1 h2 h3 c => by
    subst c
    rcases hd _ e with ⟨_, z⟩ | ⟨_, z⟩ | ⟨_, z⟩
    · exact h1 _ z
    · exact h2 _ z
    · exact h3 _ z
  exact ⟨f _ _ (n h.ins (fun _ c => by cases c) (fun _ c => by cases c) (fun _ c => by cases c)) h.ins, f _ _ (n h.rs (fun _ c => by cases c) (fun _ c => by cases c) (fun _ c => by cases c)) h.rs,
    f _ _ (n h.ws (fun _ c => by cases c) (fun _ c => by cases c) (fun _ c => by cases c)) h.ws, f _ _ (n h.os (fun _ c => by cases c) (fun _ c => by cases c) (fun _ c => by cases c)) h.os⟩
theorem fn_rows (a : FA) : (fnFs a).lookup ("rows" : Str) = some (.ref a.rs) := rfl
theorem fn_words (a : FA) : (fnFs a).lookup ("words" : Str) = some (.ref a.ws) := rfl
theorem fn_openers (a : FA) : (fnFs a).lookup ("openers" : Str) = some (.ref a.os) := rfl
theorem op_at {os : List (Option Nat)} {i : Nat} (h : i < os.length) : atI (os.map oV) (i : Int) = some (oV (os[i]?.getD none)) := by
  refine atI_nat ?_
  rw [List.getElem?_map, List.getElem?_eq_getElem h] <;> rfl
section
variable {P : Program} {w : World} {K : PySem.W.Frag} {mg : Str → Option Value} {base : Heap}
theorem c_Function_is_shielded (T : Tx K mg) : Mt P w K mg base 1 (fnC K) "is_shielded" (fun vs H Q _ => ∃ (a : FA) (l : List Rw) (i : Nat), vs = [.ref a.f, .int i] ∧ FnR (fnC K) H a l ∧ Rows l ∧ i < l.length ∧ Q (.bl (shRow l i)) H) := by
  refine mtD T.f_Function_is_shielded T.c_Function T.m_Function_is_shielded sc_Function_is_shielded (fun _ _ _ _ _ _ us hl => match us, hl with | [_, _], _ => rfl) (fun vs H Q E h => ?_) (fun cdv A outer s H vs Q E hr h => ?_)
  · obtain ⟨a, l, i, rfl, _⟩ := h
    rfl
  · obtain ⟨a, l, i, rfl, F, R, hi, q⟩ := h
    obtain ⟨ol, olt⟩ := rows_ops R
    refine ⟨_, (pss_cons (ps_set (i := 2) sc_Function_is_shielded.nd rfl (by first | exact Or.inl rfl | exact Or.inr rfl) (pe_ix (ix_tupK (K := K) rfl) (pe_fldK (K := K) rfl (pv 0) rfl) (pv 1) (fun _ _ => rfl)))
      (pss_cons (ps_while PassesOwn.never (pt_cmpR op_notN (pv 2) pe_non (nomark _)) (pss_cons (ps_if (pt_cmpR op_eq (pe_ix (ix_tupK (K := K) rfl) (pe_fldK (K := K) rfl (pv 0) rfl) (pv 2) (fun _ _ => rfl)) pe_str (nomark _)) (pss_one (ps_ret pe_bl)) pss_nil)
          (pss_one (ps_set (i := 2) sc_Function_is_shielded.nd rfl (by first | exact Or.inl rfl | exact Or.inr rfl) (pe_ix (ix_tupK (K := K) rfl) (pe_fldK (K := K) rfl (pv 0) rfl) (pv 2) (fun _ _ => rfl))))))
      (pss_one (ps_ret pe_bl)))), ?_⟩
    refine ⟨_, rfl, a.f, _, a.dx, _, _, rfl, F.ins, T.c_Function, T.n_Function_openers, fn_openers a, _, rfl, a.os, _, _, _, rfl, rfl, SqT.of F.os, op_at (by rw [ol]; exact hi), ?_⟩
    refine ⟨fun m σ H' => H' = H ∧ ∃ x : Option Nat, σ = [some (.ref a.f), some (.int (i : Nat)), some (oV x)] ∧ (∀ o, x = some o → o + 1 < m ∧ o < l.length) ∧ shO (rdOf l).openers (l.map Rw.word) m x = shRow l i,
      ⟨i + 1, rfl, _, rfl, fun o e => ?_, rfl⟩, ?_⟩
    · have e2 : (rdOf l).openers[i]? = some (some o) := by
        rw [List.getElem?_eq_getElem (by rw [ol]; exact hi)] at e ⊢
        exact congrArg some e
      have := olt i o e2
      omega
    · rintro m σ H' ⟨rfl, x, rfl, hx, hs⟩
      cases x with
      | none =>
        refine ⟨_, rfl, rfl, _, rfl, iteF ?_⟩
        have e : shRow l i = false := by
          rw [← hs]
          cases m <;> rfl
        rw [e] at q
        exact q
      | some o =>
        obtain ⟨om, ol2⟩ := hx o rfl
        obtain ⟨n, rfl⟩ : ∃ n, m = n + 1 := ⟨m - 1, by omega⟩
        refine ⟨_, rfl, rfl, _, rfl, iteT ⟨fun σ' G => G = H' ∧ ∃ x : Option Nat, σ' = [some (.ref a.f), some (.int (i : Nat)), some (oV x)] ∧ (∀ o, x = some o → o + 1 < n ∧ o < l.length) ∧ shO (rdOf l).openers (l.map Rw.word) n x = shRow l i, fun σ' G h => ⟨n, Nat.lt_succ_self n, h⟩, ?_⟩⟩
        have ew : (l.map Rw.word)[o]? = some (l.map Rw.word)[o]! := by
          rw [List.getElem?_eq_getElem (by rw [List.length_map]; exact ol2)]
          simp [ol2]
        generalize (l.map Rw.word)[o]! = z at ew
        have hs2 : (if (l.map Rw.word)[o]? = some ("shield" : Str) then true else shO (rdOf l).openers (l.map Rw.word) n ((rdOf l).openers[o]?.getD none)) = shRow l i := hs
        rw [ew] at hs2
        refine ⟨_, rfl, a.f, _, a.dx, _, _, rfl, F.ins, T.c_Function, T.n_Function_words, fn_words a, _, rfl, a.ws, _, _, _, rfl, rfl, SqT.of F.ws, at_word ew, rfl, _, rfl, ?_⟩
        rw [dec_str2]
        refine ite2 (fun h => ?_) (fun h => ?_)
        · rw [if_pos (congrArg some (of_decide_eq_true h))] at hs2
          rw [← hs2] at q
          exact q
        · rw [if_neg fun c => h (decide_eq_true (Option.some.inj c))] at hs2
          refine ⟨_, rfl, a.f, _, a.dx, _, _, rfl, F.ins, T.c_Function, T.n_Function_openers, fn_openers a, _, rfl, a.os, _, _, _, rfl, rfl, SqT.of F.os, op_at (by rw [ol]; exact ol2), rfl, _, rfl, fun o' e => ?_, hs2⟩
          have e2 : (rdOf l).openers[o]? = some (some o') := by
            rw [List.getElem?_eq_getElem (by rw [ol]; exact ol2)] at e ⊢
            exact congrArg some e
          have := olt o o' e2
          omega
theorem c_Function_waits (T : Tx K mg) : Mt P w K mg base 2 (fnC K) "waits" (fun vs H Q _ => ∃ (a : FA) (l : List Rw), vs = [.ref a.f] ∧ FnR (fnC K) H a l ∧ Rows l ∧ ∀ (p : Addr) (H' : Hp), H p = none → Same H H' → H' p = some (.lst (nV (waitsOf l))) → Q (.ref p) H') := by
  have c_Function_is_shielded := c_Function_is_shielded (P := P) (w := w) (base := base) T
  refine mtD T.f_Function_waits T.c_Function T.m_Function_waits sc_Function_waits (fun _ _ _ _ _ _ us hl => match us, hl with | [_], _ => rfl) (fun vs H Q E h => ?_) (fun cdv A outer s H vs Q E hr h => ?_)
  · obtain ⟨a, l, rfl, _⟩ := h
    rfl
  · obtain ⟨a, l, rfl, F, R, q⟩ := h
    have few := R.few
    refine ⟨_, (pss_one (ps_ret (pe_lc (own := [("row", 1), ("word", 2)]) (g := gTup K 2 (gCons (gName 1) (gCons (gName 2) gNil))) rfl sc_Function_waits.nd (pi_enumT rfl T.b_enumerate (pa_cons (pe_fldK (K := K) rfl (pv 0) rfl) pa_nil)) (blkOk_by (N := ["self", "row", "word"]) (sc := defScope s_Function_waits) (by decide +kernel)) (fun _ _ _ _ _ => (pg_tup rfl (pgs_cons (pg_name (i := 1) sc_Function_waits.nd rfl (by first | exact Or.inl rfl | exact Or.inr rfl)) (pgs_cons (pg_name (i := 2) sc_Function_waits.nd rfl (by first | exact Or.inl rfl | exact Or.inr rfl)) pgs_nil)))) (fun _ _ _ _ _ => (pts_one (PW.pt (pw_and (pt_cmpR (op_in_seqK (K := K) rfl) (pv 2) (pe_glob (v := .ref (He.ga K ("WAITING" : Str))) rfl T.g_WAITING rfl) (by rfl)) (pw_and1 (pt_not (pt_val (pe_m c_Function_is_shielded hr (by first | decide | omega) (pv 0) (pa_cons (pv 1) pa_nil))))))))) (fun _ _ _ _ _ => (pv 1))))), ?_⟩
    refine ⟨_, rfl, a.f, _, a.dx, _, _, rfl, F.ins, T.c_Function, T.n_Function_words, fn_words a, a.ws, _, rfl, SqT.of F.ws, fun D nD => ?_⟩
    have hne : ∀ {b : Addr} {o : HO}, H b = some o → b ≠ D := fun e => ne_of_none e nD
    have lw : (sV (l.map Rw.word)).length = l.length := by rw [List.length_map, List.length_map]
    refine lc_it (walk_enumT (K := K) (a := a.ws) (xs := sV (l.map Rw.word))) (fun i G => Off D H G ∧ G D = some (.lst (nV ((List.range i).filter (isWait l))))) ⟨(Off.refl D H).put, upd_same⟩ (fun i G _ h => SqT.of (h.1 _ _ (hne F.ws) F.ws)) (fun i x G G2 hi h y => ?_) (fun G h => ?_)
    · obtain ⟨f, hD⟩ := h
      obtain ⟨T', x, y', rfl, nT, rfl, ex, ey⟩ := y
      have ex : x = .int (i : Nat) := (Option.some.inj ex).symm
      subst ex
      rw [lw] at hi
      have er : l[i]? = some l[i] := List.getElem?_eq_getElem hi
      generalize l[i] = r at er
      have ey : (sV (l.map Rw.word))[i]? = some y' := ey
      have ey2 : y' = .str r.word := by
        rw [List.getElem?_map, List.getElem?_map, er] at ey
        exact (Option.some.inj ey).symm
      subst ey2
      refine new_at nT fun G3 u3 h3 => ?_
      have f3 := f.same u3
      have s3 : FnR (fnC K) G3 a l := ⟨f3 _ _ (hne F.ins) F.ins, f3 _ _ (hne F.rs) F.rs, f3 _ _ (hne F.ws) F.ws, f3 _ _ (hne F.os) F.os⟩
      have hD3 := u3 _ _ hD
      have tW : SqT K G3 (He.ga K ("WAITING" : Str)) (sV waitWords) := tup_strs (T.t_WAITING G3) rfl
      have ew : isWait l i = (decide (r.word ∈ waitWords) && !shRow l i) := by
        unfold isWait
        rw [er]
      have ef : (List.range (i + 1)).filter (isWait l) = (List.range i).filter (isWait l) ++ (if isWait l i = true then [i] else []) := by
        rw [List.range_succ, List.filter_append]
        congr 1
        by_cases c : isWait l i = true
        · rw [if_pos c, List.filter_cons, if_pos c] <;> rfl
        · rw [if_neg c, List.filter_cons, if_neg c] <;> rfl
      have no : isWait l i = false → Off D H G3 ∧ G3 D = some (.lst (nV ((List.range (i + 1)).filter (isWait l)))) := fun c => by
        rw [ef, if_neg (by rw [c]; exact Bool.false_ne_true), List.append_nil]
        exact ⟨f3, hD3⟩
      refine ⟨T', _, rfl, SqT.of h3, rfl, _, _, rfl, _, _, rfl, rfl, rfl, _, rfl, _, _, rfl, .inr tW, rfl, sV_all waitWords, _, rfl, ?_⟩
      show if inV (.str r.word) (sV waitWords) = true then _ else _
      rw [inV_sV]
      refine ite2 (fun h => ?_) (fun h => ?_)
      · rw [h, Bool.true_and] at ew
        refine ⟨_, rfl, a.f, a.dx, _, rfl, s3.ins, rfl, _, rfl, a, l, i, rfl, s3, R, hi, _, rfl, ?_⟩
        cases c : shRow l i with
        | true =>
          rw [c] at ew
          exact no ew
        | false =>
          rw [c] at ew
          refine ⟨_, rfl, _, hD3, ?_, f3.put, ?_⟩
          · rw [List.length_map]
            refine Nat.lt_of_le_of_lt (List.length_filter_le ..) ?_
            rw [List.length_range]
            exact Nat.lt_of_lt_of_le hi (Nat.le_trans few (by decide))
          · have c2 : isWait l i = true := ew
            rw [upd_same, ef, if_pos c2]
            simp [nV]
      · have c : isWait l i = false := by
          rw [ew, Bool.eq_false_iff.mpr h, Bool.false_and]
        exact no c
    · obtain ⟨f, hD⟩ := h
      rw [lw] at hD
      exact q D G nD (fun b o e => f b o (hne e) e) hD
theorem c_Functionu_lenu (T : Tx K mg) : Mt P w K mg base 1 (fnC K) "__len__" (fun vs H Q _ => ∃ (a : FA) (l : List Rw), vs = [.ref a.f] ∧ FnR (fnC K) H a l ∧ Q (.int (l.length : Nat)) H) := by
  refine mtD T.f_Functionu_lenu T.c_Function T.m_Functionu_lenu sc_Functionu_lenu (fun _ _ _ _ _ _ us hl => match us, hl with | [_], _ => rfl) (fun vs H Q E h => ?_) (fun cdv A outer s H vs Q E hr h => ?_)
  · obtain ⟨a, l, rfl, _⟩ := h
    rfl
  · obtain ⟨a, l, rfl, F, q⟩ := h
    refine ⟨_, (pss_one (ps_ret (pe_callB (call_len_seqK (K := K) rfl) rfl T.b_len boot_len (pa_cons (pe_fldK (K := K) rfl (pv 0) rfl) pa_nil)))), ?_⟩
    refine ⟨_, rfl, a.f, _, a.dx, _, _, rfl, F.ins, T.c_Function, T.n_Function_rows, fn_rows a, a.rs, _, rfl, .inr (SqT.of F.rs), ?_⟩
    rw [rows_len]
    exact q
end

theorem inV_nV (k : Nat) : ∀ l : List Nat, inV (.int (k : Int)) (nV l) = decide (k ∈ l)
  | [] => rfl
  | y :: r => by
    have ih := inV_nV k r
    have e : inV (.int (k : Int)) (nV (y :: r)) = (eqV (.int (y : Int)) (.int (k : Int)) || inV (.int (k : Int)) (nV r)) := rfl
    rw [e, ih]
    have e2 : eqV (.int (y : Int)) (.int (k : Int)) = ((y : Int) == (k : Int)) := rfl
    rw [e2]
    by_cases h : y = k
    · subst h
      simp
    · have h' : ¬ k = y := fun q => h q.symm
      have h2 : ¬ (y : Int) = (k : Int) := fun q => h (Int.ofNat.inj q)
      simp [h2, h']
theorem nV_all (l : List Nat) : (nV l).all flatV = true := by
  rw [List.all_map]
  exact List.all_eq_true.mpr fun _ _ => rfl
theorem cut_nV (l : List Nat) (i : Nat) (h : i ≤ l.length) : cutV (nV l) none (some (i : Int)) = nV (l.take i) := by
  unfold cutV
  rw [HT.sIx_none, HT.sIx_nat, List.length_map, Nat.min_eq_left h]
  show List.drop 0 (List.take i (nV l)) = _
  rw [List.drop_zero]
  exact List.map_take.symm
def spShield (K : PySem.W.Frag) : Sp := fun vs H Q _ => ∃ (a : FA) (l : List Rw) (pr : Addr) (rows : List Nat), vs = [.ref a.f, .ref pr] ∧ FnR (fnC K) H a l ∧ Deep4 l ∧ H pr = some (.lst (nV rows)) ∧ (∀ i ∈ rows, i ∈ waitsOf l) ∧ rows.Nodup ∧ l.length + 2 * rows.length ≤ 24 ∧
  ∀ (a' : FA) (H' : Hp), Same H H' → FnAt (fnC K) H' a' (shFrom rows 0 l) → (∀ b ∈ a'.f :: a'.eight, H b = none) → Q (.ref a'.f) H'
section
variable {P : Program} {w : World} {K : PySem.W.Frag} {mg : Str → Option Value} {base : Heap}
theorem c_Function_shielded (T : Tx K mg) : Mt P w K mg base 7 (fnC K) "shielded" (spShield K) := by
  have c_Function_waits := c_Function_waits (P := P) (w := w) (base := base) T
  have k_Function := c_Functionu_initu (P := P) (w := w) (base := base) T
  refine mtD T.f_Function_shielded T.c_Function T.m_Function_shielded sc_Function_shielded (fun _ _ _ _ _ _ us hl => match us, hl with | [_, _], _ => rfl) (fun vs H Q E h => ?_) (fun cdv A outer s H vs Q E hr h => ?_)
  · obtain ⟨a, l, pr, rows, rfl, _⟩ := h
    rfl
  · obtain ⟨a, l, pr, rows, rfl, F, D4, hp, hw, hnd, few, q⟩ := h
    have R := D4.rows
    refine ⟨_, (pss_cons (ps_set (i := 2) sc_Function_shielded.nd rfl (by first | exact Or.inl rfl | exact Or.inr rfl) (pe_m0 c_Function_waits hr (by first | decide | omega) (pv 0)))
      (pss_cons (ps_for PassesOwn.never rfl (pi_enum rfl T.b_enumerate (pa_cons (pv 1) pa_nil)) (pg_tup rfl (pgs_cons (pg_name (i := 3) sc_Function_shielded.nd rfl (by first | exact Or.inl rfl | exact Or.inr rfl)) (pgs_cons (pg_name (i := 4) sc_Function_shielded.nd rfl (by first | exact Or.inl rfl | exact Or.inr rfl)) pgs_nil))) (pss_one (ps_if (PW.pt (pw_or (pt_cmpR (op_notIn_seqK (K := K) rfl) (pv 4) (pv 2) (by rfl)) (pw_or1 (pt_cmpR (op_in_seqK (K := K) rfl) (pv 4) (pe_slice (sl_listK (K := K) rfl) (pv 1) po_none (po_some (pv 3))) (by rfl))))) (pss_one ps_never) pss_nil)))
      (pss_cons (ps_set (i := 5) sc_Function_shielded.nd rfl (by first | exact Or.inl rfl | exact Or.inr rfl) (pe_lst pa_nil))
      (pss_cons (ps_for PassesOwn.never rfl (pi_enumT rfl T.b_enumerate (pa_cons (pe_fldK (K := K) rfl (pv 0) rfl) pa_nil)) (pg_tup rfl (pgs_cons (pg_name (i := 4) sc_Function_shielded.nd rfl (by first | exact Or.inl rfl | exact Or.inr rfl)) (pgs_cons (pg_name (i := 6) sc_Function_shielded.nd rfl (by first | exact Or.inl rfl | exact Or.inr rfl)) pgs_nil))) (pss_one (ps_set (i := 5) sc_Function_shielded.nd rfl (by first | exact Or.inl rfl | exact Or.inr rfl) (pe_op op_cat (pv 5) (pe_ifExp (pt_cmpR (op_in_seqK (K := K) rfl) (pv 4) (pv 1) (by rfl)) (pe_lst (pa_cons pe_str (pa_cons (pv 6) (pa_cons pe_str pa_nil)))) (pe_lst (pa_cons (pv 6) pa_nil)))))))
      (pss_one (ps_ret (pe_k k_Function hr (by first | decide | omega) (pa_cons (pe_joinK (K := K) rfl pe_str (pv 5)) pa_nil)))))))), ?_⟩
    refine ⟨_, rfl, a.f, a.dx, _, rfl, F.ins, rfl, a, l, rfl, F, R, fun p1 H1 n1 s1 h1 => ?_⟩
    have hp1 := s1 _ _ hp
    have F1 := F.same s1
    refine ⟨_, rfl, pr, _, rfl, SqL.of hp1, ?_⟩
    have lr : (nV rows).length = rows.length := List.length_map ..
    refine for_it (walk_enum (K := K) (a := pr) (xs := nV rows)) (fun i σ G => Same H1 G ∧ ∃ x y, σ = [some (.ref a.f), some (.ref pr), some (.ref p1), x, y, none, none]) ⟨Same.refl H1, _, _, rfl⟩ (fun i σ G _ h => SqL.of (h.1 _ _ hp1)) (fun i x σ G1 G2 hi h y => ?_) (fun σ G1 h => ?_)
    · obtain ⟨g1, x1, y1, rfl⟩ := h
      obtain ⟨T', x, y', rfl, nT, rfl, ex, ey⟩ := y
      have ex : x = .int (i : Nat) := (Option.some.inj ex).symm
      subst ex
      rw [lr] at hi
      have er : rows[i]? = some rows[i] := List.getElem?_eq_getElem hi
      generalize rows[i] = k at er
      have ey : (nV rows)[i]? = some y' := ey
      have ey2 : y' = .int (k : Nat) := by
        rw [List.getElem?_map, er] at ey
        exact (Option.some.inj ey).symm
      subst ey2
      refine new_at nT fun G3 u3 h3 => ?_
      have g3 := g1.trans u3
      refine ⟨T', _, rfl, SqT.of h3, rfl, _, _, rfl, _, _, rfl, rfl, ?_⟩
      refine ⟨_, rfl, _, rfl, p1, _, rfl, .inl (SqL.of (g3 _ _ h1)), rfl, nV_all _, _, rfl, ?_⟩
      rw [inV_nV, decide_eq_true (hw k (List.mem_of_getElem? er))]
      refine iteF ?_
      refine ⟨_, rfl, _, rfl, _, rfl, _, rfl, pr, _, rfl, SqL.of (g3 _ _ hp1), fun p4 n4 => new_at n4 fun G4 u4 h4 => ?_⟩
      rw [cut_nV rows i (Nat.le_of_lt hi)] at h4
      refine ⟨p4, _, rfl, .inl (SqL.of h4), rfl, nV_all _, _, rfl, ?_⟩
      have nin : k ∉ rows.take i := fun c => by
        obtain ⟨j, hj⟩ := List.getElem?_of_mem c
        have hj2 : j < i := by
          have := (List.getElem?_eq_some_iff.mp hj).1
          rw [List.length_take] at this
          omega
        rw [List.getElem?_take_of_lt hj2] at hj
        obtain ⟨jl, ej⟩ := List.getElem?_eq_some_iff.mp hj
        obtain ⟨il, ei⟩ := List.getElem?_eq_some_iff.mp er
        exact (List.pairwise_iff_getElem.mp hnd) j i jl il hj2 (ej.trans ei.symm)
      rw [inV_nV, decide_eq_false nin]
      exact iteF ⟨g3.trans u4, _, _, rfl⟩
    · obtain ⟨g1, x1, y1, rfl⟩ := h
      refine ⟨by show 0 ≤ sizeLine; decide, fun p5 n5 => new_at n5 fun G2 s2 h2 => ?_⟩
      have F2 := (F1.same g1).same s2
      refine ⟨_, rfl, a.f, _, a.dx, _, _, rfl, F2.ins, T.c_Function, T.n_Function_rows, fn_rows a, a.rs, _, rfl, SqT.of F2.rs, ?_⟩
      have s12 : Same H1 G2 := g1.trans s2
      refine for_it (walk_enumT (K := K) (a := a.rs) (xs := sV (l.map Rw.text))) (fun i σ G => Same G2 G ∧ ∃ pf x y z, σ = [some (.ref a.f), some (.ref pr), some (.ref p1), x, y, some (.ref pf), z] ∧ G pf = some (.lst (sV ((shFrom rows 0 (l.take i)).map Rw.text))))
        ⟨Same.refl G2, p5, _, _, _, rfl, h2⟩ (fun i σ G _ h => SqT.of (h.1 _ _ F2.rs)) (fun i x σ G3 G4 hi h y => ?_) (fun σ G3 h => ?_)
      · obtain ⟨g3, pf, x1, y1, z1, rfl, hf⟩ := h
        obtain ⟨T', x, y', rfl, nT, rfl, ex, ey⟩ := y
        have ex : x = .int (i : Nat) := (Option.some.inj ex).symm
        subst ex
        rw [rows_len] at hi
        have er : l[i]? = some l[i] := List.getElem?_eq_getElem hi
        generalize l[i] = r at er
        have ey : (sV (l.map Rw.text))[i]? = some y' := ey
        have ey2 : y' = .str r.text := by
          rw [List.getElem?_map, List.getElem?_map, er] at ey
          exact (Option.some.inj ey).symm
        subst ey2
        refine new_at nT fun G5 u5 h5 => ?_
        have hf5 := u5 _ _ hf
        have hp5 := u5 _ _ (g3 _ _ (s12 _ _ hp1))
        have et : l.take (i + 1) = l.take i ++ [r] := by rw [List.take_succ, er] <;> rfl
        have el : (l.take i).length = i := by rw [List.length_take]; omega
        have es : shFrom rows 0 (l.take (i + 1)) = shFrom rows 0 (l.take i) ++ (if i ∈ rows then [.one "shield", r, .one "end"] else [r]) := by
          rw [et, shFrom_app, el, Nat.zero_add]
          show _ ++ ((if i ∈ rows then _ else _) ++ []) = _
          rw [List.append_nil]
        have len : (shFrom rows 0 (l.take i)).length ≤ 24 := by
          refine Nat.le_trans shFrom_len ?_
          rw [el]
          omega
        refine ⟨T', _, rfl, SqT.of h5, rfl, _, _, rfl, _, _, rfl, rfl, ?_⟩
        refine ⟨_, rfl, _, rfl, _, rfl, pr, _, rfl, .inl (SqL.of hp5), rfl, nV_all _, _, rfl, ?_⟩
        rw [inV_nV]
        refine ite2 (fun h => ?_) (fun h => ?_)
        · rw [if_pos (of_decide_eq_true h)] at es
          refine ⟨_, rfl, by show 3 ≤ sizeLine; decide, fun p6 n6 => new_at n6 fun G6 u6 h6 => ⟨pf, p6, _, _, rfl, rfl, u6 _ _ hf5, h6, ?_, fun p7 n7 => new_at n7 fun G7 u7 h7 => ⟨((g3.trans u5).trans u6).trans u7, p7, _, _, _, rfl, ?_⟩⟩⟩
          · exact sz_le (show (sV ((shFrom rows 0 (l.take i)).map Rw.text)).length + 3 ≤ 1000 by rw [rows_len]; omega) (by decide)
          · rw [h7, es, List.map_append, sV_app] <;> rfl
        · rw [if_neg fun c => h (decide_eq_true c)] at es
          refine ⟨_, rfl, by show 1 ≤ sizeLine; decide, fun p6 n6 => new_at n6 fun G6 u6 h6 => ⟨pf, p6, _, _, rfl, rfl, u6 _ _ hf5, h6, ?_, fun p7 n7 => new_at n7 fun G7 u7 h7 => ⟨((g3.trans u5).trans u6).trans u7, p7, _, _, _, rfl, ?_⟩⟩⟩
          · exact sz_le (show (sV ((shFrom rows 0 (l.take i)).map Rw.text)).length + 1 ≤ 1000 by rw [rows_len]; omega) (by decide)
          · rw [h7, es, List.map_append, sV_app] <;> rfl
      · obtain ⟨g3, pf, x1, y1, z1, rfl, hf⟩ := h
        rw [rows_len, List.take_length] at hf
        have R' := rows_shield D4 hw few
        have s3 : Same H G3 := (s1.trans s12).trans g3
        refine ⟨⟨_, rfl⟩, _, rfl, lineS, pf, _, rfl, rfl, .inl (SqL.of hf), ?_, fun x dx nx ndx hxd => ⟨x, dx, _, rfl, upd_same, R', fun a' H' ea off At nw => ⟨rfl, ?_⟩⟩⟩
        · have h1 := texts_sum R'.good
          have h2 := R'.few
          have h3 : lineS.length = 1 := by decide +kernel
          rw [h3, List.length_map]
          omega
        · subst ea
          have up : ∀ b o, H b = some o → b ≠ a'.f ∧ b ≠ dx ∧ G3 b = some o := fun b o e => ⟨ne_of_none (s3 _ _ e) nx, ne_of_none (s3 _ _ e) ndx, s3 _ _ e⟩
          refine q a' H' (fun b o e => ?_) At fun b hb => ?_
          · obtain ⟨h1, h2, h3⟩ := up b o e
            refine off b o h1 ?_
            rw [upd_ne h1, upd_ne h2]
            exact h3
          · rcases List.mem_cons.mp hb with c | c
            · subst c
              exact s3.free nx
            · have e := nw b c
              cases eb : H b with
              | none => rfl
              | some o =>
                obtain ⟨h1, h2, h3⟩ := up b o eb
                rw [upd_ne h1, upd_ne h2, h3] at e
                cases e
end

/-! ### own special methods: x[i], x[i] = v, len(x) -/
section
variable {X : Cx} {k n : Nat} {f C : Addr} {fd : FuncData} {ps : List Str} {sp : Sp}
structure Und (X : Cx) (n : Nat) (A : Around) : Prop where
  room : Room n A
  fr : A.frames = X.A.frames
theorem own_call {pins : List (Addr × Obj)} {σ : L2.St} {H : Hp} {s : Shared} {A : Around} {vs : List V} {us : List Value} {Q : VK} (u : Und X n A) (F : FnOk X.prog X.w X.K X.mg X.base CX0 n f fd ps sp) (b : Binds X.K fd ps []) (I : Inv X pins σ H s) (r : Vals vs us) (h : sp vs H Q E0) :
    wpAny (model X.prog X.w) A (call (.ref f) us) (EP X pins σ Q) X.xe s := by
  have e0 : Env0 X.prog X.w X.K X.mg X.base A X.stack s H := by
    have e := I.env0
    exact ⟨u.fr ▸ e.frames, e.mod, e.bs, e.bsz, e.funs, e.frf, e.hok, e.bare⟩
  have hl := F.len _ _ _ _ h
  have ul : us.length = ps.length := r.length.symm.trans hl
  have bt : BindsTo s fd ⟨us, []⟩ (ps.zip us) := by
    have z := b s us I.kIn (by rw [List.append_nil]; exact ul)
    rw [List.append_nil] at z
    exact z
  refine wpAny_call (codeAny_mono (F.run A X.stack s H ⟨us, []⟩ us vs Q E0 u.room e0 bt r h) fun r s' hq => ?_)
  cases r with
  | error e => exact pass0 pins σ H s e s' I hq
  | ok fl =>
    cases fl with
    | ret w => exact I.after hq
    | next => exact hq.elim
    | brk => exact hq.elim
    | cont => exact hq.elim
end
section
variable (P : Program) (w : World) (K : PySem.W.Frag) (mg : Str → Option Value) (base : Heap)
structure Sx (k : Nat) (C : Addr) (m : Str) (sp : Sp) : Prop where
  ex : ∃ (f : Addr) (fd : FuncData) (ps : List Str), Meth K C m f ∧ PySem.W.fnIn K f = true ∧ FnOk P w K mg base CX0 k f fd ps sp ∧ Binds K fd ps []
end
theorem Df.fn {K : PySem.W.Frag} {p : Str × Option Str} {x qual : Str} {st : Stmt} (F : Df K p x qual st) : PySem.W.fnIn K (He.fAd K p) = true := by
  obtain ⟨fd, F⟩ := F
  obtain ⟨oc, od, dV, kV, doc, pm, an, cdv, ct, osl, _, lk, _⟩ := F.ex
  unfold PySem.W.fnIn
  rw [lk]
section
variable {P : Program} {w : World} {K : PySem.W.Frag} {mg : Str → Option Value} {base : Heap}
theorem sxD {x C q : Str} {st : Stmt} {N ps : List Str} {k : Nat} {sp : Sp} (F : Df K (C, some x) x q st) (hm : Meth K (He.ga K C) x (He.fAd K (C, some x))) (S : FnScope N ps (defScope st)) (b : BindA x q st ps)
    (len : ∀ vs H Q E, sp vs H Q E → vs.length = ps.length) (body : Body P w K mg base k q (He.fAd K (C, some x)) st N sp) : Sx P w K mg base (k + 1) (He.ga K C) x sp := by
  obtain ⟨fd, a, _, c⟩ := fnD F S b len body
  exact ⟨_, fd, ps, hm, Df.fn F, a, c⟩
end
section
variable {X : Cx} {k j : Nat} {C : Addr} {sp : Sp}
def rOwnI (C : Addr) (sp : Sp) : R2 := fun x y H Q => ∃ (a dx : Addr) (fs : List (Str × V)), x = .ref a ∧ H a = some (.ins C dx fs) ∧ sp [.ref a, y] H Q E0
theorem pe_oget {a b : Expr} {ta tb : TE} {pos : Pos} (c : Sx X.prog X.w X.K X.mg X.base k C "__getitem__" sp) (hr : Room j X.A) (hk : k + 1 ≤ j) (ha : PE X a ta) (hb : PE X b tb)
    (hs : ∀ o i, subscripted b true o i = runValue (.builtin "lifetime.subscript" ⟨[o, i], []⟩) := by intro _ _; rfl) : PE X (.Subscript a b pos) (tOp (rOwnI C sp) ta tb) := by
  obtain ⟨f, fd, ps, hm, hf, F, bd⟩ := c.ex
  refine ⟨fun pins s σ H Q I h => Subscript_ (binT ha hb I h fun v u s2 x y H2 I2 rx ry q => ?_)⟩
  obtain ⟨p, dx, fs, rfl, hp, q⟩ := q
  cases rx
  obtain ⟨mA, J, _⟩ := ins_get I2.hok hp
  obtain ⟨od, J, _⟩ := J.look
  obtain ⟨m, hF⟩ := I2.fr
  exact PySem.W.sub_K hF I2.ok.mod.kin J hm.at_ hf hm.fn (own_call (vs := [.ref p, y]) ⟨(hr.mono hk).in1, rfl⟩ F bd I2 (.cons rfl (.cons ry .nil)) q) (hs _ _)
def rOwnS (C : Addr) (sp : Sp) : TSet := fun o i v H Q => ∃ (a dx : Addr) (fs : List (Str × V)), o = .ref a ∧ H a = some (.ins C dx fs) ∧ sp [.ref a, i, v] H (fun _ H' => Q H') E0
theorem set_own (c : Sx X.prog X.w X.K X.mg X.base k C "__setitem__" sp) (nq : PySem.W.noSeq X.K C = true) (hr : Room j X.A) (hk : k ≤ j) : PSet X (rOwnS C sp) := by
  obtain ⟨f, fd, ps, hm, hf, F, bd⟩ := c.ex
  intro pins s σ H o i v ov iv u Q I ro ri rv h
  obtain ⟨p, dx, fs, rfl, hp, q⟩ := h
  cases ro
  obtain ⟨mA, J, _⟩ := ins_get I.hok hp
  obtain ⟨od, J, _⟩ := J.look
  obtain ⟨m, hF⟩ := I.fr
  exact PySem.W.ksp_setItem hF I.ok.mod.kin J nq hm.at_ hm.fn (wpAny_mono (own_call (vs := [.ref p, i, v]) ⟨hr.mono hk, rfl⟩ F bd I (.cons rfl (.cons ri (.cons rv .nil))) q) (fun _ s' ⟨_, H', I', _, q'⟩ => ⟨H', I', q'⟩) fun _ _ e => e)
def rOwnL (C : Addr) (sp : Sp) : List V → Hp → VK → Prop := fun xs H Q => ∃ (a dx : Addr) (fs : List (Str × V)), xs = [.ref a] ∧ H a = some (.ins C dx fs) ∧ sp [.ref a] H (fun z H' => ∃ n : Nat, z = .int (n : Nat) ∧ n < 1000000 ∧ Q z H') E0
theorem call_lenOwn (c : Mt X.prog X.w X.K X.mg X.base k C "__len__" sp) (hr : Room j X.A) (hk : k + 1 ≤ j) : CallR X (.builtin "len") (rOwnL C sp) := by
  obtain ⟨f, fd, ps, _, hm, F, bd⟩ := c.ex
  intro pins s σ H xs us Q I r h
  obtain ⟨p, dx, fs, rfl, hp, q⟩ := h
  rw [Vals.ref1 r]
  obtain ⟨mA, J, _⟩ := ins_get I.hok hp
  obtain ⟨od, J, _⟩ := J.look
  obtain ⟨m, hF⟩ := I.fr
  refine PySem.W.len_K hF I.ok.mod.kin J hm.at_ hm.fn (wpAny_mono (own_call (vs := [.ref p]) ⟨(hr.mono hk).in1, rfl⟩ F bd I (.cons rfl .nil) q) (fun v s' ⟨z, H', I', rz, n, ez, hn, q'⟩ => ?_) fun _ _ e => e)
  subst ez
  obtain ⟨t, rfl⟩ := rz
  exact ⟨⟨by omega, by omega⟩, .int (n : Nat), H', I'.tok _, ⟨_, rfl⟩, q'⟩
end
section
variable (P : Program) (w : World) (K : PySem.W.Frag) (mg : Str → Option Value) (base : Heap)
/-- a class that is made by keywords alone -/
structure Mkw (k : Nat) (x : Str) (C : Addr) (ks : List Str) (sp : Sp) : Prop where
  ex : ∃ (f : Addr) (fd : FuncData) (ps : List Str), Mk K C f ∧ FnOk P w K mg base CX0 k f fd ps sp ∧ mg x = some (.ref C) ∧ KBn K fd ps 1 ks (fun us ws => us ++ ws) (fun vs zs => vs ++ zs)
end
theorem pe_kw {X : Cx} {k j : Nat} {C : Addr} {x : Str} {ks : List Str} {sp : Sp} {p pos : Pos} {kws : List Keyword} {tk : TA} (c : Mkw X.prog X.w X.K X.mg X.base k x C ks sp) (hr : Room j X.A) (hk : k + 1 ≤ j) (hkw : PK X kws tk) (hg : Gl X x := by rfl)
    (hall : (backToKw pos (keywordEach kws X.env)).all (·.1.isSome) = true := by rfl) (hks : (backToKw pos (keywordEach kws X.env)).filterMap (·.1) = ks := by rfl) (hdb : (x == ("__debug__" : Str)) = false := by decide)
    (hpl : ((backTo pos (starEach [] X.env)).any (·.1) || (backToKw pos (keywordEach kws X.env)).any (·.1.isNone)) = false := by rfl) :
    PE X (.Call (.Name x p) [] kws pos) (tMakeK C 0 ks.length sp (fun vs zs => vs ++ zs) E0 tNil tk) := by
  obtain ⟨f, fd, ps, M, F, hm, b⟩ := c.ex
  exact pe_makeK0 M F (hr.mono hk) hg hm b pass0 hkw hall hks hdb hpl

/-! ### a dict comprehension whose keys are tuples -/
section
variable {X : Cx}
theorem dctSet {pins : List (Addr × Obj)} {σ : L2.St} {H : Hp} {s : Shared} {E : Value → Shared → Prop} {D b : Addr} {kvs : List (List L2.Key × V)} {k : List L2.Key} {v : V} {r : Value} {Q : Unit → Shared → Prop} (hu : X.A.units + 1 < cLine) (I : Inv X pins σ H s) (hD : H D = some (.dT kvs)) (hz : kvs.length < sizeLine)
    (hb : H b = some (.tup (k.map kV))) (rv : RelV v r) (q : ∀ s', Inv X pins σ (upd H D (.dT (putK kvs k v))) s' → Q () s') : wpAny (model X.prog X.w) X.A (dictSet D (.ref b) r) Q E s := by
  obtain ⟨z, hd, xs, rel, dd⟩ := dt_of I.hok hD
  have lx : xs.length ≤ sizeLine := by rw [← Paired.length rel]; exact z
  have l2 : (putK kvs k v).length ≤ sizeLine := Nat.le_trans (length_putK kvs k v) hz
  refine wpAny_dictSet_heap (hsz := lx) (Nat.lt_of_succ_lt hu) (key_of I.hok hb) dd fun h' dd' hs => q _ ?_
  obtain ⟨o, es, ep, ho, h2, h3, h4, _, h5⟩ := dd'
  refine d_write I (by rw [hD]; exact True.intro) hs ⟨o, ho⟩ ⟨l2, hd, _, (rel.put k hb rv).keeps fun c ys ec => ?_, o, es, ep, ho, h2, h3, h4, h5⟩
  rw [upd_ne (ne_of ec hD (fun z => nomatch z))]
  exact ec
def tDcT (wi : TI) (g : TG) (tt : TT) (tk tv : TE) (vs : List Nat) : TE := fun σ H Q => wi σ H fun J H1 => ∀ D, H1 D = none →
  ∃ W : Nat → Nat → Hp → Prop, (∃ m, W 0 m (upd H1 D (.dT []))) ∧ ∀ i m G, W i m G →
    (J.stop i G ∧ Q (.ref D) G) ∨ (J.go i G ∧ ∃ Nx : Hp → Prop, (∀ G', Nx G' → ∃ k, k < m ∧ W (i + 1) k G') ∧ ∀ x G', J.yld i G x G' → g x (wipe σ vs) G' fun σ2 G2 => wipe σ2 vs = wipe σ vs ∧ tt σ2 G2 fun b G3 =>
      if b = true then tk σ2 G3 fun y G4 => tv σ2 G4 fun z G5 => ∃ (b : Addr) (kvs : List (List L2.Key × V)) (k : List L2.Key), y = .ref b ∧ G5 b = some (.tup (k.map kV)) ∧ G5 D = some (.dT kvs) ∧ kvs.length < sizeLine ∧ Nx (upd G5 D (.dT (putK kvs k z))) else Nx G3)
theorem pe_dcT {kx vx tg iter : Expr} {ifs : List Expr} {scope : Scope} {own : List (PySem.Str × Nat)} {pos : Pos} {wi : TI} {g : TG} {tt : TT} {tk tv : TE} (hu : X.A.units + 1 < cLine) (calm : X.calm = true) (nd : X.N.Nodup) (hi : PI X tg iter wi) (ok : BlkOk X.N X.env.scope scope own)
    (hg : ∀ (s : Shared) (H : Hp) (C : Addr) (cl : List (PySem.Str × Addr)) (fp : List Addr), PG (X.blk s H scope (compEnvC scope cl C X.env) fp) tg g)
    (ht : ∀ (s : Shared) (H : Hp) (C : Addr) (cl : List (PySem.Str × Addr)) (fp : List Addr), PTs (X.blk s H scope (compEnvC scope cl C X.env) fp) ifs tt)
    (hk : ∀ (s : Shared) (H : Hp) (C : Addr) (cl : List (PySem.Str × Addr)) (fp : List Addr), PE (X.blk s H scope (compEnvC scope cl C X.env) fp) kx tk)
    (he : ∀ (s : Shared) (H : Hp) (C : Addr) (cl : List (PySem.Str × Addr)) (fp : List Addr), PE (X.blk s H scope (compEnvC scope cl C X.env) fp) vx tv) (hs : ∀ x, foldedSetIterable iter X.env x = pure x := by intro _; rfl) :
    PE X (.DictComp kx vx [⟨tg, iter, ifs, 0⟩] scope pos) (tDcT wi g tt tk tv (own.map (·.2))) := by
  refine ⟨fun pins s σ H Q I h => ?_⟩
  rw [arm_eval_DictComp]
  have free : ∀ y ∈ scope.names, y.2 = .free → ∃ c, X.env.cells.lookup y.1 = some c := fun y hy e => (ok.free y hy e).elim (fun k => I.ok.has _ (.inl k)) fun k => I.ok.has _ (.inr k)
  refine wpAny_comprehension_free (use := none) rfl hs (closure_ok free) ok.kind (fun y hy e => by rw [ok.uniq y hy, e]) (thn (hi.run pins s σ H _ I h) fun _ _ hx => thn hx fun _ s2 h2 => ?_)
  obtain ⟨it, fp, tn, J, H2, rfl, I2, T, st2, f2, q⟩ := h2
  refine wpAny_newObj_type (newEnv_comp ?_)
  have nD : H2 s2.heap.objs.size = none := I2.hok.fresh (Nat.le_refl _)
  obtain ⟨W, ⟨m0, w0⟩, turn⟩ := q _ nD
  have low : ∀ b ∈ fp, b < s2.heap.objs.size := fun b hb => (T.obj _ _ st2 b hb).elim fun _ e => Heap.lt_size e.1
  have I3 : Inv X pins σ (upd H2 s2.heap.objs.size (.dT [])) { s2 with heap := s2.heap.push { cls := .type "dict", data := .dict #[] } } :=
    I2.laid (t' := s2.toks) (fun _ _ e => Heap.get?_push_of_some _ e) (Nat.le_refl _) (dt_empty s2.heap I2.big)
  generalize es3 : ({ s2 with heap := s2.heap.push { cls := .type "dict", data := .dict #[] } } : Shared) = s3 at I3
  have grown : ∀ b o, s2.heap.get? b = some o → s3.heap.get? b = some o := fun b o e => by subst es3; exact Heap.get?_push_of_some _ e
  have ls : s2.heap.objs.size < s3.heap.objs.size := by
    subst es3
    show _ < (s2.heap.push _).objs.size
    rw [Heap.size_push]
    exact Nat.lt_succ_self _
  generalize eD : s2.heap.objs.size = D at I3 nD w0 low turn ls ⊢
  have f3 : ∀ b ∈ fp, FpOk X pins (upd H2 D (.dT [])) b ∧ b < s3.heap.objs.size := fun b hb =>
    ⟨⟨(upd_ne (Nat.ne_of_lt (low b hb))).trans (f2 b hb).1, (f2 b hb).2⟩, Nat.lt_trans (low b hb) ls⟩
  generalize upd H2 D (.dT []) = G0 at I3 w0 f3
  have st3 : tn 0 s3.heap := T.keep _ _ _ st2 fun b _ => grown b
  have I4 := block_start I3 ok nd f3
  have pg := hg s3 G0 s3.heap.objs.size (cellsFrom (s3.heap.objs.size + 1) scope.names (cloFrom X.env.cells scope.names [])) fp
  have pt := ht s3 G0 s3.heap.objs.size (cellsFrom (s3.heap.objs.size + 1) scope.names (cloFrom X.env.cells scope.names [])) fp
  have pk := hk s3 G0 s3.heap.objs.size (cellsFrom (s3.heap.objs.size + 1) scope.names (cloFrom X.env.cells scope.names [])) fp
  have pe := he s3 G0 s3.heap.objs.size (cellsFrom (s3.heap.objs.size + 1) scope.names (cloFrom X.env.cells scope.names [])) fp
  have nfp : ∀ b ∈ fp, G0 b = none := fun b hb => (f3 b hb).1.1
  have lC : (compEnvC scope (cellsFrom (s3.heap.objs.size + 1) scope.names (cloFrom X.env.cells scope.names [])) s3.heap.objs.size X.env).locals = s3.heap.objs.size := rfl
  show codeAny _ _ (.compStart _ 0 (.ref it) (.ref D) (compEnvC scope (cellsFrom (s3.heap.objs.size + 1) scope.names (cloFrom X.env.cells scope.names [])) s3.heap.objs.size X.env)) (compPost (model X.prog X.w) X.A X.xe none (EP X pins σ Q) (.ref D) s3.heap.objs.size) { s3 with heap := pushCells (s3.heap.push { cls := .type "dict", data := .dict #[] }) scope.names }
  generalize compEnvC scope (cellsFrom (s3.heap.objs.size + 1) scope.names (cloFrom X.env.cells scope.names [])) s3.heap.objs.size X.env = ce at I4 pg pt pk pe lC ⊢
  have st4 : tn 0 ({ s3 with heap := pushCells (s3.heap.push { cls := .type "dict", data := .dict #[] }) scope.names } : Shared).heap := T.keep _ _ _ st3 fun b _ o e => pushCells_keeps _ _ _ _ (Heap.get?_push_of_some _ e)
  generalize ({ s3 with heap := pushCells (s3.heap.push { cls := .type "dict", data := .dict #[] }) scope.names } : Shared) = s4 at I4 st4 ⊢
  have own_fp : ∀ {σ' : L2.St} {G : Hp} {s' : Shared}, Inv (X.blk s3 G0 scope ce fp) [] σ' G s' → (∀ b ∈ fp, G b = none) → ∀ b ∈ fp, FpOk (X.blk s3 G0 scope ce fp) [] G b := fun I' hn b hb =>
    ⟨hn b hb, (I'.ok.exf b hb).1, I'.ok.exfs b hb, .inl hb, fun x c e => (I'.ok.exf b hb).2 x c e, fun p hp => by cases hp⟩
  refine codeAny_compStart_dict ?A (T.self X.A 0 _ _ _ st4 ?A)
  refine compLoop_anyD (fun n s' => ∃ i G, Inv (X.blk s3 G0 scope ce fp) [] (wipe σ (own.map (·.2))) G s' ∧ tn i s'.heap ∧ (∀ b ∈ fp, G b = none) ∧ W i n G) ?_ m0 ⟨0, G0, I4, st4, nfp, w0⟩
  rintro n s5 ⟨i, G5, I5, st5, n5, w5⟩
  rcases turn i n G5 w5 with ⟨stop, fin⟩ | ⟨go, Nx, hNx, step⟩
  · refine thnF (T.done (X.blk s3 G0 scope ce fp) rfl rfl rfl calm i [] s5 _ G5 (fun _ _ => False) I5 (own_fp I5 n5) st5 stop) fun r s6 ⟨er, I6⟩ => ?_
    subst er
    have fr : G5 ce.locals = none := I6.free
    obtain ⟨m, ns, _⟩ := I6.loc
    have ns : s6.heap.Ns ce.locals m := ns
    rw [lC] at fr ns
    have I7 : Inv X pins σ G5 s6 := I3.call' (ch := fp) I6.os I6.base I6.hok I6.bare fun b hb => ⟨(f3 b hb).1.2.2.2.1, (f3 b hb).1.2.1, (f3 b hb).1.2.2.2.2.1, (f3 b hb).1.2.2.2.2.2⟩
    obtain ⟨a0, a1, a2, a3, a4, a5⟩ := I3.fpOk (Nat.le_refl _) fr
    exact ⟨m, ns, fun h'' sb => ⟨.ref D, G5, I7.turned (t' := s6.toks) (fun b o hb e => (sb.2 b hb).trans e) a0 a1 a3 a4 a5, rfl, fin⟩⟩
  · refine thnF (T.item (X.blk s3 G0 scope ce fp) rfl rfl rfl calm i [] s5 _ G5 (fun _ _ => False) I5 (own_fp I5 n5) st5 go) fun r s6 ⟨u, er, h6⟩ => ?_
    subst er
    refine thnF h6 fun _ s7 ⟨x, G7, I7, r7, y7, st7, n7⟩ => ?_
    refine thnF (pg.run _ s7 _ G7 x u _ (I7.pinned (own_fp I7 n7) (T.obj _ _ st7)) r7 (step x G7 y7)) fun _ s8 ⟨σ8, G8, I8, w8, q8⟩ => ?_
    refine thnF (pt.run _ s8 σ8 G8 _ I8 q8) fun b s9 ⟨G9, I9, q9⟩ => ?_
    have back : ∀ {s' : Shared} {G : Hp}, Inv (X.blk s3 G0 scope ce fp) ([] ++ pinsAt fp s7.heap) σ8 G s' → Nx G → ∃ m, m < n ∧ ∃ i G, Inv (X.blk s3 G0 scope ce fp) [] (wipe σ (own.map (·.2))) G s' ∧ tn i s'.heap ∧ (∀ b ∈ fp, G b = none) ∧ W i m G := fun {s' G} J nx => by
      obtain ⟨k, lt, wk⟩ := hNx G nx
      have held : ∀ b ∈ fp, ∀ o, s7.heap.get? b = some o → s'.heap.get? b = some o ∧ G b = none := fun b hb o e =>
        let z := J.pin (b, o) (List.mem_append_right _ (List.mem_append_right _ (mem_pinsAt hb e)))
        ⟨z.1, z.2.1⟩
      refine ⟨k, lt, i + 1, G, (J.unpinned (pins := [])).weak (by rw [← w8, wipe_length]) (fun j v e => ?_), T.keep _ _ _ st7 fun b hb o e => (held b hb o e).1, fun b hb => ?_, wk⟩
      · rw [← w8] at e
        exact (wipe_some e).1
      · obtain ⟨o, e, _⟩ := T.obj _ _ st7 b hb
        exact (held b hb o e).2
    cases b with
    | false => exact back I9 (show Nx G9 from q9)
    | true =>
      refine thnF (pk.run _ s9 σ8 G9 _ I9 q9) fun z s10 ⟨y, G10, I10, r10, q10⟩ => ?_
      refine thnF (pe.run _ s10 σ8 G10 _ I10 q10) fun z2 s11 ⟨v, G11, I11, r11, b, kvs, k, ey, hb, hD, room, nx⟩ => ?_
      subst ey
      cases (show z = Value.ref b from r10)
      exact dctSet (X := X.blk s3 G0 scope ce fp) hu I11 hD room hb r11 fun s12 I12 => back I12 nx
end

/-! ### doors and ways -/
inductive Way where
  | no
  | at (z : Str) (n : Int)
deriving DecidableEq
def Way.key : Way → List L2.Key
  | .no => []
  | .at z n => [.inr z, .inl n]
theorem Way.key_inj : ∀ {a b : Way}, a.key = b.key → a = b
  | .no, .no, _ => rfl
  | .no, .at _ _, h => by cases h
  | .at _ _, .no, h => by cases h
  | .at z n, .at y m, h => by
    cases h
    rfl
def WayAt (H : Hp) (b : Addr) (y : Way) : Prop := H b = some (.tup (y.key.map kV))
def Way.why : Way → Str
  | .no => "end"
  | .at z _ => if z = "return" then "end" else z
abbrev Oth : Type := List (List L2.Key × V)
structure Dr where
  e : Str
  f : Str
  c : Str
  o : Oth
def Dr.dflt (d : Dr) (y : Way) : Str := if y.why = "fail" then d.f else if y.why = "cut" then d.c else d.e
def Dr.get (d : Dr) (y : Way) : V := (valV d.o y.key).getD (.str (d.dflt y))
def doorWords : List Str := ["keep", "close", "check", "drain", "ping"]
abbrev drC (K : PySem.W.Frag) : Addr := He.ga K ("Door" : Str)
abbrev drFs (d : Dr) (o : Addr) : List (Str × V) := [("end", .str d.e), ("fail", .str d.f), ("cut", .str d.c), ("others", .ref o)]
structure DrA where
  r : Addr
  dx : Addr
  o : Addr
structure DrAt (C : Addr) (H : Hp) (a : DrA) (d : Dr) : Prop where
  ins : H a.r = some (.ins C a.dx (drFs d a.o))
  oth : H a.o = some (.dT d.o)
theorem DrAt.same {C : Addr} {H H' : Hp} {a : DrA} {d : Dr} (h : DrAt C H a d) (s : Same H H') : DrAt C H' a d := ⟨s _ _ h.ins, s _ _ h.oth⟩
theorem dr_end (d : Dr) (o : Addr) : (drFs d o).lookup ("end" : Str) = some (.str d.e) := rfl
theorem dr_fail (d : Dr) (o : Addr) : (drFs d o).lookup ("fail" : Str) = some (.str d.f) := rfl
theorem dr_cut (d : Dr) (o : Addr) : (drFs d o).lookup ("cut" : Str) = some (.str d.c) := rfl
theorem dr_oth (d : Dr) (o : Addr) : (drFs d o).lookup ("others" : Str) = some (.ref o) := rfl
section
variable {P : Program} {w : World} {K : PySem.W.Frag} {mg : Str → Option Value} {base : Heap}
theorem c_check_word (T : Tx K mg) : Cl P w K mg base 1 "check_word" (fun vs H Q _ => ∃ z : Str, vs = [.str z] ∧ z ∈ doorWords ∧ Q .non H) := by
  refine clD T.f_check_word T.g_check_word sc_check_word (fun _ _ _ _ _ _ us hl => match us, hl with | [_], _ => rfl) (fun vs H Q E h => ?_) (fun cdv A outer s H vs Q E hr h => ?_)
  · obtain ⟨z, rfl, _⟩ := h
    rfl
  · obtain ⟨z, rfl, hz, q⟩ := h
    refine ⟨_, (pss_one (ps_if (pt_cmpR (op_notIn_seqK (K := K) rfl) (pv 0) (pe_glob (v := .ref (He.ga K ("WORDS" : Str))) rfl T.g_WORDS rfl) (by rfl)) (pss_one ps_never) pss_nil)), ?_⟩
    have tW : SqT K H (He.ga K ("WORDS" : Str)) (sV doorWords) := tup_strs (T.t_WORDS H) rfl
    refine ⟨_, rfl, _, _, rfl, .inr tW, rfl, sV_all doorWords, _, rfl, ?_⟩
    rw [inV_sV, decide_eq_true hz]
    exact iteF q
theorem c_reason_of (T : Tx K mg) : Cl P w K mg base 1 "reason_of" (fun vs H Q _ => ∃ (b : Addr) (y : Way), vs = [.ref b] ∧ WayAt H b y ∧ Q (.str y.why) H) := by
  refine clD T.f_reason_of T.g_reason_of sc_reason_of (fun _ _ _ _ _ _ us hl => match us, hl with | [_], _ => rfl) (fun vs H Q E h => ?_) (fun cdv A outer s H vs Q E hr h => ?_)
  · obtain ⟨b, y, rfl, _⟩ := h
    rfl
  · obtain ⟨b, y, rfl, hb, q⟩ := h
    refine ⟨_, (pss_cons (ps_if (PW.pt (pw_or (pt_cmpR op_eq (pe_callB (call_len_seqK (K := K) rfl) rfl T.b_len boot_len (pa_cons (pv 0) pa_nil)) pe_int (nomark _)) (pw_or1 (pt_cmpR op_eq (pe_ix (ix_tupK (K := K) rfl) (pv 0) pe_int (fun _ _ => rfl)) pe_str (nomark _))))) (pss_one (ps_ret pe_str)) pss_nil)
      (pss_one (ps_ret (pe_ix (ix_tupK (K := K) rfl) (pv 0) pe_int (fun _ _ => rfl))))), ?_⟩
    have sq : SqT K H b (y.key.map kV) := SqT.of hb
    cases y with
    | no =>
      refine ⟨_, rfl, b, _, rfl, .inr sq, rfl, _, rfl, iteT ?_⟩
      exact q
    | «at» z n =>
      refine ⟨_, rfl, b, _, rfl, .inr sq, rfl, _, rfl, iteF ⟨_, rfl, b, _, _, _, rfl, rfl, sq, rfl, rfl, _, rfl, ?_⟩⟩
      show if decide (V.str z = V.str "return") = true then _ else _
      rw [dec_str2]
      have q' : Q (.str (if z = "return" then "end" else z)) H := q
      refine ite2 (fun h => ?_) (fun h => ?_)
      · rw [if_pos (of_decide_eq_true h)] at q'
        exact q'
      · rw [if_neg fun c => h (decide_eq_true c)] at q'
        exact ⟨_, rfl, b, _, _, _, rfl, rfl, sq, rfl, q'⟩
end

def spDoor (K : PySem.W.Frag) : Sp := fun vs H Q _ => ∃ (r dx : Addr) (e f c : Str), vs = [.ref r, .str e, .str f, .str c] ∧ H r = some (.ins (drC K) dx []) ∧ e ∈ doorWords ∧ f ∈ doorWords ∧ c ∈ doorWords ∧
  ∀ (o : Addr) (H' : Hp), Off r H H' → H o = none → DrAt (drC K) H' ⟨r, dx, o⟩ ⟨e, f, c, []⟩ → Q .non H'
section
variable {P : Program} {w : World} {K : PySem.W.Frag} {mg : Str → Option Value} {base : Heap}
theorem c_Dooru_initu (T : Tx K mg) : Mkw P w K mg base 2 "Door" (drC K) ["end", "fail", "cut"] (spDoor K) := by
  have c_check_word := c_check_word (P := P) (w := w) (base := base) T
  obtain ⟨fd, F⟩ := T.f_Dooru_initu
  obtain ⟨mv, kb⟩ := F.kbinds0 (ps := ["self", "end", "fail", "cut"]) 1 ["end", "fail", "cut"] [] (fun us _ ws => us ++ ws) (by intro h; cases h) (fun q h => by cases h) (fun r1 _ r3 => r1.append r3)
    (fun D doc pm an cdv ct us mv ws h1 h2 h3 => match us, mv, ws, h1, h2, h3 with | [_], [], [_, _, _], _, _, _ => rfl)
  refine ⟨_, fd, _, T.m_Dooru_initu, F.ok sc_Dooru_initu (k := 1) (sp := spDoor K) (fun vs H Q E h => ?_) (fun cdv A outer s H vs Q E hr h => ?_), T.g_Door, kb⟩
  · obtain ⟨r, dx, e, f, c, rfl, _⟩ := h
    rfl
  · obtain ⟨r, dx, e, f, c, rfl, hi, he, hf, hc, q⟩ := h
    have body : ∃ t, PSs (cxOf CX0 P w K mg base ["self", "end", "fail", "cut", "word"] "Door.__init__" (defScope s_Dooru_initu) (He.fAd K (("Door" : Str), some ("__init__" : Str))) cdv A outer s H E).nox (defBody s_Dooru_initu) t ∧ t { nx := fun _ H' => Q .non H', rt := Q } (start ["self", "end", "fail", "cut", "word"] [.ref r, .str e, .str f, .str c]) H := by
      refine ⟨_, (pss_cons (ps_for PassesOwn.never rfl (pi_tup (pe_tup (pa_cons (pv 1) (pa_cons (pv 2) (pa_cons (pv 3) pa_nil))))) (pg_name (i := 4) sc_Dooru_initu.nd rfl (by first | exact Or.inl rfl | exact Or.inr rfl)) (pss_one (ps_expr (pe_f c_check_word hr (by first | decide | omega) (pa_cons (pv 4) pa_nil)))))
      (pss_cons (ps_fld (pv 0) (pv 1) rfl)
      (pss_cons (ps_fld (pv 0) (pv 2) rfl)
      (pss_cons (ps_fld (pv 0) (pv 3) rfl)
      (pss_one (ps_fld (pv 0) pe_dnewT rfl)))))), ?_⟩
      refine ⟨_, rfl, _, rfl, _, rfl, by show 3 ≤ sizeLine; decide, fun p1 n1 => new_at n1 fun H1 s1 h1 => ⟨p1, rfl, ⟨_, SqT.of h1⟩, ?_⟩⟩
      refine for_it (walk_tup (K := K) (a := p1) (xs := sV [e, f, c])) (fun i σ G => G = H1 ∧ ∃ x, σ = [some (.ref r), some (.str e), some (.str f), some (.str c), x]) ⟨rfl, _, rfl⟩ (fun i σ G _ h => by rw [h.1]; exact SqT.of h1) (fun i x σ G1 G2 hi h y => ?_) (fun σ G1 h => ?_)
      · obtain ⟨rfl, x1, rfl⟩ := h
        obtain ⟨rfl, hx⟩ := y
        obtain ⟨z, rfl, ez⟩ := sV_get hx
        have hz : z ∈ doorWords := by
          have m := List.mem_of_getElem? ez
          simp only [List.mem_cons, List.not_mem_nil, or_false] at m
          rcases m with c | c | c <;> subst c <;> assumption
        exact ⟨_, rfl, z, rfl, hz, rfl, _, rfl⟩
      · obtain ⟨rfl, x1, rfl⟩ := h
        have hi1 := s1 _ _ hi
        refine ⟨_, rfl, _, rfl, r, _, dx, _, rfl, hi1, T.c_Door, T.n_Door_end, by show 0 < 1000; decide, put_at fun G2 f2 b2 i2 => ?_⟩
        refine ⟨_, rfl, _, rfl, r, _, dx, _, rfl, i2, T.c_Door, T.n_Door_fail, by show 1 < 1000; decide, put_at fun G3 f3 b3 i3 => ?_⟩
        refine ⟨_, rfl, _, rfl, r, _, dx, _, rfl, i3, T.c_Door, T.n_Door_cut, by show 2 < 1000; decide, put_at fun G4 f4 b4 i4 => ?_⟩
        refine fun p5 n5 => new_at n5 fun G5 s5 h5 => ⟨_, rfl, r, _, dx, _, rfl, s5 _ _ i4, T.c_Door, T.n_Door_others, by show 3 < 1000; decide, put_at fun G6 f6 b6 i6 => ?_⟩
        have r5 := none_ne i4 n5
        have o4 : Off r H G4 := (((Off.of s1).trans f2).trans f3).trans f4
        exact q p5 G6 ((o4.same s5).trans f6) (o4.free r5 n5) ⟨i6, f6 _ _ r5 h5⟩
    obtain ⟨t, h1, h2⟩ := body
    exact ⟨t, h1.nox, h2⟩
theorem c_Dooru_setitemu (T : Tx K mg) : Sx P w K mg base 2 (drC K) "__setitem__" (fun vs H Q _ => ∃ (a : DrA) (d : Dr) (b : Addr) (y : Way) (z : Str), vs = [.ref a.r, .ref b, .str z] ∧ DrAt (drC K) H a d ∧ WayAt H b y ∧ z ∈ doorWords ∧ d.o.length < 100000 ∧
    ∀ H', Off a.o H H' → DrAt (drC K) H' a { d with o := putK d.o y.key (.str z) } → Q .non H') := by
  have c_check_word := c_check_word (P := P) (w := w) (base := base) T
  refine sxD T.f_Dooru_setitemu T.m_Dooru_setitemu sc_Dooru_setitemu (fun _ _ _ _ _ _ us hl => match us, hl with | [_, _, _], _ => rfl) (fun vs H Q E h => ?_) (fun cdv A outer s H vs Q E hr h => ?_)
  · obtain ⟨a, d, b, y, z, rfl, _⟩ := h
    rfl
  · obtain ⟨a, d, b, y, z, rfl, D, hb, hz, hl, q⟩ := h
    refine ⟨_, (pss_cons (ps_expr (pe_f c_check_word hr (by first | decide | omega) (pa_cons (pv 2) pa_nil)))
      (pss_one (ps_dput (hu_of hr) (pe_fldK (K := K) rfl (pv 0) rfl) (pv 1) (pv 2) rfl))), ?_⟩
    have ro : a.r ≠ a.o := ne_of D.ins D.oth (by intro c; cases c)
    exact ⟨_, rfl, z, rfl, hz, _, rfl, _, rfl, a.r, _, a.dx, _, _, rfl, D.ins, T.c_Door, T.n_Door_others, dr_oth d a.o, _, rfl, a.o, _, rfl, DPut.t D.oth hb (Nat.lt_of_lt_of_le hl (by decide)), put_at fun H1 f1 b1 i1 => q H1 f1 ⟨f1 _ _ ro D.ins, i1⟩⟩
theorem c_Door_change (T : Tx K mg) : Mt P w K mg base 3 (drC K) "change" (fun vs H Q _ => ∃ (a : DrA) (d : Dr) (b : Addr) (y : Way) (z : Str), vs = [.ref a.r, .ref b, .str z] ∧ DrAt (drC K) H a d ∧ WayAt H b y ∧ z ∈ doorWords ∧ d.o.length < 100000 ∧
    ∀ H', Off a.o H H' → DrAt (drC K) H' a { d with o := putK d.o y.key (.str z) } → Q .non H') := by
  have c_Dooru_setitemu := c_Dooru_setitemu (P := P) (w := w) (base := base) T
  refine mtD T.f_Door_change T.c_Door T.m_Door_change sc_Door_change (fun _ _ _ _ _ _ us hl => match us, hl with | [_, _, _], _ => rfl) (fun vs H Q E h => ?_) (fun cdv A outer s H vs Q E hr h => ?_)
  · obtain ⟨a, d, b, y, z, rfl, _⟩ := h
    rfl
  · obtain ⟨a, d, b, y, z, rfl, D, hb, hz, hl, q⟩ := h
    refine ⟨_, (pss_one (ps_asg (pv 2) (pg_sub (pv 0) (pv 1) (set_own c_Dooru_setitemu T.q_Door hr (by first | decide | omega))))), ?_⟩
    exact ⟨_, rfl, _, rfl, _, rfl, a.r, a.dx, _, rfl, D.ins, a, d, b, y, z, rfl, D, hb, hz, hl, fun H' f D' => q H' f D'⟩
theorem c_Dooru_getitemu (T : Tx K mg) : Sx P w K mg base 2 (drC K) "__getitem__" (fun vs H Q _ => ∃ (a : DrA) (d : Dr) (b : Addr) (y : Way), vs = [.ref a.r, .ref b] ∧ DrAt (drC K) H a d ∧ WayAt H b y ∧ Q (d.get y) H) := by
  have c_reason_of := c_reason_of (P := P) (w := w) (base := base) T
  refine sxD T.f_Dooru_getitemu T.m_Dooru_getitemu sc_Dooru_getitemu (fun _ _ _ _ _ _ us hl => match us, hl with | [_, _], _ => rfl) (fun vs H Q E h => ?_) (fun cdv A outer s H vs Q E hr h => ?_)
  · obtain ⟨a, d, b, y, rfl, _⟩ := h
    rfl
  · obtain ⟨a, d, b, y, rfl, D, hb, q⟩ := h
    refine ⟨_, (pss_cons (ps_set (i := 2) sc_Dooru_getitemu.nd rfl (by first | exact Or.inl rfl | exact Or.inr rfl) (pe_f c_reason_of hr (by first | decide | omega) (pa_cons (pv 1) pa_nil)))
      (pss_cons (ps_if (pt_cmp (pc_din (hu_of hr) (pv 1) (pe_fldK (K := K) rfl (pv 0) rfl))) (pss_one (ps_ret (pe_dget (hu_of hr) (pe_fldK (K := K) rfl (pv 0) rfl) (pv 1) (fun _ _ => rfl)))) pss_nil)
      (pss_cons (ps_if (pt_cmpR op_eq (pv 2) pe_str (nomark _)) (pss_one (ps_ret (pe_fldK (K := K) rfl (pv 0) rfl))) pss_nil)
      (pss_one (ps_ret (pe_ifExp (pt_cmpR op_eq (pv 2) pe_str (nomark _)) (pe_fldK (K := K) rfl (pv 0) rfl) (pe_fldK (K := K) rfl (pv 0) rfl))))))), ?_⟩
    refine ⟨_, rfl, b, y, rfl, hb, _, rfl, _, rfl, a.r, _, a.dx, _, _, rfl, D.ins, T.c_Door, T.n_Door_others, dr_oth d a.o, a.o, _, rfl, DGet.t D.oth hb, ?_⟩
    unfold Dr.get at q
    cases e : valV d.o y.key with
    | some v =>
      rw [e] at q
      refine ⟨_, rfl, iteT ?_⟩
      refine ⟨_, rfl, a.r, _, a.dx, _, _, rfl, D.ins, T.c_Door, T.n_Door_others, dr_oth d a.o, _, rfl, a.o, v, rfl, ?_, q⟩
      have g := DGet.t D.oth hb
      rw [e] at g
      exact g
    | none =>
      rw [e] at q
      have q : Q (.str (d.dflt y)) H := q
      unfold Dr.dflt at q
      refine ⟨_, rfl, iteF ⟨_, rfl, rfl, _, rfl, ?_⟩⟩
      rw [dec_str2]
      refine ite2 (fun h => ?_) (fun h => ?_)
      · rw [if_pos (of_decide_eq_true h)] at q
        exact ⟨_, rfl, a.r, _, a.dx, _, _, rfl, D.ins, T.c_Door, T.n_Door_fail, dr_fail d a.o, q⟩
      · rw [if_neg fun c => h (decide_eq_true c)] at q
        refine ⟨_, rfl, rfl, _, rfl, ?_⟩
        rw [dec_str2]
        refine ite2 (fun h => ?_) (fun h => ?_)
        · rw [if_pos (of_decide_eq_true h)] at q
          exact ⟨_, rfl, a.r, _, a.dx, _, _, rfl, D.ins, T.c_Door, T.n_Door_cut, dr_cut d a.o, q⟩
        · rw [if_neg fun c => h (decide_eq_true c)] at q
          exact ⟨_, rfl, a.r, _, a.dx, _, _, rfl, D.ins, T.c_Door, T.n_Door_end, dr_end d a.o, q⟩
end

theorem valV_in {κ : Type} [DecidableEq κ] : ∀ {o : List (κ × V)} {p : κ × V}, p ∈ o → ∃ v, valV o p.1 = some v ∧ (p.1, v) ∈ o
  | q :: r, p, h => by
    by_cases e : q.1 = p.1
    · exact ⟨q.2, valV_pos e, by rw [← e]; exact List.mem_cons_self ..⟩
    · rcases List.mem_cons.mp h with c | c
      · subst c
        exact absurd rfl e
      · obtain ⟨v, a, b⟩ := valV_in c
        exact ⟨v, (valV_neg e).trans a, List.mem_cons_of_mem _ b⟩
def copyF (o : Oth) (l : Oth) : Oth := l.foldl (fun acc p => putK acc p.1 ((valV o p.1).getD .non)) []
def copyO (o : Oth) : Oth := copyF o o
theorem copyF_len (o : Oth) : ∀ (l acc : Oth), (l.foldl (fun acc p => putK acc p.1 ((valV o p.1).getD .non)) acc).length ≤ acc.length + l.length
  | [], acc => Nat.le_refl _
  | p :: r, acc => by
    have := putK_le p.1 ((valV o p.1).getD .non) acc
    refine Nat.le_trans (copyF_len o r (putK acc p.1 ((valV o p.1).getD .non))) ?_
    rw [List.length_cons]
    omega
structure DrOk (d : Dr) : Prop where
  e : d.e ∈ doorWords
  f : d.f ∈ doorWords
  c : d.c ∈ doorWords
  o : ∀ p ∈ d.o, (∃ y : Way, p.1 = y.key) ∧ ∃ z ∈ doorWords, p.2 = .str z
  few : d.o.length ≤ 1000
/-- a new Door of these contents -/
def NewDr (K : PySem.W.Frag) (H : Hp) (Q : VK) (d : Dr) : Prop := ∀ (a : DrA) (H' : Hp), Same H H' → H a.r = none → H a.o = none → DrAt (drC K) H' a d → Q (.ref a.r) H'
section
variable {P : Program} {w : World} {K : PySem.W.Frag} {mg : Str → Option Value} {base : Heap}
theorem c_Door_copy (T : Tx K mg) : Mt P w K mg base 4 (drC K) "copy" (fun vs H Q _ => ∃ (a : DrA) (d : Dr), vs = [.ref a.r] ∧ DrAt (drC K) H a d ∧ DrOk d ∧ NewDr K H Q { d with o := copyO d.o }) := by
  have c_Dooru_setitemu := c_Dooru_setitemu (P := P) (w := w) (base := base) T
  have k_Door := c_Dooru_initu (P := P) (w := w) (base := base) T
  refine mtD T.f_Door_copy T.c_Door T.m_Door_copy sc_Door_copy (fun _ _ _ _ _ _ us hl => match us, hl with | [_], _ => rfl) (fun vs H Q E h => ?_) (fun cdv A outer s H vs Q E hr h => ?_)
  · obtain ⟨a, d, rfl, _⟩ := h
    rfl
  · obtain ⟨a, d, rfl, D, ok, q⟩ := h
    have few := ok.few
    refine ⟨_, (pss_cons (ps_set (i := 1) sc_Door_copy.nd rfl (by first | exact Or.inl rfl | exact Or.inr rfl) (pe_kw k_Door hr (by first | decide | omega) (pk_cons (pe_fldK (K := K) rfl (pv 0) rfl) (pk_cons (pe_fldK (K := K) rfl (pv 0) rfl) (pk_cons (pe_fldK (K := K) rfl (pv 0) rfl) pk_nil)))))
      (pss_cons (ps_lock (ps_for PassesOwn.never rfl (pi_keys (pe_fldK (K := K) rfl (pv 0) rfl)) (pg_name (i := 2) sc_Door_copy.nd rfl (by first | exact Or.inl rfl | exact Or.inr rfl)) (pss_one (ps_asg (pe_dget (hu_of hr) (pe_fldK (K := K) rfl (pv 0) rfl) (pv 2) (fun _ _ => rfl)) (pg_sub (pv 1) (pv 2) (set_own c_Dooru_setitemu T.q_Door hr (by first | decide | omega)))))))
      (pss_one (ps_ret (pv 1))))), ?_⟩
    refine ⟨_, rfl, a.r, _, a.dx, _, _, rfl, D.ins, T.c_Door, T.n_Door_end, dr_end d a.o, _, rfl, a.r, _, a.dx, _, _, rfl, D.ins, T.c_Door, T.n_Door_fail, dr_fail d a.o, _, rfl, a.r, _, a.dx, _, _, rfl, D.ins, T.c_Door, T.n_Door_cut, dr_cut d a.o, rfl, rfl, fun x dx nx ndx hxd => ⟨x, dx, d.e, d.f, d.c, rfl, upd_same, ok.e, ok.f, ok.c, fun o H1 off no D1 => ⟨rfl, ?_⟩⟩⟩
    have s1 : Same H H1 := fun b u e => by
      have b1 : b ≠ x := ne_of_none e nx
      have b2 : b ≠ dx := ne_of_none e ndx
      refine off b u b1 ?_
      rw [upd_ne b1, upd_ne b2]
      exact e
    have no' : H o = none := by
      have b1 : o ≠ x := fun c => by rw [c, upd_same] at no; cases no
      have b2 : o ≠ dx := fun c => by rw [upd_ne b1, c, upd_same] at no; cases no
      rw [upd_ne b1, upd_ne b2] at no
      exact no
    have D1' := D.same s1
    have rx : a.r ≠ x := ne_of_none D.ins nx
    have ox : a.o ≠ x := ne_of_none D.oth nx
    have ro : a.r ≠ o := ne_of_none D.ins no'
    have oo : a.o ≠ o := ne_of_none D.oth no'
    have rao : a.r ≠ a.o := ne_of D.ins D.oth (by intro c; cases c)
    have xo : x ≠ o := ne_of D1.ins D1.oth (by intro c; cases c)
    refine ⟨a.o, _, D1'.oth, trivial, fun od => put_at fun GL fL bL iL => ?_⟩
    have insL := fL _ _ rao D1'.ins
    have DL : DrAt (drC K) GL ⟨x, dx, o⟩ ⟨d.e, d.f, d.c, []⟩ := ⟨fL _ _ ox.symm D1.ins, fL _ _ oo.symm D1.oth⟩
    refine ⟨_, rfl, a.r, _, a.dx, _, _, rfl, insL, T.c_Door, T.n_Door_others, dr_oth d a.o, a.o, od, rfl, .inr ⟨_, iL, ?_⟩⟩
    refine for_it (walk_keysT (d := a.o) (o := od) (kvs := d.o)) (fun i σ G => Off o GL G ∧ DrAt (drC K) G ⟨x, dx, o⟩ ⟨d.e, d.f, d.c, copyF d.o (d.o.take i)⟩ ∧ ∃ z, σ = [some (.ref a.r), some (.ref x), z]) ⟨Off.refl o GL, DL, _, rfl⟩ (fun i σ G _ h => h.1 _ _ oo iL) (fun i y σ G1 G2 hi h yy => ?_) (fun σ G1 h => ?_)
    · obtain ⟨f, D2, z, rfl⟩ := h
      obtain ⟨rfl, k, v, b, ek, rfl, hb⟩ := yy
      have mk := List.mem_of_getElem? ek
      obtain ⟨v2, ev, mv⟩ := valV_in mk
      obtain ⟨⟨y, ey⟩, zw, hz, ez⟩ := ok.o _ mv
      have ev : valV d.o k = some v2 := ev
      have ey : k = y.key := ey
      have ez : v2 = .str zw := ez
      subst ey ez
      have hg : DGet G2 a.o (.ref b) (some (.str zw)) := .inr ⟨d.o, y.key, b, .inr ⟨od, f _ _ oo iL⟩, rfl, hb, ev.symm⟩
      refine ⟨_, rfl, a.r, _, a.dx, _, _, rfl, f _ _ ro insL, T.c_Door, T.n_Door_others, dr_oth d a.o, _, rfl, a.o, _, rfl, hg, _, rfl, _, rfl, x, dx, _, rfl, D2.ins, ⟨x, dx, o⟩, _, b, y, zw, rfl, D2, hb, hz, ?_, fun G3 f3 D3 => ⟨f.trans f3, ?_, _, rfl⟩⟩
      · have h2 : (d.o.take i).length ≤ 1000 := Nat.le_trans (List.length_take_le' ..) few
        exact Nat.lt_of_le_of_lt (Nat.le_trans (copyF_len d.o (d.o.take i) []) (by rw [List.length_nil, Nat.zero_add]; exact h2)) (by decide)
      · have e2 : copyF d.o (d.o.take (i + 1)) = putK (copyF d.o (d.o.take i)) y.key (.str zw) := by
          unfold copyF
          rw [take_fold _ _ ek]
          show putK _ y.key ((valV d.o y.key).getD .non) = _
          rw [ev] <;> rfl
        rw [e2]
        exact D3
    · obtain ⟨f, D2, z, rfl⟩ := h
      rw [List.take_length] at D2
      refine ⟨f _ _ oo iL, put_at fun G4 f4 b4 i4 => ⟨_, rfl, q ⟨x, dx, o⟩ G4 (fun b u e => ?_) nx no' ⟨f4 _ _ ox.symm D2.ins, f4 _ _ oo.symm D2.oth⟩⟩⟩
      by_cases c : b = a.o
      · subst c
        rw [D.oth] at e
        cases e
        exact i4
      · exact f4 _ _ c (f _ _ (ne_of_none e no') (fL _ _ c (s1 _ _ e)))
end

/-! ### mends -/
inductive Mend where
  | shield (n : Nat)
  | close (y : Way)
deriving DecidableEq
def MendAt (H : Hp) (p : Addr) : Mend → Prop
  | .shield n => H p = some (.tup [.str "shield", .int (n : Nat)])
  | .close y => ∃ b, H p = some (.tup [.str "close", .ref b]) ∧ WayAt H b y
theorem MendAt.same {H H' : Hp} {p : Addr} (s : Same H H') : ∀ {m : Mend}, MendAt H p m → MendAt H' p m
  | .shield _, h => s _ _ h
  | .close _, h => let ⟨b, e, w⟩ := h; ⟨b, s _ _ e, s _ _ w⟩
theorem MendAt.off {H H' : Hp} {p D : Addr} (f : Off D H H') (hd : ∀ xs, H D ≠ some (.tup xs)) : ∀ {m : Mend}, MendAt H p m → MendAt H' p m
  | .shield n, h => f _ _ (fun c => hd _ (c ▸ h)) h
  | .close y, h => let ⟨b, e, w⟩ := h; ⟨b, f _ _ (fun c => hd _ (c ▸ e)) e, f _ _ (fun c => hd _ (c ▸ w)) w⟩
def MendsAt (H : Hp) (pm : Addr) (ms : List Mend) : Prop := ∃ ps : List Addr, H pm = some (.lst (ps.map V.ref)) ∧ ps.length = ms.length ∧ ∀ (i : Nat) (m : Mend), ms[i]? = some m → ∃ p, ps[i]? = some p ∧ MendAt H p m
theorem MendsAt.same {H H' : Hp} {pm : Addr} {ms : List Mend} (s : Same H H') (h : MendsAt H pm ms) : MendsAt H' pm ms :=
  let ⟨ps, a, b, c⟩ := h; ⟨ps, s _ _ a, b, fun i m e => let ⟨p, x, y⟩ := c i m e; ⟨p, x, y.same s⟩⟩
def Mend.row? : Mend → Option Nat
  | .shield n => some n
  | .close _ => none
def shOf (ms : List Mend) : List Nat := ms.filterMap Mend.row?
def closeS (o : Oth) : Mend → Oth
  | .close y => putK o y.key (.str "close")
  | .shield _ => o
def closeF (o : Oth) (ms : List Mend) : Oth := ms.foldl closeS o
theorem closeF_len : ∀ (ms : List Mend) (o : Oth), (closeF o ms).length ≤ o.length + ms.length
  | [], o => Nat.le_refl _
  | m :: r, o => by
    refine Nat.le_trans (closeF_len r (closeS o m)) ?_
    rw [List.length_cons]
    cases m with
    | shield n => show o.length + r.length ≤ _; omega
    | close y =>
      have := putK_le y.key (V.str "close") o
      show (putK o y.key (V.str "close")).length + r.length ≤ _
      omega
def inI (rows : List Nat) (n : Int) : Bool := rows.any fun k => decide ((k : Int) = n)
theorem inV_inI (n : Int) : ∀ rows : List Nat, inV (.int n) (nV rows) = inI rows n
  | [] => rfl
  | k :: r => by
    have ih := inV_inI n r
    have e : inV (.int n) (nV (k :: r)) = (eqV (.int (k : Int)) (.int n) || inV (.int n) (nV r)) := rfl
    have e2 : eqV (.int (k : Int)) (.int n) = ((k : Int) == n) := rfl
    rw [e, ih, e2]
    show _ = (decide ((k : Int) = n) || inI r n)
    congr 1
def renN (rows : List Nat) (n : Int) : Int := n + 2 * ((rows.filter fun (k : Nat) => decide ((k : Int) < n)).length : Int) + (if inI rows n = true then 1 else 0)
def ren (rows : List Nat) : Way → Way
  | .no => .no
  | .at z n => .at z (renN rows n)
def spRows2 : Sp := fun vs H Q _ => ∃ (pm : Addr) (ms : List Mend), vs = [.ref pm] ∧ MendsAt H pm ms ∧ ms.length ≤ 1000 ∧ ∀ (p : Addr) (H' : Hp), H p = none → Same H H' → H' p = some (.lst (nV (shOf ms))) → Q (.ref p) H'
theorem shOf_snoc (ms : List Mend) (m : Mend) : shOf (ms ++ [m]) = shOf ms ++ (match m with | .shield n => [n] | .close _ => []) := by
  unfold shOf
  rw [List.filterMap_append]
  cases m <;> rfl
theorem shOf_len (ms : List Mend) : (shOf ms).length ≤ ms.length := List.length_filterMap_le ..
section
variable {P : Program} {w : World} {K : PySem.W.Frag} {mg : Str → Option Value} {base : Heap}
theorem c_rows_of (T : Tx K mg) : Cl P w K mg base 1 "rows_of" spRows2 := by
  refine clD T.f_rows_of T.g_rows_of sc_rows_of (fun _ _ _ _ _ _ us hl => match us, hl with | [_], _ => rfl) (fun vs H Q E h => ?_) (fun cdv A outer s H vs Q E hr h => ?_)
  · obtain ⟨pm, ms, rfl, _⟩ := h
    rfl
  · obtain ⟨pm, ms, rfl, ⟨ps, hp, lps, pa⟩, few, q⟩ := h
    refine ⟨_, (pss_one (ps_ret (pe_lc (own := [("word", 1), ("where", 2)]) (g := gTup K 2 (gCons (gName 1) (gCons (gName 2) gNil))) rfl sc_rows_of.nd (pi_list (pv 0)) (blkOk_by (N := ["mends", "word", "where"]) (sc := defScope s_rows_of) (by decide +kernel)) (fun _ _ _ _ _ => (pg_tup rfl (pgs_cons (pg_name (i := 1) sc_rows_of.nd rfl (by first | exact Or.inl rfl | exact Or.inr rfl)) (pgs_cons (pg_name (i := 2) sc_rows_of.nd rfl (by first | exact Or.inl rfl | exact Or.inr rfl)) pgs_nil)))) (fun _ _ _ _ _ => (pts_one (pt_cmpR op_eq (pv 1) pe_str (nomark _)))) (fun _ _ _ _ _ => (pv 2))))), ?_⟩
    refine ⟨_, rfl, pm, rfl, ⟨_, SqL.of hp⟩, fun D nD => ?_⟩
    have hne : ∀ {b : Addr} {o : HO}, H b = some o → b ≠ D := fun e => ne_of_none e nD
    refine lc_list (K := K) (a := pm) (xs := ps.map V.ref) (fun i G => Off D H G ∧ G D = some (.lst (nV (shOf (ms.take i))))) ⟨(Off.refl D H).put, upd_same⟩ (fun i G _ h => SqL.of (h.1 _ _ (hne hp) hp)) (fun i x G hx h => ?_) (fun G h => ?_)
    · obtain ⟨f, hD⟩ := h
      have hi : i < ms.length := by
        have := (List.getElem?_eq_some_iff.mp hx).1
        rw [List.length_map, lps] at this
        exact this
      have em : ms[i]? = some ms[i] := List.getElem?_eq_getElem hi
      generalize ms[i] = m at em
      obtain ⟨p, ep, hm⟩ := pa i m em
      have ex : x = .ref p := by
        rw [List.getElem?_map, ep] at hx
        exact (Option.some.inj hx).symm
      subst ex
      have et : ms.take (i + 1) = ms.take i ++ [m] := by rw [List.take_succ, em] <;> rfl
      have len : (nV (shOf (ms.take i))).length < sizeLine := by
        rw [List.length_map]
        exact Nat.lt_of_le_of_lt (Nat.le_trans (shOf_len _) (List.length_take_le ..)) (Nat.lt_of_lt_of_le hi (Nat.le_trans few (by decide)))
      cases m with
      | shield n =>
        have hm2 := f _ _ (hne hm) hm
        refine ⟨p, _, rfl, SqT.of hm2, rfl, _, _, rfl, _, _, rfl, rfl, rfl, _, rfl, rfl, _, rfl, iteT ⟨_, rfl, _, hD, len, f.put, ?_⟩⟩
        rw [upd_same, et, shOf_snoc]
        simp [nV]
      | close y =>
        obtain ⟨b, hm1, _⟩ := hm
        have hm2 := f _ _ (hne hm1) hm1
        refine ⟨p, _, rfl, SqT.of hm2, rfl, _, _, rfl, _, _, rfl, rfl, rfl, _, rfl, rfl, _, rfl, iteF ⟨f, ?_⟩⟩
        rw [et, shOf_snoc, List.append_nil]
        exact hD
    · obtain ⟨f, hD⟩ := h
      rw [List.length_map, lps, List.take_length] at hD
      exact q D G nD (fun b o e => f b o (hne e) e) hD
theorem c_renumbered (T : Tx K mg) : Cl P w K mg base 1 "renumbered" (fun vs H Q _ => ∃ (b pr : Addr) (y : Way) (rows : List Nat), vs = [.ref b, .ref pr] ∧ WayAt H b y ∧ H pr = some (.lst (nV rows)) ∧ rows.length ≤ 1000 ∧
    ∀ (p : Addr) (H' : Hp), Same H H' → WayAt H' p (ren rows y) → Q (.ref p) H') := by
  refine clD T.f_renumbered T.g_renumbered sc_renumbered (fun _ _ _ _ _ _ us hl => match us, hl with | [_, _], _ => rfl) (fun vs H Q E h => ?_) (fun cdv A outer s H vs Q E hr h => ?_)
  · obtain ⟨b, pr, y, rows, rfl, _⟩ := h
    rfl
  · obtain ⟨b, pr, y, rows, rfl, hb, hp, few, q⟩ := h
    refine ⟨_, (pss_cons (ps_if (pt_cmpR op_eq (pe_callB (call_len_seqK (K := K) rfl) rfl T.b_len boot_len (pa_cons (pv 0) pa_nil)) pe_int (nomark _)) (pss_one (ps_ret (pv 0))) pss_nil)
      (pss_cons (ps_set (i := 2) sc_renumbered.nd rfl (by first | exact Or.inl rfl | exact Or.inr rfl) (pe_callB (call_len_seqK (K := K) rfl) rfl T.b_len boot_len (pa_cons (pe_lc (own := [("row", 3)]) (g := gName 3) rfl sc_renumbered.nd (pi_list (pv 1)) (blkOk_by (N := ["way", "rows", "before", "row"]) (sc := defScope s_renumbered) (by decide +kernel)) (fun _ _ _ _ _ => (pg_name (i := 3) sc_renumbered.nd rfl (by first | exact Or.inl rfl | exact Or.inr rfl))) (fun _ _ _ _ _ => (pts_one (pt_cmpR op_lt (pv 3) (pe_ix (ix_tupK (K := K) rfl) (pv 0) pe_int (fun _ _ => rfl)) (nomark _)))) (fun _ _ _ _ _ => (pv 3))) pa_nil)))
      (pss_one (ps_ret (pe_tup (pa_cons (pe_ix (ix_tupK (K := K) rfl) (pv 0) pe_int (fun _ _ => rfl)) (pa_cons (pe_op op_add (pe_op op_add (pe_ix (ix_tupK (K := K) rfl) (pv 0) pe_int (fun _ _ => rfl)) (pe_op op_mul pe_int (pv 2))) (pe_callTy call_int1 rfl T.b_int boot_int (pa_cons (pe_cmpR (op_in_seqK (K := K) rfl) (pe_ix (ix_tupK (K := K) rfl) (pv 0) pe_int (fun _ _ => rfl)) (pv 1) (by rfl)) pa_nil))) pa_nil))))))), ?_⟩
    have sq : SqT K H b (y.key.map kV) := SqT.of hb
    cases y with
    | no =>
      refine ⟨_, rfl, b, _, rfl, .inr sq, rfl, _, rfl, iteT ⟨_, rfl, ?_⟩⟩
      exact q b H (Same.refl H) hb
    | «at» z n =>
      refine ⟨_, rfl, b, _, rfl, .inr sq, rfl, _, rfl, iteF ?_⟩
      refine ⟨_, rfl, pr, rfl, ⟨_, SqL.of hp⟩, fun D nD => ?_⟩
      have hne : ∀ {b : Addr} {o : HO}, H b = some o → b ≠ D := fun e => ne_of_none e nD
      have hb0 : H b = some (.tup [.str z, .int n]) := hb
      refine lc_list (K := K) (a := pr) (xs := nV rows) (fun i G => Off D H G ∧ G D = some (.lst (nV ((rows.take i).filter fun (k : Nat) => decide ((k : Int) < n))))) ⟨(Off.refl D H).put, upd_same⟩ (fun i G _ h => SqL.of (h.1 _ _ (hne hp) hp)) (fun i x G hx h => ?_) (fun G h => ?_)
      · obtain ⟨f, hD⟩ := h
        have hi : i < rows.length := by
          have := (List.getElem?_eq_some_iff.mp hx).1
          rw [List.length_map] at this
          exact this
        have ek : rows[i]? = some rows[i] := List.getElem?_eq_getElem hi
        generalize rows[i] = k at ek
        have ex : x = .int (k : Nat) := by
          rw [List.getElem?_map, ek] at hx
          exact (Option.some.inj hx).symm
        subst ex
        have et : rows.take (i + 1) = rows.take i ++ [k] := by rw [List.take_succ, ek] <;> rfl
        have hb2 := f _ _ (hne hb0) hb0
        refine ⟨rfl, _, rfl, _, rfl, b, _, _, _, rfl, rfl, SqT.of hb2, rfl, _, _, rfl, rfl, _, rfl, ?_⟩
        refine ite2 (fun h => ?_) (fun h => ?_)
        · refine ⟨_, rfl, _, hD, ?_, f.put, ?_⟩
          · rw [List.length_map]
            exact Nat.lt_of_le_of_lt (Nat.le_trans (List.length_filter_le ..) (List.length_take_le ..)) (Nat.lt_of_lt_of_le hi (Nat.le_trans few (by decide)))
          · rw [upd_same, et, List.filter_append, List.filter_cons, if_pos h]
            simp [nV]
        · refine ⟨f, ?_⟩
          rw [et, List.filter_append, List.filter_cons, if_neg h]
          simpa using hD
      · obtain ⟨f, hD⟩ := h
        rw [List.length_map, List.take_length] at hD
        have sG : Same H G := fun b o e => f b o (hne e) e
        have hb2 := sG _ _ hb0
        have hp2 := sG _ _ hp
        refine ⟨D, _, rfl, .inl (SqL.of hD), ?_⟩
        refine ⟨_, rfl, b, _, _, _, rfl, rfl, SqT.of hb2, rfl, _, rfl, b, _, _, _, rfl, rfl, SqT.of hb2, rfl, ?_⟩
        refine ⟨_, rfl, _, _, rfl, rfl, .inl ⟨by decide, by decide⟩, _, _, rfl, rfl, _, rfl, b, _, _, _, rfl, rfl, SqT.of hb2, rfl, _, rfl, pr, _, rfl, .inl (SqL.of hp2), rfl, nV_all _, .inr ⟨_, rfl, _, _, rfl, rfl, by show 2 ≤ sizeLine; decide, fun p np => new_at np fun G2 s2 h2 => q p G2 (sG.trans s2) ?_⟩⟩
        show G2 p = some (.tup [V.str z, V.int (renN rows n)])
        rw [h2, inV_inI]
        show some (HO.tup [V.str z, V.int (n + 2 * (((nV (rows.filter fun (k : Nat) => decide ((k : Int) < n))).length : Nat) : Int) + (if inI rows n = true then 1 else 0))]) = _
        rw [List.length_map] <;> rfl
end

theorem take_foldl {α β : Type} (f : β → α → β) (b : β) {l : List α} {i : Nat} {x : α} (h : l[i]? = some x) : (l.take (i + 1)).foldl f b = f ((l.take i).foldl f b) x := take_fold f b h
section
variable {P : Program} {w : World} {K : PySem.W.Frag} {mg : Str → Option Value} {base : Heap}
theorem c_closed_door (T : Tx K mg) : Cl P w K mg base 5 "closed_door" (fun vs H Q _ => ∃ (a : DrA) (d : Dr) (pm : Addr) (ms : List Mend), vs = [.ref a.r, .ref pm] ∧ DrAt (drC K) H a d ∧ DrOk d ∧ MendsAt H pm ms ∧ ms.length ≤ 1000 ∧ NewDr K H Q { d with o := closeF (copyO d.o) ms }) := by
  have c_Dooru_setitemu := c_Dooru_setitemu (P := P) (w := w) (base := base) T
  have c_Door_copy := c_Door_copy (P := P) (w := w) (base := base) T
  refine clD T.f_closed_door T.g_closed_door sc_closed_door (fun _ _ _ _ _ _ us hl => match us, hl with | [_, _], _ => rfl) (fun vs H Q E h => ?_) (fun cdv A outer s H vs Q E hr h => ?_)
  · obtain ⟨a, d, pm, ms, rfl, _⟩ := h
    rfl
  · obtain ⟨a, d, pm, ms, rfl, D, ok, M, few, q⟩ := h
    refine ⟨_, (pss_cons (ps_set (i := 2) sc_closed_door.nd rfl (by first | exact Or.inl rfl | exact Or.inr rfl) (pe_m0 c_Door_copy hr (by first | decide | omega) (pv 0)))
      (pss_cons (ps_for PassesOwn.never rfl (pi_list (pv 1)) (pg_tup rfl (pgs_cons (pg_name (i := 3) sc_closed_door.nd rfl (by first | exact Or.inl rfl | exact Or.inr rfl)) (pgs_cons (pg_name (i := 4) sc_closed_door.nd rfl (by first | exact Or.inl rfl | exact Or.inr rfl)) pgs_nil))) (pss_one (ps_if (pt_cmpR op_eq (pv 3) pe_str (nomark _)) (pss_one (ps_asg pe_str (pg_sub (pv 2) (pv 4) (set_own c_Dooru_setitemu T.q_Door hr (by first | decide | omega))))) pss_nil)))
      (pss_one (ps_ret (pv 2))))), ?_⟩
    refine ⟨_, rfl, a.r, a.dx, _, rfl, D.ins, rfl, a, d, rfl, D, ok, fun a' H1 s1 nr no D1 => ?_⟩
    obtain ⟨ps, hp, lps, pa⟩ := M.same s1
    have hpo : pm ≠ a'.o := ne_of hp D1.oth (by intro c; cases c)
    have hto : ∀ xs, H1 a'.o ≠ some (.tup xs) := fun xs c => by
      rw [D1.oth] at c
      cases c
    refine ⟨_, rfl, pm, rfl, ⟨_, SqL.of hp⟩, ?_⟩
    refine for_it (walk_list (K := K) (a := pm) (xs := ps.map V.ref)) (fun i σ G => Off a'.o H1 G ∧ DrAt (drC K) G a' { d with o := closeF (copyO d.o) (ms.take i) } ∧ ∃ x y, σ = [some (.ref a.r), some (.ref pm), some (.ref a'.r), x, y]) ⟨Off.refl a'.o H1, D1, _, _, rfl⟩ (fun i σ G _ h => SqL.of (h.1 _ _ hpo hp)) (fun i x σ G1 G2 hi h y => ?_) (fun σ G1 h => ?_)
    · obtain ⟨f, D2, x1, y1, rfl⟩ := h
      obtain ⟨rfl, hx⟩ := y
      rw [List.length_map, lps] at hi
      have em : ms[i]? = some ms[i] := List.getElem?_eq_getElem hi
      generalize ms[i] = m at em
      obtain ⟨p, ep, hm⟩ := pa i m em
      have ex : x = .ref p := by
        rw [List.getElem?_map, ep] at hx
        exact (Option.some.inj hx).symm
      subst ex
      have hm2 := hm.off f hto
      have et : closeF (copyO d.o) (ms.take (i + 1)) = closeS (closeF (copyO d.o) (ms.take i)) m := take_foldl _ _ em
      cases m with
      | shield n =>
        have hm3 : G2 p = some (.tup [.str "shield", .int (n : Nat)]) := hm2
        refine ⟨p, _, rfl, SqT.of hm3, rfl, _, _, rfl, _, _, rfl, rfl, ?_⟩
        refine ⟨_, rfl, rfl, _, rfl, iteF ⟨f, ?_, _, _, rfl⟩⟩
        rw [et]
        exact D2
      | close y =>
        obtain ⟨b, hm3, hw⟩ := hm2
        refine ⟨p, _, rfl, SqT.of hm3, rfl, _, _, rfl, _, _, rfl, rfl, ?_⟩
        refine ⟨_, rfl, rfl, _, rfl, iteT ⟨_, rfl, _, rfl, a'.r, a'.dx, _, rfl, D2.ins, a', _, b, y, "close", rfl, D2, hw, by decide +kernel, ?_, fun G3 f3 D3 => ⟨f.trans f3, ?_, _, _, rfl⟩⟩⟩
        · have h1 := closeF_len (ms.take i) (copyO d.o)
          have h2 : (copyO d.o).length ≤ 1000 := Nat.le_trans (copyF_len d.o d.o []) (by rw [List.length_nil, Nat.zero_add]; exact ok.few)
          have h3 : (ms.take i).length ≤ 1000 := Nat.le_trans (List.length_take_le' ..) few
          exact Nat.lt_of_le_of_lt h1 (Nat.lt_of_le_of_lt (Nat.add_le_add h2 h3) (by decide))
        · rw [et]
          exact D3
    · obtain ⟨f, D2, x1, y1, rfl⟩ := h
      rw [List.length_map, lps, List.take_length] at D2
      exact ⟨_, rfl, q a' G1 (fun b u e => f _ _ (ne_of_none e no) (s1 _ _ e)) nr no D2⟩
end

def wayOf : List L2.Key → Way
  | [.inr z, .inl n] => .at z n
  | _ => .no
theorem WayAt.off {H H' : Hp} {b D : Addr} {y : Way} (h : WayAt H b y) (f : Off D H H') (hd : ∀ xs, H D ≠ some (.tup xs)) : WayAt H' b y := f _ _ (fun c => hd _ (c ▸ h)) h
theorem dct_it {J : It} {n : Nat} {G : Hp → Prop} {Y : Nat → Hp → V → Hp → Prop} (W : Walk J n G Y) {g : TG} {tt : TT} {tk tv : TE} {vs : List Nat} {σ : L2.St} {H1 : Hp} {D : Addr} {Qd : Hp → Prop} (Pv : Nat → Hp → Prop)
    (h0 : Pv 0 (upd H1 D (.dT []))) (hG : ∀ i H, i ≤ n → Pv i H → G H)
    (hs : ∀ i x H H', i < n → Pv i H → Y i H x H' → g x (wipe σ vs) H' fun σ2 G2 => wipe σ2 vs = wipe σ vs ∧ tt σ2 G2 fun b G3 =>
      if b = true then tk σ2 G3 fun y G4 => tv σ2 G4 fun z G5 => ∃ (b : Addr) (kvs : Oth) (k : List L2.Key), y = .ref b ∧ G5 b = some (.tup (k.map kV)) ∧ G5 D = some (.dT kvs) ∧ kvs.length < sizeLine ∧ Pv (i + 1) (upd G5 D (.dT (putK kvs k z))) else Pv (i + 1) G3) (hd : ∀ H, Pv n H → Qd H) :
    ∃ W : Nat → Nat → Hp → Prop, (∃ m, W 0 m (upd H1 D (.dT []))) ∧ ∀ i m H, W i m H →
      (J.stop i H ∧ Qd H) ∨ (J.go i H ∧ ∃ Nx : Hp → Prop, (∀ G', Nx G' → ∃ k, k < m ∧ W (i + 1) k G') ∧ ∀ x G', J.yld i H x G' → g x (wipe σ vs) G' fun σ2 G2 => wipe σ2 vs = wipe σ vs ∧ tt σ2 G2 fun b G3 =>
        if b = true then tk σ2 G3 fun y G4 => tv σ2 G4 fun z G5 => ∃ (b : Addr) (kvs : Oth) (k : List L2.Key), y = .ref b ∧ G5 b = some (.tup (k.map kV)) ∧ G5 D = some (.dT kvs) ∧ kvs.length < sizeLine ∧ Nx (upd G5 D (.dT (putK kvs k z))) else Nx G3) := by
  refine ⟨fun i m H => n - i = m ∧ i ≤ n ∧ Pv i H, ⟨n - 0, rfl, Nat.zero_le _, h0⟩, fun i m H ⟨em, le, p⟩ => ?_⟩
  have q := hG i H le p
  by_cases lt : i < n
  · exact .inr ⟨W.goes i H lt q, Pv (i + 1), fun G' p' => ⟨n - (i + 1), by omega, rfl, lt, p'⟩, fun x G' y => hs i x H G' lt p (W.yields i H x G' lt q y)⟩
  · have e : i = n := Nat.le_antisymm le (Nat.le_of_not_lt lt)
    subst e
    exact .inl ⟨W.stops H q, hd H p⟩
theorem wayOf_key : ∀ y : Way, wayOf y.key = y
  | .no => rfl
  | .at _ _ => rfl
def knownW (many : Nat) : Way → Bool
  | .no => true
  | .at _ n => decide (0 ≤ n) && decide (n < (many : Int))
def knownOf (C : Oth) (many : Nat) : List Way := (C.map fun p => wayOf p.1).filter (knownW many)
def finalF (rows : List Nat) (C : Oth) (ys : List Way) : Oth := ys.foldl (fun acc y => putK acc (ren rows y).key ((valV C y.key).getD .non)) []
def finalO (rows : List Nat) (many : Nat) (C : Oth) : Oth := finalF rows C (knownOf C many)
theorem finalF_len (rows : List Nat) (C : Oth) : ∀ (ys : List Way) (acc : Oth), (ys.foldl (fun acc y => putK acc (ren rows y).key ((valV C y.key).getD .non)) acc).length ≤ acc.length + ys.length
  | [], acc => Nat.le_refl _
  | y :: r, acc => by
    have := putK_le (ren rows y).key ((valV C y.key).getD .non) acc
    refine Nat.le_trans (finalF_len rows C r (putK acc (ren rows y).key ((valV C y.key).getD .non))) ?_
    rw [List.length_cons]
    omega
theorem putK_keys {κ : Type} [DecidableEq κ] {o : List (κ × V)} {k : κ} {v : V} {p : κ × V} (h : p ∈ putK o k v) : p.1 = k ∨ ∃ q ∈ o, p.1 = q.1 := by
  unfold putK at h
  split at h
  · obtain ⟨q, hq, rfl⟩ := List.mem_map.mp h
    split
    · rename_i c
      exact .inl c
    · exact .inr ⟨q, hq, rfl⟩
  · rcases List.mem_append.mp h with c | c
    · exact .inr ⟨p, c, rfl⟩
    · rw [List.mem_singleton.mp c]
      exact .inl rfl
def Keyed (o : Oth) : Prop := ∀ p ∈ o, ∃ y : Way, p.1 = y.key
theorem Keyed.put {o : Oth} (h : Keyed o) (y : Way) (v : V) : Keyed (putK o y.key v) := fun p hp => by
  rcases putK_keys hp with c | ⟨q, hq, e⟩
  · exact ⟨y, c⟩
  · obtain ⟨y', e'⟩ := h q hq
    exact ⟨y', e.trans e'⟩
theorem Keyed.close : ∀ {ms : List Mend} {o : Oth}, Keyed o → Keyed (closeF o ms)
  | [], _, h => h
  | .shield _ :: r, o, h => Keyed.close (ms := r) (o := o) h
  | .close y :: r, o, h => Keyed.close (ms := r) (o := putK o y.key (.str "close")) (h.put y _)
theorem Keyed.copy {o : Oth} (h : Keyed o) : Keyed (copyO o) := by
  have gen : ∀ (l acc : Oth), Keyed l → Keyed acc → Keyed (l.foldl (fun acc p => putK acc p.1 ((valV o p.1).getD .non)) acc) := by
    intro l
    induction l with
    | nil => intro acc _ ha; exact ha
    | cons p r ih =>
      intro acc hl ha
      obtain ⟨y, e⟩ := hl p (List.mem_cons_self ..)
      refine ih _ (fun q hq => hl q (List.mem_cons_of_mem _ hq)) ?_
      show Keyed (putK acc p.1 _)
      rw [e]
      exact ha.put y _
  exact gen o [] h fun p hp => by cases hp
/-- a list of ways -/
def WaysAt (H : Hp) (D : Addr) (ys : List Way) : Prop := ∃ qs : List Addr, H D = some (.lst (qs.map V.ref)) ∧ qs.length = ys.length ∧ ∀ (i : Nat) (y : Way), ys[i]? = some y → ∃ q, qs[i]? = some q ∧ WayAt H q y
def spMended (K : PySem.W.Frag) : Sp := fun vs H Q _ => ∃ (fa : FA) (l : List Rw) (a : DrA) (d : Dr) (pm : Addr) (ms : List Mend), vs = [.ref fa.f, .ref a.r, .ref pm] ∧ FnR (fnC K) H fa l ∧ Deep4 l ∧ DrAt (drC K) H a d ∧ DrOk d ∧ MendsAt H pm ms ∧ ms.length ≤ 1000 ∧
  (∀ i ∈ shOf ms, i ∈ waitsOf l) ∧ (shOf ms).Nodup ∧ l.length + 2 * (shOf ms).length ≤ 24 ∧
  ∀ (p : Addr) (fa' : FA) (a' : DrA) (H' : Hp), Same H H' → H' p = some (.tup [.ref fa'.f, .ref a'.r]) → FnAt (fnC K) H' fa' (shFrom (shOf ms) 0 l) → DrAt (drC K) H' a' { d with o := finalO (shOf ms) l.length (closeF (copyO d.o) ms) } → H a'.o = none → Q (.ref p) H'
section
variable {P : Program} {w : World} {K : PySem.W.Frag} {mg : Str → Option Value} {base : Heap}
theorem c_mended (T : Tx K mg) : Cl P w K mg base 8 "mended" (spMended K) := by
  have c_rows_of := c_rows_of (P := P) (w := w) (base := base) T
  have c_Function_shielded := c_Function_shielded (P := P) (w := w) (base := base) T
  have c_closed_door := c_closed_door (P := P) (w := w) (base := base) T
  have c_Door_copy := c_Door_copy (P := P) (w := w) (base := base) T
  have c_Functionu_lenu := c_Functionu_lenu (P := P) (w := w) (base := base) T
  have c_renumbered := c_renumbered (P := P) (w := w) (base := base) T
  refine clD T.f_mended T.g_mended sc_mended (fun _ _ _ _ _ _ us hl => match us, hl with | [_, _, _], _ => rfl) (fun vs H Q E h => ?_) (fun cdv A outer s H vs Q E hr h => ?_)
  · obtain ⟨fa, l, a, d, pm, ms, rfl, _⟩ := h
    rfl
  · obtain ⟨fa, l, a, d, pm, ms, rfl, F, D4, D, ok, M, few, hw, hnd, hfew, q⟩ := h
    refine ⟨_, (pss_cons (ps_set (i := 3) sc_mended.nd rfl (by first | exact Or.inl rfl | exact Or.inr rfl) (pe_f c_rows_of hr (by first | decide | omega) (pa_cons (pv 2) pa_nil)))
      (pss_cons (ps_set (i := 4) sc_mended.nd rfl (by first | exact Or.inl rfl | exact Or.inr rfl) (pe_m c_Function_shielded hr (by first | decide | omega) (pv 0) (pa_cons (pv 3) pa_nil)))
      (pss_cons (ps_set (i := 5) sc_mended.nd rfl (by first | exact Or.inl rfl | exact Or.inr rfl) (pe_f c_closed_door hr (by first | decide | omega) (pa_cons (pv 1) (pa_cons (pv 2) pa_nil))))
      (pss_cons (ps_set (i := 6) sc_mended.nd rfl (by first | exact Or.inl rfl | exact Or.inr rfl) (pe_m0 c_Door_copy hr (by first | decide | omega) (pv 1)))
      (pss_cons (ps_lock (ps_setLc (i := 7) (own := [("way", 8)]) (g := gName 8) rfl sc_mended.nd rfl rfl (sw_true rfl rfl rfl (by decide +kernel)) (pi_keys (pe_fldK (K := K) rfl (pv 5) rfl)) (blkOk_by (N := ["function", "door", "mends", "rows", "further", "closed", "found", "known", "way"]) (sc := defScope s_mended) (by decide +kernel)) (fun _ _ _ _ _ => (pg_name (i := 8) sc_mended.nd rfl (by first | exact Or.inl rfl | exact Or.inr rfl))) (fun _ _ _ _ _ => (pts_one (PW.pt (pw_or (pt_cmpR op_eq (pe_callB (call_len_seqK (K := K) rfl) rfl T.b_len boot_len (pa_cons (pv 8) pa_nil)) pe_int (nomark _)) (pw_or1 (pt_chain op_le op_lt pe_int (pe_ix (ix_tupK (K := K) rfl) (pv 8) pe_int (fun _ _ => rfl)) (pe_callB (call_lenOwn c_Functionu_lenu hr (by first | decide | omega)) rfl T.b_len boot_len (pa_cons (pv 0) pa_nil)))))))) (fun _ _ _ _ _ => (pv 8))))
      (pss_cons (ps_fld (pv 6) (pe_dcT (hu_of hr) (own := [("way", 8)]) (g := gName 8) (tt := tYes) rfl sc_mended.nd (pi_list (pv 7)) (blkOk_by (N := ["function", "door", "mends", "rows", "further", "closed", "found", "known", "way"]) (sc := defScope s_mended) (by decide +kernel)) (fun _ _ _ _ _ => (pg_name (i := 8) sc_mended.nd rfl (by first | exact Or.inl rfl | exact Or.inr rfl))) (fun _ _ _ _ _ => pts_nil) (fun _ _ _ _ _ => (pe_f c_renumbered hr (by first | decide | omega) (pa_cons (pv 8) (pa_cons (pv 3) pa_nil)))) (fun _ _ _ _ _ => (pe_dget (hu_of hr) (pe_fldK (K := K) rfl (pv 5) rfl) (pv 8) (fun _ _ => rfl)))) rfl)
      (pss_one (ps_ret (pe_tup (pa_cons (pv 4) (pa_cons (pv 6) pa_nil))))))))))), ?_⟩
    refine ⟨_, rfl, pm, ms, rfl, M, few, fun pr H1 n1 s1 h1 => ?_⟩
    have rl : (shOf ms).length ≤ 1000 := Nat.le_trans (shOf_len ms) few
    generalize shOf ms = rows at h1 hw hnd hfew rl q
    refine ⟨_, rfl, fa.f, fa.dx, _, rfl, s1 _ _ F.ins, rfl, _, rfl, fa, l, pr, rows, rfl, F.same s1, D4, h1, hw, hnd, hfew, fun fa' H2 s2 F2 new2 => ?_⟩
    have s02 := s1.trans s2
    refine ⟨_, rfl, _, rfl, a, d, pm, ms, rfl, D.same s02, ok, M.same s02, few, fun cd H3 s3 nr3 no3 D3 => ?_⟩
    have s03 := s02.trans s3
    refine ⟨_, rfl, a.r, a.dx, _, rfl, s03 _ _ D.ins, rfl, a, d, rfl, D.same s03, ok, fun fd H4 s4 nr4 no4 D4' => ?_⟩
    have s04 := s03.trans s4
    have kC : Keyed (closeF (copyO d.o) ms) := Keyed.close (Keyed.copy fun p hp => (ok.o p hp).1)
    have lC : (closeF (copyO d.o) ms).length ≤ 2000 := by
      have h1 := closeF_len ms (copyO d.o)
      have h2 : (copyO d.o).length ≤ 1000 := Nat.le_trans (copyF_len d.o d.o []) (by rw [List.length_nil, Nat.zero_add]; exact ok.few)
      exact Nat.le_trans h1 (Nat.add_le_add h2 few)
    generalize closeF (copyO d.o) ms = C at D3 kC lC q
    have C3 := D3.same s4
    have hr1 := s4 _ _ (s3 _ _ (s2 _ _ h1))
    have F4 := F2.r.same (s3.trans s4)
    have FF := F.same s04
    have fo : fd.o ≠ cd.o := fun c => by
      rw [c, D3.oth] at no4
      cases no4
    refine ⟨cd.o, _, C3.oth, trivial, fun od => put_at fun GL fL bL iL => ?_⟩
    have co : cd.r ≠ cd.o := ne_of C3.ins C3.oth (by intro c; cases c)
    refine ⟨_, rfl, cd.r, _, cd.dx, _, _, rfl, fL _ _ co C3.ins, T.c_Door, T.n_Door_others, dr_oth _ cd.o, cd.o, od, rfl, .inr ⟨_, iL, fun D5 n5 => ?_⟩⟩
    have hne5 : ∀ {b : Addr} {o : HO}, GL b = some o → b ≠ D5 := fun e => ne_of_none e n5
    have FL : FnR (fnC K) GL fa l := FF.off (D := cd.o) (fun o e => by rw [C3.oth] at e; exact .inr (.inl ⟨_, (Option.some.inj e).symm⟩)) fL
    refine lc_it (walk_keysT (d := cd.o) (o := od) (kvs := C)) (fun i G => Off D5 GL G ∧ WaysAt G D5 (knownOf (C.take i) l.length)) ⟨(Off.refl D5 GL).put, [], upd_same, rfl, fun i y e => by cases e⟩ (fun i G _ h => h.1 _ _ (hne5 iL) iL) (fun i x G1 G2 hi h y => ?_) (fun G1 h => ?_)
    · obtain ⟨f, qs, hD, lq, wq⟩ := h
      obtain ⟨rfl, k, v, b, ek, rfl, hb⟩ := y
      obtain ⟨y, ey⟩ := kC _ (List.mem_of_getElem? ek)
      have ey : k = y.key := ey
      subst ey
      have et : knownOf (C.take (i + 1)) l.length = knownOf (C.take i) l.length ++ (if knownW l.length y = true then [y] else []) := by
        unfold knownOf
        rw [List.take_succ, ek, List.map_append, List.filter_append]
        congr 1
        show List.filter (knownW l.length) [wayOf y.key] = _
        rw [wayOf_key]
        by_cases c : knownW l.length y = true
        · rw [if_pos c, List.filter_cons, if_pos c] <;> rfl
        · rw [if_neg c, List.filter_cons, if_neg c] <;> rfl
      have sq : SqT K G2 b (y.key.map kV) := SqT.of hb
      have lk : (knownOf (C.take i) l.length).length ≤ 2000 := by
        refine Nat.le_trans (List.length_filter_le ..) ?_
        rw [List.length_map]
        exact Nat.le_trans (List.length_take_le' ..) lC
      have bD : b ≠ D5 := ne_of hb hD (by intro c; cases c)
      have yes : knownW l.length y = true → ∃ acc, G2 D5 = some (.lst acc) ∧ acc.length < sizeLine ∧ (Off D5 GL (upd G2 D5 (.lst (acc ++ [.ref b]))) ∧ WaysAt (upd G2 D5 (.lst (acc ++ [.ref b]))) D5 (knownOf (C.take (i + 1)) l.length)) := fun c => by
        refine ⟨_, hD, ?_, f.put, qs ++ [b], ?_, ?_, fun j y' e => ?_⟩
        · rw [List.length_map, lq]
          exact Nat.lt_of_le_of_lt lk (by decide)
        · rw [upd_same, List.map_append] <;> rfl
        · rw [et, if_pos c, List.length_append, List.length_append, lq] <;> rfl
        · rw [et, if_pos c] at e
          by_cases hj : j < (knownOf (C.take i) l.length).length
          · rw [List.getElem?_append_left hj] at e
            obtain ⟨q0, e0, w0⟩ := wq j y' e
            refine ⟨q0, get_app e0, ?_⟩
            show upd G2 D5 _ q0 = _
            rw [upd_ne (ne_of w0 hD (by intro c; cases c))]
            exact w0
          · rw [List.getElem?_append_right (Nat.le_of_not_lt hj)] at e
            have j0 : j - (knownOf (C.take i) l.length).length = 0 := by
              have := (List.getElem?_eq_some_iff.mp e).1
              simp only [List.length_singleton] at this
              omega
            rw [j0] at e
            have e2 : y' = y := (Option.some.inj e).symm
            subst e2
            refine ⟨b, ?_, ?_⟩
            · rw [List.getElem?_append_right (by rw [lq]; omega), lq, j0] <;> rfl
            · show upd G2 D5 _ b = _
              rw [upd_ne bD]
              exact hb
      have no : ¬ knownW l.length y = true → Off D5 GL G2 ∧ WaysAt G2 D5 (knownOf (C.take (i + 1)) l.length) := fun c => by
        rw [et, if_neg c, List.append_nil]
        exact ⟨f, qs, hD, lq, wq⟩
      have FG : FnR (fnC K) G2 fa l := ⟨f _ _ (hne5 FL.ins) FL.ins, f _ _ (hne5 FL.rs) FL.rs, f _ _ (hne5 FL.ws) FL.ws, f _ _ (hne5 FL.os) FL.os⟩
      refine ⟨rfl, _, rfl, b, _, rfl, .inr sq, rfl, _, rfl, ?_⟩
      cases y with
      | no => exact iteT ⟨_, rfl, yes rfl⟩
      | «at» z n =>
        refine iteF ⟨_, rfl, b, _, _, _, rfl, rfl, sq, rfl, _, _, rfl, rfl, _, rfl, ?_⟩
        refine ite2 (fun h => ?_) (fun h => ?_)
        · have l24 := D4.rows.few
          refine ⟨_, rfl, fa.f, fa.dx, _, rfl, FG.ins, fa, l, rfl, FG, l.length, rfl, by omega, _, _, rfl, rfl, _, rfl, ?_⟩
          refine ite2 (fun h2 => ?_) (fun h2 => ?_)
          · exact ⟨_, rfl, yes (by show (decide (0 ≤ n) && decide (n < (l.length : Int))) = true; rw [h, h2] <;> rfl)⟩
          · exact no (fun c => h2 (Bool.and_eq_true_iff.mp c).2)
        · exact ⟨_, rfl, no (fun c => h (Bool.and_eq_true_iff.mp c).1)⟩
    · obtain ⟨f, qs, hD, lq, wq⟩ := h
      rw [List.take_length] at lq wq
      have iG := f _ _ (hne5 iL) iL
      refine ⟨iG, put_at fun G2 f2 b2 i2 => ?_⟩
      have D5c : D5 ≠ cd.o := none_ne iL n5
      have s42 : Same H4 G2 := fun b u e => by
        by_cases c : b = cd.o
        · subst c
          rw [C3.oth] at e
          cases e
          exact i2
        · exact f2 _ _ c (f _ _ (hne5 (fL _ _ c e)) (fL _ _ c e))
      have hD2 := f2 _ _ D5c hD
      have kn : ∀ y ∈ knownOf C l.length, ∃ v, valV C y.key = some v := fun y hy => by
        obtain ⟨p, hp, e⟩ := List.mem_map.mp (List.mem_filter.mp hy).1
        obtain ⟨y', e'⟩ := kC p hp
        rw [e', wayOf_key] at e
        subst e
        obtain ⟨v, ev, _⟩ := valV_in hp
        rw [e'] at ev
        exact ⟨v, ev⟩
      have wq2 : ∀ (i : Nat) (y : Way), (knownOf C l.length)[i]? = some y → ∃ q, qs[i]? = some q ∧ WayAt G2 q y := fun i y e => by
        obtain ⟨q0, e0, w0⟩ := wq i y e
        exact ⟨q0, e0, f2 _ _ (ne_of w0 iG (by intro c; cases c)) w0⟩
      have lk : (knownOf C l.length).length ≤ 2000 := by
        refine Nat.le_trans (List.length_filter_le ..) ?_
        rw [List.length_map]
        exact lC
      have C2 : DrAt (drC K) G2 cd { d with o := C } := C3.same s42
      have hr2 := s42 _ _ hr1
      have fd2 := D4'.same s42
      clear wq hD f2 b2 i2 iG f iL
      generalize eKS : knownOf C l.length = KS at lq wq2 kn lk
      refine ⟨_, rfl, D5, rfl, ⟨_, SqL.of hD2⟩, fun D6 n6 => ?_⟩
      have hne6 : ∀ {b : Addr} {o : HO}, G2 b = some o → b ≠ D6 := fun e => ne_of_none e n6
      refine dct_it (walk_list (K := K) (a := D5) (xs := qs.map V.ref)) (fun i G => Off D6 G2 G ∧ G D6 = some (.dT (finalF rows C (KS.take i)))) ⟨(Off.refl D6 G2).put, upd_same⟩ (fun i G _ h => SqL.of (h.1 _ _ (hne6 hD2) hD2)) (fun i x G3 G4 hi h y => ?_) (fun G3 h => ?_)
      · obtain ⟨f, hD⟩ := h
        obtain ⟨rfl, hx⟩ := y
        rw [List.length_map, lq] at hi
        have ek : KS[i]? = some KS[i] := List.getElem?_eq_getElem hi
        generalize KS[i] = y at ek
        obtain ⟨q0, e0, w0⟩ := wq2 i y ek
        have ex : x = .ref q0 := by
          rw [List.getElem?_map, e0] at hx
          exact (Option.some.inj hx).symm
        subst ex
        obtain ⟨v, ev⟩ := kn y (List.mem_of_getElem? ek)
        have w4 : WayAt G4 q0 y := f _ _ (hne6 w0) w0
        refine ⟨rfl, _, rfl, _, rfl, q0, pr, y, rows, rfl, w4, f _ _ (hne6 hr2) hr2, rl, fun p G5 s5 w5 => ?_⟩
        have C5 : DrAt (drC K) G5 cd { d with o := C } := ⟨s5 _ _ (f _ _ (hne6 C2.ins) C2.ins), s5 _ _ (f _ _ (hne6 C2.oth) C2.oth)⟩
        have dg : DGet G5 cd.o (.ref q0) (some v) := by
          have z := DGet.t C5.oth (s5 _ _ w4)
          have ev' : valV ({ d with o := C } : Dr).o y.key = some v := ev
          rw [ev'] at z
          exact z
        refine ⟨_, rfl, cd.r, _, cd.dx, _, _, rfl, C5.ins, T.c_Door, T.n_Door_others, dr_oth _ cd.o, _, rfl, cd.o, v, rfl, dg, p, _, _, rfl, w5, s5 _ _ hD, ?_, (f.same s5).put, ?_⟩
        · refine Nat.lt_of_le_of_lt (finalF_len rows C (KS.take i) []) ?_
          rw [List.length_nil, Nat.zero_add]
          exact Nat.lt_of_le_of_lt (Nat.le_trans (List.length_take_le' ..) lk) (by decide)
        · rw [upd_same]
          have e2 : finalF rows C (KS.take (i + 1)) = putK (finalF rows C (KS.take i)) (ren rows y).key v := by
            unfold finalF
            rw [take_fold _ _ ek]
            show putK _ _ ((valV C y.key).getD .non) = _
            rw [ev] <;> rfl
          rw [e2]
      · obtain ⟨f, hD⟩ := h
        rw [List.length_map, lq, List.take_length] at hD
        have hD : G3 D6 = some (.dT (finalO rows l.length C)) := by
          unfold finalO
          rw [eKS]
          exact hD
        have s23 : Same G2 G3 := fun b u e => f _ _ (hne6 e) e
        have fd3 := fd2.same s23
        have D6r : D6 ≠ fd.r := none_ne fd2.ins n6
        refine ⟨_, rfl, fd.r, _, fd.dx, _, rfl, fd3.ins, T.c_Door, T.n_Door_others, by show 4 < 1000; decide, put_at fun G7 f7 b7 i7 => ⟨_, rfl, _, rfl, by show 2 ≤ sizeLine; decide, fun p n8 => new_at n8 fun G8 s8 h8 => ?_⟩⟩
        have s37 : Same H G7 := fun b u e => f7 _ _ (ne_of_none (s03 _ _ e) nr4) (s23 _ _ (s42 _ _ (s04 _ _ e)))
        have s27 : ∀ b u, b ≠ fd.r → H2 b = some u → G8 b = some u := fun b u n e => s8 _ _ (f7 _ _ n (s23 _ _ (s42 _ _ (s4 _ _ (s3 _ _ e)))))
        have nf : ∀ {b : Addr} {u : HO}, H2 b = some u → b ≠ fd.r := fun e => ne_of_none (s3 _ _ e) nr4
        refine q p fa' ⟨fd.r, fd.dx, D6⟩ G8 (s37.trans s8) h8 ⟨s27 _ _ (nf F2.ins) F2.ins, s27 _ _ (nf F2.rs) F2.rs, s27 _ _ (nf F2.ws) F2.ws, s27 _ _ (nf F2.ns) F2.ns, s27 _ _ (nf F2.ts) F2.ts, s27 _ _ (nf F2.os) F2.os, s27 _ _ (nf F2.ms) F2.ms, s27 _ _ (nf F2.es) F2.es, ?_⟩ ⟨s8 _ _ i7, s8 _ _ (f7 _ _ D6r hD)⟩ ?_
        · obtain ⟨ys, e, r⟩ := F2.ls
          exact ⟨ys, s27 _ _ (nf e) e, r⟩
        · exact s04.free (s42.free n6)
end

theorem hu65 {k : Nat} {A : Around} (r : Room k A) : A.units + 65 < cLine := by have := r.un; omega
def reasons : List Str := ["cut", "fail", "return"]
def Way.small : Way → Prop
  | .no => True
  | .at z n => z ∈ reasons ∧ 0 ≤ n ∧ n < 1000000
def wayD : Way → PyData
  | .no => .tuple []
  | .at z n => .tuple [.str z, .int n]
theorem dp_way {K : PySem.W.Frag} {H : Hp} {b : Addr} : ∀ {y : Way}, WayAt H b y → Dp K H (.ref b) (wayD y)
  | .no, h => .tup (SqT.of (xs := []) h) .nil
  | .at z n, h => .tup (SqT.of (xs := [V.str z, V.int n]) h) (.cons (.str z) (.cons (.int n) .nil))
theorem ls_way : ∀ {y : Way}, y.small → Ls (wayD y) 1
  | .no, _ => .tup fun d hd => by cases hd
  | .at z n, h => .tup fun d hd => by
    simp only [List.mem_cons, List.not_mem_nil, or_false] at hd
    rcases hd with e | e
    · rw [e]
      refine .str ?_ 0
      have : ∀ z ∈ reasons, PyData.strOk z = true := by decide +kernel
      exact this z h.1
    · rw [e]
      exact .int n 0
theorem eqv_way (x y : Way) : PyData.eqv (wayD x) (wayD y) = decide (x = y) := by
  cases x with
  | no =>
    cases y with
    | no => simp [wayD, PyData.eqv, PyData.eqvAll]
    | «at» z n => simp [wayD, PyData.eqv, PyData.eqvAll]
  | «at» z n =>
    cases y with
    | no => simp [wayD, PyData.eqv, PyData.eqvAll]
    | «at» z' n' =>
      simp only [wayD, PyData.eqv, PyData.eqvAll, Bool.and_true]
      rw [Bool.eq_iff_iff]
      simp
def b2i (b : Bool) : Int := if b = true then 1 else 0
def stepN (sh : List Nat) (k : Int) : Int := b2i (decide (0 < k)) + b2i (inI sh k) + b2i (decide (0 < k) && inI sh (k - 1))
def lawN (sh : List Nat) : Nat → Int
  | 0 => 0
  | k + 1 => lawN sh k + stepN sh (k : Int)
def moved (sh : List Nat) (many : Nat) : Way → Way
  | .no => .no
  | .at z n => if (many : Int) ≤ n then .at z n else .at z (lawN sh (n.toNat + 1))
section
variable {P : Program} {w : World} {K : PySem.W.Frag} {mg : Str → Option Value} {base : Heap}
theorem c_l_moved (T : Tx K mg) : Cl P w K mg base 1 "_law_moved" (fun vs H Q _ => ∃ (b ps : Addr) (y : Way) (sh : List Nat) (many : Nat), vs = [.ref b, .ref ps, .int many] ∧ WayAt H b y ∧ y.small ∧ H ps = some (.lst (nV sh)) ∧ many < 1000 ∧
    ∀ (p : Addr) (H' : Hp), Same H H' → WayAt H' p (moved sh many y) → Q (.ref p) H') := by
  refine clD T.f_l_moved T.g_l_moved sc_l_moved (fun _ _ _ _ _ _ us hl => match us, hl with | [_, _, _], _ => rfl) (fun vs H Q E h => ?_) (fun cdv A outer s H vs Q E hr h => ?_)
  · obtain ⟨b, ps, y, sh, many, rfl, _⟩ := h
    rfl
  · obtain ⟨b, ps, y, sh, many, rfl, hb, sm, hs, hm, q⟩ := h
    refine ⟨_, (pss_cons (ps_if (PW.pt (pw_or (pt_cmpR (op_eqDK (K := K) rfl hr.units) (pv 0) (pe_tup pa_nil) (nomark _)) (pw_or1 (pt_cmpR op_ge (pe_ix (ix_tupK (K := K) rfl) (pv 0) pe_int (fun _ _ => rfl)) (pv 2) (nomark _))))) (pss_one (ps_ret (pv 0))) pss_nil)
      (pss_cons (ps_set (i := 3) sc_l_moved.nd rfl (by first | exact Or.inl rfl | exact Or.inr rfl) pe_int)
      (pss_cons (ps_for PassesOwn.never rfl (pi_range1 rfl T.b_range (pa_cons (pe_op op_add (pe_ix (ix_tupK (K := K) rfl) (pv 0) pe_int (fun _ _ => rfl)) pe_int) pa_nil)) (pg_name (i := 4) sc_l_moved.nd rfl (by first | exact Or.inl rfl | exact Or.inr rfl)) (pss_cons (ps_set (i := 3) sc_l_moved.nd rfl (by first | exact Or.inl rfl | exact Or.inr rfl) (pe_op op_add (pe_op op_add (pv 3) (pe_callTy call_int1 rfl T.b_int boot_int (pa_cons (pe_cmpR op_gt (pv 4) pe_int (nomark _)) pa_nil))) (pe_callTy call_int1 rfl T.b_int boot_int (pa_cons (pe_cmpR (op_in_seqK (K := K) rfl) (pv 4) (pv 1) (by rfl)) pa_nil))))
          (pss_one (ps_set (i := 3) sc_l_moved.nd rfl (by first | exact Or.inl rfl | exact Or.inr rfl) (pe_op op_add (pv 3) (pe_callTy call_int1 rfl T.b_int boot_int (pa_cons (pe_and (pe_cmpR op_gt (pv 4) pe_int (nomark _)) (pe_one (pe_cmpR (op_in_seqK (K := K) rfl) (pe_op op_sub (pv 4) pe_int) (pv 1) (by rfl)))) pa_nil)))))))
      (pss_one (ps_ret (pe_tup (pa_cons (pe_ix (ix_tupK (K := K) rfl) (pv 0) pe_int (fun _ _ => rfl)) (pa_cons (pv 3) pa_nil)))))))), ?_⟩
    refine ⟨_, rfl, by show 0 ≤ sizeLine; decide, fun p1 n1 => new_at n1 fun H1 s1 h1 => ?_⟩
    have hb1 : WayAt H1 b y := s1 _ _ hb
    refine ⟨_, _, dp_way hb1, dp_way (y := .no) h1, (ls_way sm).shaped, (ls_way (y := .no) trivial).shaped, _, rfl, ?_⟩
    rw [eqv_way]
    cases y with
    | no => exact iteT ⟨_, rfl, q b H1 s1 hb1⟩
    | «at» z n =>
      obtain ⟨hz, n0, nm⟩ := sm
      have hb2 : H1 b = some (.tup [.str z, .int n]) := hb1
      rw [decide_eq_false (fun c => by cases c)]
      refine iteF ⟨_, rfl, b, _, _, _, rfl, rfl, SqT.of hb2, rfl, _, rfl, _, _, rfl, rfl, _, rfl, ite2 (fun h => ?_) (fun h => ?_)⟩
      · refine ⟨_, rfl, q b H1 s1 ?_⟩
        have e : moved sh many (.at z n) = .at z n := if_pos (of_decide_eq_true h)
        rw [e]
        exact hb1
      · have hlt : n < many := by
          have : ¬ (many : Int) ≤ n := fun c => h (decide_eq_true c)
          omega
        obtain ⟨m, rfl⟩ := Int.eq_ofNat_of_zero_le n0
        have hs1 := s1 _ _ hs
        refine ⟨_, rfl, b, _, _, _, rfl, rfl, SqT.of hb2, rfl, _, _, rfl, rfl, _, rfl, ?_⟩
        refine ⟨by omega, by omega, ?_⟩
        refine for_range (lo := 0) (n := ((m : Int) + 1).toNat) (fun i σ G => G = H1 ∧ ∃ x, σ = [some (.ref b), some (.ref ps), some (.int (many : Nat)), some (.int (lawN sh i)), x]) ⟨rfl, _, rfl⟩ (fun i σ G hi h => ?_) (fun σ G h => ?_)
        · obtain ⟨rfl, x, rfl⟩ := h
          have e0 : (0 : Int) + (i : Nat) = (i : Nat) := Int.zero_add _
          rw [e0]
          refine ⟨_, rfl, _, rfl, _, _, rfl, rfl, .inr ⟨_, rfl, _, _, rfl, rfl, _, rfl, _, rfl, ps, _, rfl, .inl (SqL.of hs1), rfl, nV_all _, .inr ⟨_, rfl, _, _, rfl, rfl, ?_⟩⟩⟩
          rw [inV_inI]
          refine ⟨_, rfl, _, rfl, _, _, rfl, rfl, _, rfl, ?_⟩
          have es : lawN sh (i + 1) = lawN sh i + b2i (decide (0 < (i : Int))) + b2i (inI sh (i : Int)) + b2i (decide (0 < (i : Int)) && inI sh ((i : Int) - 1)) := by
            show lawN sh i + (b2i (decide (0 < (i : Int))) + b2i (inI sh (i : Int)) + b2i (decide (0 < (i : Int)) && inI sh ((i : Int) - 1))) = _
            omega
          have fin : ∀ v : Int, v = lawN sh (i + 1) → (G = G ∧ ∃ x, [some (V.ref b), some (.ref ps), some (.int (many : Nat)), some (.int v), some (V.int (i : Nat))] = [some (V.ref b), some (.ref ps), some (.int (many : Nat)), some (.int (lawN sh (i + 1))), x]) := fun v e => ⟨rfl, some (.int (i : Nat)), by rw [e]⟩
          refine ite2 (fun h => ?_) (fun h => ?_)
          · rw [h, Bool.true_and] at es
            refine ⟨_, rfl, _, _, rfl, rfl, _, rfl, ps, _, rfl, .inl (SqL.of hs1), rfl, nV_all _, .inr ⟨_, rfl, _, _, rfl, rfl, fin _ ?_⟩⟩
            rw [inV_inI, es, h] <;> rfl
          · have hf := Bool.eq_false_iff.mpr h
            rw [hf, Bool.false_and] at es
            refine .inr ⟨_, rfl, _, _, rfl, rfl, fin _ ?_⟩
            rw [es, hf] <;> rfl
        · obtain ⟨rfl, x, rfl⟩ := h
          refine ⟨_, rfl, b, _, _, _, rfl, rfl, SqT.of hb2, rfl, _, rfl, by show 2 ≤ sizeLine; decide, fun p np => new_at np fun G2 s2 h2 => q p G2 (s1.trans s2) ?_⟩
          have e : moved sh many (.at z (m : Int)) = .at z (lawN sh ((m : Int) + 1).toNat) := by
            refine (if_neg (by omega)).trans ?_
            rw [show ((m : Int) + 1).toNat = (m : Int).toNat + 1 by omega]
          rw [e]
          exact h2
end

def WaysL (H : Hp) (qs : List Addr) (ys : List Way) : Prop := qs.length = ys.length ∧ ∀ (i : Nat) (y : Way), ys[i]? = some y → ∃ q, qs[i]? = some q ∧ WayAt H q y
theorem WaysL.same {H H' : Hp} {qs : List Addr} {ys : List Way} (h : WaysL H qs ys) (s : Same H H') : WaysL H' qs ys := ⟨h.1, fun i y e => let ⟨q, a, b⟩ := h.2 i y e; ⟨q, a, s _ _ b⟩⟩
theorem WaysL.off {D : Addr} {H H' : Hp} {qs : List Addr} {ys : List Way} (h : WaysL H qs ys) (f : Off D H H') (hd : ∀ xs, H D ≠ some (.tup xs)) : WaysL H' qs ys := ⟨h.1, fun i y e => let ⟨q, a, b⟩ := h.2 i y e; ⟨q, a, b.off f hd⟩⟩
theorem WaysL.app {H : Hp} {qs rs : List Addr} {ys zs : List Way} (h : WaysL H qs ys) (k : WaysL H rs zs) : WaysL H (qs ++ rs) (ys ++ zs) := by
  refine ⟨by rw [List.length_append, List.length_append, h.1, k.1], fun i y e => ?_⟩
  by_cases hi : i < ys.length
  · rw [List.getElem?_append_left hi] at e
    obtain ⟨q, a, b⟩ := h.2 i y e
    refine ⟨q, ?_, b⟩
    rw [List.getElem?_append_left (by rw [h.1]; exact hi)]
    exact a
  · rw [List.getElem?_append_right (Nat.le_of_not_lt hi)] at e
    obtain ⟨q, a, b⟩ := k.2 _ y e
    refine ⟨q, ?_, b⟩
    rw [List.getElem?_append_right (by rw [h.1]; exact Nat.le_of_not_lt hi), h.1]
    exact a
theorem WaysL.nil {H : Hp} : WaysL H [] [] := ⟨rfl, fun i y e => by cases e⟩
theorem WaysL.one {H : Hp} {q : Addr} {y : Way} (h : WayAt H q y) : WaysL H [q] [y] := ⟨rfl, fun i z e => by
  cases i with
  | zero => exact ⟨q, rfl, by cases e; exact h⟩
  | succ i => cases e⟩
theorem WaysL.cons {H : Hp} {q : Addr} {qs : List Addr} {y : Way} {ys : List Way} (h : WayAt H q y) (k : WaysL H qs ys) : WaysL H (q :: qs) (y :: ys) := (WaysL.one h).app k
def everyF : Nat → List Way
  | 0 => [.no]
  | k + 1 => everyF k ++ [.at "cut" (k : Int), .at "fail" (k : Int), .at "return" (k : Int)]
theorem everyF_len : ∀ k, (everyF k).length = 1 + 3 * k
  | 0 => rfl
  | k + 1 => by
    show (everyF k ++ _).length = _
    rw [List.length_append, everyF_len k]
    show 1 + 3 * k + 3 = _
    omega
theorem every_small : ∀ {k : Nat}, k ≤ 1000 → ∀ y ∈ everyF k, y.small
  | 0, _, y, h => by
    rw [List.mem_singleton.mp h]
    trivial
  | k + 1, hk, y, h => by
    rcases List.mem_append.mp h with h | h
    · exact every_small (Nat.le_of_succ_le hk) y h
    · simp only [List.mem_cons, List.not_mem_nil, or_false] at h
      rcases h with e | e | e <;> rw [e] <;> exact ⟨by decide +kernel, by omega, by omega⟩
theorem every_at : ∀ {k : Nat} {z : Str} {n : Int}, Way.at z n ∈ everyF k → n < k
  | 0, z, n, h => by cases List.mem_singleton.mp h
  | k + 1, z, n, h => by
    rcases List.mem_append.mp h with h | h
    · have := every_at h
      omega
    · simp only [List.mem_cons, List.not_mem_nil, or_false] at h
      rcases h with e | e | e <;> cases e <;> omega
section
variable {P : Program} {w : World} {K : PySem.W.Frag} {mg : Str → Option Value} {base : Heap}
theorem c_l_ways (T : Tx K mg) : Cl P w K mg base 1 "_law_ways" (fun vs H Q _ => ∃ many : Nat, vs = [.int many] ∧ many ≤ 900 ∧ ∀ (p : Addr) (qs : List Addr) (H' : Hp), H p = none → Same H H' → H' p = some (.lst (qs.map V.ref)) → WaysL H' qs (everyF (many + 2)) → Q (.ref p) H') := by
  refine clD T.f_l_ways T.g_l_ways sc_l_ways (fun _ _ _ _ _ _ us hl => match us, hl with | [_], _ => rfl) (fun vs H Q E h => ?_) (fun cdv A outer s H vs Q E hr h => ?_)
  · obtain ⟨many, rfl, _⟩ := h
    rfl
  · obtain ⟨many, rfl, hm, q⟩ := h
    refine ⟨_, (pss_cons (ps_set (i := 1) sc_l_ways.nd rfl (by first | exact Or.inl rfl | exact Or.inr rfl) (pe_lst (pa_cons (pe_tup pa_nil) pa_nil)))
      (pss_cons (ps_for PassesOwn.never rfl (pi_range1 rfl T.b_range (pa_cons (pe_op op_add (pv 0) pe_int) pa_nil)) (pg_name (i := 2) sc_l_ways.nd rfl (by first | exact Or.inl rfl | exact Or.inr rfl)) (pss_one (ps_set (i := 1) sc_l_ways.nd rfl (by first | exact Or.inl rfl | exact Or.inr rfl) (pe_op op_cat (pv 1) (pe_lst (pa_cons (pe_tup (pa_cons pe_str (pa_cons (pv 2) pa_nil))) (pa_cons (pe_tup (pa_cons pe_str (pa_cons (pv 2) pa_nil))) (pa_cons (pe_tup (pa_cons pe_str (pa_cons (pv 2) pa_nil))) pa_nil))))))))
      (pss_one (ps_ret (pv 1))))), ?_⟩
    refine ⟨by show 0 ≤ sizeLine; decide, fun p1 n1 => new_at n1 fun H1 s1 h1 => ⟨by show 1 ≤ sizeLine; decide, fun p2 n2 => new_at n2 fun H2 s2 h2 => ?_⟩⟩
    refine ⟨_, rfl, _, _, rfl, rfl, _, rfl, by omega, by omega, ?_⟩
    have en : ((many : Int) + 2).toNat = many + 2 := by omega
    rw [en]
    refine for_range (lo := 0) (n := many + 2) (fun i σ G => ∃ (p : Addr) (qs : List Addr) (x : Option V), σ = [some (.int (many : Nat)), some (.ref p), x] ∧ H p = none ∧ Same H G ∧ G p = some (.lst (qs.map V.ref)) ∧ WaysL G qs (everyF i))
      ⟨p2, [p1], _, rfl, s1.free n2, s1.trans s2, h2, WaysL.one (y := .no) (s2 _ _ h1)⟩ (fun i σ G hi h => ?_) (fun σ G h => ?_)
    · obtain ⟨p, qs, x, rfl, np, sG, hp, wq⟩ := h
      rw [show (0 : Int) + (i : Nat) = (i : Nat) from Int.zero_add _]
      refine ⟨_, rfl, _, rfl, by show 2 ≤ sizeLine; decide, fun a1 m1 => new_at m1 fun G1 u1 k1 => ⟨_, rfl, by show 2 ≤ sizeLine; decide, fun a2 m2 => new_at m2 fun G2 u2 k2 => ⟨_, rfl, by show 2 ≤ sizeLine; decide, fun a3 m3 => new_at m3 fun G3 u3 k3 => ⟨by show 3 ≤ sizeLine; decide, fun p4 n4 => new_at n4 fun G4 u4 k4 => ?_⟩⟩⟩⟩
      have up : Same G G4 := ((u1.trans u2).trans u3).trans u4
      have lq : qs.length ≤ 3000 := by
        rw [wq.1, everyF_len]
        omega
      refine ⟨p, p4, _, _, rfl, rfl, up _ _ hp, k4, ?_, fun p5 n5 => new_at n5 fun G5 u5 k5 => ?_⟩
      · exact sz_le (show (qs.map V.ref).length + 3 ≤ 3003 by rw [List.length_map]; omega) (by decide)
      refine ⟨p5, qs ++ [a1, a2, a3], _, rfl, (sG.trans up).free n5, (sG.trans up).trans u5, ?_, (wq.same (up.trans u5)).app (WaysL.cons (u5 _ _ (u4 _ _ (u3 _ _ (u2 _ _ k1)))) (WaysL.cons (u5 _ _ (u4 _ _ (u3 _ _ k2))) (WaysL.one (u5 _ _ (u4 _ _ k3)))))⟩
      rw [k5, List.map_append] <;> rfl
    · obtain ⟨p, qs, x, rfl, np, sG, hp, wq⟩ := h
      exact ⟨_, rfl, q p qs G np sG hp wq⟩
theorem c_l_door (T : Tx K mg) : Cl P w K mg base 4 "_law_door" (fun vs H Q _ => ∃ (b lw : Addr) (c : Nat), vs = [.ref b, .ref lw] ∧ lw ≠ b ∧ H lw = some (.lst (sV doorWords)) ∧ BagAt H b c ∧ c + 3 < 1000000000 ∧
    ∀ (a : DrA) (e f g : Str) (H' : Hp), Go b (c + 3) H H' → H a.r = none → H a.o = none → DrAt (drC K) H' a ⟨e, f, g, []⟩ → DrOk ⟨e, f, g, []⟩ → Q (.ref a.r) H') := by
  have c_l_of := c_l_of (P := P) (w := w) (base := base) T
  have k_Door := c_Dooru_initu (P := P) (w := w) (base := base) T
  refine clD T.f_l_door T.g_l_door sc_l_door (fun _ _ _ _ _ _ us hl => match us, hl with | [_, _], _ => rfl) (fun vs H Q E h => ?_) (fun cdv A outer s H vs Q E hr h => ?_)
  · obtain ⟨b, lw, c, rfl, _⟩ := h
    rfl
  · obtain ⟨b, lw, c, rfl, ne, hl, hb, hc, q⟩ := h
    refine ⟨_, (pss_one (ps_ret (pe_kw k_Door hr (by first | decide | omega) (pk_cons (pe_f c_l_of hr (by first | decide | omega) (pa_cons (pv 0) (pa_cons (pv 1) pa_nil))) (pk_cons (pe_f c_l_of hr (by first | decide | omega) (pa_cons (pv 0) (pa_cons (pv 1) pa_nil))) (pk_cons (pe_f c_l_of hr (by first | decide | omega) (pa_cons (pv 0) (pa_cons (pv 1) pa_nil))) pk_nil)))))), ?_⟩
    have hz : (sV doorWords) ≠ [] := by simp [doorWords]
    have h5 : (sV doorWords).length < 1000000 := by show 5 < 1000000; decide
    refine ⟨_, rfl, _, rfl, b, lw, _, c, rfl, ne, hl, hz, h5, hb, by omega, fun x1 H1 m1 g1 => ?_⟩
    obtain ⟨e, rfl, me⟩ := mem_sV m1
    refine ⟨_, rfl, _, rfl, b, lw, _, c + 1, rfl, ne, g1.keep _ _ ne hl, hz, h5, g1.bag, by omega, fun x2 H2 m2 g2 => ?_⟩
    obtain ⟨f, rfl, mf⟩ := mem_sV m2
    have g12 := g1.trans g2
    refine ⟨_, rfl, _, rfl, b, lw, _, c + 2, rfl, ne, g12.keep _ _ ne hl, hz, h5, g12.bag, by omega, fun x3 H3 m3 g3 => ?_⟩
    obtain ⟨g, rfl, mg'⟩ := mem_sV m3
    have g13 := g12.trans g3
    refine ⟨rfl, rfl, fun x dx nx ndx hxd => ⟨x, dx, e, f, g, rfl, upd_same, me, mf, mg', fun o H4 off no D4 => ⟨rfl, ?_⟩⟩⟩
    have s3 : Same H3 H4 := fun b' u e' => by
      have b1 : b' ≠ x := ne_of_none e' nx
      have b2 : b' ≠ dx := ne_of_none e' ndx
      refine off b' u b1 ?_
      rw [upd_ne b1, upd_ne b2]
      exact e'
    have no' : H3 o = none := by
      have b1 : o ≠ x := fun c' => by rw [c', upd_same] at no; cases no
      have b2 : o ≠ dx := fun c' => by rw [upd_ne b1, c', upd_same] at no; cases no
      rw [upd_ne b1, upd_ne b2] at no
      exact no
    exact q ⟨x, dx, o⟩ e f g H4 (g13.same s3) (g13.free nx) (g13.free no') D4 ⟨me, mf, mg', (fun p hp => by cases hp), Nat.zero_le _⟩
end

def placesOf (sh : List Nat) (many : Nat) : List Int := (List.range many).map fun r => lawN sh (r + 1)
def spLeft (K : PySem.W.Frag) : Sp := fun vs H Q _ => ∃ (x1 x2 : V) (oa da : DrA) (od dd : Dr) (ps : Addr) (sh : List Nat) (many : Nat), vs = [x1, .ref oa.r, x2, .ref da.r, .ref ps, .int many] ∧ DrAt (drC K) H oa od ∧ DrAt (drC K) H da dd ∧ H ps = some (.lst (nV sh)) ∧ many < 900 ∧ sh.length < 900 ∧
  (∀ z ∈ reasons, ∀ n : Int, n ∉ placesOf sh many → (∃ u : Str, od.get (.at z n) = .str u ∧ dd.get (.at z 1000000000) = .str u)) ∧ ∀ H', Same H H' → Q (.bl true) H'
theorem inV_ints (n : Int) : ∀ l : List Int, inV (.int n) (iV l) = decide (n ∈ l)
  | [] => rfl
  | y :: r => by
    have ih := inV_ints n r
    have e : inV (.int n) (iV (y :: r)) = (eqV (.int y) (.int n) || inV (.int n) (iV r)) := rfl
    have e2 : eqV (.int y) (.int n) = (y == n) := rfl
    rw [e, ih, e2]
    by_cases h : y = n
    · subst h
      simp
    · have h' : ¬ n = y := fun q => h q.symm
      simp [h, h']
theorem iV_all (l : List Int) : (iV l).all flatV = true := by
  rw [List.all_map]
  exact List.all_eq_true.mpr fun _ _ => rfl
section
variable {P : Program} {w : World} {K : PySem.W.Frag} {mg : Str → Option Value} {base : Heap}
theorem c_l_left_out (T : Tx K mg) : Cl P w K mg base 4 "_law_left_out" (spLeft K) := by
  have c_l_moved := c_l_moved (P := P) (w := w) (base := base) T
  have c_Dooru_getitemu := c_Dooru_getitemu (P := P) (w := w) (base := base) T
  refine clD (k := 3) T.f_l_left_out T.g_l_left_out sc_l_left_out (fun _ _ _ _ _ _ us hl => match us, hl with | [_, _, _, _, _, _], _ => rfl) (fun vs H Q E h => ?_) (fun cdv A outer s H vs Q E hr h => ?_)
  · obtain ⟨x1, x2, oa, da, od, dd, ps, sh, many, rfl, _⟩ := h
    rfl
  · obtain ⟨x1, x2, oa, da, od, dd, ps, sh, many, rfl, O, D, hs, hm, hsl, hyp, q⟩ := h
    refine ⟨_, (pss_cons (ps_setLc (i := 6) (own := [("_law_row", 7)]) (g := gName 7) (tt := tYes) rfl sc_l_left_out.nd rfl rfl (sw_true rfl rfl rfl (by decide +kernel)) (pi_range1 rfl T.b_range (pa_cons (pv 5) pa_nil)) (blkOk_by (N := ["_law_function", "_law_other", "_law_closed", "_law_door_here", "_law_shields", "_law_many", "_law_places", "_law_row", "_law_reasons", "_law_place", "_law_kind"]) (sc := defScope s_l_left_out) (by decide +kernel)) (fun _ _ _ _ _ => (pg_name (i := 7) sc_l_left_out.nd rfl (by first | exact Or.inl rfl | exact Or.inr rfl))) (fun _ _ _ _ _ => pts_nil) (fun _ _ _ _ _ => (pe_ix (ix_tupK (K := K) rfl) (pe_f c_l_moved hr (by first | decide | omega) (pa_cons (pe_tup (pa_cons pe_str (pa_cons (pv 7) pa_nil))) (pa_cons (pv 4) (pa_cons (pv 5) pa_nil)))) pe_int (fun _ _ => rfl))))
      (pss_cons (ps_set (i := 8) sc_l_left_out.nd rfl (by first | exact Or.inl rfl | exact Or.inr rfl) (pe_disp (pps_cons pe_str (pe_tup (pa_cons pe_str (pa_cons (pe_op op_pow pe_int pe_int) pa_nil))) (pps_cons pe_str (pe_tup (pa_cons pe_str (pa_cons (pe_op op_pow pe_int pe_int) pa_nil))) (pps_cons pe_str (pe_tup (pa_cons pe_str (pa_cons (pe_op op_pow pe_int pe_int) pa_nil))) pps_nil))) (by rfl) (by rfl) (fun z => by cases z) (by decide)))
      (pss_cons (ps_for PassesOwn.never rfl (pi_range2 rfl T.b_range (pa_cons (pv 5) (pa_cons (pe_op op_add (pv 5) pe_int) pa_nil))) (pg_name (i := 7) sc_l_left_out.nd rfl (by first | exact Or.inl rfl | exact Or.inr rfl)) (pss_one (ps_for PassesOwn.never rfl (pi_list (pe_lst (pa_cons (pv 7) (pa_cons (pe_op op_add (pv 7) (pe_op op_mul pe_int (pe_callB (call_len_seqK (K := K) rfl) rfl T.b_len boot_len (pa_cons (pv 4) pa_nil)))) pa_nil)))) (pg_name (i := 9) sc_l_left_out.nd rfl (by first | exact Or.inl rfl | exact Or.inr rfl)) (pss_one (ps_lock (ps_for PassesOwn.never rfl (pi_keys (pv 8)) (pg_name (i := 10) sc_l_left_out.nd rfl (by first | exact Or.inl rfl | exact Or.inr rfl)) (pss_one (ps_if (PW.pt (pw_and (pt_cmpR (op_notIn_seqK (K := K) rfl) (pv 9) (pv 6) (by rfl)) (pw_and1 (pt_cmpR op_ne (pe_oget c_Dooru_getitemu hr (by first | decide | omega) (pv 1) (pe_tup (pa_cons (pv 10) (pa_cons (pv 9) pa_nil)))) (pe_oget c_Dooru_getitemu hr (by first | decide | omega) (pv 3) (pe_dget (hu_of hr) (pv 8) (pv 10) (fun _ _ => rfl))) (nomark _))))) (pss_one (ps_ret pe_bl)) pss_nil))))))))
      (pss_one (ps_ret pe_bl))))), ?_⟩
    refine ⟨_, rfl, _, rfl, by omega, by omega, fun L nL => ?_⟩
    have hneL : ∀ {b : Addr} {o : HO}, H b = some o → b ≠ L := fun e => ne_of_none e nL
    have en : ((many : Nat) : Int).toNat = many := by omega
    rw [en]
    refine lc_it (walk_range (lo := 0) (n := many)) (fun i G => Off L H G ∧ G L = some (.lst (iV (placesOf sh i)))) ⟨(Off.refl L H).put, upd_same⟩ (fun _ _ _ _ => trivial) (fun i x G1 G2 hi h y => ?_) (fun G h => ?_)
    · obtain ⟨f, hL⟩ := h
      obtain ⟨rfl, ex⟩ := y
      have ex : x = .int (i : Nat) := by
        rw [ex]
        show V.int (0 + (i : Int)) = _
        rw [Int.zero_add]
      subst ex
      refine ⟨rfl, _, rfl, by show 2 ≤ sizeLine; decide, fun p1 n1 => new_at n1 fun G3 s3 h3 => ⟨_, rfl, _, rfl, p1, ps, .at "cut" (i : Nat), sh, many, rfl, h3, ⟨by decide +kernel, by omega, by omega⟩, s3 _ _ (f _ _ (hneL hs) hs), by omega, fun p4 G4 s4 w4 => ?_⟩⟩
      have e : moved sh many (.at "cut" (i : Nat)) = .at "cut" (lawN sh (i + 1)) := by
        refine (if_neg (by omega)).trans ?_
        rw [show ((i : Nat) : Int).toNat = i by omega]
      rw [e] at w4
      have w5 : G4 p4 = some (.tup [.str "cut", .int (lawN sh (i + 1))]) := w4
      refine ⟨p4, _, _, _, rfl, rfl, SqT.of w5, rfl, _, s4 _ _ (s3 _ _ hL), ?_, ((f.same s3).same s4).put, ?_⟩
      · rw [List.length_map]
        unfold placesOf
        rw [List.length_map, List.length_range]
        exact Nat.lt_of_lt_of_le hi (Nat.le_trans (Nat.le_of_lt hm) (by decide))
      · rw [upd_same]
        unfold placesOf
        rw [List.range_succ, List.map_append]
        simp [iV]
    · obtain ⟨f, hL⟩ := h
      have s1 : Same H G := fun b o e => f b o (hneL e) e
      refine fun R nR => new_at nR fun G1 s2 h1 => ?_
      refine ⟨_, _, rfl, rfl, ⟨by decide, by decide, by decide⟩, by show 2 ≤ sizeLine; decide, fun t1 m1 => new_at m1 fun G2 s3 k1 => ⟨_, _, rfl, rfl, ⟨by decide, by decide, by decide⟩, by show 2 ≤ sizeLine; decide, fun t2 m2 => new_at m2 fun G3 s4 k2 => ⟨_, _, rfl, rfl, ⟨by decide, by decide, by decide⟩, by show 2 ≤ sizeLine; decide, fun t3 m3 => new_at m3 fun G4 s5 k3 => ?_⟩⟩⟩
      have s14 := (s3.trans s4).trans s5
      refine ⟨s14 _ _ h1, [(.inr "cut", .ref t1), (.inr "fail", .ref t2), (.inr "return", .ref t3)], rfl, by show 3 ≤ 15; decide, put_at fun G5 f5 b5 i5 => ?_⟩
      have s5' : Same H G5 := fun b o e => f5 _ _ (ne_of_none (s1 _ _ e) nR) (s14 _ _ (s2 _ _ (s1 _ _ e)))
      have wt : ∀ z ∈ reasons, ∃ t, valV (mergeK [] [(Sum.inr "cut", V.ref t1), (Sum.inr "fail", .ref t2), (Sum.inr "return", .ref t3)]) (Sum.inr z : L2.Key) = some (.ref t) ∧ WayAt G5 t (.at z 1000000000) := fun z hz => by
        simp only [reasons, List.mem_cons, List.not_mem_nil, or_false] at hz
        rcases hz with e | e | e <;> subst e
        · exact ⟨t1, rfl, f5 _ _ (ne_of (s14 _ _ h1) (s5 _ _ (s4 _ _ k1)) (by intro c; cases c)).symm (s5 _ _ (s4 _ _ k1))⟩
        · exact ⟨t2, rfl, f5 _ _ (ne_of (s14 _ _ h1) (s5 _ _ k2) (by intro c; cases c)).symm (s5 _ _ k2)⟩
        · exact ⟨t3, rfl, f5 _ _ (ne_of (s14 _ _ h1) k3 (by intro c; cases c)).symm k3⟩
      have kk : mergeK [] [(Sum.inr "cut", V.ref t1), (Sum.inr "fail", .ref t2), (Sum.inr "return", .ref t3)] = [((Sum.inr "cut" : L2.Key), V.ref t1), (Sum.inr "fail", .ref t2), (Sum.inr "return", .ref t3)] := rfl
      rw [kk] at i5 wt
      have hL5 : G5 L = some (.lst (iV (placesOf sh many))) := f5 _ _ (ne_of_none hL nR) (s14 _ _ (s2 _ _ hL))
      have O5 := O.same s5'
      have D5 := D.same s5'
      have hs5 := s5' _ _ hs
      have keys : ∀ i k v, ([((Sum.inr "cut" : L2.Key), V.ref t1), (Sum.inr "fail", .ref t2), (Sum.inr "return", .ref t3)] : List (L2.Key × V))[i]? = some (k, v) → ∃ z, k = Sum.inr z ∧ z ∈ reasons := fun i k v e => by
        have m := List.mem_of_getElem? e
        simp only [List.mem_cons, List.not_mem_nil, or_false] at m
        rcases m with c | c | c <;> cases c <;> exact ⟨_, rfl, by decide +kernel⟩
      have len3 : ([((Sum.inr "cut" : L2.Key), V.ref t1), (Sum.inr "fail", .ref t2), (Sum.inr "return", .ref t3)] : List (L2.Key × V)).length ≤ 3 := Nat.le_refl 3
      generalize ([((Sum.inr "cut" : L2.Key), V.ref t1), (Sum.inr "fail", .ref t2), (Sum.inr "return", .ref t3)] : List (L2.Key × V)) = KR at i5 wt keys len3
      clear kk k1 k2 k3 f5 b5 h1 s14
      refine ⟨_, rfl, _, rfl, _, _, rfl, rfl, _, _, rfl, ⟨by omega, by omega, by omega, by omega⟩, ?_⟩
      refine for_range (lo := (many : Int)) (n := ((many : Int) + 2 - many).toNat) (fun i σ G' => Same G5 G' ∧ ∃ a b c, σ = [some x1, some (.ref oa.r), some x2, some (.ref da.r), some (.ref ps), some (.int (many : Nat)), some (.ref L), a, some (.ref R), b, c]) ⟨Same.refl G5, _, _, _, rfl⟩ (fun i σ G6 hi h => ?_) (fun σ G6 h => ?_)
      · obtain ⟨s6, a, b, c, rfl⟩ := h
        refine ⟨_, rfl, _, rfl, _, rfl, ps, _, rfl, .inl (SqL.of (s6 _ _ hs5)), _, _, rfl, rfl, .inl ⟨by decide, by decide⟩, _, _, rfl, rfl, by show 2 ≤ sizeLine; decide, fun p7 n7 => new_at n7 fun G7 s7 h7 => ⟨p7, rfl, ⟨_, SqL.of h7⟩, ?_⟩⟩
        obtain ⟨n1', n2', en⟩ : ∃ a b : Int, [V.int ((many : Int) + (i : Nat)), V.int ((many : Int) + (i : Nat) + 2 * (((nV sh).length : Nat) : Int))] = [V.int a, .int b] := ⟨_, _, rfl⟩
        have h7 : G7 p7 = some (.lst (iV [(many : Int) + (i : Nat), (many : Int) + (i : Nat) + 2 * (((nV sh).length : Nat) : Int)])) := h7
        generalize [(many : Int) + (i : Nat), (many : Int) + (i : Nat) + 2 * (((nV sh).length : Nat) : Int)] = ns at h7
        refine for_it (walk_list (K := K) (a := p7) (xs := iV ns)) (fun j σ G' => Same G7 G' ∧ ∃ b c, σ = [some x1, some (.ref oa.r), some x2, some (.ref da.r), some (.ref ps), some (.int (many : Nat)), some (.ref L), some (.int ((many : Int) + (i : Nat))), some (.ref R), b, c]) ⟨Same.refl G7, _, _, rfl⟩ (fun j σ G' _ h => SqL.of (h.1 _ _ h7)) (fun j x σ G8 G9 hj h y => ?_) (fun σ G8 h => ?_)
        · obtain ⟨s8, b', c', rfl⟩ := h
          obtain ⟨rfl, hx⟩ := y
          obtain ⟨n, rfl⟩ : ∃ n : Int, x = .int n := by
            obtain ⟨n, _, e⟩ := List.mem_map.mp (List.mem_of_getElem? hx)
            exact ⟨n, e.symm⟩
          have s59 : Same G5 G9 := (s6.trans s7).trans s8
          have iR := s59 _ _ i5
          have RL : R ≠ L := (ne_of hL5 i5 (by intro c; cases c)).symm
          refine ⟨R, _, iR, trivial, fun od' => put_at fun GL fL bL iL => ⟨_, rfl, R, od', rfl, .inl ⟨_, iL, ?_⟩⟩⟩
          have hRt : ∀ {b : Addr} {o : HO}, G9 b = some o → o ≠ .dK KR → b ≠ R := fun e n c => by
            rw [c, iR] at e
            exact n (Option.some.inj e).symm
          have OL : DrAt (drC K) GL oa od := ⟨fL _ _ (hRt (s59 _ _ O5.ins) (by intro c; cases c)) (s59 _ _ O5.ins), fL _ _ (hRt (s59 _ _ O5.oth) (by intro c; cases c)) (s59 _ _ O5.oth)⟩
          have DL : DrAt (drC K) GL da dd := ⟨fL _ _ (hRt (s59 _ _ D5.ins) (by intro c; cases c)) (s59 _ _ D5.ins), fL _ _ (hRt (s59 _ _ D5.oth) (by intro c; cases c)) (s59 _ _ D5.oth)⟩
          have hLL := fL _ _ RL.symm (s59 _ _ hL5)
          refine for_it (walk_keys (d := R) (o := od') (kvs := KR)) (fun m σ G' => Same GL G' ∧ ∃ c, σ = [some x1, some (.ref oa.r), some x2, some (.ref da.r), some (.ref ps), some (.int (many : Nat)), some (.ref L), some (.int ((many : Int) + (i : Nat))), some (.ref R), some (.int n), c]) ⟨Same.refl GL, _, rfl⟩ (fun m σ G' _ h => h.1 _ _ iL) (fun m x σ G1 G2 hm' h y => ?_) (fun σ G1 h => ?_)
          · obtain ⟨s1', c2, rfl⟩ := h
            obtain ⟨rfl, k, v, ek, rfl⟩ := y
            obtain ⟨z, rfl, hz⟩ := keys _ _ _ ek
            obtain ⟨t, et, wt'⟩ := wt z hz
            refine ⟨_, rfl, _, rfl, L, _, rfl, .inl (SqL.of (s1' _ _ hLL)), rfl, iV_all _, _, rfl, ?_⟩
            rw [inV_ints]
            refine ite2 (fun hn => ?_) (fun hn => ⟨s1', _, rfl⟩)
            have hn' : n ∉ placesOf sh many := by simpa using hn
            obtain ⟨u, e1, e2⟩ := hyp z hz n hn'
            refine ⟨_, rfl, _, rfl, _, rfl, by show 2 ≤ sizeLine; decide, fun p8 n8 => new_at n8 fun G3 u3 h3 => ⟨oa.r, oa.dx, _, rfl, u3 _ _ (s1' _ _ OL.ins), oa, od, p8, .at z n, rfl, OL.same (s1'.trans u3), h3, ?_⟩⟩
            have rG := u3 _ _ (s1' _ _ iL)
            have dg : DGet G3 R (.str z) (some (.ref t)) := .inl ⟨KR, Sum.inr z, .inr ⟨od', rG⟩, rfl, et.symm⟩
            refine ⟨_, rfl, _, rfl, _, rfl, R, _, rfl, dg, da.r, da.dx, _, rfl, u3 _ _ (s1' _ _ DL.ins), da, dd, t, .at z 1000000000, rfl, DL.same (s1'.trans u3), u3 _ _ (s1' _ _ (fL _ _ (hRt (s59 _ _ wt') (by intro c; cases c)) (s59 _ _ wt'))), ?_⟩
            rw [e1, e2]
            refine ⟨rfl, _, rfl, ?_⟩
            rw [decide_eq_true rfl]
            exact iteF ⟨s1'.trans u3, _, rfl⟩
          · obtain ⟨s1', c2, rfl⟩ := h
            refine ⟨s1' _ _ iL, put_at fun G3 f3 b3 i3 => ⟨fun b o e => ?_, _, _, rfl⟩⟩
            by_cases c : b = R
            · subst c
              rw [s8 _ _ (s7 _ _ (s6 _ _ i5)) |> fun _ => (s7 _ _ (s6 _ _ i5))] at e
              cases e
              exact i3
            · exact f3 _ _ c (s1' _ _ (fL _ _ c (s8 _ _ e)))
        · obtain ⟨s8, b', c', rfl⟩ := h
          exact ⟨(s6.trans s7).trans s8, _, _, _, rfl⟩
      · obtain ⟨s6, a, b, c, rfl⟩ := h
        exact q G6 (s5'.trans s6)
end

/-! ### the plain law -/
theorem inI_nat (sh : List Nat) (k : Nat) : inI sh (k : Int) = decide (k ∈ sh) := by
  rw [← inV_inI, inV_nV]
def cntL (sh : List Nat) (k : Nat) : Nat := (sh.filter fun (x : Nat) => decide ((x : Int) < (k : Int))).length
theorem cnt_step : ∀ {sh : List Nat} (k : Nat), sh.Nodup → cntL sh (k + 1) = cntL sh k + (if k ∈ sh then 1 else 0)
  | [], k, _ => rfl
  | x :: r, k, h => by
    obtain ⟨hx, hr⟩ := List.nodup_cons.mp h
    have ih := cnt_step k hr
    unfold cntL at ih ⊢
    rw [List.filter_cons, List.filter_cons]
    by_cases c : x = k
    · subst c
      rw [if_neg hx] at ih
      rw [if_pos (decide_eq_true (by omega)), if_neg (by simp), if_pos (List.mem_cons_self ..), List.length_cons, ih]
    · have m : (k ∈ x :: r) ↔ k ∈ r := by
        rw [List.mem_cons]
        exact ⟨fun q => q.elim (fun e => absurd e.symm c) id, .inr⟩
      have em : (if k ∈ x :: r then 1 else 0) = (if k ∈ r then 1 else 0) := by
        by_cases q : k ∈ r
        · rw [if_pos q, if_pos (m.mpr q)]
        · rw [if_neg q, if_neg fun z => q (m.mp z)]
      rw [em]
      by_cases q : x < k
      · rw [if_pos (decide_eq_true (by omega)), if_pos (decide_eq_true (by omega)), List.length_cons, List.length_cons, ih]
        omega
      · rw [if_neg (by simp; omega), if_neg (by simp; omega), ih]
theorem b2i_mem (sh : List Nat) (k : Nat) : b2i (inI sh (k : Int)) = ((if k ∈ sh then 1 else 0 : Nat) : Int) := by
  rw [inI_nat]
  unfold b2i
  by_cases c : k ∈ sh
  · rw [decide_eq_true c, if_pos rfl, if_pos c] <;> rfl
  · rw [decide_eq_false c, if_neg c] <;> rfl
theorem lawN_eq {sh : List Nat} (h : sh.Nodup) : ∀ k : Nat, lawN sh (k + 1) = (k : Int) + 2 * (cntL sh k : Int) + ((if k ∈ sh then 1 else 0 : Nat) : Int)
  | 0 => by
    have e : lawN sh 1 = 0 + (b2i (decide ((0 : Int) < ((0 : Nat) : Int))) + b2i (inI sh ((0 : Nat) : Int)) + b2i (decide ((0 : Int) < ((0 : Nat) : Int)) && inI sh (((0 : Nat) : Int) - 1))) := rfl
    have c0 : cntL sh 0 = 0 := by
      unfold cntL
      rw [List.length_eq_zero_iff, List.filter_eq_nil_iff]
      intro x _
      simp
    rw [e, b2i_mem, c0, decide_eq_false (by omega), Bool.false_and]
    show (0 : Int) + (0 + _ + 0) = ((0 : Nat) : Int) + 2 * ((0 : Nat) : Int) + _
    omega
  | k + 1 => by
    have ih := lawN_eq h k
    have e : lawN sh (k + 1 + 1) = lawN sh (k + 1) + (b2i (decide ((0 : Int) < ((k + 1 : Nat) : Int))) + b2i (inI sh ((k + 1 : Nat) : Int)) + b2i (decide ((0 : Int) < ((k + 1 : Nat) : Int)) && inI sh (((k + 1 : Nat) : Int) - 1))) := rfl
    rw [e, ih, b2i_mem, decide_eq_true (by omega), Bool.true_and, show (((k + 1 : Nat) : Int) - 1) = (k : Int) by omega, b2i_mem, cnt_step k h]
    show _ + (1 + _ + _) = _
    omega
theorem lawN_up {sh : List Nat} (h : sh.Nodup) : ∀ {a b : Nat}, a < b → lawN sh (a + 1) < lawN sh (b + 1)
  | a, b + 1, lt => by
    have st : lawN sh (b + 1) < lawN sh (b + 1 + 1) := by
      rw [lawN_eq h b, lawN_eq h (b + 1), cnt_step b h]
      omega
    rcases Nat.lt_or_ge a b with c | c
    · exact Int.lt_trans (lawN_up h c) st
    · have e : a = b := by omega
      subst e
      exact st
theorem lawN_inj {sh : List Nat} (h : sh.Nodup) {a b : Nat} (e : lawN sh (a + 1) = lawN sh (b + 1)) : a = b := by
  rcases Nat.lt_trichotomy a b with c | c | c
  · have := lawN_up h c
    omega
  · exact c
  · have := lawN_up h c
    omega
theorem renN_eq {sh : List Nat} (h : sh.Nodup) (k : Nat) : renN sh (k : Int) = lawN sh (k + 1) := by
  rw [lawN_eq h k]
  unfold renN
  have e : (if inI sh (k : Int) = true then (1 : Int) else 0) = ((if k ∈ sh then 1 else 0 : Nat) : Int) := b2i_mem sh k
  rw [e] <;> rfl
/-- a way that is told by a row of the function -/
def Way.inn (many : Nat) : Way → Prop
  | .no => True
  | .at _ n => ∃ k : Nat, n = k ∧ k < many
theorem inn_known {many : Nat} : ∀ {y : Way}, y.inn many ↔ knownW many y = true
  | .no => ⟨fun _ => rfl, fun _ => trivial⟩
  | .at z n => by
    show (∃ k : Nat, n = k ∧ k < many) ↔ (decide (0 ≤ n) && decide (n < (many : Int))) = true
    rw [Bool.and_eq_true, decide_eq_true_eq, decide_eq_true_eq]
    constructor
    · rintro ⟨k, rfl, lt⟩
      omega
    · rintro ⟨a, b⟩
      exact ⟨n.toNat, by omega, by omega⟩
theorem moved_ren {sh : List Nat} (h : sh.Nodup) {many : Nat} : ∀ {y : Way}, y.inn many → moved sh many y = ren sh y
  | .no, _ => rfl
  | .at z n, ⟨k, e, lt⟩ => by
    subst e
    show (if (many : Int) ≤ (k : Int) then Way.at z (k : Int) else .at z (lawN sh ((k : Int).toNat + 1))) = .at z (renN sh (k : Int))
    rw [if_neg (by omega), renN_eq h, show (k : Int).toNat = k by omega]
theorem ren_inj {sh : List Nat} (h : sh.Nodup) {many : Nat} : ∀ {x y : Way}, x.inn many → y.inn many → ren sh x = ren sh y → x = y
  | .no, .no, _, _, _ => rfl
  | .no, .at _ _, _, _, e => by cases e
  | .at _ _, .no, _, _, e => by cases e
  | .at z n, .at z' n', ⟨k, ek, _⟩, ⟨k', ek', _⟩, e => by
    subst ek ek'
    have e1 : Way.at z (renN sh (k : Int)) = .at z' (renN sh (k' : Int)) := e
    injection e1 with e2 e3
    rw [renN_eq h, renN_eq h] at e3
    rw [e2, lawN_inj h e3]
theorem fold_val (g : Way → Way) (val : Way → V) (y0 : Way) : ∀ (ys : List Way) (acc : Oth), (∀ y ∈ ys, g y = g y0 → y = y0) →
    valV (ys.foldl (fun acc y => putK acc (g y).key (val y)) acc) (g y0).key = if y0 ∈ ys then some (val y0) else valV acc (g y0).key
  | [], acc, _ => by rw [if_neg (fun h => by cases h)] <;> rfl
  | y :: r, acc, h => by
    have ih := fold_val g val y0 r (putK acc (g y).key (val y)) fun z hz => h z (List.mem_cons_of_mem _ hz)
    show valV (r.foldl (fun acc y => putK acc (g y).key (val y)) (putK acc (g y).key (val y))) (g y0).key = _
    rw [ih, valV_put]
    by_cases m : y0 ∈ r
    · rw [if_pos m, if_pos (List.mem_cons_of_mem _ m)]
    · rw [if_neg m]
      by_cases c : y = y0
      · subst c
        rw [if_pos rfl, if_pos (List.mem_cons_self ..)]
      · have ne : ¬ (g y0).key = (g y).key := fun q => c (h y (List.mem_cons_self ..) (Way.key_inj q).symm)
        rw [if_neg ne, if_neg]
        intro q
        rcases List.mem_cons.mp q with q | q
        · exact c q.symm
        · exact m q
theorem known_iff {C : Oth} (kC : Keyed C) {many : Nat} {y : Way} : y ∈ knownOf C many ↔ (∃ v, valV C y.key = some v) ∧ knownW many y = true := by
  unfold knownOf
  rw [List.mem_filter, List.mem_map]
  constructor
  · rintro ⟨⟨p, hp, e⟩, k⟩
    obtain ⟨y', e'⟩ := kC p hp
    rw [e', wayOf_key] at e
    subst e
    obtain ⟨v, ev, _⟩ := valV_in hp
    rw [e'] at ev
    exact ⟨⟨v, ev⟩, k⟩
  · rintro ⟨⟨v, ev⟩, k⟩
    refine ⟨?_, k⟩
    have any := valV_any y.key C
    rw [ev] at any
    obtain ⟨p, hp, e⟩ := List.any_eq_true.mp any
    exact ⟨p, hp, by rw [of_decide_eq_true e, wayOf_key]⟩
theorem final_val {C : Oth} (kC : Keyed C) {sh : List Nat} (h : sh.Nodup) {many : Nat} {y : Way} (hy : y.inn many) : valV (finalO sh many C) (ren sh y).key = valV C y.key := by
  unfold finalO finalF
  rw [fold_val (ren sh) (fun y => (valV C y.key).getD .non) y (knownOf C many) [] fun x hx e => ren_inj h (inn_known.mpr ((known_iff kC).mp hx).2) hy e]
  cases e : valV C y.key with
  | some v =>
    rw [if_pos ((known_iff kC).mpr ⟨⟨v, e⟩, inn_known.mp hy⟩)] <;> rfl
  | none =>
    rw [if_neg]
    · rfl
    · intro m
      obtain ⟨⟨v, ev⟩, _⟩ := (known_iff kC).mp m
      rw [e] at ev
      cases ev
theorem final_no {C : Oth} (kC : Keyed C) {sh : List Nat} (h : sh.Nodup) {many : Nat} {z : Str} {n : Int} (hn : n ∉ placesOf sh many) : valV (finalO sh many C) (Way.at z n).key = none := by
  have gen : ∀ (ys : List Way) (acc : Oth), (∀ y ∈ ys, ren sh y ≠ .at z n) → valV (ys.foldl (fun acc y => putK acc (ren sh y).key ((valV C y.key).getD .non)) acc) (Way.at z n).key = valV acc (Way.at z n).key := by
    intro ys
    induction ys with
    | nil => intro acc _; rfl
    | cons y r ih =>
      intro acc hy
      show valV (r.foldl _ (putK acc (ren sh y).key ((valV C y.key).getD .non))) _ = _
      rw [ih _ fun x hx => hy x (List.mem_cons_of_mem _ hx), valV_put, if_neg]
      intro q
      exact hy y (List.mem_cons_self ..) (Way.key_inj q).symm
  unfold finalO finalF
  rw [gen]
  · rfl
  · intro y hy e
    have inn := inn_known.mpr ((known_iff kC).mp hy).2
    cases y with
    | no => cases e
    | «at» z' n' =>
      obtain ⟨k, ek, lt⟩ := inn
      subst ek
      have e1 : Way.at z' (renN sh (k : Int)) = .at z n := e
      injection e1 with e2 e3
      rw [renN_eq h] at e3
      refine hn ?_
      unfold placesOf
      rw [List.mem_map]
      exact ⟨k, List.mem_range.mpr lt, e3⟩
theorem copy_val (o : Oth) (k : List L2.Key) : valV (copyO o) k = valV o k := by
  have gen : ∀ (l acc : Oth), (∀ p ∈ l, p ∈ o) → valV (l.foldl (fun acc p => putK acc p.1 ((valV o p.1).getD .non)) acc) k = if (∃ p ∈ l, p.1 = k) then valV o k else valV acc k := by
    intro l
    induction l with
    | nil => intro acc _; rw [if_neg (by rintro ⟨p, hp, _⟩; cases hp)] <;> rfl
    | cons p r ih =>
      intro acc hl
      show valV (r.foldl _ (putK acc p.1 ((valV o p.1).getD .non))) k = _
      rw [ih _ fun q hq => hl q (List.mem_cons_of_mem _ hq), valV_put]
      by_cases c : ∃ q ∈ r, q.1 = k
      · obtain ⟨q, hq, e⟩ := c
        rw [if_pos ⟨q, hq, e⟩, if_pos ⟨q, List.mem_cons_of_mem _ hq, e⟩]
      · rw [if_neg c]
        by_cases d : k = p.1
        · subst d
          obtain ⟨v, ev, _⟩ := valV_in (hl p (List.mem_cons_self ..))
          rw [if_pos rfl, if_pos ⟨p, List.mem_cons_self .., rfl⟩, ev] <;> rfl
        · rw [if_neg d, if_neg]
          rintro ⟨q, hq, e⟩
          rcases List.mem_cons.mp hq with z | z
          · subst z
            exact d e.symm
          · exact c ⟨q, z, e⟩
  unfold copyO copyF
  rw [gen o [] fun _ h => h]
  by_cases c : ∃ p ∈ o, p.1 = k
  · rw [if_pos c]
  · rw [if_neg c]
    cases e : valV o k with
    | none => rfl
    | some v =>
      have any := valV_any k o
      rw [e] at any
      obtain ⟨p, hp, q⟩ := List.any_eq_true.mp any
      exact absurd ⟨p, hp, of_decide_eq_true q⟩ c
theorem close_val (y : Way) : ∀ (ms : List Mend) (o : Oth), valV (closeF o ms) y.key = if Mend.close y ∈ ms then some (.str "close") else valV o y.key
  | [], o => by rw [if_neg (fun h => by cases h)] <;> rfl
  | m :: r, o => by
    show valV (closeF (closeS o m) r) y.key = _
    rw [close_val y r (closeS o m)]
    by_cases c : Mend.close y ∈ r
    · rw [if_pos c, if_pos (List.mem_cons_of_mem _ c)]
    · rw [if_neg c]
      cases m with
      | shield n =>
        rw [if_neg]
        · rfl
        · intro q
          rcases List.mem_cons.mp q with z | z
          · cases z
          · exact c z
      | close x =>
        show valV (putK o x.key (.str "close")) y.key = _
        rw [valV_put]
        by_cases d : y = x
        · subst d
          rw [if_pos rfl, if_pos (List.mem_cons_self ..)]
        · rw [if_neg fun q => d (Way.key_inj q), if_neg]
          intro q
          rcases List.mem_cons.mp q with z | z
          · cases z
            exact d rfl
          · exact c z
theorem why_ren (sh : List Nat) : ∀ y : Way, (ren sh y).why = y.why
  | .no => rfl
  | .at _ _ => rfl
/-- the mended door at a moved way -/
theorem told_in {d : Dr} (kd : Keyed d.o) {sh : List Nat} (h : sh.Nodup) {many : Nat} {ms : List Mend} {y : Way} (hy : y.inn many) :
    ({ d with o := finalO sh many (closeF (copyO d.o) ms) } : Dr).get (moved sh many y) = if Mend.close y ∈ ms then .str "close" else d.get y := by
  have kC : Keyed (closeF (copyO d.o) ms) := Keyed.close (Keyed.copy kd)
  rw [moved_ren h hy]
  unfold Dr.get
  show (valV (finalO sh many (closeF (copyO d.o) ms)) (ren sh y).key).getD _ = _
  rw [final_val kC h hy, close_val, copy_val]
  by_cases c : Mend.close y ∈ ms
  · rw [if_pos c, if_pos c] <;> rfl
  · rw [if_neg c, if_neg c]
    have e : ({ d with o := finalO sh many (closeF (copyO d.o) ms) } : Dr).dflt (ren sh y) = d.dflt y := by
      unfold Dr.dflt
      rw [why_ren]
    rw [e]
theorem told_out {d : Dr} (kd : Keyed d.o) {sh : List Nat} (h : sh.Nodup) {many : Nat} {ms : List Mend} {z : Str} {n : Int} (hn : n ∉ placesOf sh many) (big : valV d.o (Way.at z 1000000000).key = none) :
    ∃ u : Str, ({ d with o := finalO sh many (closeF (copyO d.o) ms) } : Dr).get (.at z n) = .str u ∧ d.get (.at z 1000000000) = .str u := by
  have kC : Keyed (closeF (copyO d.o) ms) := Keyed.close (Keyed.copy kd)
  refine ⟨d.dflt (.at z n), ?_, ?_⟩
  · unfold Dr.get
    show (valV (finalO sh many (closeF (copyO d.o) ms)) (Way.at z n).key).getD _ = _
    rw [final_no kC h hn] <;> rfl
  · unfold Dr.get
    rw [big] <;> rfl

theorem WaysL.mem {H : Hp} {qs : List Addr} {ys : List Way} (h : WaysL H qs ys) {x : V} (hx : x ∈ qs.map V.ref) : ∃ q y, x = .ref q ∧ y ∈ ys ∧ WayAt H q y := by
  obtain ⟨q, hq, e⟩ := List.mem_map.mp hx
  obtain ⟨i, hi⟩ := List.getElem?_of_mem hq
  have lt : i < ys.length := by
    rw [← h.1]
    exact (List.getElem?_eq_some_iff.mp hi).1
  obtain ⟨q', e', w⟩ := h.2 i ys[i] (List.getElem?_eq_getElem lt)
  rw [hi] at e'
  cases e'
  exact ⟨q, _, e.symm, List.getElem_mem lt, w⟩
theorem Go.off {b : Addr} {c : Nat} {H H' : Hp} (g : Go b c H H') : Off b H H' := fun a o n e => g.keep a o n e
theorem BagAt.lst {b : Addr} {c : Nat} {H : Hp} (h : BagAt H b c) : ∀ o, H b = some o → (∃ xs, o = .lst xs) ∨ (∃ kvs, o = .dT kvs) ∨ (∃ kvs, o = .dK kvs) := fun o e => by
  obtain ⟨xs, q, _⟩ := h
  rw [q] at e
  exact .inl ⟨xs, (Option.some.inj e).symm⟩
theorem BagAt.notup {b : Addr} {c : Nat} {H : Hp} (h : BagAt H b c) : ∀ xs, H b ≠ some (.tup xs) := fun xs e => by
  obtain ⟨ys, q, _⟩ := h
  rw [q] at e
  cases e
theorem DrAt.go {C b : Addr} {c c' : Nat} {H H' : Hp} {a : DrA} {d : Dr} (h : DrAt C H a d) (hb : BagAt H b c) (g : Go b c' H H') : DrAt C H' a d := by
  obtain ⟨ys, q, _⟩ := hb
  exact ⟨g.keep _ _ (ne_of h.ins q (by intro e; cases e)) h.ins, g.keep _ _ (ne_of h.oth q (by intro e; cases e)) h.oth⟩
/-- a door whose ways are of the law's list -/
structure DrIn (many : Nat) (n : Nat) (d : Dr) : Prop where
  e : d.e ∈ doorWords
  f : d.f ∈ doorWords
  c : d.c ∈ doorWords
  o : ∀ p ∈ d.o, (∃ y : Way, y ∈ everyF (many + 2) ∧ p.1 = y.key) ∧ ∃ z ∈ doorWords, p.2 = .str z
  few : d.o.length ≤ n
theorem DrIn.ok {many n : Nat} {d : Dr} (h : DrIn many n d) (hn : n ≤ 1000) : DrOk d := ⟨h.e, h.f, h.c, fun p hp => ⟨(h.o p hp).1.elim fun y e => ⟨y, e.2⟩, (h.o p hp).2⟩, Nat.le_trans h.few hn⟩
theorem putK_vals {κ : Type} [DecidableEq κ] {o : List (κ × V)} {k : κ} {v : V} {p : κ × V} (h : p ∈ putK o k v) : p = (k, v) ∨ p ∈ o := by
  unfold putK at h
  split at h
  · obtain ⟨q, hq, rfl⟩ := List.mem_map.mp h
    split
    · rename_i c
      exact .inl (by rw [c])
    · exact .inr hq
  · rcases List.mem_append.mp h with c | c
    · exact .inr c
    · exact .inl (List.mem_singleton.mp c)
theorem DrIn.up {many n m : Nat} {d : Dr} (h : DrIn many n d) (l : n ≤ m) : DrIn many m d := ⟨h.e, h.f, h.c, h.o, Nat.le_trans h.few l⟩
theorem DrIn.put {many n : Nat} {d : Dr} (h : DrIn many n d) {y : Way} (hy : y ∈ everyF (many + 2)) {z : Str} (hz : z ∈ doorWords) : DrIn many (n + 1) { d with o := putK d.o y.key (.str z) } := by
  refine ⟨h.e, h.f, h.c, fun p hp => ?_, Nat.le_trans (putK_le _ _ _) (Nat.succ_le_succ h.few)⟩
  rcases putK_vals hp with c | c
  · subst c
    exact ⟨⟨y, hy, rfl⟩, z, hz, rfl⟩
  · exact h.o p c
theorem DrIn.big {many n : Nat} {d : Dr} (h : DrIn many n d) (hm : many ≤ 900) (z : Str) : valV d.o (Way.at z 1000000000).key = none := by
  cases e : valV d.o (Way.at z 1000000000).key with
  | none => rfl
  | some v =>
    have any := valV_any (Way.at z 1000000000).key d.o
    rw [e] at any
    obtain ⟨p, hp, q⟩ := List.any_eq_true.mp any
    obtain ⟨⟨y, hy, ek⟩, _⟩ := h.o p hp
    have e2 := (of_decide_eq_true q).symm.trans ek
    have e3 := Way.key_inj e2
    rw [← e3] at hy
    have := every_at hy
    omega
theorem DrIn.str {many n : Nat} {d : Dr} (h : DrIn many n d) (y : Way) : ∃ u : Str, d.get y = .str u ∧ PyData.strOk u = true := by
  have wk : ∀ u ∈ doorWords, PyData.strOk u = true := by decide +kernel
  unfold Dr.get
  cases e : valV d.o y.key with
  | none =>
    refine ⟨_, rfl, ?_⟩
    unfold Dr.dflt
    split
    · exact wk _ h.f
    split
    · exact wk _ h.c
    · exact wk _ h.e
  | some v =>
    have any := valV_any y.key d.o
    rw [e] at any
    obtain ⟨p, hp, q⟩ := List.any_eq_true.mp any
    obtain ⟨v2, ev, mv⟩ := valV_in hp
    rw [of_decide_eq_true q, e] at ev
    cases ev
    obtain ⟨_, z, hz, ez⟩ := h.o _ mv
    exact ⟨z, ez, wk z hz⟩
/-- two lists of one length, told in pairs -/
def RelL {β : Type} (R : Addr → β → Prop) (ps : List Addr) (ms : List β) : Prop := ps.length = ms.length ∧ ∀ (i : Nat) (m : β), ms[i]? = some m → ∃ p, ps[i]? = some p ∧ R p m
section
variable {β : Type} {R R' : Addr → β → Prop}
theorem RelL.imp {ps : List Addr} {ms : List β} (h : RelL R ps ms) (k : ∀ p m, R p m → R' p m) : RelL R' ps ms := ⟨h.1, fun i m e => let ⟨p, a, b⟩ := h.2 i m e; ⟨p, a, k p m b⟩⟩
theorem RelL.app {ps qs : List Addr} {ms ns : List β} (h : RelL R ps ms) (k : RelL R qs ns) : RelL R (ps ++ qs) (ms ++ ns) := by
  refine ⟨by rw [List.length_append, List.length_append, h.1, k.1], fun i y e => ?_⟩
  by_cases hi : i < ms.length
  · rw [List.getElem?_append_left hi] at e
    obtain ⟨q, a, b⟩ := h.2 i y e
    exact ⟨q, by rw [List.getElem?_append_left (by rw [h.1]; exact hi)]; exact a, b⟩
  · rw [List.getElem?_append_right (Nat.le_of_not_lt hi)] at e
    obtain ⟨q, a, b⟩ := k.2 _ y e
    exact ⟨q, by rw [List.getElem?_append_right (by rw [h.1]; exact Nat.le_of_not_lt hi), h.1]; exact a, b⟩
theorem RelL.nil : RelL R [] [] := ⟨rfl, fun i y e => by cases e⟩
theorem RelL.one {q : Addr} {y : β} (h : R q y) : RelL R [q] [y] := ⟨rfl, fun i z e => by
  cases i with
  | zero => exact ⟨q, rfl, by cases e; exact h⟩
  | succ i => cases e⟩
theorem RelL.take {ps : List Addr} {ms : List β} (h : RelL R ps ms) (n : Nat) : RelL R (ps.take n) (ms.take n) := by
  refine ⟨by rw [List.length_take, List.length_take, h.1], fun i y e => ?_⟩
  have lt : i < n := by
    have := (List.getElem?_eq_some_iff.mp e).1
    rw [List.length_take] at this
    omega
  rw [List.getElem?_take_of_lt lt] at e ⊢
  exact h.2 i y e
theorem RelL.drop {ps : List Addr} {ms : List β} (h : RelL R ps ms) (n : Nat) : RelL R (ps.drop n) (ms.drop n) := by
  refine ⟨by rw [List.length_drop, List.length_drop, h.1], fun i y e => ?_⟩
  rw [List.getElem?_drop] at e ⊢
  exact h.2 _ y e
end
theorem dp_nats {K : PySem.W.Frag} {H : Hp} {a : Addr} {l : List Nat} (h : H a = some (.lst (nV l))) : Dp K H (.ref a) (.list (l.map fun (n : Nat) => PyData.int (n : Int))) := .lst (SqL.of h) (dpAll_map _ _ l fun x _ => .int (x : Int))
theorem ls_nats (l : List Nat) : Ls (.list (l.map fun (n : Nat) => PyData.int (n : Int))) 1 := .list fun d hd => by
  obtain ⟨x, _, rfl⟩ := List.mem_map.mp hd
  exact .int _ 0
theorem eqv_nats (a b : List Nat) : PyData.eqv (.list (a.map fun (n : Nat) => PyData.int (n : Int))) (.list (b.map fun (n : Nat) => PyData.int (n : Int))) = decide (a = b) := by
  simp only [PyData.eqv]
  refine eqvAll_map _ (fun x y => ?_) a b
  rw [eqv_int]
  exact decide_eq_decide.mpr ⟨fun e => Int.ofNat.inj e, fun e => by rw [e]⟩
theorem waits_nodup (l : List Rw) : (waitsOf l).Nodup := List.Pairwise.filter _ List.nodup_range
theorem nodup_len : ∀ {l m : List Nat}, l.Nodup → (∀ x ∈ l, x ∈ m) → l.length ≤ m.length
  | [], _, _, _ => Nat.zero_le _
  | x :: l, m, d, h => by
    obtain ⟨dx, dl⟩ := List.nodup_cons.mp d
    have mx := h x (List.mem_cons_self ..)
    have ih := nodup_len (l := l) (m := m.erase x) dl fun y hy => (List.mem_erase_of_ne (by intro c; subst c; exact dx hy)).mpr (h y (List.mem_cons_of_mem _ hy))
    rw [List.length_erase_of_mem mx] at ih
    have := List.length_pos_of_mem mx
    rw [List.length_cons]
    omega
theorem erase_nV : ∀ (ws : List Nat) (j : Nat), (nV ws).eraseIdx j = nV (ws.eraseIdx j)
  | [], _ => rfl
  | _ :: _, 0 => rfl
  | x :: r, j + 1 => congrArg (V.int (x : Int) :: ·) (erase_nV r j)
theorem sh_map : ∀ sh : List Nat, shOf (sh.map Mend.shield) = sh
  | [] => rfl
  | k :: r => congrArg (k :: ·) (sh_map r)
theorem sh_ins (ms : List Mend) (n : Nat) (y : Way) : shOf (ms.take n ++ [Mend.close y] ++ ms.drop n) = shOf ms := by
  unfold shOf
  rw [List.filterMap_append, List.filterMap_append]
  show List.filterMap Mend.row? (ms.take n) ++ [] ++ List.filterMap Mend.row? (ms.drop n) = _
  rw [List.append_nil, ← List.filterMap_append, List.take_append_drop]
theorem cl_ins (ms : List Mend) (n : Nat) (y y' : Way) : Mend.close y' ∈ ms.take n ++ [Mend.close y] ++ ms.drop n ↔ Mend.close y' ∈ ms ∨ y' = y := by
  have e : Mend.close y' ∈ ms ↔ Mend.close y' ∈ ms.take n ∨ Mend.close y' ∈ ms.drop n := by
    rw [← List.mem_append, List.take_append_drop]
  rw [e, List.mem_append, List.mem_append, List.mem_singleton]
  constructor
  · rintro ((h | h) | h)
    · exact .inl (.inl h)
    · cases h
      exact .inr rfl
    · exact .inl (.inr h)
  · rintro ((h | h) | h)
    · exact .inl (.inl h)
    · exact .inr h
    · exact .inl (.inr (by rw [h]))
theorem text_ok {r : Rw} (h : r.good) : PyData.strOk r.text = true := by
  show r.text.cps.all (· < 0x110000) = true
  rw [← Array.all_toList, List.all_eq_true]
  intro c hc
  rw [decide_eq_true_eq]
  cases r with
  | one w =>
    have : ∀ w ∈ oneWords, ∀ c ∈ w.cps.toList, c < 0x110000 := by decide +kernel
    exact this w h c hc
  | each n =>
    have hc' : c ∈ (("each " : Str) ++ n).cps.toList := hc
    rw [tl_cat] at hc'
    rcases List.mem_append.mp hc' with z | z
    · have : ∀ c ∈ ("each " : Str).cps.toList, c < 0x110000 := by decide +kernel
      exact this c z
    · have := (h.2.2 c z).2
      omega
  | retry k =>
    have hc' : c ∈ (("retry " : Str) ++ k).cps.toList := hc
    rw [tl_cat] at hc'
    rcases List.mem_append.mp hc' with z | z
    · have : ∀ c ∈ ("retry " : Str).cps.toList, c < 0x110000 := by decide +kernel
      exact this c z
    · have : ∀ k ∈ (["1", "2", "3"] : List Str), ∀ c ∈ k.cps.toList, c < 0x110000 := by decide +kernel
      exact this k h c z
theorem dp_texts {K : PySem.W.Frag} {H : Hp} {a : Addr} {l : List Str} (h : H a = some (.tup (sV l))) : Dp K H (.ref a) (.tuple (l.map PyData.str)) := .tup (SqT.of h) (dpAll_map _ _ l fun x _ => .str x)
theorem ls_texts {l : List Rw} (h : ∀ r ∈ l, r.good) : Ls (.tuple ((l.map Rw.text).map PyData.str)) 1 := .tup fun d hd => by
  rw [List.map_map] at hd
  obtain ⟨r, hr, rfl⟩ := List.mem_map.mp hd
  exact .str (text_ok (h r hr)) 0
def mendD : Mend → PyData
  | .shield n => .tuple [.str "shield", .int (n : Int)]
  | .close y => .tuple [.str "close", wayD y]
theorem dp_mend {K : PySem.W.Frag} {H : Hp} {p : Addr} : ∀ {m : Mend}, MendAt H p m → Dp K H (.ref p) (mendD m)
  | .shield n, h => .tup (SqT.of (xs := [V.str "shield", V.int (n : Nat)]) h) (.cons (.str _) (.cons (.int _) .nil))
  | .close y, ⟨b, e, w⟩ => .tup (SqT.of (xs := [V.str "close", V.ref b]) e) (.cons (.str _) (.cons (dp_way w) .nil))
theorem ls_mend : ∀ {m : Mend}, (∀ y, m = .close y → y.small) → Ls (mendD m) 2
  | .shield n, _ => .tup fun d hd => by
    simp only [List.mem_cons, List.not_mem_nil, or_false] at hd
    rcases hd with e | e <;> rw [e]
    · exact .str (by decide +kernel) 1
    · exact .int _ 1
  | .close y, h => .tup fun d hd => by
    simp only [List.mem_cons, List.not_mem_nil, or_false] at hd
    rcases hd with e | e <;> rw [e]
    · exact .str (by decide +kernel) 1
    · exact ls_way (h y rfl)
theorem dp_rel {β : Type} {K : PySem.W.Frag} {H : Hp} {R : Addr → β → Prop} (g : β → PyData) (hg : ∀ p m, R p m → Dp K H (.ref p) (g m)) : ∀ {ps : List Addr} {ms : List β}, RelL R ps ms → DpAll K H (ps.map V.ref) (ms.map g)
  | [], [], _ => .nil
  | [], _ :: _, h => by cases h.1
  | _ :: _, [], h => by cases h.1
  | p :: ps, m :: ms, h => by
    refine .cons ?_ (dp_rel g hg (ps := ps) (ms := ms) ⟨Nat.succ.inj h.1, fun i m' e => ?_⟩)
    · obtain ⟨p', e, r⟩ := h.2 0 m rfl
      cases e
      exact hg p m r
    · exact h.2 (i + 1) m' (by simpa using e)
theorem every_head : ∀ k : Nat, (everyF k)[0]? = some Way.no
  | 0 => rfl
  | k + 1 => by
    show (everyF k ++ _)[0]? = _
    rw [List.getElem?_append_left (by rw [everyF_len]; omega)]
    exact every_head k
theorem tvE {v v' : V} {i : Nat} (e : v' = v) {σ : L2.St} {H : Hp} {Q : VK} (hs : σ[i]? = some (some v)) (h : Q v' H) : tVar i σ H Q := ⟨v, hs, e ▸ h⟩
def spRight : Sp := fun vs H Q _ => ∃ (b lr : Addr) (c : Nat) (l : List Rw), vs = [.ref b, .ref lr] ∧ H lr = some (.lst (sV (l.map Rw.text))) ∧ BagAt H b c ∧ c + 40 < 1000000000 ∧ Deep4 l ∧ l.length ≤ 20 ∧ ∀ H', Go b (c + 40) H H' → Q (.bl true) H'
section
variable {P : Program} {w : World} {K : PySem.W.Frag} {mg : Str → Option Value} {base : Heap}
theorem c_l_right (T : Tx K mg) : Cl P w K mg base 9 "_law_right" spRight := by
  have k_Function := c_Functionu_initu (P := P) (w := w) (base := base) T
  have c_l_door := c_l_door (P := P) (w := w) (base := base) T
  have c_l_ways := c_l_ways (P := P) (w := w) (base := base) T
  have c_Function_waits := c_Function_waits (P := P) (w := w) (base := base) T
  have c_l_take := c_l_take (P := P) (w := w) (base := base) T
  have c_l_of := c_l_of (P := P) (w := w) (base := base) T
  have c_Door_change := c_Door_change (P := P) (w := w) (base := base) T
  have c_Dooru_getitemu := c_Dooru_getitemu (P := P) (w := w) (base := base) T
  have c_mended := c_mended (P := P) (w := w) (base := base) T
  have c_l_moved := c_l_moved (P := P) (w := w) (base := base) T
  have c_l_left_out := c_l_left_out (P := P) (w := w) (base := base) T
  refine clD T.f_l_right T.g_l_right sc_l_right (fun _ _ _ _ _ _ us hl => match us, hl with | [_, _], _ => rfl) (fun vs H Q E h => ?_) (fun cdv A outer s H vs Q E hr h => ?_)
  · obtain ⟨b, lr, c, l, rfl, _⟩ := h
    rfl
  · obtain ⟨b, lr, c, l, rfl, hlr, hb, hc, D4, l20, q⟩ := h
    have R := D4.rows
    refine ⟨_, (pss_cons (ps_asg (pe_tup (pa_cons (pe_k k_Function hr (by first | decide | omega) (pa_cons (pe_joinK (K := K) rfl pe_str (pv 1)) pa_nil)) (pa_cons (pe_f c_l_door hr (by first | decide | omega) (pa_cons (pv 0) (pa_cons (pe_lst (pa_cons pe_str (pa_cons pe_str (pa_cons pe_str (pa_cons pe_str (pa_cons pe_str pa_nil)))))) pa_nil))) pa_nil))) (pg_tup rfl (pgs_cons (pg_name (i := 2) sc_l_right.nd rfl (by first | exact Or.inl rfl | exact Or.inr rfl)) (pgs_cons (pg_name (i := 3) sc_l_right.nd rfl (by first | exact Or.inl rfl | exact Or.inr rfl)) pgs_nil))))
      (pss_cons (ps_asg (pe_tup (pa_cons (pe_f c_l_ways hr (by first | decide | omega) (pa_cons (pe_callB (call_len_seqK (K := K) rfl) rfl T.b_len boot_len (pa_cons (pv 1) pa_nil)) pa_nil)) (pa_cons (pe_m0 c_Function_waits hr (by first | decide | omega) (pv 2)) pa_nil))) (pg_tup rfl (pgs_cons (pg_name (i := 4) sc_l_right.nd rfl (by first | exact Or.inl rfl | exact Or.inr rfl)) (pgs_cons (pg_name (i := 5) sc_l_right.nd rfl (by first | exact Or.inl rfl | exact Or.inr rfl)) pgs_nil))))
      (pss_cons (ps_for PassesOwn.never rfl (pi_range1 rfl T.b_range (pa_cons (pe_f c_l_take hr (by first | decide | omega) (pa_cons (pv 0) (pa_cons pe_int pa_nil))) pa_nil)) (pg_name (i := 6) sc_l_right.nd rfl (by first | exact Or.inl rfl | exact Or.inr rfl)) (pss_one (ps_expr (pe_m c_Door_change hr (by first | decide | omega) (pv 3) (pa_cons (pe_f c_l_of hr (by first | decide | omega) (pa_cons (pv 0) (pa_cons (pv 4) pa_nil))) (pa_cons (pe_f c_l_of hr (by first | decide | omega) (pa_cons (pv 0) (pa_cons (pe_lst (pa_cons pe_str (pa_cons pe_str (pa_cons pe_str (pa_cons pe_str (pa_cons pe_str pa_nil)))))) pa_nil))) pa_nil))))))
      (pss_cons (ps_setLc (i := 7) (own := [("_law_way", 8)]) (g := gName 8) (tt := tYes) rfl sc_l_right.nd rfl rfl (sw_true rfl rfl rfl (by decide +kernel)) (pi_list (pv 4)) (blkOk_by (N := ["_law_bag_here", "_law_rows_here", "_law_function", "_law_door_here", "_law_every", "_law_waits", "_law_turn", "_law_words", "_law_way", "_law_shields", "_law_mends", "_law_closed", "_law_kept", "_law_told", "_law_due", "_law_k", "_law_row", "_law_word", "_law_moved_here"]) (sc := defScope s_l_right) (by decide +kernel)) (fun _ _ _ _ _ => (pg_name (i := 8) sc_l_right.nd rfl (by first | exact Or.inl rfl | exact Or.inr rfl))) (fun _ _ _ _ _ => pts_nil) (fun _ _ _ _ _ => (pe_oget c_Dooru_getitemu hr (by first | decide | omega) (pv 3) (pv 8))))
      (pss_cons (ps_par (i := 9) (j := 10) rfl sc_l_right.nd rfl rfl (by decide) rfl rfl (pa_cons (pe_lst pa_nil) (pa_cons (pe_lst pa_nil) pa_nil)) (by rfl))
      (pss_cons (ps_for PassesOwn.never rfl (pi_range1 rfl T.b_range (pa_cons (pe_f c_l_take hr (by first | decide | omega) (pa_cons (pv 0) (pa_cons pe_int pa_nil))) pa_nil)) (pg_name (i := 6) sc_l_right.nd rfl (by first | exact Or.inl rfl | exact Or.inr rfl)) (pss_one (ps_if (pt_cmpR (op_neDK (K := K) rfl hr.units) (pv 5) (pe_lst pa_nil) (nomark _)) (pss_cons (ps_expr (pe_bmK (K := K) rfl PySem.F.plainAttrs_list PySem.F.slot_list_append PySem.F.type_list_append mt_append (pv 9) (pa_cons (pe_bmK (K := K) rfl PySem.F.plainAttrs_list PySem.F.slot_list_pop PySem.F.type_list_pop mt_popAt (pv 5) (pa_cons (pe_f c_l_take hr (by first | decide | omega) (pa_cons (pv 0) (pa_cons (pe_callB (call_len_seqK (K := K) rfl) rfl T.b_len boot_len (pa_cons (pv 5) pa_nil)) pa_nil))) pa_nil)) pa_nil)))
              (pss_one (ps_expr (pe_bmK (K := K) rfl PySem.F.plainAttrs_list PySem.F.slot_list_append PySem.F.type_list_append mt_append (pv 10) (pa_cons (pe_tup (pa_cons pe_str (pa_cons (pe_ix (ix_listK (K := K) rfl) (pv 9) (pe_un un_neg pe_int) (fun _ _ => rfl)) pa_nil))) pa_nil))))) pss_nil)))
      (pss_cons (ps_setLc (i := 11) (own := [("_law_turn", 6)]) (g := gName 6) (tt := tYes) rfl sc_l_right.nd rfl rfl (sw_true rfl rfl rfl (by decide +kernel)) (pi_range1 rfl T.b_range (pa_cons (pe_f c_l_take hr (by first | decide | omega) (pa_cons (pv 0) (pa_cons pe_int pa_nil))) pa_nil)) (blkOk_by (N := ["_law_bag_here", "_law_rows_here", "_law_function", "_law_door_here", "_law_every", "_law_waits", "_law_turn", "_law_words", "_law_way", "_law_shields", "_law_mends", "_law_closed", "_law_kept", "_law_told", "_law_due", "_law_k", "_law_row", "_law_word", "_law_moved_here"]) (sc := defScope s_l_right) (by decide +kernel)) (fun _ _ _ _ _ => (pg_name (i := 6) sc_l_right.nd rfl (by first | exact Or.inl rfl | exact Or.inr rfl))) (fun _ _ _ _ _ => pts_nil) (fun _ _ _ _ _ => (pe_f c_l_of hr (by first | decide | omega) (pa_cons (pv 0) (pa_cons (pv 4) pa_nil)))))
      (pss_cons (ps_for PassesOwn.never rfl (pi_list (pv 11)) (pg_name (i := 8) sc_l_right.nd rfl (by first | exact Or.inl rfl | exact Or.inr rfl)) (pss_one (ps_expr (pe_bmK (K := K) rfl PySem.F.plainAttrs_list PySem.F.slot_list_insert PySem.F.type_list_insert mt_insert (pv 10) (pa_cons (pe_f c_l_take hr (by first | decide | omega) (pa_cons (pv 0) (pa_cons (pe_op op_add (pe_callB (call_len_seqK (K := K) rfl) rfl T.b_len boot_len (pa_cons (pv 10) pa_nil)) pe_int) pa_nil))) (pa_cons (pe_tup (pa_cons pe_str (pa_cons (pv 8) pa_nil))) pa_nil))))))
      (pss_cons (ps_set (i := 12) sc_l_right.nd rfl (by first | exact Or.inl rfl | exact Or.inr rfl) (pe_callTy (call_list_ofK (K := K) rfl) rfl T.b_list boot_list (pa_cons (pv 10) pa_nil)))
      (pss_cons (ps_set (i := 13) sc_l_right.nd rfl (by first | exact Or.inl rfl | exact Or.inr rfl) (pe_f c_mended hr (by first | decide | omega) (pa_cons (pv 2) (pa_cons (pv 3) (pa_cons (pv 10) pa_nil)))))
      (pss_cons (ps_set (i := 14) sc_l_right.nd rfl (by first | exact Or.inl rfl | exact Or.inr rfl) (pe_lst pa_nil))
      (pss_cons (ps_for PassesOwn.never rfl (pi_enum rfl T.b_enumerate (pa_cons (pv 1) pa_nil)) (pg_tup rfl (pgs_cons (pg_name (i := 15) sc_l_right.nd rfl (by first | exact Or.inl rfl | exact Or.inr rfl)) (pgs_cons (pg_name (i := 16) sc_l_right.nd rfl (by first | exact Or.inl rfl | exact Or.inr rfl)) pgs_nil))) (pss_one (ps_set (i := 14) sc_l_right.nd rfl (by first | exact Or.inl rfl | exact Or.inr rfl) (pe_op op_cat (pv 14) (pe_ifExp (pt_cmpR (op_in_seqK (K := K) rfl) (pv 15) (pv 9) (by rfl)) (pe_lst (pa_cons pe_str (pa_cons (pv 16) (pa_cons pe_str pa_nil)))) (pe_lst (pa_cons (pv 16) pa_nil)))))))
      (pss_cons (ps_if (PW.pt (pw_or (pt_not (pt_val (pe_callB (call_isiK2 (K := K) rfl) rfl T.b_isinstance boot_isinstance (pa_cons (pv 13) (pa_cons (pe_bltn (v := .ty "tuple") rfl T.b_tuple boot_tuple rfl) pa_nil))))) (pw_or (pt_cmpR op_ne (pe_callB (call_len_seqK (K := K) rfl) rfl T.b_len boot_len (pa_cons (pv 13) pa_nil)) pe_int (nomark _)) (pw_or (pt_cmpR (op_neDK (K := K) rfl hr.units) (pe_fldK (K := K) rfl (pe_ix (ix_tupK (K := K) rfl) (pv 13) pe_int (fun _ _ => rfl)) rfl) (pe_callTy (call_tuple_ofK (K := K) rfl) rfl T.b_tuple boot_tuple (pa_cons (pv 14) pa_nil)) (nomark _)) (pw_or1 (pt_cmpR (op_neDK (K := K) rfl hr.units) (pv 10) (pv 12) (nomark _))))))) (pss_one (ps_ret pe_bl)) pss_nil)
      (pss_cons (ps_for PassesOwn.never rfl (pi_zip rfl T.b_zip (pa_cons (pv 4) (pa_cons (pv 7) pa_nil))) (pg_tup rfl (pgs_cons (pg_name (i := 8) sc_l_right.nd rfl (by first | exact Or.inl rfl | exact Or.inr rfl)) (pgs_cons (pg_name (i := 17) sc_l_right.nd rfl (by first | exact Or.inl rfl | exact Or.inr rfl)) pgs_nil))) (pss_cons (ps_par (i := 18) (j := 14) rfl sc_l_right.nd rfl rfl (by decide) rfl rfl (pa_cons (pe_f c_l_moved hr (by first | decide | omega) (pa_cons (pv 8) (pa_cons (pv 9) (pa_cons (pe_callB (call_len_seqK (K := K) rfl) rfl T.b_len boot_len (pa_cons (pv 1) pa_nil)) pa_nil)))) (pa_cons (pe_ifExp (pt_cmpR (op_inD (hu65 hr)) (pv 8) (pv 11) (by rfl)) pe_str (pv 17)) pa_nil)) (by rfl))
          (pss_cons (ps_if (PW.pt (pw_and (PW.pt (pw_or (pt_cmpR (op_eqDK (K := K) rfl hr.units) (pv 8) (pe_tup pa_nil) (nomark _)) (pw_or1 (pt_cmpR op_lt (pe_ix (ix_tupK (K := K) rfl) (pv 8) pe_int (fun _ _ => rfl)) (pe_callB (call_len_seqK (K := K) rfl) rfl T.b_len boot_len (pa_cons (pv 1) pa_nil)) (nomark _))))) (pw_and1 (pt_cmpR op_ne (pe_oget c_Dooru_getitemu hr (by first | decide | omega) (pe_ix (ix_tupK (K := K) rfl) (pv 13) pe_int (fun _ _ => rfl)) (pv 18)) (pv 14) (nomark _))))) (pss_one (ps_ret pe_bl)) pss_nil)
          (pss_one (ps_if (pt_cmpR op_ne (pe_oget c_Dooru_getitemu hr (by first | decide | omega) (pv 3) (pv 8)) (pv 17) (nomark _)) (pss_one (ps_ret pe_bl)) pss_nil)))))
      (pss_cons (ps_if (pt_not (pt_val (pe_f c_l_left_out hr (by first | decide | omega) (pa_cons (pv 2) (pa_cons (pe_ix (ix_tupK (K := K) rfl) (pv 13) pe_int (fun _ _ => rfl)) (pa_cons (pv 11) (pa_cons (pv 3) (pa_cons (pv 9) (pa_cons (pe_callB (call_len_seqK (K := K) rfl) rfl T.b_len boot_len (pa_cons (pv 1) pa_nil)) pa_nil))))))))) (pss_one (ps_ret pe_bl)) pss_nil)
      (pss_cons (ps_expr (pe_m c_Door_change hr (by first | decide | omega) (pe_ix (ix_tupK (K := K) rfl) (pv 13) pe_int (fun _ _ => rfl)) (pa_cons (pe_tup pa_nil) (pa_cons pe_str pa_nil))))
      (pss_one (ps_ret (pe_and (pe_cmpR op_eq (pe_oget c_Dooru_getitemu hr (by first | decide | omega) (pv 3) (pe_tup pa_nil)) (pe_ix (ix_listK (K := K) rfl) (pv 7) pe_int (fun _ _ => rfl)) (nomark _)) (pe_one (pe_cmpR (op_eqDK (K := K) rfl hr.units) (pe_fldK (K := K) rfl (pv 2) rfl) (pe_callTy (call_tuple_ofK (K := K) rfl) rfl T.b_tuple boot_tuple (pa_cons (pv 1) pa_nil)) (nomark _)))))))))))))))))))))), ?_⟩
    have lrb : lr ≠ b := hb.ne_strs hlr
    refine ⟨⟨_, rfl⟩, _, rfl, lineS, lr, l.map Rw.text, rfl, rfl, .inl (SqL.of hlr), ?_, fun x dx nx ndx hxd => ⟨x, dx, l, rfl, upd_same, R, fun fa H1 ea off1 At1 nw1 => ⟨rfl, ?_⟩⟩⟩
    · have h1 := texts_sum R.good
      have h3 : lineS.length = 1 := by decide +kernel
      rw [h3, List.length_map]
      omega
    subst ea
    have s1 : Same H H1 := fun a o e => by
      have n1 := ne_of_none e nx
      have n2 := ne_of_none e ndx
      refine off1 a o n1 ?_
      rw [upd_ne n1, upd_ne n2]
      exact e
    have b1 := hb.same s1
    refine ⟨_, rfl, by show 5 ≤ sizeLine; decide, fun p2 n2 => new_at n2 fun H2 s2 h2 => ⟨b, p2, c, rfl, b1.ne n2, h2, b1.same s2, by omega, fun da e f g H3 g3 nr no D3 ok3 => ⟨by show 2 ≤ sizeLine; decide, fun p4 n4 => new_at n4 fun H4 s4 h4 => ⟨p4, _, rfl, SqT.of h4, rfl, _, _, rfl, _, _, rfl, rfl, ?_⟩⟩⟩⟩
    have g24 := g3.same s4
    have F2 := At1.r.same s2
    have F4 := F2.off (b1.same s2).lst g24.off
    have lr4 := g24.keep _ _ lrb (s2 _ _ (s1 _ _ hlr))
    have D4' := D3.same s4
    refine ⟨_, rfl, lr, _, rfl, .inl (SqL.of lr4), _, rfl, by rw [rows_len]; omega, fun pe qs H5 n5 s5 h5 w5 => ?_⟩
    rw [rows_len] at w5
    have F5 := F4.same s5
    refine ⟨_, rfl, fa.f, fa.dx, _, rfl, F5.ins, rfl, fa, l, rfl, F5, R, fun pw H6 n6 s6 h6 => ⟨by show 2 ≤ sizeLine; decide, fun p7 n7 => new_at n7 fun H7 s7 h7 => ⟨p7, _, rfl, SqT.of h7, rfl, _, _, rfl, _, _, rfl, rfl, ?_⟩⟩⟩
    -- what stands now
    have u47 := (s5.trans s6).trans s7
    have g07 : Go b (c + 3) H H7 := (((Go.of hb (s1.trans s2)).mono (Nat.le_add_right c 3)).trans g24).same u47
    have F7 := F4.same u47
    have D7 := D4'.same u47
    have hev := s7 _ _ (s6 _ _ h5)
    have W7 := w5.same (s6.trans s7)
    have hw7 := s7 _ _ h6
    have lr7 := u47 _ _ lr4
    have bag7 := g07.bag
    have ndo : H da.o = none := (s1.trans s2).free no
    have npw : H pw = none := ((((Go.of hb (s1.trans s2)).mono (Nat.le_add_right c 3)).trans g24).same s5).free n6
    have peb : pe ≠ b := g24.bag.ne n5
    have pwb : pw ≠ b := (g24.same s5).bag.ne n6
    have pepw : pe ≠ pw := ne_of_none h5 n6
    have lrpw : lr ≠ pw := ne_of_none (s5 _ _ lr4) n6
    have dob : da.o ≠ b := fun c => by
      obtain ⟨ys, z, _⟩ := bag7
      have e := D7.oth
      rw [c, z] at e
      cases e
    have pedo : pe ≠ da.o := ne_of hev D7.oth (by intro c; cases c)
    have pwdo : pw ≠ da.o := ne_of hw7 D7.oth (by intro c; cases c)
    have lrdo : lr ≠ da.o := ne_of lr7 D7.oth (by intro c; cases c)
    have dr7 : DrIn l.length 0 ⟨e, f, g, []⟩ := ⟨ok3.e, ok3.f, ok3.c, (fun p hp => by cases hp), Nat.le_refl 0⟩
    have lq : (qs.map V.ref).length ≤ 100 := by
      rw [List.length_map, w5.1, everyF_len]
      omega
    have q0 : qs.map V.ref ≠ [] := by
      intro c
      have := congrArg List.length c
      rw [List.length_map, w5.1, everyF_len] at this
      simp at this
    have sm : ∀ y ∈ everyF (l.length + 2), y.small := every_small (by omega)
    have dkind : ∀ {G : Hp} {d : Dr}, DrAt (drC K) G da d → ∀ xs, G da.o ≠ some (.tup xs) := fun h xs e => by
      rw [h.oth] at e
      cases e
    generalize (⟨e, f, g, []⟩ : Dr) = d0 at D7 dr7
    clear h7 h6 h5 h4 h2 n7 n6 n5 n4 n2 u47 lr4 D4' F5 F4 F2 D3 w5 At1 g24 g3 ok3
    -- the changes of the door
    refine ⟨_, rfl, b, 6, c + 3, rfl, by decide, by decide, bag7, by omega, fun r H8 r0 r1 g8 => ⟨_, rfl, by omega, by omega, ?_⟩⟩
    refine for_range (lo := 0) (n := r.toNat) (fun i σ G => (∀ a o, a ≠ b → a ≠ da.o → H7 a = some o → G a = some o) ∧ BagAt G b (c + 4 + 2 * i) ∧ (∃ d, DrAt (drC K) G da d ∧ DrIn l.length i d) ∧ ∃ x, σ = [some (.ref b), some (.ref lr), some (.ref fa.f), some (.ref da.r), some (.ref pe), some (.ref pw), x, none, none, none, none, none, none, none, none, none, none, none, none])
      ⟨fun a o n1 _ e => g8.keep a o n1 e, g8.bag, ⟨d0, D7.go bag7 g8, dr7⟩, _, rfl⟩ (fun i σ G hi h => ?_) (fun σ G h => ?_)
    · obtain ⟨kp, bg, ⟨d, D, dr⟩, x, rfl⟩ := h
      have hi6 : i < 6 := by omega
      have wk : ∀ q y, WayAt H7 q y → WayAt G q y := fun q y h => kp q _ (fun c => bag7.notup _ (c ▸ h)) (fun c => dkind D7 _ (c ▸ h)) h
      refine ⟨_, rfl, da.r, da.dx, _, rfl, D.ins, rfl, _, rfl, _, rfl, b, pe, qs.map V.ref, c + 4 + 2 * i, rfl, peb, kp pe _ peb pedo hev, q0, by omega, bg, by omega, fun x1 G1 m1 g1 => ?_⟩
      obtain ⟨q1, y, rfl, hy, wq⟩ := W7.mem m1
      have D1 := D.go bg g1
      have wq1 : WayAt G1 q1 y := (wk q1 y wq).off g1.off bg.notup
      refine ⟨_, rfl, by show 5 ≤ sizeLine; decide, fun p2 n2 => new_at n2 fun G2 s2 h2 => ⟨b, p2, sV doorWords, c + 4 + 2 * i + 1, rfl, g1.bag.ne n2, h2, by simp [doorWords], by show 5 < 1000000; decide, g1.bag.same s2, by omega, fun x2 G3 m2 g3 => ?_⟩⟩
      obtain ⟨z, rfl, hz⟩ := mem_sV m2
      have D3 := (D1.same s2).go (g1.bag.same s2) g3
      have wq3 : WayAt G3 q1 y := (show WayAt G2 q1 y from s2 _ _ wq1).off g3.off (g1.bag.same s2).notup
      refine ⟨da, d, q1, y, z, rfl, D3, wq3, hz, by have := dr.few; omega, fun G4 f4 D4 => ⟨fun a o na no e => f4 a o no (g3.keep a o na (s2 _ _ (g1.keep a o na (kp a o na no e)))), ?_, ⟨_, D4, dr.put hy hz⟩, _, rfl⟩⟩
      obtain ⟨xs, e, v⟩ := g3.bag
      exact ⟨xs, f4 _ _ dob.symm e, v.mono (by omega)⟩
    · obtain ⟨kp, bg, ⟨d, D, dr⟩, x, rfl⟩ := h
      have bg : BagAt G b (c + 14) := bg.mono (by omega)
      have dr := dr.up (m := 5) (by omega)
      have wk : ∀ q y, WayAt H7 q y → WayAt G q y := fun q y h => kp q _ (fun c => bag7.notup _ (c ▸ h)) (fun c => dkind D7 _ (c ▸ h)) h
      have FG : FnR (fnC K) G fa l := by
        have nb : ∀ {a : Addr} {o : HO}, H7 a = some o → (∀ xs, o ≠ .lst xs) → (∀ k, o ≠ .dT k) → G a = some o := fun e h1 h2 => kp _ _ (fun c => by
          obtain ⟨xs, z, _⟩ := bag7
          rw [c, z] at e
          exact h1 _ (Option.some.inj e).symm) (fun c => by
          rw [c, D7.oth] at e
          exact h2 _ (Option.some.inj e).symm) e
        exact ⟨nb F7.ins (fun _ c => by cases c) (fun _ c => by cases c), nb F7.rs (fun _ c => by cases c) (fun _ c => by cases c), nb F7.ws (fun _ c => by cases c) (fun _ c => by cases c), nb F7.os (fun _ c => by cases c) (fun _ c => by cases c)⟩
      have evG := kp pe _ peb pedo hev
      have lrG := kp lr _ lrb lrdo lr7
      have pwG := kp pw _ pwb pwdo hw7
      have WG : WaysL G qs (everyF (l.length + 2)) := ⟨W7.1, fun i y e => let ⟨q', e', w'⟩ := W7.2 i y e; ⟨q', e', wk _ _ w'⟩⟩
      have k0 : ∀ a o, H a = some o → a ≠ b → G a = some o := fun a o e n => kp a o n (fun c => by rw [c, ndo] at e; cases e) (g07.keep a o n e)
      have opw : ∀ a o, H a = some o → a ≠ pw := fun a o e => ne_of_none e npw
      have odo : ∀ a o, H a = some o → a ≠ da.o := fun a o e => ne_of_none e ndo
      clear kp wk hev lr7 hw7 W7 F7 D7 g8 bag7 dr7 g07
      have ylen : (everyF (l.length + 2)).length ≤ 100 := by
        rw [everyF_len]
        omega
      refine ⟨_, rfl, pe, rfl, ⟨_, SqL.of evG⟩, fun L nL => ?_⟩
      have hneL : ∀ {a : Addr} {o : HO}, G a = some o → a ≠ L := fun e => ne_of_none e nL
      refine lc_list (K := K) (a := pe) (xs := qs.map V.ref) (fun i G' => Off L G G' ∧ G' L = some (.lst (((everyF (l.length + 2)).take i).map d.get))) ⟨(Off.refl L G).put, upd_same⟩ (fun i G' _ h => SqL.of (h.1 _ _ (hneL evG) evG)) (fun i x G1 hx h => ?_) (fun G1 h => ?_)
      · obtain ⟨fo, hL⟩ := h
        have hi : i < (everyF (l.length + 2)).length := by
          have := (List.getElem?_eq_some_iff.mp hx).1
          rw [List.length_map, WG.1] at this
          exact this
        have ey : (everyF (l.length + 2))[i]? = some (everyF (l.length + 2))[i] := List.getElem?_eq_getElem hi
        generalize (everyF (l.length + 2))[i] = y at ey
        obtain ⟨q1, e1, w1⟩ := WG.2 i y ey
        have ex : x = .ref q1 := by
          rw [List.getElem?_map, e1] at hx
          exact (Option.some.inj hx).symm
        subst ex
        have D1 : DrAt (drC K) G1 da d := ⟨fo _ _ (hneL D.ins) D.ins, fo _ _ (hneL D.oth) D.oth⟩
        have w2 : WayAt G1 q1 y := fo _ _ (hneL w1) w1
        refine ⟨rfl, _, rfl, _, rfl, da.r, da.dx, _, rfl, D1.ins, da, d, q1, y, rfl, D1, w2, _, hL, ?_, fo.put, ?_⟩
        · rw [List.length_map]
          exact Nat.lt_of_le_of_lt (List.length_take_le ..) (Nat.lt_of_lt_of_le hi (Nat.le_trans ylen (by decide)))
        · rw [upd_same, List.take_succ, ey, List.map_append] <;> rfl
      · obtain ⟨fo, hL⟩ := h
        rw [List.length_map, WG.1, List.take_length] at hL
        have sG1 : Same G G1 := fun a o e => fo a o (hneL e) e
        refine ⟨by show 0 ≤ sizeLine; decide, fun psh n9 => new_at n9 fun G2 s2 h2 => ⟨by show 0 ≤ sizeLine; decide, fun pmd n10 => new_at n10 fun G3 s3 h3 => ?_⟩⟩
        have s03 := (sG1.trans s2).trans s3
        have bag3 := bg.same s03
        have h2' := s3 _ _ h2
        have pwG3 := s03 _ _ pwG
        have shb : psh ≠ b := (bg.same sG1).ne n9
        have mdb : pmd ≠ b := (bg.same (sG1.trans s2)).ne n10
        have shw : psh ≠ pw := none_ne (sG1 _ _ pwG) n9
        have mdw : pmd ≠ pw := none_ne (s2 _ _ (sG1 _ _ pwG)) n10
        have shm : psh ≠ pmd := ne_of_none h2 n10
        have w0 : (waitsOf l ++ ([] : List Nat)).Nodup := by rw [List.append_nil]; exact waits_nodup l
        refine ⟨_, _, rfl, _, rfl, b, 3, c + 14, rfl, by decide, by decide, bag3, by omega, fun r2 G4 r20 r21 g4 => ⟨_, rfl, by omega, by omega, ?_⟩⟩
        refine for_range (lo := 0) (n := r2.toNat) (fun i σ J => (∀ a o, a ≠ b → a ≠ pw → a ≠ psh → a ≠ pmd → G3 a = some o → J a = some o) ∧ BagAt J b (c + 15 + i) ∧ (∃ ws sh : List Nat, J pw = some (.lst (nV ws)) ∧ J psh = some (.lst (nV sh)) ∧ (∃ ps, J pmd = some (.lst (ps.map V.ref)) ∧ RelL (MendAt J) ps (sh.map Mend.shield)) ∧ sh.length ≤ i ∧ (ws ++ sh).Nodup ∧ ∀ k ∈ ws ++ sh, k ∈ waitsOf l) ∧
            ∃ x, σ = [some (.ref b), some (.ref lr), some (.ref fa.f), some (.ref da.r), some (.ref pe), some (.ref pw), x, some (.ref L), none, some (.ref psh), some (.ref pmd), none, none, none, none, none, none, none, none])
          ⟨fun a o n1 _ _ _ e => g4.keep a o n1 e, g4.bag, ⟨waitsOf l, [], g4.keep _ _ pwb pwG3, g4.keep _ _ shb h2', ⟨[], g4.keep _ _ mdb h3, RelL.nil⟩, Nat.le_refl 0, w0, fun k hk => by rw [List.append_nil] at hk; exact hk⟩, _, rfl⟩ (fun i σ J hi h => ?_) (fun σ J h => ?_)
        · obtain ⟨kp, bg', ⟨ws, sh, hw, hs, ⟨ps, hm, rm⟩, shl, nd, inn⟩, x, rfl⟩ := h
          have hi3 : i < 3 := by omega
          refine ⟨_, rfl, by show 0 ≤ sizeLine; decide, fun p1 n1 => new_at n1 fun J1 u1 k1 => ⟨_, _, dp_nats (u1 _ _ hw), dp_nats (l := []) k1, (ls_nats ws).shaped, (ls_nats []).shaped, _, rfl, ?_⟩⟩
          rw [eqv_nats]
          have bg1 := bg'.same u1
          refine ite2 (fun h => ?_) (fun h => ⟨fun a o n1 n2 n3 n4 e => u1 _ _ (kp a o n1 n2 n3 n4 e), bg1.mono (by omega), ⟨ws, sh, u1 _ _ hw, u1 _ _ hs, ⟨ps, u1 _ _ hm, rm.imp fun p m h => h.same u1⟩, Nat.le_succ_of_le shl, nd, inn⟩, _, rfl⟩)
          have wl : 0 < ws.length := by
            cases ws with
            | nil => simp at h
            | cons _ _ => exact Nat.succ_pos _
          have wlen : ws.length ≤ 24 := by
            have h1 : (nV ws).length = ws.length := List.length_map ..
            have h2 := nodup_len (List.nodup_append.mp nd).1 fun k hk => inn k (List.mem_append_left _ hk)
            have h3 : (waitsOf l).length ≤ l.length := by
              refine Nat.le_trans (List.length_filter_le ..) ?_
              rw [List.length_range]
              exact Nat.le_refl _
            omega
          have lw : (nV ws).length = ws.length := List.length_map ..
          refine ⟨_, rfl, .inl ⟨rfl, _, SqL.of (u1 _ _ hs)⟩, _, rfl, .inl ⟨rfl, _, SqL.of (u1 _ _ hw)⟩, _, rfl, _, rfl, pw, _, rfl, .inl (SqL.of (u1 _ _ hw)), b, _, c + 15 + i, rfl, by omega, by omega, bg1, by omega, fun r3 J2 r30 r31 g2 => ?_⟩
          obtain ⟨j, rfl⟩ := Int.eq_ofNat_of_zero_le r30
          have hj : j < ws.length := by omega
          have ek : ws[j]? = some ws[j] := List.getElem?_eq_getElem hj
          generalize ws[j] = k at ek
          refine ⟨pw, nV ws, (j : Int), j, .int (k : Nat), rfl, rfl, g2.keep _ _ pwb (u1 _ _ hw), by omega, by omega, ?_, ?_, put_at fun J3 f3 b3 i3 => ?_⟩
          · rw [lw]
            have := seqIndex_of (k := (j : Int)) (n := ws.length) (by omega) (by omega)
            rw [this] <;> rfl
          · rw [List.getElem?_map, ek] <;> rfl
          refine ⟨psh, nV sh, .int (k : Nat), rfl, rfl, f3 _ _ shw (g2.keep _ _ shb (u1 _ _ hs)), ?_, put_at fun J4 f4 b4 i4 => ?_⟩
          · rw [List.length_map]
            exact Nat.lt_of_le_of_lt shl (Nat.lt_trans hi3 (by decide))
          rw [erase_nV] at i3
          have hm4 := f4 _ _ shm.symm (f3 _ _ mdw (g2.keep _ _ mdb (u1 _ _ hm)))
          have es : nV sh ++ [V.int (k : Nat)] = nV (sh ++ [k]) := by simp [nV]
          rw [es] at i4
          refine ⟨_, rfl, .inl ⟨rfl, _, SqL.of hm4⟩, _, rfl, _, rfl, psh, _, _, _, rfl, rfl, SqL.of i4, (by rw [← es]; exact atI_last _ _), by show 2 ≤ sizeLine; decide, fun t nt => new_at nt fun J5 u5 k5 => ⟨pmd, _, _, rfl, rfl, u5 _ _ hm4, ?_, put_at fun J6 f6 b6 i6 => ?_⟩⟩
          · rw [List.length_map, rm.1, List.length_map]
            exact Nat.lt_of_le_of_lt shl (Nat.lt_trans hi3 (by decide))
          have tb : t ≠ pmd := none_ne hm4 nt
          have notup : ∀ {J : Hp} {p : Addr} {xs : List V}, J p = some (.lst xs) → ∀ ys, J p ≠ some (.tup ys) := fun e ys e' => by rw [e] at e'; cases e'
          have perm : (ws.eraseIdx j ++ (sh ++ [k])).Perm (ws ++ sh) := by
            have p1 := erase_perm ws j k ek
            have p2 : (ws.eraseIdx j ++ (sh ++ [k])).Perm ((k :: ws.eraseIdx j) ++ sh) := by
              rw [← List.append_assoc]
              refine (List.perm_append_comm).trans ?_
              show (k :: (ws.eraseIdx j ++ sh)).Perm _
              exact List.Perm.refl _
            exact p2.trans (p1.append_right sh)
          refine ⟨fun a o n1 n2 n3 n4 e => f6 _ _ n4 (u5 _ _ (f4 _ _ n3 (f3 _ _ n2 (g2.keep _ _ n1 (u1 _ _ (kp a o n1 n2 n3 n4 e)))))), ?_, ⟨ws.eraseIdx j, sh ++ [k], ?_, ?_, ⟨ps ++ [t], ?_, ?_⟩, ?_, perm.nodup_iff.mpr nd, fun k' hk' => inn k' (perm.mem_iff.mp hk')⟩, _, rfl⟩
          · obtain ⟨xs, e, v⟩ := g2.bag
            exact ⟨xs, f6 _ _ mdb.symm (u5 _ _ (f4 _ _ shb.symm (f3 _ _ pwb.symm e))), v.mono (by omega)⟩
          · exact f6 _ _ mdw.symm (u5 _ _ (f4 _ _ shw.symm i3))
          · exact f6 _ _ shm (u5 _ _ i4)
          · rw [i6, List.map_append] <;> rfl
          · rw [List.map_append]
            refine (rm.imp fun p m h => ?_).app (RelL.one (y := Mend.shield k) ?_)
            · have h1 := h.same u1
              have h2 := h1.off g2.off bg1.notup
              have h3 := h2.off f3 (notup (g2.keep _ _ pwb (u1 _ _ hw)))
              have h4 := h3.off f4 (notup (f3 _ _ shw (g2.keep _ _ shb (u1 _ _ hs))))
              exact (h4.same u5).off f6 (notup (u5 _ _ hm4))
            · exact f6 _ _ tb k5
          · rw [List.length_append]
            exact Nat.succ_le_succ shl
        · obtain ⟨kp, bg', ⟨ws, sh, hw, hs, ⟨ps, hm, rm⟩, shl, nd, inn⟩, x, rfl⟩ := h
          have bgJ : BagAt J b (c + 18) := bg'.mono (by omega)
          have sh2 : sh.length ≤ 2 := by omega
          have nk : ∀ {a : Addr} {o : HO}, G a = some o → (∀ xs, o ≠ .lst xs) → J a = some o := fun {a o} e n => by
            have e3 := s03 _ _ e
            obtain ⟨bx, be, _⟩ := bag3
            exact kp a o (ne_of e3 be (n _)) (ne_of e3 pwG3 (n _)) (ne_of e3 h2' (n _)) (ne_of e3 h3 (n _)) e3
          have FJ : FnR (fnC K) J fa l := ⟨nk FG.ins (fun _ c => by cases c), nk FG.rs (fun _ c => by cases c), nk FG.ws (fun _ c => by cases c), nk FG.os (fun _ c => by cases c)⟩
          have DJ : DrAt (drC K) J da d := ⟨nk D.ins (fun _ c => by cases c), nk D.oth (fun _ c => by cases c)⟩
          have WJ : WaysL J qs (everyF (l.length + 2)) := ⟨WG.1, fun i y e => let ⟨q', e', w'⟩ := WG.2 i y e; ⟨q', e', nk w' (fun _ c => by cases c)⟩⟩
          have evJ := kp pe _ peb pepw (ne_of_none (sG1 _ _ evG) n9) (ne_of_none (s2 _ _ (sG1 _ _ evG)) n10) (s03 _ _ evG)
          have lrJ := kp lr _ lrb lrpw (ne_of_none (sG1 _ _ lrG) n9) (ne_of_none (s2 _ _ (sG1 _ _ lrG)) n10) (s03 _ _ lrG)
          have Lb : L ≠ b := bg.ne nL
          have hLJ := kp L _ Lb (none_ne pwG nL) (ne_of_none hL n9) (ne_of_none (s2 _ _ hL) n10) (s3 _ _ (s2 _ _ hL))
          have kH : ∀ a o, H a = some o → a ≠ b → J a = some o := fun a o e n => by
            have e0 := k0 a o e n
            exact kp a o n (opw a o e) (ne_of_none (sG1 _ _ e0) n9) (ne_of_none (s2 _ _ (sG1 _ _ e0)) n10) (s03 _ _ e0)
          have mdH : H pmd = none := by
            cases e : H pmd with
            | none => rfl
            | some o =>
              have e0 := k0 _ _ e mdb
              exact absurd rfl (ne_of_none (s2 _ _ (sG1 _ _ e0)) n10)
          have pemd : pe ≠ pmd := ne_of_none (s2 _ _ (sG1 _ _ evG)) n10
          have lrmd : lr ≠ pmd := ne_of_none (s2 _ _ (sG1 _ _ lrG)) n10
          have Lmd : L ≠ pmd := ne_of_none (s2 _ _ hL) n10
          have shnd : sh.Nodup := (List.nodup_append.mp nd).2.1
          have shin : ∀ k ∈ sh, k ∈ waitsOf l := fun k hk => inn k (List.mem_append_right _ hk)
          clear kp nk bg' hw inn nd k0 opw hL h3 h2' pwG3 bag3 s03 s3 s2 sG1 n9 n10 hneL fo nL g4 FG D WG evG lrG pwG bg
          -- the ways that are closed
          refine ⟨_, rfl, b, 4, c + 18, rfl, by decide, by decide, bgJ, by omega, fun r3 K1 r30 r31 g1 => ⟨_, rfl, by omega, by omega, fun C nC => ?_⟩⟩
          have bK1 := g1.bag
          have neC : ∀ {a : Addr} {o : HO}, K1 a = some o → a ≠ C := fun e => ne_of_none e nC
          have Cb : C ≠ b := bK1.ne nC
          have ev1 := g1.keep _ _ peb evJ
          refine lc_it (walk_range (lo := 0) (n := r3.toNat)) (fun i G' => (∀ a o, a ≠ b → a ≠ C → K1 a = some o → G' a = some o) ∧ BagAt G' b (c + 19 + i) ∧ ∃ (rs : List Addr) (ys : List Way), G' C = some (.lst (rs.map V.ref)) ∧ RelL (WayAt G') rs ys ∧ ys.length = i ∧ ∀ y ∈ ys, y ∈ everyF (l.length + 2))
            ⟨fun a o _ n e => by rw [upd_ne n]; exact e, ?_, [], [], upd_same, RelL.nil, rfl, fun y h => by cases h⟩ (fun _ _ _ _ => trivial) (fun i x G1 G2 hi h y => ?_) (fun G1 h => ?_)
          · obtain ⟨xs, e, v⟩ := bK1
            exact ⟨xs, by rw [upd_ne Cb.symm]; exact e, v⟩
          · obtain ⟨kp, bg, rs, ys, hC, rel, ly, my⟩ := h
            obtain ⟨rfl, _⟩ := y
            refine ⟨rfl, _, rfl, _, rfl, b, pe, qs.map V.ref, c + 19 + i, rfl, peb, kp pe _ peb (neC ev1) ev1, q0, by omega, bg, by omega, fun x2 G3 mx g3 => ?_⟩
            obtain ⟨q1, y, rfl, hy, wq⟩ := WJ.mem mx
            have wk1 : WayAt K1 q1 y := wq.off g1.off bgJ.notup
            have q1C : q1 ≠ C := neC wk1
            have q1b : q1 ≠ b := fun c => bK1.notup _ (c ▸ wk1)
            have wk2 : WayAt G2 q1 y := kp _ _ q1b q1C wk1
            refine ⟨rs.map V.ref, g3.keep _ _ Cb hC, ?_, fun a o n1 n2 e => by rw [upd_ne n2]; exact g3.keep a o n1 (kp a o n1 n2 e), ?_, rs ++ [q1], ys ++ [y], by rw [upd_same, List.map_append] <;> rfl, ?_, by rw [List.length_append, ly] <;> rfl, fun y' h' => ?_⟩
            · rw [List.length_map, rel.1, ly]
              exact Nat.lt_of_lt_of_le hi (Nat.le_trans (show r3.toNat ≤ 4 by omega) (by decide))
            · obtain ⟨xs, e, v⟩ := g3.bag
              exact ⟨xs, by rw [upd_ne Cb.symm]; exact e, v⟩
            · refine (rel.imp fun p m h => ?_).app (RelL.one ?_)
              · show upd G3 C _ p = _
                rw [upd_ne (ne_of h hC (by intro c; cases c))]
                exact h.off g3.off bg.notup
              · show upd G3 C _ q1 = _
                rw [upd_ne q1C]
                exact wk2.off g3.off bg.notup
            · rcases List.mem_append.mp h' with z | z
              · exact my y' z
              · rw [List.mem_singleton.mp z]
                exact hy
          · obtain ⟨kp, bg, cs, cl, hC, rel, ly, my⟩ := h
            have bgM : BagAt G1 b (c + 22) := bg.mono (by omega)
            have cl4 : cl.length ≤ 4 := by omega
            have nk : ∀ {a : Addr} {o : HO}, J a = some o → (∀ xs, o ≠ .lst xs) → G1 a = some o := fun {a o} e n => by
              obtain ⟨bx, be, _⟩ := bgJ
              have n1 := ne_of e be (n _)
              have e1 := g1.keep a o n1 e
              exact kp a o n1 (neC e1) e1
            have kl : ∀ {a : Addr} {o : HO}, J a = some o → a ≠ b → G1 a = some o := fun {a o} e n1 => by
              have e1 := g1.keep a o n1 e
              exact kp a o n1 (neC e1) e1
            have FM : FnR (fnC K) G1 fa l := ⟨nk FJ.ins (fun _ c => by cases c), nk FJ.rs (fun _ c => by cases c), nk FJ.ws (fun _ c => by cases c), nk FJ.os (fun _ c => by cases c)⟩
            have DM : DrAt (drC K) G1 da d := ⟨nk DJ.ins (fun _ c => by cases c), nk DJ.oth (fun _ c => by cases c)⟩
            have WM : WaysL G1 qs (everyF (l.length + 2)) := ⟨WJ.1, fun i y e => let ⟨q', e', w'⟩ := WJ.2 i y e; ⟨q', e', nk w' (fun _ c => by cases c)⟩⟩
            have evM := kl evJ peb
            have lrM := kl lrJ lrb
            have LM := kl hLJ Lb
            have shM := kl hs shb
            have mdM := kl hm mdb
            have rmM : RelL (MendAt G1) ps (sh.map Mend.shield) := rm.imp fun p m h => by
              cases m with
              | shield n => exact nk h (fun _ c => by cases c)
              | close y =>
                obtain ⟨b', e1, e2⟩ := h
                exact ⟨b', nk e1 (fun _ c => by cases c), nk e2 (fun _ c => by cases c)⟩
            have kH2 : ∀ a o, H a = some o → a ≠ b → G1 a = some o := fun a o e n => kl (kH a o e n) n
            have Cmd : C ≠ pmd := none_ne (g1.keep _ _ mdb hm) nC
            clear kp nk kl kH bg hs hm rm hLJ lrJ evJ WJ DJ FJ ev1 neC nC bgJ bK1 g1
            refine ⟨_, rfl, C, rfl, ⟨_, SqL.of hC⟩, ?_⟩
            refine for_it (walk_list (K := K) (a := C) (xs := cs.map V.ref)) (fun i σ G' => (∀ a o, a ≠ b → a ≠ pmd → G1 a = some o → G' a = some o) ∧ BagAt G' b (c + 22 + i) ∧ (∃ (ps : List Addr) (ms : List Mend), G' pmd = some (.lst (ps.map V.ref)) ∧ RelL (MendAt G') ps ms ∧ shOf ms = sh ∧ ms.length ≤ 2 + i ∧ ∀ y, Mend.close y ∈ ms ↔ y ∈ cl.take i) ∧
                ∃ x y, σ = [some (.ref b), some (.ref lr), some (.ref fa.f), some (.ref da.r), some (.ref pe), some (.ref pw), x, some (.ref L), y, some (.ref psh), some (.ref pmd), some (.ref C), none, none, none, none, none, none, none])
              ⟨fun _ _ _ _ e => e, bgM, ⟨ps, sh.map Mend.shield, mdM, rmM, ?_, ?_, fun y => ?_⟩, _, _, rfl⟩ (fun i σ G' _ h => SqL.of (h.1 _ _ Cb Cmd hC)) (fun i x σ G2 G3 hi h y => ?_) (fun σ G2 h => ?_)
            · exact sh_map sh
            · rw [List.length_map]
              exact sh2
            · rw [List.take_zero]
              refine ⟨fun h => ?_, fun h => by cases h⟩
              obtain ⟨k, _, e⟩ := List.mem_map.mp h
              cases e
            · obtain ⟨kp, bg, ⟨ps1, ms, hm1, rm1, e1, l1, c1⟩, x1, y1, rfl⟩ := h
              obtain ⟨rfl, hx⟩ := y
              rw [List.length_map, rel.1] at hi
              have ey : cl[i]? = some cl[i] := List.getElem?_eq_getElem hi
              generalize cl[i] = y at ey
              obtain ⟨q1, eq1, wq⟩ := rel.2 i y ey
              have ex : x = .ref q1 := by
                rw [List.getElem?_map, eq1] at hx
                exact (Option.some.inj hx).symm
              subst ex
              have wq3 : WayAt G3 q1 y := kp _ _ (fun c => bgM.notup _ (c ▸ wq)) (ne_of wq mdM (by intro c; cases c)) wq
              have lp : (ps1.map V.ref).length = ms.length := by rw [List.length_map]; exact rm1.1
              refine ⟨_, rfl, .inl ⟨rfl, _, SqL.of hm1⟩, _, rfl, _, rfl, pmd, _, rfl, .inl (SqL.of hm1), _, _, rfl, rfl, b, _, c + 22 + i, rfl, by omega, by omega, bg, by omega, fun r4 G4 r40 r41 g4 => ⟨_, rfl, by show 2 ≤ sizeLine; decide, fun t nt => new_at nt fun G5 u5 k5 => ⟨pmd, _, r4, .ref t, rfl, rfl, u5 _ _ (g4.keep _ _ mdb hm1), ?_, r40, by omega, put_at fun G6 f6 b6 i6 => ?_⟩⟩⟩
              · rw [lp]
                exact Nat.lt_of_le_of_lt (show ms.length ≤ 6 by omega) (by decide)
              have hm5 := u5 _ _ (g4.keep _ _ mdb hm1)
              have notup : ∀ ys, G5 pmd ≠ some (.tup ys) := fun ys e' => by rw [hm5] at e'; cases e'
              refine ⟨fun a o n1 n2 e => f6 _ _ n2 (u5 _ _ (g4.keep _ _ n1 (kp a o n1 n2 e))), ?_, ⟨ps1.take r4.toNat ++ [t] ++ ps1.drop r4.toNat, ms.take r4.toNat ++ [Mend.close y] ++ ms.drop r4.toNat, ?_, ?_, ?_, ?_, fun y' => ?_⟩, _, _, rfl⟩
              · obtain ⟨xs, e, v⟩ := g4.bag
                exact ⟨xs, f6 _ _ mdb.symm (u5 _ _ e), v.mono (by omega)⟩
              · rw [i6, List.map_append, List.map_append, List.map_take, List.map_drop] <;> rfl
              · have r5 : RelL (MendAt G6) ps1 ms := rm1.imp fun p m h => ((h.off g4.off bg.notup).same u5).off f6 notup
                refine ((r5.take _).app (RelL.one ?_)).app (r5.drop _)
                exact ⟨q1, f6 _ _ (none_ne (g4.keep _ _ mdb hm1) nt) k5, (show WayAt G5 q1 y from u5 _ _ (wq3.off g4.off bg.notup)).off f6 notup⟩
              · rw [sh_ins, e1]
              · rw [List.length_append, List.length_append, List.length_take, List.length_drop, List.length_singleton]
                omega
              · rw [cl_ins, c1 y', List.take_succ, ey, List.mem_append]
                show _ ∨ _ ↔ _ ∨ y' ∈ [y]
                rw [List.mem_singleton]
            · obtain ⟨kp, bg, ⟨ps2, ms, hm2, rm2, e2, l2, c2⟩, x1, y1, rfl⟩ := h
              have lc : (cs.map V.ref).length = cl.length := by rw [List.length_map]; exact rel.1
              rw [lc] at bg l2 c2
              rw [List.take_length] at c2
              have bgN : BagAt G2 b (c + 26) := bg.mono (by omega)
              have nk : ∀ {a : Addr} {o : HO}, G1 a = some o → (∀ xs, o ≠ .lst xs) → G2 a = some o := fun {a o} e n => by
                obtain ⟨bx, be, _⟩ := bgM
                exact kp a o (ne_of e be (n _)) (ne_of e mdM (n _)) e
              have FN : FnR (fnC K) G2 fa l := ⟨nk FM.ins (fun _ c => by cases c), nk FM.rs (fun _ c => by cases c), nk FM.ws (fun _ c => by cases c), nk FM.os (fun _ c => by cases c)⟩
              have DN : DrAt (drC K) G2 da d := ⟨nk DM.ins (fun _ c => by cases c), nk DM.oth (fun _ c => by cases c)⟩
              have WN : WaysL G2 qs (everyF (l.length + 2)) := ⟨WM.1, fun i y e => let ⟨q', e', w'⟩ := WM.2 i y e; ⟨q', e', nk w' (fun _ c => by cases c)⟩⟩
              have rN : RelL (WayAt G2) cs cl := rel.imp fun p m h => nk h (fun _ c => by cases c)
              have evN := kp _ _ peb pemd evM
              have lrN := kp _ _ lrb lrmd lrM
              have LN := kp _ _ Lb Lmd LM
              have shN := kp _ _ shb shm shM
              have CN := kp _ _ Cb Cmd hC
              have kH3 : ∀ a o, H a = some o → a ≠ b → G2 a = some o := fun a o e n => kp a o n (fun c => by rw [c, mdH] at e; cases e) (kH2 a o e n)
              have msmall : ∀ m ∈ ms, ∀ y, m = .close y → y.small := fun m hm y e => sm y (my y ((c2 y).mp (e ▸ hm)))
              clear kp nk kH2 bg mdM rmM rel hC shM LM lrM evM WM DM FM bgM
              subst e2
              -- the call
              refine ⟨_, rfl, pmd, _, rfl, .inl (SqL.of hm2), fun pk npk => new_at npk fun G3 s3 h3 => ?_⟩
              refine ⟨_, rfl, _, rfl, _, rfl, fa, l, da, d, pmd, ms, rfl, FN.same s3, D4, DN.same s3, dr.ok (by decide), ⟨ps2, s3 _ _ hm2, rm2.1, fun i m e => let ⟨p, a, r⟩ := rm2.2 i m e; ⟨p, a, r.same s3⟩⟩, by omega, shin, shnd, by omega, fun p13 fa' da' G4 s4 h4 Fa' Da' no' => ?_⟩
              refine ⟨by show 0 ≤ sizeLine; decide, fun p14 n14 => new_at n14 fun G5 s5 h5 => ?_⟩
              have s25 := (s3.trans s4).trans s5
              have lrG5 := s25 _ _ lrN
              have shG5 := s25 _ _ shN
              refine ⟨_, rfl, lr, _, rfl, SqL.of lrG5, ?_⟩
              refine for_it (walk_enum (K := K) (a := lr) (xs := sV (l.map Rw.text))) (fun i σ G' => Same G5 G' ∧ ∃ pf x y z u v, σ = [some (.ref b), some (.ref lr), some (.ref fa.f), some (.ref da.r), some (.ref pe), some (.ref pw), x, some (.ref L), y, some (.ref psh), some (.ref pmd), some (.ref C), some (.ref pk), some (.ref p13), some (.ref pf), z, u, v, none] ∧ G' pf = some (.lst (sV ((shFrom (shOf ms) 0 (l.take i)).map Rw.text))))
                ⟨Same.refl G5, p14, _, _, _, _, _, rfl, h5⟩ (fun i σ G' _ h => SqL.of (h.1 _ _ lrG5)) (fun i x σ G6 G7 hi h y => ?_) (fun σ G6 h => ?_)
              · obtain ⟨g3, pf, xa, xb, xc, xd, xe, rfl, hf⟩ := h
                obtain ⟨T', x, y', rfl, nT, rfl, ex, ey⟩ := y
                have ex : x = .int (i : Nat) := (Option.some.inj ex).symm
                subst ex
                rw [rows_len] at hi
                have er : l[i]? = some l[i] := List.getElem?_eq_getElem hi
                generalize l[i] = r at er
                have ey : (sV (l.map Rw.text))[i]? = some y' := ey
                have ey2 : y' = .str r.text := by
                  rw [List.getElem?_map, List.getElem?_map, er] at ey
                  exact (Option.some.inj ey).symm
                subst ey2
                refine new_at nT fun G8 u5 k5 => ?_
                have hf5 := u5 _ _ hf
                have hp5 := u5 _ _ (g3 _ _ shG5)
                have et : l.take (i + 1) = l.take i ++ [r] := by rw [List.take_succ, er] <;> rfl
                have el : (l.take i).length = i := by rw [List.length_take]; omega
                have es : shFrom (shOf ms) 0 (l.take (i + 1)) = shFrom (shOf ms) 0 (l.take i) ++ (if i ∈ shOf ms then [.one "shield", r, .one "end"] else [r]) := by
                  rw [et, shFrom_app, el, Nat.zero_add]
                  show _ ++ ((if i ∈ shOf ms then _ else _) ++ []) = _
                  rw [List.append_nil]
                have len : (shFrom (shOf ms) 0 (l.take i)).length ≤ 24 := by
                  refine Nat.le_trans shFrom_len ?_
                  rw [el]
                  omega
                refine ⟨T', _, rfl, SqT.of k5, rfl, _, _, rfl, _, _, rfl, rfl, ?_⟩
                refine ⟨_, rfl, _, rfl, _, rfl, psh, _, rfl, .inl (SqL.of hp5), rfl, nV_all _, _, rfl, ?_⟩
                rw [inV_nV]
                refine ite2 (fun h => ?_) (fun h => ?_)
                · rw [if_pos (of_decide_eq_true h)] at es
                  refine ⟨_, rfl, by show 3 ≤ sizeLine; decide, fun p6 n6 => new_at n6 fun G9 u6 k6 => ⟨pf, p6, _, _, rfl, rfl, u6 _ _ hf5, k6, ?_, fun p7 n7 => new_at n7 fun G10 u7 k7 => ⟨((g3.trans u5).trans u6).trans u7, p7, _, _, _, _, _, rfl, ?_⟩⟩⟩
                  · exact sz_le (show (sV ((shFrom (shOf ms) 0 (l.take i)).map Rw.text)).length + 3 ≤ 1000 by rw [rows_len]; omega) (by decide)
                  · rw [k7, es, List.map_append, sV_app] <;> rfl
                · rw [if_neg fun c => h (decide_eq_true c)] at es
                  refine ⟨_, rfl, by show 1 ≤ sizeLine; decide, fun p6 n6 => new_at n6 fun G9 u6 k6 => ⟨pf, p6, _, _, rfl, rfl, u6 _ _ hf5, k6, ?_, fun p7 n7 => new_at n7 fun G10 u7 k7 => ⟨((g3.trans u5).trans u6).trans u7, p7, _, _, _, _, _, rfl, ?_⟩⟩⟩
                  · exact sz_le (show (sV ((shFrom (shOf ms) 0 (l.take i)).map Rw.text)).length + 1 ≤ 1000 by rw [rows_len]; omega) (by decide)
                  · rw [k7, es, List.map_append, sV_app] <;> rfl
              · obtain ⟨g3, pf, xa, xb, xc, xd, xe, rfl, hf⟩ := h
                rw [rows_len, List.take_length] at hf
                have s26 := s25.trans g3
                have R' := rows_shield D4 shin (show l.length + 2 * (shOf ms).length ≤ 24 by omega)
                have hT := g3 _ _ (s5 _ _ h4)
                have FR' := Fa'.r.same (s5.trans g3)
                have tl := ls_texts R'.good
                refine ⟨_, rfl, _, _, .type "tuple", .type "tuple", true, rfl, .ty "tuple", .base (.tup hT), rfl, _, rfl, iteF ?_⟩
                refine ⟨_, rfl, p13, _, rfl, .inr (SqT.of hT), rfl, _, rfl, iteF ?_⟩
                refine ⟨_, rfl, p13, _, _, _, rfl, rfl, SqT.of hT, rfl, fa'.f, _, fa'.dx, _, _, rfl, FR'.ins, T.c_Function, T.n_Function_rows, fn_rows fa', _, rfl, pf, _, rfl, .inl ⟨SqL.of hf, fun pt npt => new_at npt fun G7 s7 h7 => ⟨_, _, dp_texts (s7 _ _ FR'.rs), dp_texts h7, tl.shaped, tl.shaped, _, rfl, ?_⟩⟩⟩
                rw [SeqAt.eqv_refl _ tl.can]
                have ml : Ls (.list (ms.map mendD)) 3 := .list fun dd hd => by
                  obtain ⟨m, hm, rfl⟩ := List.mem_map.mp hd
                  exact ls_mend fun y e => msmall m hm y e
                have s27 := s26.trans s7
                refine iteF ⟨_, rfl, _, rfl, _, _, .lst (SqL.of (s27 _ _ hm2)) (dp_rel mendD (fun p m h => dp_mend h) (rm2.imp fun p m h => h.same s27)), .lst (SqL.of (s7 _ _ (g3 _ _ (s5 _ _ (s4 _ _ h3))))) (dp_rel mendD (fun p m h => dp_mend h) (rm2.imp fun p m h => h.same s27)), ml.shaped, ml.shaped, _, rfl, ?_⟩
                rw [SeqAt.eqv_refl _ ml.can]
                refine iteF ?_
                have hT7 := s7 _ _ hT
                have Da7 := Da'.same ((s5.trans g3).trans s7)
                have D7 := DN.same s27
                have W7 := WN.same s27
                have r7 : RelL (WayAt G7) cs cl := rN.imp fun p m h => s27 _ _ h
                have ev7 := s27 _ _ evN
                have lr7 := s27 _ _ lrN
                have L7 := s27 _ _ LN
                have sh7 := s27 _ _ shN
                have C7 := s27 _ _ CN
                have F7 := FN.same s27
                have bag7 := bgN.same s27
                have dnew : H da'.o = none := by
                  cases e : H da'.o with
                  | none => rfl
                  | some o =>
                    by_cases c : da'.o = b
                    · have z := bgN.same s3
                      obtain ⟨xs, z, _⟩ := z
                      rw [c, z] at no'
                      cases no'
                    · rw [s3 _ _ (kH3 _ _ e c)] at no'
                      cases no'
                have dadn : da.o ≠ da'.o := ne_of_none (DN.same s3).oth no'
                have dnb : da'.o ≠ b := fun c => by
                  obtain ⟨xs, z, _⟩ := bgN.same s3
                  rw [c, z] at no'
                  cases no'
                have kH7 : ∀ a o, H a = some o → a ≠ b → G7 a = some o := fun a o e n => s27 _ _ (kH3 a o e n)
                clear kH3 no' rm2 hm2 h3 s3 s4 s5 s25 s26 s27 hf g3 FR' tl ml evN lrN LN shN CN rN WN DN FN Fa' Da' hT h4 h5 h7 s7 bgN
                refine ⟨_, rfl, _, rfl, pe, L, _, _, rfl, SqL.of ev7, SqL.of L7, ?_⟩
                refine for_it (walk_zip (K := K) (a := pe) (b := L) (xs := qs.map V.ref) (ys := (everyF (l.length + 2)).map d.get) (n := (everyF (l.length + 2)).length) (by rw [List.length_map, List.length_map, W7.1, Nat.min_self])) (fun i σ G' => Same G7 G' ∧ ∃ x6 x8 x14 x15 x16 x17 x18, σ = [some (.ref b), some (.ref lr), some (.ref fa.f), some (.ref da.r), some (.ref pe), some (.ref pw), x6, some (.ref L), x8, some (.ref psh), some (.ref pmd), some (.ref C), some (.ref pk), some (.ref p13), x14, x15, x16, x17, x18])
                  ⟨Same.refl G7, _, _, _, _, _, _, _, rfl⟩ (fun i σ G' _ h => ⟨SqL.of (h.1 _ _ ev7), SqL.of (h.1 _ _ L7)⟩) (fun i x σ G8 G9 hi h y => ?_) (fun σ G8 h => ?_)
                · obtain ⟨g, x6, x8, x14, x15, x16, x17, x18, rfl⟩ := h
                  obtain ⟨T', xa, ya, rfl, nT, rfl, ea, eb⟩ := y
                  have ey : (everyF (l.length + 2))[i]? = some (everyF (l.length + 2))[i] := List.getElem?_eq_getElem hi
                  have hy := List.getElem_mem hi
                  generalize (everyF (l.length + 2))[i] = y at ey hy
                  obtain ⟨q1, e1, w1⟩ := W7.2 i y ey
                  obtain ⟨u, eu, uok⟩ := dr.str y
                  have ea : (qs.map V.ref)[i]? = some xa := ea
                  have eb : ((everyF (l.length + 2)).map d.get)[i]? = some ya := eb
                  have ea2 : xa = .ref q1 := by
                    rw [List.getElem?_map, e1] at ea
                    exact (Option.some.inj ea).symm
                  have eb2 : ya = .str u := by
                    rw [List.getElem?_map, ey] at eb
                    rw [← eu]
                    exact (Option.some.inj eb).symm
                  subst ea2 eb2
                  have ysm := sm y hy
                  refine new_at nT fun G10 u1 k1 => ?_
                  have v1 := g.trans u1
                  refine ⟨T', _, rfl, SqT.of k1, rfl, _, _, rfl, _, _, rfl, rfl, ?_⟩
                  refine ⟨_, rfl, _, rfl, _, rfl, lr, _, rfl, .inl (SqL.of (v1 _ _ lr7)), q1, psh, y, shOf ms, l.length, ?_, v1 _ _ w1, ysm, v1 _ _ sh7, by omega, fun pm' G11 u2 w2 => ?_⟩
                  · rw [rows_len] <;> rfl
                  have v2 := v1.trans u2
                  have dl : Ls (.list (cl.map wayD)) 2 := .list fun dd hd => by
                    obtain ⟨m, hm, rfl⟩ := List.mem_map.mp hd
                    exact ls_way (sm m (my m hm))
                  refine ⟨_, rfl, _, rfl, wayD y, cl.map wayD, dp_way (v2 _ _ w1), .lst (SqL.of (v2 _ _ C7)) (dp_rel wayD (fun p m h => dp_way h) (r7.imp fun p m h => v2 _ _ h)), (ls_way ysm).shaped, dl.shaped, _, rfl, ?_⟩
                  have eany : ((cl.map wayD).any fun z => PyData.eqv z (wayD y)) = decide (y ∈ cl) := by
                    rw [List.any_map, Bool.eq_iff_iff, List.any_eq_true, decide_eq_true_eq]
                    constructor
                    · rintro ⟨z, hz, e⟩
                      have e : PyData.eqv (wayD z) (wayD y) = true := e
                      rw [eqv_way, decide_eq_true_eq] at e
                      rw [← e]
                      exact hz
                    · intro h
                      refine ⟨y, h, ?_⟩
                      show PyData.eqv (wayD y) (wayD y) = true
                      rw [eqv_way, decide_eq_true rfl]
                  rw [eany]
                  obtain ⟨dz, hdz⟩ : ∃ dz : Str, V.str dz = (if y ∈ cl then V.str "close" else V.str u) := by
                    by_cases c : y ∈ cl
                    · exact ⟨"close", by rw [if_pos c]⟩
                    · exact ⟨u, by rw [if_neg c]⟩
                  refine (fun (rest : ?R) => ?_) ?_
                  case refine_1 =>
                    refine ite2 (fun h => ?_) (fun h => ?_)
                    · refine tcE (v' := .str dz) (by rw [hdz, if_pos (of_decide_eq_true h)]) ?_
                      exact rest
                    · refine tvE (v' := .str dz) (v := .str u) (by rw [hdz, if_neg fun c => h (decide_eq_true c)]) rfl ?_
                      exact rest
                  refine ⟨_, _, rfl, _, rfl, by show 0 ≤ sizeLine; decide, fun p5 n5 => new_at n5 fun G12 u3 k3 => ⟨_, _, dp_way (u3 _ _ (v2 _ _ w1)), dp_way (y := .no) k3, (ls_way ysm).shaped, (ls_way (y := .no) trivial).shaped, _, rfl, ?_⟩⟩
                  rw [eqv_way]
                  have v3 := v2.trans u3
                  have D12 := D7.same v3
                  have w12 : WayAt G12 q1 y := v3 _ _ w1
                  refine (fun (rest3 : ?R3) => ?_) ?_
                  case refine_1 =>
                    refine (fun (rest2 : y.inn l.length → ?R2) => ?_) ?_
                    case refine_1 =>
                      by_cases hno : y = .no
                      · rw [decide_eq_true hno]
                        refine iteT ?_
                        exact rest2 (by rw [hno]; trivial)
                      · rw [decide_eq_false hno]
                        obtain ⟨z, n, hz⟩ : ∃ z n, y = .at z n := by
                          cases y with
                          | no => exact absurd rfl hno
                          | «at» z n => exact ⟨z, n, rfl⟩
                        have w13 : G12 q1 = some (.tup [.str z, .int n]) := by
                          have q := w12
                          rw [hz] at q
                          exact q
                        have n0 : 0 ≤ n := by
                          have q := ysm
                          rw [hz] at q
                          exact q.2.1
                        refine iteF ⟨_, rfl, q1, _, _, _, rfl, rfl, SqT.of w13, rfl, _, rfl, lr, _, rfl, .inl (SqL.of (v3 _ _ lr7)), _, _, rfl, rfl, _, rfl, ?_⟩
                        rw [rows_len]
                        refine ite2 (fun h => ?_) (fun h => ?_)
                        · have h2 := of_decide_eq_true h
                          exact rest2 (by rw [hz]; exact ⟨n.toNat, by omega, by omega⟩)
                        · exact rest3
                    intro inn
                    have kd : Keyed d.o := fun p hp => (dr.o p hp).1.elim fun y e => ⟨y, e.2⟩
                    have et : ({ d with o := finalO (shOf ms) l.length (closeF (copyO d.o) ms) } : Dr).get (moved (shOf ms) l.length y) = .str dz := by
                      rw [told_in kd shnd inn, hdz, ← eu]
                      by_cases c : y ∈ cl
                      · rw [if_pos c, if_pos ((c2 y).mpr c)]
                      · rw [if_neg c, if_neg fun q => c ((c2 y).mp q)]
                    refine ⟨_, rfl, p13, _, _, _, rfl, rfl, SqT.of (v3 _ _ hT7), rfl, _, rfl, da'.r, da'.dx, _, rfl, (Da7.same v3).ins, da', _, pm', _, rfl, Da7.same v3, u3 _ _ w2, ?_⟩
                    rw [et]
                    refine ⟨_, rfl, rfl, _, rfl, ?_⟩
                    rw [decide_eq_true rfl]
                    exact iteF rest3
                  refine ⟨_, rfl, _, rfl, da.r, da.dx, _, rfl, D12.ins, da, d, q1, y, rfl, D12, w12, ?_⟩
                  rw [eu]
                  refine ⟨_, rfl, rfl, _, rfl, ?_⟩
                  rw [decide_eq_true rfl]
                  exact iteF ⟨v3, _, _, _, _, _, _, _, rfl⟩
                · obtain ⟨g, x6, x8, x14, x15, x16, x17, x18, rfl⟩ := h
                  have kd : Keyed d.o := fun p hp => (dr.o p hp).1.elim fun y e => ⟨y, e.2⟩
                  refine ⟨_, rfl, _, rfl, p13, _, _, _, rfl, rfl, SqT.of (g _ _ hT7), rfl, _, rfl, _, rfl, _, rfl, _, rfl, lr, _, rfl, .inl (SqL.of (g _ _ lr7)), .ref fa.f, .ref C, da', da, _, d, psh, shOf ms, l.length, ?_, Da7.same g, D7.same g, g _ _ sh7, by omega, by omega, fun z hz n hn => told_out kd shnd hn (dr.big (by omega) z), fun G9 s9 => ⟨_, rfl, iteF ?_⟩⟩
                  · rw [rows_len] <;> rfl
                  have g9 := g.trans s9
                  have Da9 := Da7.same g9
                  refine ⟨_, rfl, p13, _, _, _, rfl, rfl, SqT.of (g9 _ _ hT7), rfl, da'.r, da'.dx, _, rfl, Da9.ins, rfl, by show 0 ≤ sizeLine; decide, fun p10 n10 => new_at n10 fun G10 s10 k10 => ⟨da', _, p10, .no, "check", rfl, Da9.same s10, k10, by decide +kernel, ?_, fun G11 f11 D11 => ?_⟩⟩
                  · refine Nat.lt_of_le_of_lt (finalF_len _ _ _ []) ?_
                    rw [List.length_nil, Nat.zero_add]
                    refine Nat.lt_of_le_of_lt (List.length_filter_le ..) ?_
                    rw [List.length_map]
                    refine Nat.lt_of_le_of_lt (closeF_len ms (copyO d.o)) ?_
                    refine Nat.lt_of_le_of_lt (Nat.add_le_add (Nat.le_trans (copyF_len d.o d.o []) (by rw [List.length_nil, Nat.zero_add]; exact dr.few)) (show ms.length ≤ 6 by omega)) (by decide)
                  have g10 := g9.trans s10
                  have oth10 := (Da9.same s10).oth
                  have nk : ∀ {a : Addr} {o : HO}, G7 a = some o → (∀ k, o ≠ .dT k) → G11 a = some o := fun {a o} e n => f11 _ _ (ne_of (g10 _ _ e) oth10 (n _)) (g10 _ _ e)
                  have D11' : DrAt (drC K) G11 da d := ⟨nk D7.ins (fun _ c => by cases c), f11 _ _ dadn (g10 _ _ D7.oth)⟩
                  obtain ⟨u, eu, uok⟩ := dr.str .no
                  refine ⟨_, rfl, by show 0 ≤ sizeLine; decide, fun p12 n12 => new_at n12 fun G12 s12 k12 => ⟨da.r, da.dx, _, rfl, s12 _ _ D11'.ins, da, d, p12, .no, rfl, D11'.same s12, k12, ?_⟩⟩
                  rw [eu]
                  refine ⟨_, rfl, L, _, _, _, rfl, rfl, SqL.of (s12 _ _ (nk L7 (fun _ c => by cases c))), atI_nat (v := V.str u) (j := 0) ?_, rfl, _, rfl, ?_⟩
                  · rw [List.getElem?_map, every_head, ← eu] <;> rfl
                  rw [decide_eq_true rfl]
                  have sl := ls_texts R.good
                  refine iteT ⟨_, rfl, fa.f, _, fa.dx, _, _, rfl, s12 _ _ (nk F7.ins (fun _ c => by cases c)), T.c_Function, T.n_Function_rows, fn_rows fa, _, rfl, lr, _, rfl, .inl ⟨SqL.of (s12 _ _ (nk lr7 (fun _ c => by cases c))), fun p13' n13 => new_at n13 fun G13 s13 k13 => ⟨_, _, dp_texts (s13 _ _ (s12 _ _ (nk F7.rs (fun _ c => by cases c)))), dp_texts k13, sl.shaped, sl.shaped, ?_⟩⟩⟩
                  rw [SeqAt.eqv_refl _ sl.can]
                  refine q G13 ⟨fun a o n e => s13 _ _ (s12 _ _ (f11 _ _ (fun c => by rw [c, dnew] at e; cases e) (g10 _ _ (kH7 a o e n)))), ?_⟩
                  obtain ⟨xs, e, v⟩ := bag7.same g10
                  exact ⟨xs, s13 _ _ (s12 _ _ (f11 _ _ dnb.symm e)), v.mono (by omega)⟩
end

theorem deep_of {l : List Rw} (g : GoodRows 4 l) (ne : 1 ≤ l.length) (few : l.length ≤ 24) : Deep4 l := by
  obtain ⟨ns, n2, nok, sg⟩ := g
  have run : runM 4 [] (l.map Rw.word) = some [] := sg.run
  refine ⟨⟨?_, few, fun r hr => (sg.ok r hr).good nok, ⟨ns, Nat.le_trans n2 (by decide), fun n hn => sg.ok _ hn⟩, runM_up (by decide) run⟩, run⟩
  intro c
  rw [c] at ne
  exact absurd ne (by decide)
def fiveWords : List Str := ["ask", "read", "pause", "check", "return"]
theorem five_run : ∀ ws : List Str, (∀ w ∈ ws, w ∈ fiveWords) → runM 4 [] ws = some []
  | [], _ => rfl
  | w :: r, h => by
    have st : ∀ w ∈ fiveWords, stp [] w = some [] := by decide +kernel
    rw [runM_cons (st w (h w (List.mem_cons_self ..))) (by decide)]
    exact five_run r fun x hx => h x (List.mem_cons_of_mem _ hx)
theorem five_deep {ws : List Str} (h : ∀ w ∈ ws, w ∈ fiveWords) (ne : 1 ≤ ws.length) (few : ws.length ≤ 20) : Deep4 (ws.map Rw.one) := by
  have ew : (ws.map Rw.one).map Rw.word = ws := by
    rw [List.map_map]
    exact List.map_id' ws
  have run : runM 4 [] ((ws.map Rw.one).map Rw.word) = some [] := by
    rw [ew]
    exact five_run ws h
  refine ⟨⟨?_, by rw [List.length_map]; omega, fun r hr => ?_, ⟨[], by decide, fun n hn => ?_⟩, runM_up (by decide) run⟩, run⟩
  · intro c
    have := congrArg List.length c
    rw [List.length_map] at this
    simp at this
    rw [this] at ne
    exact absurd ne (by decide)
  · obtain ⟨w, hw, rfl⟩ := List.mem_map.mp hr
    have : ∀ w ∈ fiveWords, w ∈ oneWords := by decide +kernel
    exact this w (h w hw)
  · obtain ⟨w, _, e⟩ := List.mem_map.mp hn
    cases e
theorem GQ_same {K : PySem.W.Frag} {H H' : Hp} {a : Addr} {xs : List V} (h : SqL K H a xs) (s : Same H H') : SqL K H' a xs := h.elim (fun r => .inl (r.elim (fun e => .inl (s _ _ e)) fun ⟨o, e⟩ => .inr ⟨o, s _ _ e⟩)) .inr
def spTop (K : PySem.W.Frag) : Sp := fun vs H Q _ => ∃ (a : Addr) (ns : List Int), vs = [.ref a] ∧ SqL K H a (ns.map V.int) ∧ ns.length ≤ 63 ∧ ∀ H', Q (.bl true) H'
section
variable {P : Program} {w : World} {K : PySem.W.Frag} {mg : Str → Option Value} {base : Heap}
theorem law_body (T : Tx K mg) : Body P w K mg base 31 "law" (He.ga K ("law" : Str)) s_law ["_law_script", "_law_at", "_law_bag_here", "_law_rows_here", "_law_words", "_law_many", "_law_others", "_law_turn"] (spTop K) := fun cdv A outer s H vs Q E hr h => by
  have c_l_bag := c_l_bag (P := P) (w := w) (base := base) T
  have c_l_take := c_l_take (P := P) (w := w) (base := base) T
  have c_l_of := c_l_of (P := P) (w := w) (base := base) T
  have c_l_rows := c_l_rows (P := P) (w := w) (base := base) (mx := 4) (n := 4) T (by decide)
  have c_l_right := c_l_right (P := P) (w := w) (base := base) T
  · obtain ⟨a, ns, rfl, hs, hl, q⟩ := h
    refine ⟨_, (pss_cons (ps_for PassesOwn.never rfl (pi_range1 rfl T.b_range (pa_cons (pe_callB (call_max2 rfl) rfl T.b_max boot_max (pa_cons pe_int (pa_cons (pe_callB (call_min2 rfl) rfl T.b_min boot_min (pa_cons pe_int (pa_cons (pe_callB (call_len_seqK (K := K) rfl) rfl T.b_len boot_len (pa_cons (pv 0) pa_nil)) pa_nil))) pa_nil))) pa_nil)) (pg_name (i := 1) sc_law.nd rfl (by first | exact Or.inl rfl | exact Or.inr rfl)) (pss_cons (ps_set (i := 2) sc_law.nd rfl (by first | exact Or.inl rfl | exact Or.inr rfl) (pe_f c_l_bag hr (by first | decide | omega) (pa_cons (pv 0) (pa_cons (pv 1) pa_nil))))
          (pss_cons (ps_set (i := 3) sc_law.nd rfl (by first | exact Or.inl rfl | exact Or.inr rfl) (pe_f c_l_rows hr (by first | decide | omega) (pa_cons (pv 2) (pa_cons (pe_op op_add pe_int (pe_f c_l_take hr (by first | decide | omega) (pa_cons (pv 2) (pa_cons pe_int pa_nil)))) (pa_cons pe_int pa_nil)))))
          (pss_cons (ps_asg (pe_tup (pa_cons (pe_lst (pa_cons pe_str (pa_cons pe_str (pa_cons pe_str (pa_cons pe_str (pa_cons pe_str pa_nil)))))) (pa_cons (pe_op op_add pe_int (pe_f c_l_take hr (by first | decide | omega) (pa_cons (pv 2) (pa_cons pe_int pa_nil)))) pa_nil))) (pg_tup rfl (pgs_cons (pg_name (i := 4) sc_law.nd rfl (by first | exact Or.inl rfl | exact Or.inr rfl)) (pgs_cons (pg_name (i := 5) sc_law.nd rfl (by first | exact Or.inl rfl | exact Or.inr rfl)) pgs_nil))))
          (pss_cons (ps_setLc (i := 6) (own := [("_law_turn", 7)]) (g := gName 7) (tt := tYes) rfl sc_law.nd rfl rfl (sw_true rfl rfl rfl (by decide +kernel)) (pi_range1 rfl T.b_range (pa_cons (pv 5) pa_nil)) (blkOk_by (N := ["_law_script", "_law_at", "_law_bag_here", "_law_rows_here", "_law_words", "_law_many", "_law_others", "_law_turn"]) (sc := defScope s_law) (by decide +kernel)) (fun _ _ _ _ _ => (pg_name (i := 7) sc_law.nd rfl (by first | exact Or.inl rfl | exact Or.inr rfl))) (fun _ _ _ _ _ => pts_nil) (fun _ _ _ _ _ => (pe_f c_l_of hr (by first | decide | omega) (pa_cons (pv 2) (pa_cons (pv 4) pa_nil)))))
          (pss_one (ps_if (PW.pt (pw_or (pt_not (pt_val (pe_f c_l_right hr (by first | decide | omega) (pa_cons (pv 2) (pa_cons (pv 3) pa_nil))))) (pw_or1 (pt_not (pt_val (pe_f c_l_right hr (by first | decide | omega) (pa_cons (pv 2) (pa_cons (pv 6) pa_nil)))))))) (pss_one (ps_ret pe_bl)) pss_nil)))))))
      (pss_one (ps_ret pe_bl))), ?_⟩
    have gc4 : gc 4 = 6217 := rfl
    refine ⟨_, rfl, _, _, rfl, .inl hs, _, _, rfl, _, _, rfl, _, rfl, ?_⟩
    obtain ⟨m, hm⟩ : ∃ m : Int, (if (if (((ns.map V.int).length : Nat) : Int) < 6 then (((ns.map V.int).length : Nat) : Int) else 6) > 1 then (if (((ns.map V.int).length : Nat) : Int) < 6 then (((ns.map V.int).length : Nat) : Int) else 6) else 1) = m := ⟨_, rfl⟩
    have m6 : 0 ≤ m ∧ m ≤ 6 := by
      rw [← hm]
      split <;> split <;> omega
    rw [hm]
    refine ⟨by omega, by omega, ?_⟩
    refine for_range (lo := 0) (n := m.toNat) (fun i σ G => Same H G ∧ ∃ x1 x2 x3 x4 x5 x6 x7, σ = [some (.ref a), x1, x2, x3, x4, x5, x6, x7]) ⟨Same.refl H, _, _, _, _, _, _, _, rfl⟩ (fun i σ G hi h => ?_) (fun σ G h => ?_)
    · obtain ⟨s0, x1, x2, x3, x4, x5, x6, x7, rfl⟩ := h
      rw [show (0 : Int) + (i : Nat) = (i : Nat) from Int.zero_add _]
      have hs0 : SqL K G a (ns.map V.int) := GQ_same hs s0
      refine ⟨_, rfl, _, rfl, a, ns, i, rfl, hs0, hl, by omega, fun p ys np bv => new_at np fun G1 s1 h1 => ?_⟩
      have b1 : BagAt G1 p 0 := ⟨ys, h1, bv⟩
      refine ⟨_, rfl, _, rfl, p, 6, 0, rfl, by decide, by decide, b1, by decide, fun r G2 r0 r1 g2 => ?_⟩
      obtain ⟨k, rfl⟩ := Int.eq_ofNat_of_zero_le r0
      refine ⟨_, _, rfl, rfl, p, 3 + k, 3, 1, ?_, by omega, ⟨by decide, .inl (by show 2 * 0 + (3 + k) ≤ 2 * 4 + 2; omega)⟩, by decide, by decide, g2.bag, by rw [gc4]; decide, fun pr l G3 n3 g3 h3 hl3 => ?_⟩
      · show [V.ref p, V.int ((3 : Int) + (k : Int)), V.int 3] = _
        rw [show (3 : Int) + (k : Int) = ((3 + k : Nat) : Int) by omega] <;> rfl
      have g13 := g2.trans g3
      have prp : pr ≠ p := g2.bag.ne n3
      refine ⟨by show 5 ≤ sizeLine; decide, fun pw nw => new_at nw fun G4 s4 h4 => ⟨_, rfl, p, 20, _, rfl, by decide, by decide, g3.bag.same s4, by rw [gc4]; decide, fun r2 G5 r20 r21 g5 => ⟨_, _, rfl, rfl, by show 2 ≤ sizeLine; decide, fun pt nt => new_at nt fun G6 s6 h6 => ⟨pt, _, rfl, SqT.of h6, rfl, _, _, rfl, _, _, rfl, rfl, ?_⟩⟩⟩⟩
      have g16 : Go p (1 + (7 + gc 4) + 1) G1 G6 := (((g13.same s4).trans g5).same s6)
      have pwp : pw ≠ p := g3.bag.ne nw
      have pwG : G6 pw = some (.lst (sV fiveWords)) := s6 _ _ (g5.keep _ _ pwp h4)
      have prG := s6 _ _ (g5.keep _ _ prp (s4 _ _ h3))
      have bag6 := g16.bag
      clear h6 h4 h3 nt nw n3 s6 s4 g5 g3 g2 h1 b1 bv g13
      refine ⟨_, rfl, _, rfl, by omega, by omega, fun D nD => ?_⟩
      have hneD : ∀ {a : Addr} {o : HO}, G6 a = some o → a ≠ D := fun e => ne_of_none e nD
      have Dp : D ≠ p := bag6.ne nD
      have h5 : (sV fiveWords).length < 1000000 := by show 5 < 1000000; decide
      refine lc_it (walk_range (lo := 0) (n := ((1 : Int) + r2).toNat)) (fun j J => (∀ a o, a ≠ p → a ≠ D → G6 a = some o → J a = some o) ∧ BagAt J p (1 + (7 + gc 4) + 1 + j) ∧ ∃ ws : List Str, J D = some (.lst (sV ws)) ∧ ws.length = j ∧ ∀ w ∈ ws, w ∈ fiveWords)
        ⟨fun a o _ n e => by rw [upd_ne n]; exact e, ?_, [], upd_same, rfl, fun w h => by cases h⟩ (fun _ _ _ _ => trivial) (fun j x J1 J2 hj h y => ?_) (fun J h => ?_)
      · obtain ⟨xs, e, v⟩ := bag6
        exact ⟨xs, by rw [upd_ne Dp.symm]; exact e, v⟩
      · obtain ⟨kp, bg, ws, hD, lw, mw⟩ := h
        obtain ⟨rfl, _⟩ := y
        refine ⟨rfl, _, rfl, _, rfl, p, pw, sV fiveWords, _, rfl, pwp, kp _ _ pwp (hneD pwG) pwG, by simp [fiveWords], h5, bg, by rw [gc4]; omega, fun x2 J3 mx g => ?_⟩
        obtain ⟨z, rfl, hz⟩ := mem_sV mx
        refine ⟨sV ws, g.keep _ _ Dp hD, ?_, fun a o n1 n2 e => by rw [upd_ne n2]; exact g.keep a o n1 (kp a o n1 n2 e), ?_, ws ++ [z], by rw [upd_same, sV_app] <;> rfl, by rw [List.length_append, lw] <;> rfl, fun w hw => ?_⟩
        · rw [List.length_map, lw]
          exact Nat.lt_of_lt_of_le hj (Nat.le_trans (show ((1 : Int) + r2).toNat ≤ 30 by omega) (by decide))
        · obtain ⟨xs, e, v⟩ := g.bag
          exact ⟨xs, by rw [upd_ne Dp.symm]; exact e, v.mono (by omega)⟩
        · rcases List.mem_append.mp hw with c | c
          · exact mw w c
          · rw [List.mem_singleton.mp c]
            exact hz
      · obtain ⟨kp, bg, ws, hD, lw, mw⟩ := h
        have bg : BagAt J p 7000 := bg.mono (by rw [gc4]; omega)
        have prJ := kp _ _ prp (hneD prG) prG
        have up : ∀ a o, G1 a = some o → a ≠ p → J a = some o := fun a o e n => kp a o n (hneD (g16.keep a o n e)) (g16.keep a o n e)
        refine ⟨_, rfl, _, rfl, p, pr, 7000, l, rfl, prJ, bg, by decide, deep_of hl3.2 (by omega) (by omega), by omega, fun J1 g1 => ⟨_, rfl, iteF ?_⟩⟩
        refine ⟨_, rfl, _, rfl, p, D, 7040, ws.map Rw.one, rfl, by rw [texts_one]; exact g1.keep _ _ Dp hD, g1.bag, by decide, five_deep mw (by omega) (by omega), by rw [List.length_map]; omega, fun J2 g2 => ⟨_, rfl, iteF ⟨fun a' o e => ?_, _, _, _, _, _, _, _, rfl⟩⟩⟩
        have n : a' ≠ p := ne_of_none (s0 _ _ e) np
        exact g2.keep _ _ n (g1.keep _ _ n (up _ _ (s1 _ _ (s0 _ _ e)) n))
    · exact q _
end

end Ow
namespace Ow
open PySem PySem.Spec PyProof.Rows L2
def loose0 : List Str := [Str.ofString "_wall", Str.ofString "OwedError", Str.ofString "BadFunction", Str.ofString "TooMany", Str.ofString "NotCut", Str.ofString "BadDoor", Str.ofString "reason_of", Str.ofString "LETTERS", Str.ofString "is_made_of", Str.ofString "is_list_name", Str.ofString "rows_of", Str.ofString "closed_door", Str.ofString "renumbered", Str.ofString "mended", Str.ofString "MOST_ROWS", Str.ofString "MOST_LISTS", Str.ofString "MOST_DEEP", Str.ofString "PLAIN", Str.ofString "WAITING", Str.ofString "OPENING", Str.ofString "MIDDLE", Str.ofString "is_row", Str.ofString "Reader", Str.ofString "Function", Str.ofString "WORDS", Str.ofString "check_word", Str.ofString "Door", Str.ofString "_law_bag", Str.ofString "_law_take", Str.ofString "_law_of", Str.ofString "_law_names", Str.ofString "_law_may_reset", Str.ofString "_law_plain", Str.ofString "_law_second", Str.ofString "_law_loop"]
def loose1 : List Str := [Str.ofString "_law_try", Str.ofString "_law_retry", Str.ofString "_law_piece", Str.ofString "_law_group", Str.ofString "_law_rows", Str.ofString "_law_door", Str.ofString "_law_moved", Str.ofString "_law_ways", Str.ofString "_law_left_out", Str.ofString "_law_right"]
def loose : List Str := loose0 ++ loose1
def d_reason_of : He.DefD := ⟨(("reason_of" : Str), none), ("reason_of" : Str), ("reason_of" : Str), defArgs s_reason_of, defBody s_reason_of, defScope s_reason_of, [], []⟩
def d_is_made_of : He.DefD := ⟨(("is_made_of" : Str), none), ("is_made_of" : Str), ("is_made_of" : Str), defArgs s_is_made_of, defBody s_is_made_of, defScope s_is_made_of, [], []⟩
def d_is_list_name : He.DefD := ⟨(("is_list_name" : Str), none), ("is_list_name" : Str), ("is_list_name" : Str), defArgs s_is_list_name, defBody s_is_list_name, defScope s_is_list_name, [], []⟩
def d_rows_of : He.DefD := ⟨(("rows_of" : Str), none), ("rows_of" : Str), ("rows_of" : Str), defArgs s_rows_of, defBody s_rows_of, defScope s_rows_of, [], []⟩
def d_closed_door : He.DefD := ⟨(("closed_door" : Str), none), ("closed_door" : Str), ("closed_door" : Str), defArgs s_closed_door, defBody s_closed_door, defScope s_closed_door, [], []⟩
def d_renumbered : He.DefD := ⟨(("renumbered" : Str), none), ("renumbered" : Str), ("renumbered" : Str), defArgs s_renumbered, defBody s_renumbered, defScope s_renumbered, [], []⟩
def d_mended : He.DefD := ⟨(("mended" : Str), none), ("mended" : Str), ("mended" : Str), defArgs s_mended, defBody s_mended, defScope s_mended, [], []⟩
def d_is_row : He.DefD := ⟨(("is_row" : Str), none), ("is_row" : Str), ("is_row" : Str), defArgs s_is_row, defBody s_is_row, defScope s_is_row, [], []⟩
def d_Readeru_initu : He.DefD := ⟨(("Reader" : Str), some ("__init__" : Str)), ("__init__" : Str), ("Reader.__init__" : Str), defArgs s_Readeru_initu, defBody s_Readeru_initu, defScope s_Readeru_initu, [], []⟩
def d_Reader_opener_word : He.DefD := ⟨(("Reader" : Str), some ("opener_word" : Str)), ("opener_word" : Str), ("Reader.opener_word" : Str), defArgs s_Reader_opener_word, defBody s_Reader_opener_word, defScope s_Reader_opener_word, [], []⟩
def d_Reader_is_second : He.DefD := ⟨(("Reader" : Str), some ("is_second" : Str)), ("is_second" : Str), ("Reader.is_second" : Str), defArgs s_Reader_is_second, defBody s_Reader_is_second, defScope s_Reader_is_second, [], []⟩
def d_Reader_is_rescue : He.DefD := ⟨(("Reader" : Str), some ("is_rescue" : Str)), ("is_rescue" : Str), ("Reader.is_rescue" : Str), defArgs s_Reader_is_rescue, defBody s_Reader_is_rescue, defScope s_Reader_is_rescue, [], []⟩
def d_Reader_loop_place : He.DefD := ⟨(("Reader" : Str), some ("loop_place" : Str)), ("loop_place" : Str), ("Reader.loop_place" : Str), defArgs s_Reader_loop_place, defBody s_Reader_loop_place, defScope s_Reader_loop_place, [], []⟩
def d_Reader_may_reset : He.DefD := ⟨(("Reader" : Str), some ("may_reset" : Str)), ("may_reset" : Str), ("Reader.may_reset" : Str), defArgs s_Reader_may_reset, defBody s_Reader_may_reset, defScope s_Reader_may_reset, [], []⟩
def d_Reader_may_middle : He.DefD := ⟨(("Reader" : Str), some ("may_middle" : Str)), ("may_middle" : Str), ("Reader.may_middle" : Str), defArgs s_Reader_may_middle, defBody s_Reader_may_middle, defScope s_Reader_may_middle, [], []⟩
def d_Reader_may_open : He.DefD := ⟨(("Reader" : Str), some ("may_open" : Str)), ("may_open" : Str), ("Reader.may_open" : Str), defArgs s_Reader_may_open, defBody s_Reader_may_open, defScope s_Reader_may_open, [], []⟩
def d_Reader_fits : He.DefD := ⟨(("Reader" : Str), some ("fits" : Str)), ("fits" : Str), ("Reader.fits" : Str), defArgs s_Reader_fits, defBody s_Reader_fits, defScope s_Reader_fits, [], []⟩
def d_Reader_take : He.DefD := ⟨(("Reader" : Str), some ("take" : Str)), ("take" : Str), ("Reader.take" : Str), defArgs s_Reader_take, defBody s_Reader_take, defScope s_Reader_take, [], []⟩
def d_Functionu_initu : He.DefD := ⟨(("Function" : Str), some ("__init__" : Str)), ("__init__" : Str), ("Function.__init__" : Str), defArgs s_Functionu_initu, defBody s_Functionu_initu, defScope s_Functionu_initu, [], []⟩
def d_Functionu_lenu : He.DefD := ⟨(("Function" : Str), some ("__len__" : Str)), ("__len__" : Str), ("Function.__len__" : Str), defArgs s_Functionu_lenu, defBody s_Functionu_lenu, defScope s_Functionu_lenu, [], []⟩
def d_Functionu_equ : He.DefD := ⟨(("Function" : Str), some ("__eq__" : Str)), ("__eq__" : Str), ("Function.__eq__" : Str), defArgs s_Functionu_equ, defBody s_Functionu_equ, defScope s_Functionu_equ, [], []⟩
def d_Functionu_stru : He.DefD := ⟨(("Function" : Str), some ("__str__" : Str)), ("__str__" : Str), ("Function.__str__" : Str), defArgs s_Functionu_stru, defBody s_Functionu_stru, defScope s_Functionu_stru, [], []⟩
def d_Function_block : He.DefD := ⟨(("Function" : Str), some ("block" : Str)), ("block" : Str), ("Function.block" : Str), defArgs s_Function_block, defBody s_Function_block, defScope s_Function_block, [], []⟩
def d_Function_is_shielded : He.DefD := ⟨(("Function" : Str), some ("is_shielded" : Str)), ("is_shielded" : Str), ("Function.is_shielded" : Str), defArgs s_Function_is_shielded, defBody s_Function_is_shielded, defScope s_Function_is_shielded, [], []⟩
def d_Function_waits : He.DefD := ⟨(("Function" : Str), some ("waits" : Str)), ("waits" : Str), ("Function.waits" : Str), defArgs s_Function_waits, defBody s_Function_waits, defScope s_Function_waits, [], []⟩
def d_Function_is_step : He.DefD := ⟨(("Function" : Str), some ("is_step" : Str)), ("is_step" : Str), ("Function.is_step" : Str), defArgs s_Function_is_step, defBody s_Function_is_step, defScope s_Function_is_step, [], []⟩
def d_Function_step_rows : He.DefD := ⟨(("Function" : Str), some ("step_rows" : Str)), ("step_rows" : Str), ("Function.step_rows" : Str), defArgs s_Function_step_rows, defBody s_Function_step_rows, defScope s_Function_step_rows, [], []⟩
def d_Function_shielded : He.DefD := ⟨(("Function" : Str), some ("shielded" : Str)), ("shielded" : Str), ("Function.shielded" : Str), defArgs s_Function_shielded, defBody s_Function_shielded, defScope s_Function_shielded, [], []⟩
def d_check_word : He.DefD := ⟨(("check_word" : Str), none), ("check_word" : Str), ("check_word" : Str), defArgs s_check_word, defBody s_check_word, defScope s_check_word, [], []⟩
def d_Dooru_initu : He.DefD := ⟨(("Door" : Str), some ("__init__" : Str)), ("__init__" : Str), ("Door.__init__" : Str), defArgs s_Dooru_initu, defBody s_Dooru_initu, defScope s_Dooru_initu, [], [(("end" : Str), He.Dv.str "keep"), (("fail" : Str), He.Dv.str "keep"), (("cut" : Str), He.Dv.str "keep")]⟩
def d_Dooru_getitemu : He.DefD := ⟨(("Door" : Str), some ("__getitem__" : Str)), ("__getitem__" : Str), ("Door.__getitem__" : Str), defArgs s_Dooru_getitemu, defBody s_Dooru_getitemu, defScope s_Dooru_getitemu, [], []⟩
def d_Dooru_setitemu : He.DefD := ⟨(("Door" : Str), some ("__setitem__" : Str)), ("__setitem__" : Str), ("Door.__setitem__" : Str), defArgs s_Dooru_setitemu, defBody s_Dooru_setitemu, defScope s_Dooru_setitemu, [], []⟩
def d_Dooru_iteru : He.DefD := ⟨(("Door" : Str), some ("__iter__" : Str)), ("__iter__" : Str), ("Door.__iter__" : Str), defArgs s_Dooru_iteru, defBody s_Dooru_iteru, defScope s_Dooru_iteru, [], []⟩
def d_Door_change : He.DefD := ⟨(("Door" : Str), some ("change" : Str)), ("change" : Str), ("Door.change" : Str), defArgs s_Door_change, defBody s_Door_change, defScope s_Door_change, [], []⟩
def d_Door_copy : He.DefD := ⟨(("Door" : Str), some ("copy" : Str)), ("copy" : Str), ("Door.copy" : Str), defArgs s_Door_copy, defBody s_Door_copy, defScope s_Door_copy, [], []⟩
def d_l_bag : He.DefD := ⟨(("_law_bag" : Str), none), ("_law_bag" : Str), ("_law_bag" : Str), defArgs s_l_bag, defBody s_l_bag, defScope s_l_bag, [], []⟩
def d_l_take : He.DefD := ⟨(("_law_take" : Str), none), ("_law_take" : Str), ("_law_take" : Str), defArgs s_l_take, defBody s_l_take, defScope s_l_take, [], []⟩
def d_l_of : He.DefD := ⟨(("_law_of" : Str), none), ("_law_of" : Str), ("_law_of" : Str), defArgs s_l_of, defBody s_l_of, defScope s_l_of, [], []⟩
def d_l_names : He.DefD := ⟨(("_law_names" : Str), none), ("_law_names" : Str), ("_law_names" : Str), defArgs s_l_names, defBody s_l_names, defScope s_l_names, [], []⟩
def d_l_may_reset : He.DefD := ⟨(("_law_may_reset" : Str), none), ("_law_may_reset" : Str), ("_law_may_reset" : Str), defArgs s_l_may_reset, defBody s_l_may_reset, defScope s_l_may_reset, [], []⟩
def d_l_plain : He.DefD := ⟨(("_law_plain" : Str), none), ("_law_plain" : Str), ("_law_plain" : Str), defArgs s_l_plain, defBody s_l_plain, defScope s_l_plain, [], []⟩
def d_l_second : He.DefD := ⟨(("_law_second" : Str), none), ("_law_second" : Str), ("_law_second" : Str), defArgs s_l_second, defBody s_l_second, defScope s_l_second, [], []⟩
def d_l_loop : He.DefD := ⟨(("_law_loop" : Str), none), ("_law_loop" : Str), ("_law_loop" : Str), defArgs s_l_loop, defBody s_l_loop, defScope s_l_loop, [], []⟩
def d_l_try : He.DefD := ⟨(("_law_try" : Str), none), ("_law_try" : Str), ("_law_try" : Str), defArgs s_l_try, defBody s_l_try, defScope s_l_try, [], []⟩
def d_l_retry : He.DefD := ⟨(("_law_retry" : Str), none), ("_law_retry" : Str), ("_law_retry" : Str), defArgs s_l_retry, defBody s_l_retry, defScope s_l_retry, [], []⟩
def d_l_piece : He.DefD := ⟨(("_law_piece" : Str), none), ("_law_piece" : Str), ("_law_piece" : Str), defArgs s_l_piece, defBody s_l_piece, defScope s_l_piece, [], []⟩
def d_l_group : He.DefD := ⟨(("_law_group" : Str), none), ("_law_group" : Str), ("_law_group" : Str), defArgs s_l_group, defBody s_l_group, defScope s_l_group, [], []⟩
def d_l_rows : He.DefD := ⟨(("_law_rows" : Str), none), ("_law_rows" : Str), ("_law_rows" : Str), defArgs s_l_rows, defBody s_l_rows, defScope s_l_rows, [], []⟩
def d_l_door : He.DefD := ⟨(("_law_door" : Str), none), ("_law_door" : Str), ("_law_door" : Str), defArgs s_l_door, defBody s_l_door, defScope s_l_door, [], []⟩
def d_l_moved : He.DefD := ⟨(("_law_moved" : Str), none), ("_law_moved" : Str), ("_law_moved" : Str), defArgs s_l_moved, defBody s_l_moved, defScope s_l_moved, [], []⟩
def d_l_ways : He.DefD := ⟨(("_law_ways" : Str), none), ("_law_ways" : Str), ("_law_ways" : Str), defArgs s_l_ways, defBody s_l_ways, defScope s_l_ways, [], []⟩
def d_l_left_out : He.DefD := ⟨(("_law_left_out" : Str), none), ("_law_left_out" : Str), ("_law_left_out" : Str), defArgs s_l_left_out, defBody s_l_left_out, defScope s_l_left_out, [], []⟩
def d_l_right : He.DefD := ⟨(("_law_right" : Str), none), ("_law_right" : Str), ("_law_right" : Str), defArgs s_l_right, defBody s_l_right, defScope s_l_right, [], []⟩
def d_law : He.DefD := ⟨(("law" : Str), none), ("law" : Str), ("law" : Str), defArgs s_law, defBody s_law, defScope s_law, [], []⟩
def fn : List He.DefD := [d_reason_of, d_is_made_of, d_is_list_name, d_rows_of, d_closed_door, d_renumbered, d_mended, d_is_row, d_Readeru_initu, d_Reader_opener_word, d_Reader_is_second, d_Reader_is_rescue, d_Reader_loop_place, d_Reader_may_reset, d_Reader_may_middle, d_Reader_may_open, d_Reader_fits, d_Reader_take, d_Functionu_initu, d_Functionu_lenu, d_Functionu_equ, d_Functionu_stru, d_Function_block, d_Function_is_shielded, d_Function_waits, d_Function_is_step, d_Function_step_rows, d_Function_shielded, d_check_word, d_Dooru_initu, d_Dooru_getitemu, d_Dooru_setitemu, d_Dooru_iteru, d_Door_change, d_Door_copy, d_l_bag, d_l_take, d_l_of, d_l_names, d_l_may_reset, d_l_plain, d_l_second, d_l_loop, d_l_try, d_l_retry, d_l_piece, d_l_group, d_l_rows, d_l_door, d_l_moved, d_l_ways, d_l_left_out, d_l_right, d_law]
def fa0 : List He.Fa := [.glo ("reason_of" : Str), .glo ("is_made_of" : Str), .glo ("is_list_name" : Str), .glo ("rows_of" : Str), .glo ("closed_door" : Str), .glo ("renumbered" : Str), .glo ("mended" : Str), .glo ("is_row" : Str), .mkr ("Reader" : Str), .meth ("Reader" : Str) ("opener_word" : Str), .meth ("Reader" : Str) ("is_second" : Str), .meth ("Reader" : Str) ("is_rescue" : Str), .meth ("Reader" : Str) ("loop_place" : Str), .meth ("Reader" : Str) ("may_reset" : Str), .meth ("Reader" : Str) ("may_middle" : Str), .meth ("Reader" : Str) ("may_open" : Str), .meth ("Reader" : Str) ("fits" : Str), .meth ("Reader" : Str) ("take" : Str), .mkr ("Function" : Str), .meth ("Function" : Str) ("__len__" : Str), .meth ("Function" : Str) ("__eq__" : Str), .meth ("Function" : Str) ("__str__" : Str), .meth ("Function" : Str) ("block" : Str), .meth ("Function" : Str) ("is_shielded" : Str), .meth ("Function" : Str) ("waits" : Str), .meth ("Function" : Str) ("is_step" : Str), .meth ("Function" : Str) ("step_rows" : Str), .meth ("Function" : Str) ("shielded" : Str), .glo ("check_word" : Str), .mkr ("Door" : Str)]
def fa1 : List He.Fa := [.meth ("Door" : Str) ("__getitem__" : Str), .meth ("Door" : Str) ("__setitem__" : Str), .meth ("Door" : Str) ("__iter__" : Str), .meth ("Door" : Str) ("change" : Str), .meth ("Door" : Str) ("copy" : Str), .glo ("_law_bag" : Str), .glo ("_law_take" : Str), .glo ("_law_of" : Str), .glo ("_law_names" : Str), .glo ("_law_may_reset" : Str), .glo ("_law_plain" : Str), .glo ("_law_second" : Str), .glo ("_law_loop" : Str), .glo ("_law_try" : Str), .glo ("_law_retry" : Str), .glo ("_law_piece" : Str), .glo ("_law_group" : Str), .glo ("_law_rows" : Str), .glo ("_law_door" : Str), .glo ("_law_moved" : Str), .glo ("_law_ways" : Str), .glo ("_law_left_out" : Str), .glo ("_law_right" : Str), .glo ("law" : Str), .glo ("OwedError" : Str), .glo ("BadFunction" : Str), .glo ("TooMany" : Str), .glo ("NotCut" : Str), .glo ("BadDoor" : Str), .glo ("Reader" : Str)]
def fa2 : List He.Fa := [.cls ("Reader" : Str), .noat ("Reader" : Str) ("words" : Str), .noat ("Reader" : Str) ("stack" : Str), .noat ("Reader" : Str) ("openers" : Str), .noat ("Reader" : Str) ("middles" : Str), .noat ("Reader" : Str) ("ends" : Str), .glo ("Function" : Str), .cls ("Function" : Str), .noat ("Function" : Str) ("lists" : Str), .noat ("Function" : Str) ("rows" : Str), .noat ("Function" : Str) ("words" : Str), .noat ("Function" : Str) ("names" : Str), .noat ("Function" : Str) ("tries" : Str), .noat ("Function" : Str) ("openers" : Str), .noat ("Function" : Str) ("middles" : Str), .noat ("Function" : Str) ("ends" : Str), .glo ("Door" : Str), .cls ("Door" : Str), .noat ("Door" : Str) ("end" : Str), .noat ("Door" : Str) ("fail" : Str), .noat ("Door" : Str) ("cut" : Str), .noat ("Door" : Str) ("others" : Str), .str ("LETTERS" : Str) ("abcdefghijklmnopqrstuvwxyz" : Str), .int ("MOST_ROWS" : Str) 24, .int ("MOST_LISTS" : Str) 3, .int ("MOST_DEEP" : Str) 5, .glo ("PLAIN" : Str), .glo ("WAITING" : Str), .glo ("OPENING" : Str), .glo ("MIDDLE" : Str)]
def fa3 : List He.Fa := [.glo ("WORDS" : Str), .free ("TypeError" : Str), .free ("ValueError" : Str), .free ("abs" : Str), .free ("all" : Str), .free ("any" : Str), .free ("classmethod" : Str), .free ("enumerate" : Str), .free ("int" : Str), .free ("isinstance" : Str), .free ("len" : Str), .free ("list" : Str), .free ("max" : Str), .free ("min" : Str), .free ("range" : Str), .free ("sorted" : Str), .free ("str" : Str), .free ("super" : Str), .free ("tuple" : Str), .free ("zip" : Str)]
def fa : List He.Fa := fa0 ++ fa1 ++ fa2 ++ fa3
def ex (K : PySem.W.Frag) : Bool := He.tupB K "PLAIN" [.str "ask", .str "begin", .str "finish", .str "read", .str "head", .str "body", .str "pause", .str "check", .str "drain", .str "close", .str "return"] && (He.tupB K "WAITING" [.str "read", .str "head", .str "body", .str "finish", .str "pause"] && (He.tupB K "OPENING" [.str "each", .str "maybe", .str "try", .str "shield", .str "retry"] && (He.tupB K "MIDDLE" [.str "else", .str "finally", .str "rescue"] && (He.tupB K "WORDS" [.str "keep", .str "close", .str "check", .str "drain", .str "ping"] && (PySem.W.noSeq K (He.ga K "Door"))))))
abbrev hk : PySem.W.Hook := He.hookX 4 fa fn [] [] ex
def ob (s : PySem.W.SharedT) : He.AlX := He.obsX 4 fa fn [] [] ex (HandSHeadRun.getT s)
theorem ob_eq (s : PySem.W.SharedT) : ob s = hk.obs s.abs := He.obsX_eq (HandSHeadRun.getT_eq s)
theorem run (w : World) : HandSHeadRun.RunEq R (PySem.W.view R.prog [52]) hk ob 40000 loose w := by
  intro os
  kernel_rfl
end Ow

namespace Ow
open PySem PySem.Spec PyProof.Rows L2
theorem tx {w : World} {h : Heap} {K : PySem.W.Frag} {mg : Str → Option Value} (X : K.In h) (G : h.Ns mainGlobals mg) (c : He.SaysX fa fn [] [] ex w h K) : Tx K mg := by
  have D : He.SaysD fa fn K := c.t.d
  have M : ex K = true := c.more
  unfold ex at M
  simp only [Bool.and_eq_true] at M
  obtain ⟨m0, ⟨m1, ⟨m2, ⟨m3, ⟨m4, m5⟩⟩⟩⟩⟩ := M
  exact {
    f_reason_of := D.def_ 0 (d := d_reason_of) rfl,
    f_is_made_of := D.def_ 1 (d := d_is_made_of) rfl,
    f_is_list_name := D.def_ 2 (d := d_is_list_name) rfl,
    f_rows_of := D.def_ 3 (d := d_rows_of) rfl,
    f_closed_door := D.def_ 4 (d := d_closed_door) rfl,
    f_renumbered := D.def_ 5 (d := d_renumbered) rfl,
    f_mended := D.def_ 6 (d := d_mended) rfl,
    f_is_row := D.def_ 7 (d := d_is_row) rfl,
    f_Readeru_initu := D.def_ 8 (d := d_Readeru_initu) rfl,
    f_Reader_opener_word := D.def_ 9 (d := d_Reader_opener_word) rfl,
    f_Reader_is_second := D.def_ 10 (d := d_Reader_is_second) rfl,
    f_Reader_is_rescue := D.def_ 11 (d := d_Reader_is_rescue) rfl,
    f_Reader_loop_place := D.def_ 12 (d := d_Reader_loop_place) rfl,
    f_Reader_may_reset := D.def_ 13 (d := d_Reader_may_reset) rfl,
    f_Reader_may_middle := D.def_ 14 (d := d_Reader_may_middle) rfl,
    f_Reader_may_open := D.def_ 15 (d := d_Reader_may_open) rfl,
    f_Reader_fits := D.def_ 16 (d := d_Reader_fits) rfl,
    f_Reader_take := D.def_ 17 (d := d_Reader_take) rfl,
    f_Functionu_initu := D.def_ 18 (d := d_Functionu_initu) rfl,
    f_Functionu_lenu := D.def_ 19 (d := d_Functionu_lenu) rfl,
    f_Functionu_equ := D.def_ 20 (d := d_Functionu_equ) rfl,
    f_Functionu_stru := D.def_ 21 (d := d_Functionu_stru) rfl,
    f_Function_block := D.def_ 22 (d := d_Function_block) rfl,
    f_Function_is_shielded := D.def_ 23 (d := d_Function_is_shielded) rfl,
    f_Function_waits := D.def_ 24 (d := d_Function_waits) rfl,
    f_Function_is_step := D.def_ 25 (d := d_Function_is_step) rfl,
    f_Function_step_rows := D.def_ 26 (d := d_Function_step_rows) rfl,
    f_Function_shielded := D.def_ 27 (d := d_Function_shielded) rfl,
    f_check_word := D.def_ 28 (d := d_check_word) rfl,
    f_Dooru_initu := D.def_ 29 (d := d_Dooru_initu) rfl,
    f_Dooru_getitemu := D.def_ 30 (d := d_Dooru_getitemu) rfl,
    f_Dooru_setitemu := D.def_ 31 (d := d_Dooru_setitemu) rfl,
    f_Dooru_iteru := D.def_ 32 (d := d_Dooru_iteru) rfl,
    f_Door_change := D.def_ 33 (d := d_Door_change) rfl,
    f_Door_copy := D.def_ 34 (d := d_Door_copy) rfl,
    f_l_bag := D.def_ 35 (d := d_l_bag) rfl,
    f_l_take := D.def_ 36 (d := d_l_take) rfl,
    f_l_of := D.def_ 37 (d := d_l_of) rfl,
    f_l_names := D.def_ 38 (d := d_l_names) rfl,
    f_l_may_reset := D.def_ 39 (d := d_l_may_reset) rfl,
    f_l_plain := D.def_ 40 (d := d_l_plain) rfl,
    f_l_second := D.def_ 41 (d := d_l_second) rfl,
    f_l_loop := D.def_ 42 (d := d_l_loop) rfl,
    f_l_try := D.def_ 43 (d := d_l_try) rfl,
    f_l_retry := D.def_ 44 (d := d_l_retry) rfl,
    f_l_piece := D.def_ 45 (d := d_l_piece) rfl,
    f_l_group := D.def_ 46 (d := d_l_group) rfl,
    f_l_rows := D.def_ 47 (d := d_l_rows) rfl,
    f_l_door := D.def_ 48 (d := d_l_door) rfl,
    f_l_moved := D.def_ 49 (d := d_l_moved) rfl,
    f_l_ways := D.def_ 50 (d := d_l_ways) rfl,
    f_l_left_out := D.def_ 51 (d := d_l_left_out) rfl,
    f_l_right := D.def_ 52 (d := d_l_right) rfl,
    f_law := D.def_ 53 (d := d_law) rfl,
    g_reason_of := He.glo_ok X G (D.fact 0 (f := .glo ("reason_of" : Str)) rfl),
    g_is_made_of := He.glo_ok X G (D.fact 1 (f := .glo ("is_made_of" : Str)) rfl),
    g_is_list_name := He.glo_ok X G (D.fact 2 (f := .glo ("is_list_name" : Str)) rfl),
    g_rows_of := He.glo_ok X G (D.fact 3 (f := .glo ("rows_of" : Str)) rfl),
    g_closed_door := He.glo_ok X G (D.fact 4 (f := .glo ("closed_door" : Str)) rfl),
    g_renumbered := He.glo_ok X G (D.fact 5 (f := .glo ("renumbered" : Str)) rfl),
    g_mended := He.glo_ok X G (D.fact 6 (f := .glo ("mended" : Str)) rfl),
    g_is_row := He.glo_ok X G (D.fact 7 (f := .glo ("is_row" : Str)) rfl),
    m_Readeru_initu := He.mkr_ok (D.fact 8 (f := .mkr ("Reader" : Str)) rfl),
    m_Reader_opener_word := He.meth_ok (D.fact 9 (f := .meth ("Reader" : Str) ("opener_word" : Str)) rfl),
    m_Reader_is_second := He.meth_ok (D.fact 10 (f := .meth ("Reader" : Str) ("is_second" : Str)) rfl),
    m_Reader_is_rescue := He.meth_ok (D.fact 11 (f := .meth ("Reader" : Str) ("is_rescue" : Str)) rfl),
    m_Reader_loop_place := He.meth_ok (D.fact 12 (f := .meth ("Reader" : Str) ("loop_place" : Str)) rfl),
    m_Reader_may_reset := He.meth_ok (D.fact 13 (f := .meth ("Reader" : Str) ("may_reset" : Str)) rfl),
    m_Reader_may_middle := He.meth_ok (D.fact 14 (f := .meth ("Reader" : Str) ("may_middle" : Str)) rfl),
    m_Reader_may_open := He.meth_ok (D.fact 15 (f := .meth ("Reader" : Str) ("may_open" : Str)) rfl),
    m_Reader_fits := He.meth_ok (D.fact 16 (f := .meth ("Reader" : Str) ("fits" : Str)) rfl),
    m_Reader_take := He.meth_ok (D.fact 17 (f := .meth ("Reader" : Str) ("take" : Str)) rfl),
    m_Functionu_initu := He.mkr_ok (D.fact 18 (f := .mkr ("Function" : Str)) rfl),
    m_Functionu_lenu := He.meth_ok (D.fact 19 (f := .meth ("Function" : Str) ("__len__" : Str)) rfl),
    m_Functionu_equ := He.meth_ok (D.fact 20 (f := .meth ("Function" : Str) ("__eq__" : Str)) rfl),
    m_Functionu_stru := He.meth_ok (D.fact 21 (f := .meth ("Function" : Str) ("__str__" : Str)) rfl),
    m_Function_block := He.meth_ok (D.fact 22 (f := .meth ("Function" : Str) ("block" : Str)) rfl),
    m_Function_is_shielded := He.meth_ok (D.fact 23 (f := .meth ("Function" : Str) ("is_shielded" : Str)) rfl),
    m_Function_waits := He.meth_ok (D.fact 24 (f := .meth ("Function" : Str) ("waits" : Str)) rfl),
    m_Function_is_step := He.meth_ok (D.fact 25 (f := .meth ("Function" : Str) ("is_step" : Str)) rfl),
    m_Function_step_rows := He.meth_ok (D.fact 26 (f := .meth ("Function" : Str) ("step_rows" : Str)) rfl),
    m_Function_shielded := He.meth_ok (D.fact 27 (f := .meth ("Function" : Str) ("shielded" : Str)) rfl),
    g_check_word := He.glo_ok X G (D.fact 28 (f := .glo ("check_word" : Str)) rfl),
    m_Dooru_initu := He.mkr_ok (D.fact 29 (f := .mkr ("Door" : Str)) rfl),
    m_Dooru_getitemu := He.meth_ok (D.fact 30 (f := .meth ("Door" : Str) ("__getitem__" : Str)) rfl),
    m_Dooru_setitemu := He.meth_ok (D.fact 31 (f := .meth ("Door" : Str) ("__setitem__" : Str)) rfl),
    m_Dooru_iteru := He.meth_ok (D.fact 32 (f := .meth ("Door" : Str) ("__iter__" : Str)) rfl),
    m_Door_change := He.meth_ok (D.fact 33 (f := .meth ("Door" : Str) ("change" : Str)) rfl),
    m_Door_copy := He.meth_ok (D.fact 34 (f := .meth ("Door" : Str) ("copy" : Str)) rfl),
    g_l_bag := He.glo_ok X G (D.fact 35 (f := .glo ("_law_bag" : Str)) rfl),
    g_l_take := He.glo_ok X G (D.fact 36 (f := .glo ("_law_take" : Str)) rfl),
    g_l_of := He.glo_ok X G (D.fact 37 (f := .glo ("_law_of" : Str)) rfl),
    g_l_names := He.glo_ok X G (D.fact 38 (f := .glo ("_law_names" : Str)) rfl),
    g_l_may_reset := He.glo_ok X G (D.fact 39 (f := .glo ("_law_may_reset" : Str)) rfl),
    g_l_plain := He.glo_ok X G (D.fact 40 (f := .glo ("_law_plain" : Str)) rfl),
    g_l_second := He.glo_ok X G (D.fact 41 (f := .glo ("_law_second" : Str)) rfl),
    g_l_loop := He.glo_ok X G (D.fact 42 (f := .glo ("_law_loop" : Str)) rfl),
    g_l_try := He.glo_ok X G (D.fact 43 (f := .glo ("_law_try" : Str)) rfl),
    g_l_retry := He.glo_ok X G (D.fact 44 (f := .glo ("_law_retry" : Str)) rfl),
    g_l_piece := He.glo_ok X G (D.fact 45 (f := .glo ("_law_piece" : Str)) rfl),
    g_l_group := He.glo_ok X G (D.fact 46 (f := .glo ("_law_group" : Str)) rfl),
    g_l_rows := He.glo_ok X G (D.fact 47 (f := .glo ("_law_rows" : Str)) rfl),
    g_l_door := He.glo_ok X G (D.fact 48 (f := .glo ("_law_door" : Str)) rfl),
    g_l_moved := He.glo_ok X G (D.fact 49 (f := .glo ("_law_moved" : Str)) rfl),
    g_l_ways := He.glo_ok X G (D.fact 50 (f := .glo ("_law_ways" : Str)) rfl),
    g_l_left_out := He.glo_ok X G (D.fact 51 (f := .glo ("_law_left_out" : Str)) rfl),
    g_l_right := He.glo_ok X G (D.fact 52 (f := .glo ("_law_right" : Str)) rfl),
    g_law := He.glo_ok X G (D.fact 53 (f := .glo ("law" : Str)) rfl),
    g_OwedError := He.glo_ok X G (D.fact 54 (f := .glo ("OwedError" : Str)) rfl),
    g_BadFunction := He.glo_ok X G (D.fact 55 (f := .glo ("BadFunction" : Str)) rfl),
    g_TooMany := He.glo_ok X G (D.fact 56 (f := .glo ("TooMany" : Str)) rfl),
    g_NotCut := He.glo_ok X G (D.fact 57 (f := .glo ("NotCut" : Str)) rfl),
    g_BadDoor := He.glo_ok X G (D.fact 58 (f := .glo ("BadDoor" : Str)) rfl),
    g_Reader := He.glo_ok X G (D.fact 59 (f := .glo ("Reader" : Str)) rfl),
    c_Reader := He.cls_ok (D.fact 60 (f := .cls ("Reader" : Str)) rfl),
    n_Reader_words := He.noat_ok (D.fact 61 (f := .noat ("Reader" : Str) ("words" : Str)) rfl),
    n_Reader_stack := He.noat_ok (D.fact 62 (f := .noat ("Reader" : Str) ("stack" : Str)) rfl),
    n_Reader_openers := He.noat_ok (D.fact 63 (f := .noat ("Reader" : Str) ("openers" : Str)) rfl),
    n_Reader_middles := He.noat_ok (D.fact 64 (f := .noat ("Reader" : Str) ("middles" : Str)) rfl),
    n_Reader_ends := He.noat_ok (D.fact 65 (f := .noat ("Reader" : Str) ("ends" : Str)) rfl),
    g_Function := He.glo_ok X G (D.fact 66 (f := .glo ("Function" : Str)) rfl),
    c_Function := He.cls_ok (D.fact 67 (f := .cls ("Function" : Str)) rfl),
    n_Function_lists := He.noat_ok (D.fact 68 (f := .noat ("Function" : Str) ("lists" : Str)) rfl),
    n_Function_rows := He.noat_ok (D.fact 69 (f := .noat ("Function" : Str) ("rows" : Str)) rfl),
    n_Function_words := He.noat_ok (D.fact 70 (f := .noat ("Function" : Str) ("words" : Str)) rfl),
    n_Function_names := He.noat_ok (D.fact 71 (f := .noat ("Function" : Str) ("names" : Str)) rfl),
    n_Function_tries := He.noat_ok (D.fact 72 (f := .noat ("Function" : Str) ("tries" : Str)) rfl),
    n_Function_openers := He.noat_ok (D.fact 73 (f := .noat ("Function" : Str) ("openers" : Str)) rfl),
    n_Function_middles := He.noat_ok (D.fact 74 (f := .noat ("Function" : Str) ("middles" : Str)) rfl),
    n_Function_ends := He.noat_ok (D.fact 75 (f := .noat ("Function" : Str) ("ends" : Str)) rfl),
    g_Door := He.glo_ok X G (D.fact 76 (f := .glo ("Door" : Str)) rfl),
    c_Door := He.cls_ok (D.fact 77 (f := .cls ("Door" : Str)) rfl),
    n_Door_end := He.noat_ok (D.fact 78 (f := .noat ("Door" : Str) ("end" : Str)) rfl),
    n_Door_fail := He.noat_ok (D.fact 79 (f := .noat ("Door" : Str) ("fail" : Str)) rfl),
    n_Door_cut := He.noat_ok (D.fact 80 (f := .noat ("Door" : Str) ("cut" : Str)) rfl),
    n_Door_others := He.noat_ok (D.fact 81 (f := .noat ("Door" : Str) ("others" : Str)) rfl),
    k_LETTERS := He.str_ok X G (D.fact 82 (f := .str ("LETTERS" : Str) ("abcdefghijklmnopqrstuvwxyz" : Str)) rfl),
    k_MOST_ROWS := He.int_ok X G (D.fact 83 (f := .int ("MOST_ROWS" : Str) 24) rfl),
    k_MOST_LISTS := He.int_ok X G (D.fact 84 (f := .int ("MOST_LISTS" : Str) 3) rfl),
    k_MOST_DEEP := He.int_ok X G (D.fact 85 (f := .int ("MOST_DEEP" : Str) 5) rfl),
    g_PLAIN := He.glo_ok X G (D.fact 86 (f := .glo ("PLAIN" : Str)) rfl),
    g_WAITING := He.glo_ok X G (D.fact 87 (f := .glo ("WAITING" : Str)) rfl),
    g_OPENING := He.glo_ok X G (D.fact 88 (f := .glo ("OPENING" : Str)) rfl),
    g_MIDDLE := He.glo_ok X G (D.fact 89 (f := .glo ("MIDDLE" : Str)) rfl),
    g_WORDS := He.glo_ok X G (D.fact 90 (f := .glo ("WORDS" : Str)) rfl),
    b_TypeError := He.free_ok X G (D.fact 91 (f := .free ("TypeError" : Str)) rfl),
    b_ValueError := He.free_ok X G (D.fact 92 (f := .free ("ValueError" : Str)) rfl),
    b_abs := He.free_ok X G (D.fact 93 (f := .free ("abs" : Str)) rfl),
    b_all := He.free_ok X G (D.fact 94 (f := .free ("all" : Str)) rfl),
    b_any := He.free_ok X G (D.fact 95 (f := .free ("any" : Str)) rfl),
    b_classmethod := He.free_ok X G (D.fact 96 (f := .free ("classmethod" : Str)) rfl),
    b_enumerate := He.free_ok X G (D.fact 97 (f := .free ("enumerate" : Str)) rfl),
    b_int := He.free_ok X G (D.fact 98 (f := .free ("int" : Str)) rfl),
    b_isinstance := He.free_ok X G (D.fact 99 (f := .free ("isinstance" : Str)) rfl),
    b_len := He.free_ok X G (D.fact 100 (f := .free ("len" : Str)) rfl),
    b_list := He.free_ok X G (D.fact 101 (f := .free ("list" : Str)) rfl),
    b_max := He.free_ok X G (D.fact 102 (f := .free ("max" : Str)) rfl),
    b_min := He.free_ok X G (D.fact 103 (f := .free ("min" : Str)) rfl),
    b_range := He.free_ok X G (D.fact 104 (f := .free ("range" : Str)) rfl),
    b_sorted := He.free_ok X G (D.fact 105 (f := .free ("sorted" : Str)) rfl),
    b_str := He.free_ok X G (D.fact 106 (f := .free ("str" : Str)) rfl),
    b_super := He.free_ok X G (D.fact 107 (f := .free ("super" : Str)) rfl),
    b_tuple := He.free_ok X G (D.fact 108 (f := .free ("tuple" : Str)) rfl),
    b_zip := He.free_ok X G (D.fact 109 (f := .free ("zip" : Str)) rfl),
    t_PLAIN := fun H => He.tupB_ok m0 H,
    t_WAITING := fun H => He.tupB_ok m1 H,
    t_OPENING := fun H => He.tupB_ok m2 H,
    t_MIDDLE := fun H => He.tupB_ok m3 H,
    t_WORDS := fun H => He.tupB_ok m4 H,
    q_Door := m5 }
theorem facts {P : Program} {w : World} {K : PySem.W.Frag} {h : Heap} {mg : Str → Option Value} {f : Addr} (X : K.In h) (G : h.Ns mainGlobals mg) (hfa : mg ("law" : Str) = some (.ref f)) (c : He.SaysX fa fn [] [] ex w h K) :
    ∃ fd : FuncData, (∀ (s : Shared) (v : Value), BindsTo s fd ⟨[v], []⟩ [("_law_script", v)]) ∧ ∀ base : Heap, K.In base → base.Ns mainGlobals mg → FnOk P w K mg base CX0 32 f fd ["_law_script"] (spTop K) := by
  have T := tx X G c
  obtain ⟨fd, F⟩ := T.f_law
  have e := hfa.symm.trans T.g_law
  cases e
  have b := FunD.bindsA (ps := ["_law_script"]) F fun _ _ _ _ _ _ us hl => match us, hl with | [_], _ => rfl
  refine ⟨fd, fun s v => b s [v] rfl, fun base _ _ => F.ok sc_law (fun vs H Q E h => ?_) fun cdv A outer s H vs Q E hr h => ?_⟩
  · obtain ⟨a, ns, rfl, _⟩ := h
    rfl
  · obtain ⟨t, h1, h2⟩ := law_body T cdv A outer s H vs Q E hr h
    exact ⟨t, h1.nox, h2⟩
end Ow
open PySem PySem.W PySem.Calls PyProof.Rows
theorem PySem.Challenge.cw_owedanswers_k82_functions_mended_holds : PySem.Challenge.rw_owedanswers_k82_functions_mended.Holds := by
  w_on; o_law
  refine HandSHeadRun.head_any (r := OpenLaw.row PySem.Challenge.rw_owedanswers_k82_functions_mended) (q := view (OpenLaw.row PySem.Challenge.rw_owedanswers_k82_functions_mended).prog [52]) (H := Ow.hk) (ob := Ow.ob) (M := 40000) (loose := Ow.loose) (d := HandSHeadRun.topDef (OpenLaw.row PySem.Challenge.rw_owedanswers_k82_functions_mended).prog 52) (kwd := []) Ow.ob_eq
    (by kernel_rfl) (fun s => by kernel_rfl) Ow.run (by kernel_rfl) (by kernel_rfl) (by kernel_rfl) (by rfl) (by first | assumption | decide +kernel) (by decide +kernel) ⟨rfl, rfl, rfl, rfl, rfl, by decide +kernel⟩ ?hw ?hc
  case hw => w_witness2
  case hc =>
    refine L2.walk_ofE (l := PySem.Challenge.rw_owedanswers_k82_functions_mended) (n := 63) (k := 32) (x := "_law_script") (CX := L2.CX0) rfl (by decide) (by kernel_rfl) ⟨rfl, by decide, by decide⟩ ?F (fun _ _ _ _ z => z)
    intro w mg fa h Y G hmg0
    obtain ⟨K, KX, c⟩ := Y
    have hmg : mg ("law" : PySem.Str) = some (.ref fa) := by
      have e : (HandSHeadRun.topDef (OpenLaw.row PySem.Challenge.rw_owedanswers_k82_functions_mended).prog 52).name = ("law" : PySem.Str) := by kernel_rfl
      rw [← e]
      exact hmg0
    obtain ⟨fd, hb, hF⟩ := Ow.facts (P := (PySem.Challenge.rw_owedanswers_k82_functions_mended).prog) (w := w) KX G hmg c
    exact ⟨K, fd, Ow.spTop K, KX, hb, fun H a ns hl _ hS => ⟨a, ns, rfl, hS, hl, fun _ => rfl⟩, hF⟩
